import PyProof.Rows.All
import Wide.All
import OpenK.AllK
import Wide.FinOn
import PySem.Challenge.RW_pb0325_01
open PySem PySem.W PyProof.Rows
set_option Elab.async false
set_option linter.all false
set_option linter.unusedVariables false
set_option linter.unusedSectionVars false
set_option linter.unusedSimpArgs false
namespace Mine
set_option maxRecDepth 100000 in
set_option maxHeartbeats 8000000 in
open_top hd for PySem.Challenge.rw_pb0325_01
end Mine
noncomputable section
open PySem PySem.W PySem.Spec PySem.Calls PyProof.Rows
set_option maxRecDepth 100000
set_option maxHeartbeats 8000000
namespace Mine
/-- what a call gives back, over the ledger news that it may turn -/
def Gives (w : World) (f : Addr) (D : Nat) (news : List (Addr × Obj)) (vs : List Value) (Out : Value → List (Addr × Obj) → Prop) : Prop :=
  ∀ (mean : ExcName → Option Value) (mg mb : Str → Option Value) (dp un : Nat) (gd : Option (List Code)) (cn : Str) (cs : Scope) (a : Addr) (ccd : Value) (cl : List (Str × Addr)) (outer : List Env) (A₀ : Around) (base h₀ : Heap) (L : Addr) (m : Str → Option Value) (s : Shared)
    (Q E : Value → Shared → Prop),
    Below A₀ base outer h₀ → Fr h₀ L s.heap m → (hd.heap_39 w.params).In h₀ → News h₀ L s.heap news → Top hd.view_39 (looseW hd.view_39 [Str.ofString "pack", Str.ofString "from_ratio"]) mean mg mb h₀ → cs.kind = .function → dp + D < recursionLimit → un + 8 * D < cLine →
    (∀ r news' h' tk', Fr h₀ L h' m → News h₀ L h' news' → Out r news' → Q r { s with heap := h', toks := tk' }) →
    wpAny (model PySem.Challenge.rw_pb0325_01.row.toRowW.prog w) (ktrTop dp un gd cn cs L a ccd cl outer) (call (.ref f) vs) Q E s
/-- a call that leaves the ledger as it stood -/
def GivesV (w : World) (f : Addr) (D : Nat) (news : List (Addr × Obj)) (vs : List Value) (R : Tok → Value) : Prop :=
  ∀ (mean : ExcName → Option Value) (mg mb : Str → Option Value) (dp un : Nat) (gd : Option (List Code)) (cn : Str) (cs : Scope) (a : Addr) (ccd : Value) (cl : List (Str × Addr)) (outer : List Env) (A₀ : Around) (base h₀ : Heap) (L : Addr) (m : Str → Option Value) (s : Shared)
    (Q E : Value → Shared → Prop),
    Below A₀ base outer h₀ → Fr h₀ L s.heap m → (hd.heap_39 w.params).In h₀ → News h₀ L s.heap news → Top hd.view_39 (looseW hd.view_39 [Str.ofString "pack", Str.ofString "from_ratio"]) mean mg mb h₀ → cs.kind = .function → dp + D < recursionLimit → un + 8 * D < cLine →
    (∀ (t : Tok) (h' : Heap) (tk' : Nat), Fr h₀ L h' m → News h₀ L h' news → Q (R t) { s with heap := h', toks := tk' }) →
    wpAny (model PySem.Challenge.rw_pb0325_01.row.toRowW.prog w) (ktrTop dp un gd cn cs L a ccd cl outer) (call (.ref f) vs) Q E s

section
variable {w : World} {f : Addr} {D : Nat} {news : List (Addr × Obj)} {vs : List Value} {Out : Value → List (Addr × Obj) → Prop} {R : Tok → Value}
    {mean : ExcName → Option Value} {mg mb : Str → Option Value} {dp un : Nat} {gd : Option (List Code)} {cn : Str} {cs : Scope} {a : Addr} {ccd : Value} {cl : List (Str × Addr)} {outer : List Env} {A₀ : Around} {base h₀ : Heap} {L : Addr} {m : Str → Option Value} {s : Shared}
    {Q E : Value → Shared → Prop}
theorem Gives.use (C : Gives w f D news vs Out)
    (B : Below A₀ base outer h₀) (F : Fr h₀ L s.heap m) (X : (hd.heap_39 w.params).In h₀) (N : News h₀ L s.heap news) (T : Top hd.view_39 (looseW hd.view_39 [Str.ofString "pack", Str.ofString "from_ratio"]) mean mg mb h₀) (hk : cs.kind = .function) (hd : dp + D < recursionLimit) (hu : un + 8 * D < cLine)
    (ret : ∀ r news' h' tk', Fr h₀ L h' m → News h₀ L h' news' → Out r news' → Q r { s with heap := h', toks := tk' }) :
    wpAny (model PySem.Challenge.rw_pb0325_01.row.toRowW.prog w) (ktrTop dp un gd cn cs L a ccd cl outer) (call (.ref f) vs) Q E s :=
  C _ _ _ _ _ _ _ _ _ _ _ _ _ _ _ _ _ _ _ _ B F X N T hk hd hu ret
theorem GivesV.use (C : GivesV w f D news vs R)
    (B : Below A₀ base outer h₀) (F : Fr h₀ L s.heap m) (X : (hd.heap_39 w.params).In h₀) (N : News h₀ L s.heap news) (T : Top hd.view_39 (looseW hd.view_39 [Str.ofString "pack", Str.ofString "from_ratio"]) mean mg mb h₀) (hk : cs.kind = .function) (hd : dp + D < recursionLimit) (hu : un + 8 * D < cLine)
    (ret : ∀ (t : Tok) (h' : Heap) (tk' : Nat), Fr h₀ L h' m → News h₀ L h' news → Q (R t) { s with heap := h', toks := tk' }) :
    wpAny (model PySem.Challenge.rw_pb0325_01.row.toRowW.prog w) (ktrTop dp un gd cn cs L a ccd cl outer) (call (.ref f) vs) Q E s :=
  C _ _ _ _ _ _ _ _ _ _ _ _ _ _ _ _ _ _ _ _ B F X N T hk hd hu ret
theorem GivesV.useI {v : Int} (C : GivesV w f D news vs (fun t => .int v t))
    (B : Below A₀ base outer h₀) (F : Fr h₀ L s.heap m) (X : (hd.heap_39 w.params).In h₀) (N : News h₀ L s.heap news) (T : Top hd.view_39 (looseW hd.view_39 [Str.ofString "pack", Str.ofString "from_ratio"]) mean mg mb h₀) (hk : cs.kind = .function) (hd : dp + D < recursionLimit) (hu : un + 8 * D < cLine)
    (ret : ∀ (x : Int) (t : Tok) (h' : Heap) (tk' : Nat), x = v → Fr h₀ L h' m → News h₀ L h' news → Q (.int x t) { s with heap := h', toks := tk' }) :
    wpAny (model PySem.Challenge.rw_pb0325_01.row.toRowW.prog w) (ktrTop dp un gd cn cs L a ccd cl outer) (call (.ref f) vs) Q E s :=
  C _ _ _ _ _ _ _ _ _ _ _ _ _ _ _ _ _ _ _ _ B F X N T hk hd hu fun t h' tk' F' N' => ret v t h' tk' rfl F' N'
/-- a call of f enters its body, over the same ledger -/
theorem enter {R : Result → Shared → Prop} {name qual : Str} {params : Arguments} {body : List Stmt} {scope : Scope} {dV kV doc pm cdv ct oc : Value} {an od : Option Addr} {osl : Array (Option Value)} {args : Args} {binds : List (Str × Value)}
    (B : Below A₀ base outer h₀) (F : Fr h₀ L s.heap m) (X : (hd.heap_39 w.params).In h₀) (N : News h₀ L s.heap news) (T : Top hd.view_39 (looseW hd.view_39 [Str.ofString "pack", Str.ofString "from_ratio"]) mean mg mb h₀) (hk : cs.kind = .function) (hdp : dp + D < recursionLimit)
    (ho : (hd.heap_39 w.params).lookup f = some ⟨oc, od, .func (fnOf name qual params body scope dV kV doc pm an cdv ct), osl⟩) (hc : codeIn (hd.heap_39 w.params) cdv qual = true)
    (hb : BindsTo s (fnOf name qual params body scope dV kV doc pm an cdv ct) args binds) (hl : ∀ y ∈ binds, scope.names.lookup y.1 = some .local)
    (hs : scope.isCoroutine = false ∧ scope.isGenerator = false ∧ scope.kind = .function) (hx : ∀ x ∈ scope.names, x.2 ≠ .cell)
    (walk : ∀ g L' h₁, Fr h₀ L g m → Fr g L' h₁ (fun y => binds.reverse.lookup y) → News g L' h₁ news → Below (ktrTop dp un gd cn cs L a ccd cl outer) base (envX cn cs L a ccd cl :: outer) g → (hd.heap_39 w.params).In g → Top hd.view_39 (looseW hd.view_39 [Str.ofString "pack", Str.ofString "from_ratio"]) mean mg mb g →
      wpAny (model PySem.Challenge.rw_pb0325_01.row.toRowW.prog w) ((ktrTop dp un gd cn cs L a ccd cl outer).deeper (envOf qual scope L' f cdv)) (execs body (envOf qual scope L' f cdv))
        (fun fl s' => LeaveK h₀ L m g R (match fl with | .ret v => v | _ => .none) s')
        (fun e s' => wpAny (model PySem.Challenge.rw_pb0325_01.row.toRowW.prog w) ((ktrTop dp un gd cn cs L a ccd cl outer).deeper (envOf qual scope L' f cdv)) (leaving (envOf qual scope L' f cdv) e) (fun _ s'' => R (.error e) s'') (fun e' s'' => R (.error e') s'') s')
        { s with heap := h₁, toks := s.toks + binds.length }) :
    codeAny (model PySem.Challenge.rw_pb0325_01.row.toRowW.prog w) (ktrTop dp un gd cn cs L a ccd cl outer) (.call (.ref f) args) R s :=
  code_def B F X N T rfl rfl hk ho hc (Nat.lt_of_le_of_lt (Nat.le_add_right dp D) hdp) hb hl walk hs.1 hs.2.1 hs.2.2 hx
theorem retI {h₀ h' : Heap} {L : Addr} {m : Str → Option Value} {news : List (Addr × Obj)} {s : Shared} {Q : Value → Shared → Prop} {t : Tok} {tk' : Nat} {x y : Int} (hret : ∀ (t : Tok) (h' : Heap) (tk' : Nat), Fr h₀ L h' m → News h₀ L h' news → Q (.int x t) { s with heap := h', toks := tk' }) (F : Fr h₀ L h' m) (N : News h₀ L h' news) (e : y = x) : Q (.int y t) { s with heap := h', toks := tk' } := by
  subst e
  exact hret t h' tk' F N
end

theorem max_gen {prog : Program} {w : World} {A : Around} {E : Value → Shared → Prop} {s : Shared} {h₀ : Heap} {L : Addr} {m : Str → Option Value} {news : List (Addr × Obj)} {a b : Int} {t u : Tok} {Q : Value → Shared → Prop} (hh : A.handled = none) (F : Fr h₀ L s.heap m) (N : News h₀ L s.heap news)
    (h : ∀ (x : Int) (tx : Tok) h' tk, x = (if b > a then b else a) → Fr h₀ L h' m → News h₀ L h' news → Q (.int x tx) { s with heap := h', toks := tk }) :
    wpAny (model prog w) A (call (.builtin "max") [.int a t, .int b u]) Q E s :=
  PyProof.Rows.max_two_N hh F N fun h' tk F' N' => h _ _ h' tk rfl F' N'

/-- the form's six fields, as the ledger bears them -/
noncomputable abbrev formD (P : Params) (a b c d e f : Value) (k1 k2 k3 k4 k5 k6 : Tok) : Obj := dictOf [
  ⟨PyData.keyHash P (Str.ofString "exponent_bits"), .str (Str.ofString "exponent_bits") k1, a⟩,
  ⟨PyData.keyHash P (Str.ofString "fraction_bits"), .str (Str.ofString "fraction_bits") k2, b⟩,
  ⟨PyData.keyHash P (Str.ofString "bias"), .str (Str.ofString "bias") k3, c⟩,
  ⟨PyData.keyHash P (Str.ofString "top"), .str (Str.ofString "top") k4, d⟩,
  ⟨PyData.keyHash P (Str.ofString "hidden"), .str (Str.ofString "hidden") k5, e⟩,
  ⟨PyData.keyHash P (Str.ofString "least"), .str (Str.ofString "least") k6, f⟩] 6
def FormIn (P : Params) (news : List (Addr × Obj)) (fm : Addr) (eb fb bi top hid lst : Int) : Prop :=
  ∃ dx t1 t2 t3 t4 t5 t6 k1 k2 k3 k4 k5 k6, (fm, instObj 31 dx) ∈ news ∧ (dx, formD P (.int eb t1) (.int fb t2) (.int bi t3) (.int top t4) (.int hid t5) (.int lst t6) k1 k2 k3 k4 k5 k6) ∈ news

theorem FormIn.cons {P : Params} {news : List (Addr × Obj)} {q : Addr × Obj} {fm : Addr} {eb fb bi top hid lst : Int} (h : FormIn P news fm eb fb bi top hid lst) : FormIn P (q :: news) fm eb fb bi top hid lst := by
  obtain ⟨dx, t1, t2, t3, t4, t5, t6, k1, k2, k3, k4, k5, k6, h1, h2⟩ := h
  exact ⟨dx, t1, t2, t3, t4, t5, t6, k1, k2, k3, k4, k5, k6, .tail _ h1, .tail _ h2⟩
end Mine
end
noncomputable section
open PySem PySem.W PySem.Spec PySem.Calls PyProof.Rows
set_option maxRecDepth 100000
set_option maxHeartbeats 8000000
namespace Mine
local macro_rules | `(tactic| walk_at $s:str) => `(tactic| k_extra $s)
section
local macro_rules | `(tactic| k_mem) => `(tactic| assumption)
theorem join_fields_ok (w : World) (news : List (Addr × Obj)) (fm : Addr) (eb fb bi top hid lst sg ex fr : Int) (t1 t2 t3 : Tok) (hf : FormIn w.params news fm eb fb bi top hid lst) (he0 : 0 ≤ eb) (he : eb ≤ 64) (hh : Builtin.Int.intBits hid ≤ 64) (hs : sg.natAbs < 2 ^ 64) :
    GivesV w 42 1 news [.ref fm, .int sg t1, .int ex t2, .int fr t3] (fun t => .int ((sg * 2 ^ eb.toNat + ex) * hid + fr) t) := by
  w_top off
  have kn : hd.heap_39 = hd.heap_39 ∧ PySem.Challenge.rw_pb0325_01 = PySem.Challenge.rw_pb0325_01 := (by k_fill; exact ⟨rfl, rfl⟩); clear kn
  unfold GivesV
  intro mean mg mb dp un gd cn cs a ccd cl outer A₀ base h₀ L m s Q E B F X N T hk hd hu hret

  obtain ⟨dx, u1, u2, u3, u4, u5, u6, k1, k2, k3, k4, k5, k6, hm1, hm2⟩ := hf
  refine wpAny_call ?_
  k_dflt (refine' enter B F X N T hk hd ?eo ?ec ?eb ?el ?es ?ex ?_; (case eo => k_is); (case ec => k_is); (case eb => first | exact BindsTo.of_eq rfl | exact binds_K (by k_in) rfl (by k_is) rfl rfl rfl); (case ex => decide); (case el => exact locs rfl); (case es => exact ⟨rfl, rfl, rfl⟩); k_whole; intro g' L' h' FG' F' N' B' X' T'; (try dsimp only); (try k_lift B'); (try k_fold))
  k_with_none

  k_steps
  all_goals exact hret _ _ _ (by k_asm) (by k_asm)
theorem infinity_ok (w : World) (news : List (Addr × Obj)) (fm : Addr) (eb fb bi top hid lst sg : Int) (t1 : Tok) (hf : FormIn w.params news fm eb fb bi top hid lst) (he0 : 0 ≤ eb) (he : eb ≤ 64) (hh : Builtin.Int.intBits hid ≤ 64) (hs : sg.natAbs < 2 ^ 64) :
    GivesV w 49 2 news [.ref fm, .int sg t1] (fun t => .int ((sg * 2 ^ eb.toNat + top) * hid + 0) t) := by
  w_top off
  have kn : hd.heap_39 = hd.heap_39 ∧ PySem.Challenge.rw_pb0325_01 = PySem.Challenge.rw_pb0325_01 := (by k_fill; exact ⟨rfl, rfl⟩); clear kn
  unfold GivesV
  intro mean mg mb dp un gd cn cs a ccd cl outer A₀ base h₀ L m s Q E B F X N T hk hd hu hret

  have hf' := hf
  obtain ⟨dx, u1, u2, u3, u4, u5, u6, k1, k2, k3, k4, k5, k6, hm1, hm2⟩ := hf'
  refine wpAny_call ?_
  k_dflt (refine' enter B F X N T hk hd ?eo ?ec ?eb ?el ?es ?ex ?_; (case eo => k_is); (case ec => k_is); (case eb => first | exact BindsTo.of_eq rfl | exact binds_K (by k_in) rfl (by k_is) rfl rfl rfl); (case ex => decide); (case el => exact locs rfl); (case es => exact ⟨rfl, rfl, rfl⟩); k_whole; intro g' L' h' FG' F' N' B' X' T'; (try dsimp only); (try k_lift B'); (try k_fold))
  k_with_none

  k_with "call ref" => (k_dflt (refine' GivesV.use (join_fields_ok _ _ _ _ _ _ _ _ _ _ _ _ _ _ _ ?x1 ?x2 ?x3 ?x4 ?x5) ?k1 ?k2 ?k3 ?k4 ?k5 ?kK ?kd ?ku ?_; (case k1 => k_asm); (case k2 => k_asm); (case k3 => k_asm); (case k4 => k_asm); (case k5 => k_asm); (case kK => first | exact rfl | assumption); (case kd => ktr_room); (case ku => ktr_units); (case x1 => assumption); (case x2 => omega); (case x3 => omega); (case x4 => assumption); (case x5 => omega)); intro t' h' tk' F' N'; (try k_sweep); (try dsimp only); (try k_fold))
  k_steps
  all_goals exact hret _ _ _ (by k_asm) (by k_asm)
theorem signed_zero_ok (w : World) (news : List (Addr × Obj)) (fm : Addr) (eb fb bi top hid lst sg : Int) (t1 : Tok) (hf : FormIn w.params news fm eb fb bi top hid lst) (he0 : 0 ≤ eb) (he : eb ≤ 64) (hh : Builtin.Int.intBits hid ≤ 64) (hs : sg.natAbs < 2 ^ 64) :
    GivesV w 63 2 news [.ref fm, .int sg t1] (fun t => .int ((sg * 2 ^ eb.toNat + 0) * hid + 0) t) := by
  w_top off
  have kn : hd.heap_39 = hd.heap_39 ∧ PySem.Challenge.rw_pb0325_01 = PySem.Challenge.rw_pb0325_01 := (by k_fill; exact ⟨rfl, rfl⟩); clear kn
  unfold GivesV
  intro mean mg mb dp un gd cn cs a ccd cl outer A₀ base h₀ L m s Q E B F X N T hk hd hu hret

  have hf' := hf
  obtain ⟨dx, u1, u2, u3, u4, u5, u6, k1, k2, k3, k4, k5, k6, hm1, hm2⟩ := hf'
  refine wpAny_call ?_
  k_dflt (refine' enter B F X N T hk hd ?eo ?ec ?eb ?el ?es ?ex ?_; (case eo => k_is); (case ec => k_is); (case eb => first | exact BindsTo.of_eq rfl | exact binds_K (by k_in) rfl (by k_is) rfl rfl rfl); (case ex => decide); (case el => exact locs rfl); (case es => exact ⟨rfl, rfl, rfl⟩); k_whole; intro g' L' h' FG' F' N' B' X' T'; (try dsimp only); (try k_lift B'); (try k_fold))
  k_with_none

  k_with "call ref" => (k_dflt (refine' GivesV.use (join_fields_ok _ _ _ _ _ _ _ _ _ _ _ _ _ _ _ ?x1 ?x2 ?x3 ?x4 ?x5) ?k1 ?k2 ?k3 ?k4 ?k5 ?kK ?kd ?ku ?_; (case k1 => k_asm); (case k2 => k_asm); (case k3 => k_asm); (case k4 => k_asm); (case k5 => k_asm); (case kK => first | exact rfl | assumption); (case kd => ktr_room); (case ku => ktr_units); (case x1 => assumption); (case x2 => omega); (case x3 => omega); (case x4 => assumption); (case x5 => omega)); intro t' h' tk' F' N'; (try k_sweep); (try dsimp only); (try k_fold))
  k_steps
  all_goals exact hret _ _ _ (by k_asm) (by k_asm)
noncomputable def blen (m : Int) : Nat := if m ≤ 0 then 0 else m.toNat.log2 + 1

theorem pow2_pos (i : Nat) : (0 : Int) < 2 ^ i := Int.pow_pos (by decide)
theorem pow2_gt (i : Nat) : (i : Int) < 2 ^ i := by
  have h := Nat.lt_two_pow_self (n := i)
  have : ((2 ^ i : Nat) : Int) = 2 ^ i := by simp
  omega

/-- the first loop's word: step is a power of two -/
def BcA (st : Int) : Prop := ∃ i : Nat, st = 2 ^ i
theorem BcA.pos {st : Int} (h : BcA st) : 0 < st := by obtain ⟨i, rfl⟩ := h; exact pow2_pos i
theorem BcA.dbl {st : Int} (h : BcA st) : BcA (st * 2) := by obtain ⟨i, rfl⟩ := h; exact ⟨i + 1, by rw [Int.pow_succ]⟩
theorem fdiv_pow_le {m : Int} (st : Nat) (h : 0 < m.fdiv (2 ^ st)) : (2 : Int) ^ st ≤ m := by
  have hp := pow2_pos st
  rw [Int.fdiv_eq_ediv_of_nonneg _ (Int.le_of_lt hp)] at h
  have h1 := Int.mul_ediv_add_emod m (2 ^ st)
  have h2 := Int.emod_nonneg m (Int.ne_of_gt hp)
  have h3 : 2 ^ st * 1 ≤ 2 ^ st * (m / 2 ^ st) := Int.mul_le_mul_of_nonneg_left (by omega) (Int.le_of_lt hp)
  omega
/-- the second loop's word -/
def BcB (m0 m cnt st : Int) : Prop := ∃ c : Nat, cnt = c ∧ m = m0.fdiv (2 ^ c) ∧ (0 < m0 → 0 < m) ∧ (m0 = 0 → c = 0) ∧ ((st = 0 ∧ m < 2) ∨ (∃ i : Nat, st = 2 ^ i ∧ m < 2 ^ (2 ^ (i + 1))))
theorem BcB.nonneg {m0 m cnt st : Int} (h : BcB m0 m cnt st) : 0 ≤ st := by
  obtain ⟨c, _, _, _, _, h⟩ := h
  rcases h with h | ⟨i, h, _⟩
  · omega
  · have := pow2_pos i; omega
theorem p2nat (i : Nat) : ((2 : Int) ^ i) = ((2 ^ i : Nat) : Int) := by simp
theorem p2toNat (i : Nat) : ((2 : Int) ^ i).toNat = 2 ^ i := by rw [p2nat, Int.toNat_natCast]
theorem p2mono {a b : Nat} (h : a ≤ b) : (2 : Int) ^ a ≤ 2 ^ b := by
  have := Nat.pow_le_pow_right (n := 2) (by decide) h
  rw [p2nat, p2nat]; omega
theorem fdiv_npos {m : Int} {k : Nat} (h : ¬ 0 < m.fdiv (2 ^ k)) : m < 2 ^ k := by
  have hp := pow2_pos k
  rw [Int.fdiv_eq_ediv_of_nonneg _ (Int.le_of_lt hp)] at h
  exact Classical.byContradiction fun hn => h (by
    have := (Int.le_ediv_iff_mul_le (a := 1) (b := m) hp).mpr (by omega)
    omega)
theorem fdiv_lt {m : Int} {a b : Nat} (h : m < 2 ^ (a + b)) : m.fdiv (2 ^ a) < 2 ^ b := by
  have hp := pow2_pos a
  rw [Int.fdiv_eq_ediv_of_nonneg _ (Int.le_of_lt hp)]
  refine Int.ediv_lt_of_lt_mul hp ?_
  rw [Int.mul_comm, ← Int.pow_add]; exact h
theorem half_pow (i : Nat) : ((2 : Int) ^ (i + 1)).fdiv 2 = 2 ^ i := by
  rw [Int.fdiv_eq_ediv_of_nonneg _ (by decide), Int.pow_succ]; omega
theorem BcB.start {m0 st : Int} (h0 : 0 ≤ m0) (h : BcA st) (hs : ¬ 0 < m0.fdiv (2 ^ st.toNat)) : BcB m0 m0 0 st := by
  obtain ⟨i, rfl⟩ := h
  rw [p2toNat] at hs
  refine ⟨0, rfl, ?_, fun h => h, fun _ => rfl, .inr ⟨i, rfl, ?_⟩⟩
  · rw [Int.fdiv_eq_ediv_of_nonneg _ (by decide)]; simp
  · have h1 := fdiv_npos hs
    have h2 : (2 : Int) ^ (2 ^ i) ≤ 2 ^ (2 ^ (i + 1)) := p2mono (Nat.pow_le_pow_right (by decide) (Nat.le_succ i))
    omega
theorem BcB.skip {m0 m cnt st : Int} (h : BcB m0 m cnt st) (hp : 0 < st) (hs : ¬ 0 < m.fdiv (2 ^ st.toNat)) : BcB m0 m cnt (st.fdiv 2) := by
  obtain ⟨c, e1, e2, e3, e4, h⟩ := h
  rcases h with ⟨h, _⟩ | ⟨i, rfl, h⟩
  · omega
  rw [p2toNat] at hs
  have h1 := fdiv_npos hs
  refine ⟨c, e1, e2, e3, e4, ?_⟩
  cases i with
  | zero => exact .inl ⟨by decide, by simpa using h1⟩
  | succ i => exact .inr ⟨i, half_pow i, h1⟩
theorem BcB.take {m0 m cnt st : Int} (h : BcB m0 m cnt st) (hp : 0 < st) (hs : 0 < m.fdiv (2 ^ st.toNat)) : BcB m0 (m.fdiv (2 ^ st.toNat)) (cnt + st) (st.fdiv 2) := by
  obtain ⟨c, e1, e2, e3, e4, h⟩ := h
  rcases h with ⟨h, _⟩ | ⟨i, rfl, h⟩
  · omega
  rw [p2toNat] at hs ⊢
  refine ⟨c + 2 ^ i, ?_, ?_, fun _ => hs, fun hz => ?_, ?_⟩
  · rw [e1, Int.natCast_add, ← p2nat]
  · rw [e2, Int.fdiv_eq_ediv_of_nonneg _ (Int.le_of_lt (pow2_pos c)), Int.fdiv_eq_ediv_of_nonneg _ (Int.le_of_lt (pow2_pos (2 ^ i))), Int.fdiv_eq_ediv_of_nonneg _ (Int.le_of_lt (pow2_pos (c + 2 ^ i))), Int.ediv_ediv_of_nonneg (Int.le_of_lt (pow2_pos c)), ← Int.pow_add]
  · have := e4 hz
    subst this
    rw [e2, hz, Int.zero_fdiv, Int.zero_fdiv] at hs
    omega
  · have h1 : m.fdiv (2 ^ 2 ^ i) < 2 ^ 2 ^ i := fdiv_lt (by rw [← Nat.two_mul, Nat.mul_comm, ← Nat.pow_succ]; exact h)
    cases i with
    | zero => exact .inl ⟨by decide, by simpa using h1⟩
    | succ i => exact .inr ⟨i, half_pow i, h1⟩
theorem BcB.end1 {m0 m cnt st : Int} (h : BcB m0 m cnt st) (h0 : 0 ≤ m0) (hp : ¬ 0 < st) (hm : 0 < m) : cnt + 1 = blen m0 := by
  obtain ⟨c, e1, e2, e3, e4, h⟩ := h
  rcases h with ⟨h, h2⟩ | ⟨i, rfl, h⟩
  · have hq := pow2_pos c
    have e : m0.fdiv (2 ^ c) = 1 := by omega
    rw [Int.fdiv_eq_ediv_of_nonneg _ (Int.le_of_lt hq)] at e
    have h3 : (2 : Int) ^ c ≤ m0 := by
      have := Int.ediv_mul_le m0 (Int.ne_of_gt hq)
      rw [e] at this; omega
    have h4 : m0 < 2 ^ (c + 1) := by
      have := Int.lt_ediv_add_one_mul_self m0 hq
      rw [e] at this; rw [Int.pow_succ]; omega
    have hl : m0.toNat.log2 = c := by
      refine (Nat.log2_eq_iff (by omega)).mpr ⟨?_, ?_⟩
      · rw [p2nat] at h3; omega
      · rw [p2nat] at h4; omega
    unfold blen
    rw [if_neg (by omega), hl]; omega
  · exact absurd (pow2_pos i) hp
theorem BcB.end0 {m0 m cnt st : Int} (h : BcB m0 m cnt st) (h0 : 0 ≤ m0) (hp : ¬ 0 < st) (hm : ¬ 0 < m) : cnt + 0 = blen m0 := by
  obtain ⟨c, e1, e2, e3, e4, h⟩ := h
  have hz : m0 = 0 := by
    refine Classical.byContradiction fun hn => hm (e3 (by omega))
  have := e4 hz
  subst this; subst hz
  rw [e1]; rfl
theorem half_lt {st : Int} (h : 0 < st) : (st.fdiv 2).toNat < st.toNat := by
  rw [Int.fdiv_eq_ediv_of_nonneg _ (by decide)]; omega

theorem meas_up {m st : Int} (hp : 0 < st) (h : 0 < m.fdiv (2 ^ st.toNat)) : (m - st * 2).toNat < (m - st).toNat := by
  have h1 := fdiv_pow_le _ h
  have h2 := pow2_gt st.toNat
  omega

theorem bit_count_ok (w : World) (news : List (Addr × Obj)) (m0 : Int) (t1 : Tok) (h0 : 0 ≤ m0) :
    GivesV w 70 1 news [.int m0 t1] (fun t => .int (blen m0) t) := by
  w_top off
  have kn : hd.heap_39 = hd.heap_39 ∧ PySem.Challenge.rw_pb0325_01 = PySem.Challenge.rw_pb0325_01 := (by k_fill; exact ⟨rfl, rfl⟩); clear kn
  unfold GivesV
  intro mean mg mb dp un gd cn cs a ccd cl outer A₀ base h₀ L m s Q E B F X N T hk hd hu hret

  refine wpAny_call ?_
  k_dflt (refine' enter B F X N T hk hd ?eo ?ec ?eb ?el ?es ?ex ?_; (case eo => k_is); (case ec => k_is); (case eb => first | exact BindsTo.of_eq rfl | exact binds_K (by k_in) rfl (by k_is) rfl rfl rfl); (case ex => decide); (case el => exact locs rfl); (case es => exact ⟨rfl, rfl, rfl⟩); k_whole; intro g' L' h' FG' F' N' B' X' T'; (try dsimp only); (try k_lift B'); (try k_fold))
  k_with_none

  k_with "exec While Compare cons nil" => (first
   | ((with_reducible show wpAny _ _ (exec (Stmt.While (Expr.Compare (Expr.BinOp _ _ _ _) _ _ _) _ _ _) _) _ _ _); rename Fr _ _ _ _ => lF'; rename News _ _ _ _ => lN'; with_unfolding_all refine' ksw_while (σ := Int × Tok) (fun _ => news) (fun c => [(Str.ofString "step", .int c.1 c.2)]) (fun _ => True) [] (fun c => BcA c.1) (fun c => (m0 - c.1).toNat) (1, _) lF' ?kn ?kf ?kk ?kp ?_; (case kn => exact lN'); (case kf => trivial); (case kp => exact ⟨0, rfl⟩); (case kk => kst_all); clear lF' lN'; intro kC kU kH kTk kFacts kInv kFr kNews; obtain ⟨st, ts⟩ := kC; have hA : BcA st := kInv; have hp := hA.pos; clear kInv kFacts; dsimp only at *)
   | (rename Fr _ _ _ _ => lF'; rename News _ _ _ _ => lN'; with_unfolding_all refine' ksw_while (σ := (Int × Tok) × (Int × Tok) × (Int × Tok)) (fun _ => news) (fun c => [(Str.ofString "m", .int c.1.1 c.1.2), (Str.ofString "count", .int c.2.1.1 c.2.1.2), (Str.ofString "step", .int c.2.2.1 c.2.2.2)]) (fun _ => True) [] (fun c => BcB m0 c.1.1 c.2.1.1 c.2.2.1) (fun c => c.2.2.1.toNat) ((_, _), (_, _), (_, _)) lF' ?kn ?kf ?kk ?kp ?_; (case kn => exact lN'); (case kf => trivial); (case kk => kst_all); (case kp => exact BcB.start h0 (by assumption) (by assumption)); clear lF' lN'; intro kC kU kH kTk kFacts kInv kFr kNews; obtain ⟨⟨m, tm⟩, ⟨cnt, tc⟩, ⟨st, ts⟩⟩ := kC; have hB : BcB m0 m cnt st := kInv; have hp := hB.nonneg; clear kInv kFacts; dsimp only at *))
  k_with "KswEnd" => (first
   | exact ksw_end (σ := Int × Tok) (_, _) (by assumption) (by assumption) (by exact fun _ h => h) trivial (by kst_all) (by (intro z hz hc; (try simp at hz); (try simp at hc); first | (simp [kstB, hz]; done) | (simp [kstB, hz, hc]; done))) (BcA.dbl (by assumption)) (meas_up (by assumption) (by assumption))
   | exact ksw_end (σ := (Int × Tok) × (Int × Tok) × (Int × Tok)) ((_, _), (_, _), (_, _)) (by assumption) (by assumption) (by exact fun _ h => h) trivial (by kst_all) (by (intro z hz hc; (try simp at hz); (try simp at hc); first | (simp [kstB, hz]; done) | (simp [kstB, hz, hc]; done))) (BcB.take (by assumption) (by assumption) (by assumption)) (half_lt (by assumption))
   | exact ksw_end (σ := (Int × Tok) × (Int × Tok) × (Int × Tok)) ((_, _), (_, _), (_, _)) (by assumption) (by assumption) (by exact fun _ h => h) trivial (by kst_all) (by (intro z hz hc; (try simp at hz); (try simp at hc); first | (simp [kstB, hz]; done) | (simp [kstB, hz, hc]; done))) (BcB.skip (by assumption) (by assumption) (by assumption)) (half_lt (by assumption)))
  k_steps
  · exact retI hret (by k_asm) (by k_asm) (BcB.end1 (by assumption) h0 (by assumption) (by assumption))
  · exact retI hret (by k_asm) (by k_asm) (BcB.end0 (by assumption) h0 (by assumption) (by assumption))
/-- an int that is not negative and not too long -/
def Sm (a : Int) : Prop := 0 ≤ a ∧ a.toNat.log2 < 4000
theorem Sm.bits {a : Int} (h : Sm a) : Builtin.Int.intBits a ≤ 4000 := by
  unfold Builtin.Int.intBits
  split
  · omega
  · have : a.natAbs = a.toNat := by have := h.1; omega
    rw [this]; have := h.2; omega
theorem Sm.of_le {a b : Int} (h : Sm b) (h0 : 0 ≤ a) (hl : a ≤ b) : Sm a := by
  refine ⟨h0, ?_⟩
  by_cases hz : a.toNat = 0
  · rw [hz]; decide
  · have h2 := h.2
    rw [Nat.log2_lt hz]
    have hb : b.toNat ≠ 0 := by omega
    rw [Nat.log2_lt hb] at h2
    omega
theorem Sm.fdiv {a : Int} (h : Sm a) (k : Nat) : Sm (a.fdiv (2 ^ k)) := by
  have hp := pow2_pos k
  rw [Int.fdiv_eq_ediv_of_nonneg _ (Int.le_of_lt hp)]
  exact h.of_le (Int.ediv_nonneg h.1 (Int.le_of_lt hp)) (Int.ediv_le_self _ h.1)
theorem lshift_sm {prog : Program} {w : World} {A : Around} {E : Value → Shared → Prop} {s : Shared} {a n : Int} {t u : Tok} {Q : Value → Shared → Prop} (ha : Sm a) (hn : 0 ≤ n) (hn2 : n ≤ 4000)
    (h : Q (.int (a * 2 ^ n.toNat) s.toks) { s with toks := s.toks + 1 }) : wpAny (model prog w) A (binaryOp .LShift (.int a t) (.int n u)) Q E s :=
  PyProof.Rows.lshift_int hn (by have := ha.bits; omega) h

noncomputable def rnd (m shift : Int) (rest : Bool) : Int :=
  if m - m.fdiv (2 ^ shift.toNat) * 2 ^ shift.toNat > 1 * 2 ^ (shift - 1).toNat ∨ (m - m.fdiv (2 ^ shift.toNat) * 2 ^ shift.toNat = 1 * 2 ^ (shift - 1).toNat ∧ (rest = true ∨ (m.fdiv (2 ^ shift.toNat)).fmod 2 = 1)) then m.fdiv (2 ^ shift.toNat) + 1 else m.fdiv (2 ^ shift.toNat)

theorem rnd_up1 {m sh : Int} {rest : Bool} (h : 1 * 2 ^ (sh - 1).toNat < m - m.fdiv (2 ^ sh.toNat) * 2 ^ sh.toNat) : m.fdiv (2 ^ sh.toNat) + 1 = rnd m sh rest := by
  unfold rnd; rw [if_pos (.inl h)]
theorem rnd_up2 {m sh : Int} {rest : Bool} (h : m - m.fdiv (2 ^ sh.toNat) * 2 ^ sh.toNat = 1 * 2 ^ (sh - 1).toNat) (hr : rest = true) : m.fdiv (2 ^ sh.toNat) + 1 = rnd m sh rest := by
  unfold rnd; rw [if_pos (.inr ⟨h, .inl hr⟩)]
theorem rnd_up3 {m sh : Int} {rest : Bool} (h : m - m.fdiv (2 ^ sh.toNat) * 2 ^ sh.toNat = 1 * 2 ^ (sh - 1).toNat) (hr : (m.fdiv (2 ^ sh.toNat)).fmod 2 = 1) : m.fdiv (2 ^ sh.toNat) + 1 = rnd m sh rest := by
  unfold rnd; rw [if_pos (.inr ⟨h, .inr hr⟩)]
theorem rnd_dn1 {m sh : Int} {rest : Bool} (h0 : ¬ 1 * 2 ^ (sh - 1).toNat < m - m.fdiv (2 ^ sh.toNat) * 2 ^ sh.toNat) (h : m - m.fdiv (2 ^ sh.toNat) * 2 ^ sh.toNat = 1 * 2 ^ (sh - 1).toNat) (hr : rest = false) (hr2 : (m.fdiv (2 ^ sh.toNat)).fmod 2 ≠ 1) : m.fdiv (2 ^ sh.toNat) = rnd m sh rest := by
  unfold rnd; rw [if_neg]; rintro (q | ⟨_, q | q⟩)
  · exact h0 q
  · rw [hr] at q; cases q
  · exact hr2 q
theorem rnd_dn2 {m sh : Int} {rest : Bool} (h0 : ¬ 1 * 2 ^ (sh - 1).toNat < m - m.fdiv (2 ^ sh.toNat) * 2 ^ sh.toNat) (h : m - m.fdiv (2 ^ sh.toNat) * 2 ^ sh.toNat ≠ 1 * 2 ^ (sh - 1).toNat) : m.fdiv (2 ^ sh.toNat) = rnd m sh rest := by
  unfold rnd; rw [if_neg]; rintro (q | ⟨q, _⟩)
  · exact h0 q
  · exact h q

theorem round_shift_ok (w : World) (news : List (Addr × Obj)) (m0 sh : Int) (rest : Bool) (t1 t2 : Tok) (h0 : Sm m0) (h1 : 1 ≤ sh) (h2 : sh ≤ 4000) :
    GivesV w 77 1 news [.int m0 t1, .int sh t2, .bool rest] (fun t => .int (rnd m0 sh rest) t) := by
  w_top off
  have kn : hd.heap_39 = hd.heap_39 ∧ PySem.Challenge.rw_pb0325_01 = PySem.Challenge.rw_pb0325_01 := (by k_fill; exact ⟨rfl, rfl⟩); clear kn
  unfold GivesV
  intro mean mg mb dp un gd cn cs a ccd cl outer A₀ base h₀ L m s Q E B F X N T hk hd hu hret

  have hsm := h0.fdiv sh.toNat
  refine wpAny_call ?_
  k_dflt (refine' enter B F X N T hk hd ?eo ?ec ?eb ?el ?es ?ex ?_; (case eo => k_is); (case ec => k_is); (case eb => first | exact BindsTo.of_eq rfl | exact binds_K (by k_in) rfl (by k_is) rfl rfl rfl); (case ex => decide); (case el => exact locs rfl); (case es => exact ⟨rfl, rfl, rfl⟩); k_whole; intro g' L' h' FG' F' N' B' X' T'; (try dsimp only); (try k_lift B'); (try k_fold))
  k_with_none

  k_with "binaryOp LShift int int" => (refine lshift_sm (by with_reducible assumption) (by omega) (by omega) ?_)
  k_steps
  all_goals first
    | exact retI hret (by k_asm) (by k_asm) (rnd_up1 (by assumption))
    | exact retI hret (by k_asm) (by k_asm) (rnd_up2 (by assumption) (by assumption))
    | exact retI hret (by k_asm) (by k_asm) (rnd_up3 (by assumption) (by assumption))
    | exact retI hret (by k_asm) (by k_asm) (rnd_dn1 (by assumption) (by assumption) (by assumption) (by assumption))
    | exact retI hret (by k_asm) (by k_asm) (rnd_dn2 (by assumption) (by assumption))
noncomputable def packW (eb top hid lst sg p k : Int) : Int :=
  if k = hid * 2 ^ Int.toNat 1 then (if top ≤ p + 1 - lst + 1 then (sg * 2 ^ eb.toNat + top) * hid + 0 else (sg * 2 ^ eb.toNat + (p + 1 - lst + 1)) * hid + (hid - hid))
  else if k < hid then (sg * 2 ^ eb.toNat + 0) * hid + k
  else if top ≤ p - lst + 1 then (sg * 2 ^ eb.toNat + top) * hid + 0
  else (sg * 2 ^ eb.toNat + (p - lst + 1)) * hid + (k - hid)
section
variable {eb top hid lst sg p k : Int}
theorem pw1 (h1 : k = hid * 2 ^ Int.toNat 1) (h2 : top ≤ p + 1 - lst + 1) : (sg * 2 ^ eb.toNat + top) * hid + 0 = packW eb top hid lst sg p k := by unfold packW; rw [if_pos h1, if_pos h2]
theorem pw2 (h1 : k = hid * 2 ^ Int.toNat 1) (h2 : ¬ top ≤ p + 1 - lst + 1) : (sg * 2 ^ eb.toNat + (p + 1 - lst + 1)) * hid + (hid - hid) = packW eb top hid lst sg p k := by unfold packW; rw [if_pos h1, if_neg h2]
theorem pw3 (h1 : k ≠ hid * 2 ^ Int.toNat 1) (h2 : k < hid) : (sg * 2 ^ eb.toNat + 0) * hid + k = packW eb top hid lst sg p k := by unfold packW; rw [if_neg h1, if_pos h2]
theorem pw4 (h1 : k ≠ hid * 2 ^ Int.toNat 1) (h2 : ¬ k < hid) (h3 : top ≤ p - lst + 1) : (sg * 2 ^ eb.toNat + top) * hid + 0 = packW eb top hid lst sg p k := by unfold packW; rw [if_neg h1, if_neg h2, if_pos h3]
theorem pw5 (h1 : k ≠ hid * 2 ^ Int.toNat 1) (h2 : ¬ k < hid) (h3 : ¬ top ≤ p - lst + 1) : (sg * 2 ^ eb.toNat + (p - lst + 1)) * hid + (k - hid) = packW eb top hid lst sg p k := by unfold packW; rw [if_neg h1, if_neg h2, if_neg h3]
end
noncomputable def plc (fb lst m e : Int) : Int := if lst > e + ↑(blen m) - fb - 1 then lst else e + ↑(blen m) - fb - 1
noncomputable def packV (eb fb top hid lst sg m e : Int) (rest : Bool) : Int := packW eb top hid lst sg (plc fb lst m e) (rnd m (plc fb lst m e - e) rest)

theorem packV_eq {eb fb top hid lst sg m e bl p k : Int} {rest : Bool} (hb : bl = blen m) (hp : p = if lst > e + bl - fb - 1 then lst else e + bl - fb - 1) (hk : k = rnd m (p - e) rest) : packW eb top hid lst sg p k = packV eb fb top hid lst sg m e rest := by
  subst hb; subst hk; subst hp; rfl

theorem pack_ok (w : World) (news : List (Addr × Obj)) (fm : Addr) (eb fb bi top hid lst sg m0 e : Int) (rest : Bool) (t1 t2 t3 : Tok) (hf : FormIn w.params news fm eb fb bi top hid lst) (he0 : 0 ≤ eb) (he : eb ≤ 64) (hh0 : 0 < hid) (hh : hid < 2 ^ 60) (hs : sg.natAbs < 2 ^ 64)
    (hm : Sm m0) (hm0 : 0 < m0) (hb : fb + 2 ≤ (blen m0 : Int)) (hp1 : (blen m0 : Int) ≤ 4000) (hp0 : 0 ≤ fb) (hp2 : lst - e ≤ 2000) :
    GivesV w 85 3 news [.ref fm, .int sg t1, .int m0 t2, .int e t3, .bool rest] (fun t => .int (packV eb fb top hid lst sg m0 e rest) t) := by
  w_top off
  have kn : hd.heap_39 = hd.heap_39 ∧ PySem.Challenge.rw_pb0325_01 = PySem.Challenge.rw_pb0325_01 := (by k_fill; exact ⟨rfl, rfl⟩); clear kn
  unfold GivesV
  intro mean mg mb dp un gd cn cs a ccd cl outer A₀ base h₀ L m s Q E B F X N T hk hd hu hret

  have hf' := hf
  obtain ⟨dx, u1, u2, u3, u4, u5, u6, k1, k2, k3, k4, k5, k6, hm1, hm2⟩ := hf'
  have hbits : Builtin.Int.intBits hid ≤ 64 := intBits_le_64 (by omega) (by omega)
  refine wpAny_call ?_
  k_dflt (refine' enter B F X N T hk hd ?eo ?ec ?eb ?el ?es ?ex ?_; (case eo => k_is); (case ec => k_is); (case eb => first | exact BindsTo.of_eq rfl | exact binds_K (by k_in) rfl (by k_is) rfl rfl rfl); (case ex => decide); (case el => exact locs rfl); (case es => exact ⟨rfl, rfl, rfl⟩); k_whole; intro g' L' h' FG' F' N' B' X' T'; (try dsimp only); (try k_lift B'); (try k_fold))
  k_with_none

  k_with "call builtin:max" => (k_dflt (refine' max_gen ?k1 ?k2 ?k3 ?_; (case k1 => with_unfolding_all rfl); (case k2 => k_asm); (case k3 => k_asm)); intro pl tx h' tk' hpl F' N'; (try k_sweep); (try dsimp only); (try k_fold))
  k_with "call ref" => (first
    | (exfalso; omega)
    | (k_dflt (refine' GivesV.useI (bit_count_ok _ _ _ _ ?x1) ?k1 ?k2 ?k3 ?k4 ?k5 ?kK ?kd ?ku ?_; (case k1 => k_asm); (case k2 => k_asm); (case k3 => k_asm); (case k4 => k_asm); (case k5 => k_asm); (case kK => first | exact rfl | assumption); (case kd => ktr_room); (case ku => ktr_units); (case x1 => exact Int.le_of_lt hm0)); intro bl t' h' tk' hbl F' N'; (try k_sweep); (try dsimp only); (try k_fold))
    | (k_dflt (refine' GivesV.useI (round_shift_ok _ _ _ _ _ _ _ ?x1 ?x2 ?x3) ?k1 ?k2 ?k3 ?k4 ?k5 ?kK ?kd ?ku ?_; (case k1 => k_asm); (case k2 => k_asm); (case k3 => k_asm); (case k4 => k_asm); (case k5 => k_asm); (case kK => first | exact rfl | assumption); (case kd => ktr_room); (case ku => ktr_units); (case x1 => exact hm); (case x2 => omega); (case x3 => omega)); intro kp t' h' tk' hkp F' N'; (try k_sweep); (try dsimp only); (try k_fold))
    | (k_dflt (refine' GivesV.use (join_fields_ok _ _ _ _ _ _ _ _ _ _ _ _ _ _ _ ?x1 ?x2 ?x3 ?x4 ?x5) ?k1 ?k2 ?k3 ?k4 ?k5 ?kK ?kd ?ku ?_; (case k1 => k_asm); (case k2 => k_asm); (case k3 => k_asm); (case k4 => k_asm); (case k5 => k_asm); (case kK => first | exact rfl | assumption); (case kd => ktr_room); (case ku => ktr_units); (case x1 => exact hf); (case x2 => exact he0); (case x3 => exact he); (case x4 => exact hbits); (case x5 => exact hs)); intro t' h' tk' F' N'; (try k_sweep); (try dsimp only); (try k_fold))
    | (k_dflt (refine' GivesV.use (infinity_ok _ _ _ _ _ _ _ _ _ _ _ ?x1 ?x2 ?x3 ?x4 ?x5) ?k1 ?k2 ?k3 ?k4 ?k5 ?kK ?kd ?ku ?_; (case k1 => k_asm); (case k2 => k_asm); (case k3 => k_asm); (case k4 => k_asm); (case k5 => k_asm); (case kK => first | exact rfl | assumption); (case kd => ktr_room); (case ku => ktr_units); (case x1 => exact hf); (case x2 => exact he0); (case x3 => exact he); (case x4 => exact hbits); (case x5 => exact hs)); intro t' h' tk' F' N'; (try k_sweep); (try dsimp only); (try k_fold)))
  k_steps
  all_goals (have hE := packV_eq (eb := eb) (top := top) (hid := hid) (sg := sg) hbl hpl hkp)
  all_goals first
    | exact retI hret (by k_asm) (by k_asm) ((pw1 (by assumption) (by assumption)).trans hE)
    | exact retI hret (by k_asm) (by k_asm) ((pw2 (by assumption) (by assumption)).trans hE)
    | exact retI hret (by k_asm) (by k_asm) ((pw3 (by assumption) (by assumption)).trans hE)
    | exact retI hret (by k_asm) (by k_asm) ((pw4 (by assumption) (by assumption) (by assumption)).trans hE)
    | exact retI hret (by k_asm) (by k_asm) ((pw5 (by assumption) (by assumption) (by assumption)).trans hE)
/-- what the quotient's walk asks of the two sides -/
structure QOk (eb fb bi top hid lst over under : Int) : Prop where
  eb0 : 0 ≤ eb
  eb1 : eb ≤ 64
  fb0 : 0 ≤ fb
  fb1 : fb ≤ 64
  hid0 : 0 < hid
  hid1 : hid < 2 ^ 60
  lst0 : lst ≤ 0
  over0 : 0 < over
  under0 : 0 < under
  bo : (blen over : Int) ≤ 400
  bu : (blen under : Int) ≤ 400

noncomputable def qsh (fb over under : Int) : Int := if 0 > fb + 4 + ↑(blen under) - ↑(blen over) then 0 else fb + 4 + ↑(blen under) - ↑(blen over)
noncomputable def qq (fb over under : Int) : Int := (over * 2 ^ (qsh fb over under).toNat).fdiv under
theorem Sm.of_blen {a : Int} (h0 : 0 ≤ a) {k : Int} (h : (blen a : Int) ≤ k) (hk : k ≤ 4000) : Sm a := by
  refine ⟨h0, ?_⟩
  unfold blen at h
  split at h
  · have : a.toNat = 0 := by omega
    rw [this]; decide
  · omega
theorem blen_hi (a : Int) : a < 2 ^ blen a := by
  unfold blen
  split
  · omega
  · have h := Nat.lt_log2_self (n := a.toNat)
    rw [p2nat]; omega
theorem blen_lo {a : Int} (h : 0 < a) : ∃ k, blen a = k + 1 ∧ 2 ^ k ≤ a := by
  unfold blen
  rw [if_neg (by omega)]
  refine ⟨_, rfl, ?_⟩
  have h := Nat.log2_self_le (n := a.toNat) (by omega)
  rw [p2nat]; omega
theorem p2inv {a b : Nat} (h : (2 : Int) ^ a < 2 ^ b) : a < b := by
  refine Classical.byContradiction fun hn => ?_
  have := p2mono (a := b) (b := a) (by omega)
  omega
theorem blen_ge {a : Int} {k : Nat} (h : 2 ^ k ≤ a) : k + 1 ≤ blen a := p2inv (Int.lt_of_le_of_lt h (blen_hi a))
theorem blen_le {a : Int} {k : Nat} (h : a < 2 ^ k) : blen a ≤ k := by
  by_cases h0 : 0 < a
  · obtain ⟨j, e, h1⟩ := blen_lo h0
    have := p2inv (Int.lt_of_le_of_lt h1 h)
    omega
  · unfold blen; rw [if_pos (by omega)]; omega
theorem Sm.of_lt {a : Int} (h0 : 0 ≤ a) (h : a < 2 ^ 4000) : Sm a := by
  refine ⟨h0, ?_⟩
  by_cases hz : a.toNat = 0
  · rw [hz]; decide
  · rw [Nat.log2_lt hz]
    have h2 := p2nat 4000
    generalize (2 : Nat) ^ 4000 = X at *
    generalize (2 : Int) ^ 4000 = Y at *
    omega
theorem Sm.of_lt' {a : Int} {k : Nat} (h0 : 0 ≤ a) (h : a < 2 ^ k) (hk : k ≤ 4000) : Sm a := Sm.of_lt h0 (Int.lt_of_lt_of_le h (p2mono hk))
theorem Sm.lsh {a sh : Int} (h0 : 0 ≤ a) (h : (blen a : Int) ≤ 400) (hs : sh ≤ 2000) : Sm (a * 2 ^ sh.toNat) := by
  refine Sm.of_lt' (k := blen a + sh.toNat) (Int.mul_nonneg h0 (Int.le_of_lt (pow2_pos _))) ?_ (by omega)
  rw [Int.pow_add]
  exact Int.mul_lt_mul_of_pos_right (blen_hi a) (pow2_pos _)
theorem Sm.quo {a b : Int} (h : Sm a) (hb : 0 < b) : Sm (a.fdiv b) := by
  rw [Int.fdiv_eq_ediv_of_nonneg _ (Int.le_of_lt hb)]
  exact h.of_le (Int.ediv_nonneg h.1 (Int.le_of_lt hb)) (Int.ediv_le_self _ h.1)
theorem Sm.mulOk {a b : Int} (h : Sm a) (hb : Sm b) : IntMulOk a b := IntMulOk.of_bits (Nat.le_trans h.bits (by decide)) (Nat.le_trans hb.bits (by decide))

theorem Sm.noPy {a b : Int} (h : Sm b) : Builtin.divisionGoesByPylong a b = false := by
  refine PyProof.noPylong_of_log2 ?_
  have h1 : b.natAbs = b.toNat := by have := h.1; omega
  rw [h1]; have := h.2; omega
theorem quo_ge {fb over under sh : Int} (h1 : 0 < over) (h2 : 0 < under) (hf : 0 ≤ fb) (hs : fb + 4 + ↑(blen under) - ↑(blen over) ≤ sh) : 2 ^ (fb + 3).toNat ≤ (over * 2 ^ sh.toNat).fdiv under := by
  obtain ⟨j, e, h3⟩ := blen_lo h1
  have h4 := blen_hi under
  rw [Int.fdiv_eq_ediv_of_nonneg _ (Int.le_of_lt h2), Int.le_ediv_iff_mul_le h2]
  have h5 : (2 : Int) ^ (fb + 3).toNat * under ≤ 2 ^ (fb + 3).toNat * 2 ^ blen under := Int.mul_le_mul_of_nonneg_left (Int.le_of_lt h4) (Int.le_of_lt (pow2_pos _))
  have h6 : (2 : Int) ^ j * 2 ^ sh.toNat ≤ over * 2 ^ sh.toNat := Int.mul_le_mul_of_nonneg_right h3 (Int.le_of_lt (pow2_pos _))
  rw [← Int.pow_add] at h5 h6
  have h7 : (2 : Int) ^ ((fb + 3).toNat + blen under) ≤ 2 ^ (j + sh.toNat) := p2mono (by omega)
  omega
theorem quo_big {fb over under sh : Int} (h1 : 0 < over) (h2 : 0 < under) (hf : 0 ≤ fb) (hs : sh = if 0 > fb + 4 + ↑(blen under) - ↑(blen over) then 0 else fb + 4 + ↑(blen under) - ↑(blen over)) : fb + 4 ≤ blen ((over * 2 ^ sh.toNat).fdiv under) := by
  have := blen_ge (quo_ge (sh := sh) h1 h2 hf (by split at hs <;> omega))
  omega
theorem quo_small {fb over under sh : Int} (h1 : 0 < over) (h2 : 0 < under) (hs : Sm ((over * 2 ^ sh.toNat).fdiv under)) : (blen ((over * 2 ^ sh.toNat).fdiv under) : Int) ≤ 4000 := by
  have h := hs.2
  unfold blen; split
  · decide
  · omega
theorem blen_pos {a : Int} (h : 0 < (blen a : Int)) : 0 < a := by
  unfold blen at h; split at h <;> omega

theorem two_k : (2000 : Int) ≤ 4000 := by decide
theorem lst_le {lst sh : Int} (h : lst ≤ 0) (h1 : sh ≤ 2000) : lst - (0 - sh) ≤ 2000 := by omega
theorem from_ratio_ok (w : World) (news : List (Addr × Obj)) (fm : Addr) (eb fb bi top hid lst sg over under : Int) (t1 t2 t3 : Tok) (hf : FormIn w.params news fm eb fb bi top hid lst) (hs : sg.natAbs < 2 ^ 64) (hq : QOk eb fb bi top hid lst over under) :
    GivesV w 93 4 news [.ref fm, .int sg t1, .int over t2, .int under t3] (fun t => .int (packV eb fb top hid lst sg (qq fb over under) (0 - qsh fb over under) (qq fb over under * under != over * 2 ^ (qsh fb over under).toNat)) t) := by
  w_top off
  have kn : hd.heap_39 = hd.heap_39 ∧ PySem.Challenge.rw_pb0325_01 = PySem.Challenge.rw_pb0325_01 := (by k_fill; exact ⟨rfl, rfl⟩); clear kn
  unfold GivesV
  intro mean mg mb dp un gd cn cs a ccd cl outer A₀ base h₀ L m s Q E B F X N T hk hd hu hret

  have hf' := hf
  obtain ⟨dx, u1, u2, u3, u4, u5, u6, k1, k2, k3, k4, k5, k6, hm1, hm2⟩ := hf'
  obtain ⟨eb0, eb1, fb0, fb1, hid0, hid1, lst0, over0, under0, bo, bu⟩ := hq
  refine wpAny_call ?_
  k_dflt (refine' enter B F X N T hk hd ?eo ?ec ?eb ?el ?es ?ex ?_; (case eo => k_is); (case ec => k_is); (case eb => first | exact BindsTo.of_eq rfl | exact binds_K (by k_in) rfl (by k_is) rfl rfl rfl); (case ex => decide); (case el => exact locs rfl); (case es => exact ⟨rfl, rfl, rfl⟩); k_whole; intro g' L' h' FG' F' N' B' X' T'; (try dsimp only); (try k_lift B'); (try k_fold))
  k_with_none

  have hsu : Sm under := Sm.of_blen (Int.le_of_lt under0) bu (by decide)
  have hso : Sm over := Sm.of_blen (Int.le_of_lt over0) bo (by decide)
  k_with "call builtin:max" => (k_dflt (refine' max_gen ?k1 ?k2 ?k3 ?_; (case k1 => with_unfolding_all rfl); (case k2 => k_asm); (case k3 => k_asm)); intro sh tx h' tk' hsh F' N'; have hs0 : 0 ≤ sh := (by rw [hsh]; split <;> omega); have hs1 : sh ≤ 2000 := (by rw [hsh]; split <;> omega); have hsl : Sm (over * 2 ^ sh.toNat) := Sm.lsh (Int.le_of_lt over0) bo hs1; have hsq := hsl.quo under0; subst hbl; rename (_ = ((blen _ : Nat) : Int)) => hbu; subst hbu; have hqb := quo_big over0 under0 fb0 hsh; have hqs := quo_small (fb := fb) over0 under0 hsq; have hqp := blen_pos (Int.lt_of_lt_of_le (Int.lt_of_lt_of_le (by decide) (Int.add_le_add_right fb0 4)) hqb); (try k_sweep); (try dsimp only); (try k_fold))
  k_with "binaryOp LShift int int" => (refine lshift_sm (by with_reducible assumption) hs0 (Int.le_trans hs1 two_k) ?_)
  k_with "binaryOp Mult int int" => (refine PyProof.Rows.mul_int ?_ (Sm.mulOk (by with_reducible assumption) (by with_reducible assumption)))
  k_with "call ref" => (first
    | (exfalso; omega)
    | (k_dflt (refine' GivesV.useI (bit_count_ok _ _ _ _ ?x1) ?k1 ?k2 ?k3 ?k4 ?k5 ?kK ?kd ?ku ?_; (case k1 => k_asm); (case k2 => k_asm); (case k3 => k_asm); (case k4 => k_asm); (case k5 => k_asm); (case kK => first | exact rfl | assumption); (case kd => ktr_room); (case ku => ktr_units); (case x1 => (first | exact Int.le_of_lt under0 | exact Int.le_of_lt over0))); intro bl t' h' tk' hbl F' N'; (try k_sweep); (try dsimp only); (try k_fold))
    | (k_dflt (refine' GivesV.use (pack_ok _ _ _ _ _ _ _ _ _ _ _ _ _ _ _ _ ?x1 ?x2 ?x3 ?x4 ?x5 ?x6 ?x7 ?x8 ?x9 ?x10 ?x11 ?x12) ?k1 ?k2 ?k3 ?k4 ?k5 ?kK ?kd ?ku ?_; (case k1 => k_asm); (case k2 => k_asm); (case k3 => k_asm); (case k4 => k_asm); (case k5 => k_asm); (case kK => first | exact rfl | assumption); (case kd => ktr_room); (case ku => ktr_units); (case x1 => exact hf); (case x2 => exact eb0); (case x3 => exact eb1); (case x4 => exact hid0); (case x5 => exact hid1); (case x6 => exact hs); (case x7 => exact hsq); (case x8 => exact hqp); (case x9 => exact Int.le_trans (Int.add_le_add_left (by decide) fb) hqb); (case x10 => exact hqs); (case x11 => exact fb0); (case x12 => exact lst_le lst0 hs1)); intro t' h' tk' F' N'; (try k_sweep); (try dsimp only); (try k_fold)))
  k_with "binaryOp FloorDiv int int" => (refine PyProof.Rows.floordiv_int (Int.ne_of_gt under0) ?_ (.inl (Sm.noPy (by with_reducible assumption))))
  k_steps
  all_goals (have hE : sh = qsh fb over under := hsh)
  all_goals subst hE
  all_goals exact hret _ _ _ (by k_asm) (by k_asm)
noncomputable def isD (c : Nat) : Bool := decide (48 ≤ c) && decide (c ≤ 57)
noncomputable def dEnd (l : List Nat) (i : Nat) : Nat := i + ((l.drop i).takeWhile isD).length
theorem isD_iff {c : Nat} : isD c = true ↔ 48 ≤ c ∧ c ≤ 57 := by unfold isD; simp
theorem dEnd_step {l : List Nat} {i c : Nat} (h : l[i]? = some c) (hc : isD c = true) : dEnd l (i + 1) = dEnd l i := by
  obtain ⟨hlt, e⟩ := List.getElem?_eq_some_iff.mp h
  unfold dEnd
  rw [List.drop_eq_getElem_cons hlt, e, List.takeWhile_cons, if_pos hc, List.length_cons]; omega
theorem dEnd_stop {l : List Nat} {i c : Nat} (h : l[i]? = some c) (hc : isD c = false) : dEnd l i = i := by
  obtain ⟨hlt, e⟩ := List.getElem?_eq_some_iff.mp h
  unfold dEnd
  rw [List.drop_eq_getElem_cons hlt, e, List.takeWhile_cons, if_neg (by rw [hc]; simp)]; rfl
theorem dEnd_out {l : List Nat} {i : Nat} (h : l.length ≤ i) : dEnd l i = i := by
  unfold dEnd; rw [List.drop_eq_nil_of_le h]; rfl
theorem digits_codes : (Str.ofString "0123456789").cps.toList = [48, 49, 50, 51, 52, 53, 54, 55, 56, 57] := by decide +kernel
theorem isD_small : ∀ c, c < 58 → decide (c ∈ [48, 49, 50, 51, 52, 53, 54, 55, 56, 57]) = isD c := by decide
theorem isD_mem (c : Nat) : decide (c ∈ (Str.ofString "0123456789").cps.toList) = isD c := by
  rw [digits_codes]
  by_cases h : c < 58
  · exact isD_small c h
  · have h1 : isD c = false := by
      unfold isD
      rw [decide_eq_false (p := c ≤ 57) (fun q => h (Nat.lt_succ_of_le q)), Bool.and_false]
    rw [h1]
    exact decide_eq_false fun hm => h ((by decide : ∀ d ∈ [48, 49, 50, 51, 52, 53, 54, 55, 56, 57], d < 58) c hm)
theorem item_code {x : Str} {i : Int} (h0 : 0 ≤ i) (h1 : i < x.length) : ∃ c, x.cps.toList[i.toNat]? = some c ∧ Txt.item x i = ⟨#[c]⟩ := by
  have hl : i.toNat < x.cps.toList.length := by
    have : x.length = x.cps.size := rfl
    simp; omega
  refine ⟨x.cps.toList[i.toNat], List.getElem?_eq_getElem hl, ?_⟩
  have hl' : i.toNat < x.cps.size := by simpa using hl
  rw [item_meets ⟨h0, h1⟩, Array.getD_eq_getD_getElem?, Array.getElem?_eq_getElem hl']
  rfl
theorem in_digits {x : Str} {i : Int} (h0 : 0 ≤ i) (h1 : i < x.length) :
    ∃ c, x.cps.toList[i.toNat]? = some c ∧ (Builtin.Str.occurrences (Str.ofString "0123456789") (Txt.item x i) 0 (Str.ofString "0123456789").length 1).isEmpty = !(isD c) := by
  obtain ⟨c, hc, e⟩ := item_code h0 h1
  refine ⟨c, hc, ?_⟩
  rw [e, ← isD_mem, ← StrLaws.found_one, Bool.not_not]
def DeW (x : Str) (at0 at1 : Int) : Prop := 0 ≤ at1 ∧ at1 ≤ x.length ∧ dEnd x.cps.toList at1.toNat = dEnd x.cps.toList at0.toNat
theorem DeW.next {x : Str} {at0 at1 : Int} (h : DeW x at0 at1) (h1 : at1 < x.length) (hc : (Builtin.Str.occurrences (Str.ofString "0123456789") (Txt.item x at1) 0 (Str.ofString "0123456789").length 1).isEmpty = false) : DeW x at0 (at1 + 1) := by
  obtain ⟨a, b, d⟩ := h
  obtain ⟨c, hcc, e⟩ := in_digits a h1
  rw [e] at hc
  refine ⟨by omega, by omega, ?_⟩
  rw [← d, show (at1 + 1).toNat = at1.toNat + 1 by omega]
  exact dEnd_step hcc (by simpa using hc)
theorem DeW.stop {x : Str} {at0 at1 : Int} (h : DeW x at0 at1) (h1 : at1 < x.length) (hc : (Builtin.Str.occurrences (Str.ofString "0123456789") (Txt.item x at1) 0 (Str.ofString "0123456789").length 1).isEmpty = true) : at1 = (dEnd x.cps.toList at0.toNat : Nat) := by
  obtain ⟨a, b, d⟩ := h
  obtain ⟨c, hcc, e⟩ := in_digits a h1
  rw [e] at hc
  have := dEnd_stop hcc (by simpa using hc)
  omega
theorem DeW.out {x : Str} {at0 at1 : Int} (h : DeW x at0 at1) (h1 : ¬ at1 < x.length) : at1 = (dEnd x.cps.toList at0.toNat : Nat) := by
  obtain ⟨a, b, d⟩ := h
  have hl : x.cps.toList.length = x.length := by simp [PySem.Str.length]
  have := dEnd_out (l := x.cps.toList) (i := at1.toNat) (by omega)
  omega
theorem up_meas {n a : Int} (h : a < n) : (n - (a + 1)).toNat < (n - a).toNat := by omega

theorem digit_end_ok (w : World) (news : List (Addr × Obj)) (x : Str) (at0 : Int) (t1 t2 : Tok) (h0 : 0 ≤ at0) (h1 : at0 ≤ x.length) (hsz : x.length ≤ 1000) :
    GivesV w 100 1 news [.str x t1, .int at0 t2] (fun t => .int (dEnd x.cps.toList at0.toNat : Nat) t) := by
  w_top off
  have kn : hd.heap_39 = hd.heap_39 ∧ PySem.Challenge.rw_pb0325_01 = PySem.Challenge.rw_pb0325_01 := (by k_fill; exact ⟨rfl, rfl⟩); clear kn
  unfold GivesV
  intro mean mg mb dp un gd cn cs a ccd cl outer A₀ base h₀ L m s Q E B F X N T hk hd hu hret

  refine wpAny_call ?_
  k_dflt (refine' enter B F X N T hk hd ?eo ?ec ?eb ?el ?es ?ex ?_; (case eo => k_is); (case ec => k_is); (case eb => first | exact BindsTo.of_eq rfl | exact binds_K (by k_in) rfl (by k_is) rfl rfl rfl); (case ex => decide); (case el => exact locs rfl); (case es => exact ⟨rfl, rfl, rfl⟩); k_whole; intro g' L' h' FG' F' N' B' X' T'; (try dsimp only); (try k_lift B'); (try k_fold))
  k_with_none

  k_with "exec While BoolOp cons nil" => (rename Fr _ _ _ _ => lF'; rename News _ _ _ _ => lN'; with_unfolding_all refine' ksw_while (σ := Int × Tok) (fun _ => news) (fun c => [(Str.ofString "at", .int c.1 c.2)]) (fun _ => True) [] (fun c => DeW x at0 c.1) (fun c => (x.length - c.1).toNat) (at0, _) lF' ?kn ?kf ?kk ?kp ?_; (case kn => exact lN'); (case kf => trivial); (case kp => exact ⟨h0, h1, rfl⟩); (case kk => kst_all); clear lF' lN'; intro kC kU kH kTk kFacts kInv kFr kNews; obtain ⟨at1, ts⟩ := kC; have hW : DeW x at0 at1 := kInv; have hA := hW.1; have hB := hW.2.1; clear kFacts kInv; dsimp only at *)
  k_with "KswEnd" => exact ksw_end (σ := Int × Tok) (_, _) (by assumption) (by assumption) (by exact fun _ h => h) trivial (by kst_all) (by (intro z hz hc; (try simp at hz); (try simp at hc); first | (simp [kstB, hz]; done) | (simp [kstB, hz, hc]; done))) (DeW.next (by assumption) (by assumption) (by assumption)) (up_meas (by assumption))
  k_steps
  all_goals first
    | exact retI hret (by k_asm) (by k_asm) (DeW.out (by assumption) (by assumption))
    | exact retI hret (by k_asm) (by k_asm) (DeW.stop (by assumption) (by assumption) (by assumption))
noncomputable def valD (l : List Nat) : Int := l.foldl (fun (a : Int) (c : Nat) => a * 10 + ((c : Int) - 48)) 0

theorem valD_snoc (l : List Nat) (c : Nat) : valD (l ++ [c]) = valD l * 10 + ((c : Int) - 48) := by unfold valD; rw [List.foldl_append]; rfl
theorem codes_mem {x : Str} {pre post : List Int} {n : Nat} (h : KStt.codes x = pre ++ (n : Int) :: post) : n ∈ x.cps.toList := by
  have h1 : (n : Int) ∈ KStt.codes x := by rw [h]; simp
  unfold KStt.codes at h1
  obtain ⟨c, hc, e⟩ := List.mem_map.mp h1
  have : c = n := by omega
  exact this ▸ hc
theorem codes_map (x : Str) : (KStt.codes x).map Int.toNat = x.cps.toList := by
  unfold KStt.codes; rw [List.map_map]
  exact (List.map_congr_left (g := id) fun c _ => Int.toNat_natCast c).trans (List.map_id _)
theorem find_all : ∀ c, c < 58 → isD c = true → Txt.find (Str.ofString "0123456789") (Str.mk #[c]) = (c : Int) - 48 := by decide +kernel
theorem find_digit {c : Nat} (h : isD c = true) : Txt.find (Str.ofString "0123456789") (Str.mk #[c]) = (c : Int) - 48 :=
  find_all c (Nat.lt_succ_of_le (isD_iff.mp h).2) h
theorem dv_step {x : Str} {pre post : List Int} {n : Nat} {a : Int} (hd0 : ∀ c ∈ x.cps.toList, isD c = true) (h : KStt.codes x = pre ++ (n : Int) :: post) (hi : a = valD (pre.map Int.toNat)) :
    a * 10 + Txt.find (Str.ofString "0123456789") (Str.mk #[n]) = valD ((pre ++ [(n : Int)]).map Int.toNat) := by
  rw [find_digit (hd0 n (codes_mem h)), hi, List.map_append, List.map_cons, List.map_nil, valD_snoc, Int.toNat_natCast]
theorem dv_absurd {x : Str} {pre post : List Int} {n : Nat} (hd0 : ∀ c ∈ x.cps.toList, isD c = true) (h : KStt.codes x = pre ++ (n : Int) :: post) (hf : Txt.find (Str.ofString "0123456789") (Str.mk #[n]) = -1) : False := by
  have h1 := hd0 n (codes_mem h)
  rw [find_digit h1] at hf
  have := (isD_iff.mp h1).1
  omega

theorem digits_value_ok (w : World) (news : List (Addr × Obj)) (x : Str) (t1 : Tok) (hd0 : ∀ c ∈ x.cps.toList, isD c = true) (hsz : x.length ≤ 5000) :
    GivesV w 107 1 news [.str x t1] (fun t => .int (valD x.cps.toList) t) := by
  w_top off
  have kn : hd.heap_39 = hd.heap_39 ∧ PySem.Challenge.rw_pb0325_01 = PySem.Challenge.rw_pb0325_01 := (by k_fill; exact ⟨rfl, rfl⟩); clear kn
  unfold GivesV
  intro mean mg mb dp un gd cn cs a ccd cl outer A₀ base h₀ L m s Q E B F X N T hk hd hu hret

  refine wpAny_call ?_
  k_dflt (refine' enter B F X N T hk hd ?eo ?ec ?eb ?el ?es ?ex ?_; (case eo => k_is); (case ec => k_is); (case eb => first | exact BindsTo.of_eq rfl | exact binds_K (by k_in) rfl (by k_is) rfl rfl rfl); (case ex => decide); (case el => exact locs rfl); (case es => exact ⟨rfl, rfl, rfl⟩); k_whole; intro g' L' h' FG' F' N' B' X' T'; (try dsimp only); (try k_lift B'); (try k_fold))
  k_with_none

  k_with "pyIter str" => k_state (fun (pre : List Int) (found : Int) => found = valD (pre.map Int.toNat)) "found"
  k_with "state" => exact dv_step hd0 (by assumption) (by assumption)
  k_steps
  · exact (dv_absurd hd0 (by assumption) (by assumption)).elim
  · exact retI hret (by k_asm) (by k_asm) (by rw [← codes_map]; assumption)
theorem ten_le {m n : Nat} (h : m ≤ n) : (10 : Int) ^ m ≤ 10 ^ n := by
  have h1 := Nat.pow_le_pow_right (n := 10) (by decide) h
  exact_mod_cast h1
theorem len_list (x : Str) : x.cps.toList.length = x.length := by simp [PySem.Str.length]
theorem clip_hi (l : Option Int) {j : Int} {n : Nat} (h : (n : Int) ≤ j) : Builtin.Str.strSliceIndices l (some j) 1 n = Builtin.Str.strSliceIndices l (some (n : Int)) 1 n := by
  unfold Builtin.Str.strSliceIndices
  have h1 : ¬ j < 0 := by omega
  have h2 : ¬ (n : Int) < 0 := by omega
  have h3 : max 0 (min j (n : Int)) = n := by omega
  have h4 : max 0 (min (n : Int) (n : Int)) = n := by omega
  simp only [if_neg h1, if_neg h2, show ((1 : Int) > 0) = True from by simp, if_true, h3, h4]
theorem slice_ij {x : Str} {i j : Int} (h0 : 0 ≤ i) (h1 : i ≤ j) (h2 : i ≤ x.length) : Txt.slice x (some i) (some j) = ⟨((x.cps.toList.drop i.toNat).take (j - i).toNat).toArray⟩ := by
  by_cases h : j ≤ x.length
  · exact eq_of_beq (slice_closesL h0 h1 h)
  · have e : Txt.slice x (some i) (some j) = Txt.slice x (some i) (some (x.length : Int)) := by
      unfold Txt.slice
      rw [clip_hi (some i) (by omega : ((x.length : Nat) : Int) ≤ j)]
    rw [e, eq_of_beq (slice_closesL h0 h2 (Int.le_refl _))]
    have hl : (x.cps.toList.drop i.toNat).length = x.length - i.toNat := by rw [List.length_drop, len_list]
    rw [List.take_of_length_le (by omega), List.take_of_length_le (by omega)]
theorem slice_to {x : Str} {j : Int} (h0 : 0 ≤ j) : Txt.slice x none (some j) = ⟨(x.cps.toList.take j.toNat).toArray⟩ := by
  by_cases h : j ≤ x.length
  · have := eq_of_beq (slice_closes_toL h0 h)
    rw [this]; simp
  · have e : Txt.slice x none (some j) = Txt.slice x none (some (x.length : Int)) := by
      unfold Txt.slice
      rw [clip_hi none (by omega : ((x.length : Nat) : Int) ≤ j)]
    rw [e]
    have := eq_of_beq (slice_closes_toL (x := x) (j := x.length) (by omega) (Int.le_refl _))
    rw [this]
    have hl := len_list x
    simp only [Int.toNat_zero, List.drop_zero]
    rw [List.take_of_length_le (by omega), List.take_of_length_le (by omega)]
theorem slice_frm {x : Str} {i : Int} (h0 : 0 ≤ i) (h2 : i ≤ x.length) : Txt.slice x (some i) none = ⟨(x.cps.toList.drop i.toNat).toArray⟩ := by
  have := eq_of_beq (slice_closes_fromL h0 h2 rfl)
  rw [this]
  have hl : (x.cps.toList.drop i.toNat).length = x.length - i.toNat := by rw [List.length_drop, len_list]
  rw [List.take_of_length_le (by omega)]
theorem str_mk_inj {a b : Array Nat} (h : (⟨a⟩ : Str) = ⟨b⟩) : a = b := congrArg Str.cps h
theorem one_beq {c d : Nat} {y : Str} (hy : y = ⟨#[d]⟩) : ((⟨#[c]⟩ : Str) == y) = decide (c = d) := by
  subst hy
  by_cases h : c = d
  · subst h; simp
  · rw [decide_eq_false h, beq_eq_false_iff_ne]
    intro e
    have := str_mk_inj e
    simp at this
    exact h this
theorem item_cons {x : Str} {i : Nat} {c : Nat} (h : x.cps.toList[i]? = some c) : Txt.item x (i : Int) = ⟨#[c]⟩ := by
  obtain ⟨hlt, e⟩ := List.getElem?_eq_some_iff.mp h
  have hl := len_list x
  obtain ⟨c', hc, e'⟩ := item_code (x := x) (i := i) (by omega) (by omega)
  rw [Int.toNat_natCast, h] at hc
  rw [e', Option.some.inj hc]
theorem eq_known {prog : Program} {w : World} {A : Around} {E : Value → Shared → Prop} {s : Shared} {x y : Str} {t u : Tok} {Q : Value → Shared → Prop} {b : Bool} (hb : (x == y) = b) (h : Q (.bool b) s) : wpAny (model prog w) A (compareOp .Eq (.str x t) (.str y u)) Q E s :=
  PyProof.Rows.eq_str (by rw [hb]; exact h)
section
variable {prog : Program} {w : World} {A : Around} {E : Value → Shared → Prop} {s : Shared} {a b : Int} {t u : Tok} {Q : Value → Shared → Prop}
theorem eqi_no (hn : a ≠ b) (h : Q (.bool false) s) : wpAny (model prog w) A (compareOp .Eq (.int a t) (.int b u)) Q E s := PyProof.Rows.eq_int (by rw [show (a == b) = false from beq_eq_false_iff_ne.mpr hn]; exact h)
theorem eqi_yes (hn : a = b) (h : Q (.bool true) s) : wpAny (model prog w) A (compareOp .Eq (.int a t) (.int b u)) Q E s := PyProof.Rows.eq_int (by rw [show (a == b) = true from beq_iff_eq.mpr hn]; exact h)
theorem nei_yes (hn : a ≠ b) (h : Q (.bool true) s) : wpAny (model prog w) A (compareOp .NotEq (.int a t) (.int b u)) Q E s := PyProof.Rows.ne_int (by rw [show (a != b) = true from bne_iff_ne.mpr hn]; exact h)
theorem nei_no (hn : a = b) (h : Q (.bool false) s) : wpAny (model prog w) A (compareOp .NotEq (.int a t) (.int b u)) Q E s := PyProof.Rows.ne_int (by rw [show (a != b) = false from (by rw [hn]; simp)]; exact h)
end
theorem valD_cons0 (l : List Nat) : valD (48 :: l) = valD l := by
  unfold valD; rw [List.foldl_cons]; rfl
theorem valD_ge (l : List Nat) (hd : ∀ c ∈ l, isD c = true) : ∀ a : Int, 0 ≤ a → a * 10 ^ l.length ≤ l.foldl (fun (a : Int) (c : Nat) => a * 10 + ((c : Int) - 48)) a := by
  induction l with
  | nil => intro a _; simp
  | cons c r ih =>
    intro a ha
    have hc := isD_iff.mp (hd c (List.mem_cons_self ..))
    rw [List.foldl_cons, List.length_cons, Int.pow_succ]
    have h1 := ih (fun c hc => hd c (List.mem_cons_of_mem _ hc)) (a * 10 + ((c : Int) - 48)) (by omega)
    have h2 : a * 10 * 10 ^ r.length ≤ (a * 10 + ((c : Int) - 48)) * 10 ^ r.length := Int.mul_le_mul_of_nonneg_right (by omega) (Int.pow_nonneg (by decide))
    have h3 : a * (10 ^ r.length * 10) = a * 10 * 10 ^ r.length := by rw [Int.mul_assoc, Int.mul_comm (10 ^ r.length) 10]
    omega
theorem valD_nonneg {l : List Nat} (hd : ∀ c ∈ l, isD c = true) : 0 ≤ valD l := by
  have := valD_ge l hd 0 (Int.le_refl _)
  unfold valD; omega
theorem valD_head {c : Nat} {l : List Nat} (hd : ∀ c ∈ l, isD c = true) (h : 49 ≤ c) : 10 ^ l.length ≤ valD (c :: l) := by
  have h1 := valD_ge l hd ((c : Int) - 48) (by omega)
  have h2 : 1 * 10 ^ l.length ≤ ((c : Int) - 48) * 10 ^ l.length := Int.mul_le_mul_of_nonneg_right (by omega) (Int.pow_nonneg (by decide))
  unfold valD
  rw [List.foldl_cons, show (0 : Int) * 10 + ((c : Int) - 48) = (c : Int) - 48 by omega]
  omega
theorem takeWhile_all {p : Nat → Bool} : ∀ {l : List Nat}, (∀ c ∈ l, p c = true) → l.takeWhile p = l
  | [], _ => rfl
  | c :: r, h => by
    rw [List.takeWhile_cons, if_pos (h c (List.mem_cons_self ..)), takeWhile_all fun d hd => h d (List.mem_cons_of_mem _ hd)]
theorem dEnd_all {l : List Nat} {i : Nat} (hi : i ≤ l.length) (hd : ∀ c ∈ l.drop i, isD c = true) : dEnd l i = l.length := by
  unfold dEnd
  rw [takeWhile_all hd, List.length_drop]; omega
/-- the exponent text's word: from at on, digits of value V -/
def ReW (x : Str) (V at1 : Int) : Prop := 0 ≤ at1 ∧ at1 + 1 ≤ x.length ∧ (∀ c ∈ x.cps.toList.drop at1.toNat, isD c = true) ∧ valD (x.cps.toList.drop at1.toNat) = V
theorem ReW.split {x : Str} {V at1 : Int} (h : ReW x V at1) : ∃ c r, x.cps.toList.drop at1.toNat = c :: r ∧ Txt.item x at1 = ⟨#[c]⟩ ∧ isD c = true ∧ (∀ d ∈ r, isD d = true) ∧ valD (c :: r) = V ∧ x.cps.toList.drop (at1 + 1).toNat = r ∧ (r.length : Int) + at1 + 1 = x.length := by
  obtain ⟨h0, h1, h2, h3⟩ := h
  have hl := len_list x
  have hlt : at1.toNat < x.cps.toList.length := by omega
  have e := List.drop_eq_getElem_cons hlt
  rw [e] at h2 h3
  refine ⟨_, _, e, ?_, h2 _ (List.mem_cons_self ..), fun d hd => h2 d (List.mem_cons_of_mem _ hd), h3, by rw [show (at1 + 1).toNat = at1.toNat + 1 by omega], ?_⟩
  · have := item_cons (x := x) (i := at1.toNat) (List.getElem?_eq_getElem hlt)
    rwa [Int.toNat_of_nonneg h0] at this
  · rw [List.length_drop]; omega
theorem ReW.next {x : Str} {V at1 : Int} (h : ReW x V at1) (h1 : at1 < x.length - 1) (hz : (Txt.item x at1 == Str.ofString "0") = true) : ReW x V (at1 + 1) := by
  obtain ⟨c, r, e1, e2, e3, e4, e5, e6, e7⟩ := h.split
  rw [e2, one_beq (d := 48) (by decide +kernel)] at hz
  have hc : c = 48 := of_decide_eq_true hz
  subst hc
  rw [valD_cons0] at e5
  have := h.1
  exact ⟨by omega, by omega, by rw [e6]; exact e4, by rw [e6]; exact e5⟩
theorem ReW.short {x : Str} {V at1 : Int} (h : ReW x V at1) (hV : V ≤ 4000) (h1 : ¬ at1 < x.length - 1 ∨ (Txt.item x at1 == Str.ofString "0") = false) : (x.length : Int) - at1 ≤ 6 := by
  have hh := h
  obtain ⟨h0, h2, _, _⟩ := hh
  rcases h1 with h1 | hz
  · omega
  · obtain ⟨c, r, e1, e2, e3, e4, e5, e6, e7⟩ := h.split
    rw [e2, one_beq (d := 48) (by decide +kernel)] at hz
    have hc : c ≠ 48 := of_decide_eq_false hz
    have h3 := isD_iff.mp e3
    have h4 := valD_head e4 (by omega : 49 ≤ c)
    rw [e5] at h4
    have h5 : r.length ≤ 3 := by
      refine Classical.byContradiction fun hn => ?_
      have h6 : (10 : Int) ^ 4 ≤ 10 ^ r.length := ten_le (by omega)
      have h7 : (10 : Int) ^ 4 = 10000 := by decide
      omega
    omega
theorem ReW.cut {x : Str} {V at1 : Int} (h : ReW x V at1) (hs : (x.length : Int) - at1 ≤ 6) : (Txt.slice x (some at1) (some (at1 + 6))).cps.toList = x.cps.toList.drop at1.toNat := by
  obtain ⟨h0, h2, _, _⟩ := h
  rw [slice_ij h0 (by omega) (by omega)]
  have hl := len_list x
  show (List.take _ _) = _
  rw [List.take_of_length_le]
  rw [List.length_drop]; omega
theorem ReW.digs {x : Str} {V at1 : Int} (h : ReW x V at1) (hs : (x.length : Int) - at1 ≤ 6) : ∀ c ∈ (Txt.slice x (some at1) (some (at1 + 6))).cps.toList, isD c = true := by
  rw [h.cut hs]; exact h.2.2.1
theorem ReW.val {x : Str} {V at1 : Int} (h : ReW x V at1) (hs : (x.length : Int) - at1 ≤ 6) : valD (Txt.slice x (some at1) (some (at1 + 6))).cps.toList = V := by
  rw [h.cut hs]; exact h.2.2.2
theorem ReW.full {x : Str} {V at1 : Int} (h : ReW x V at1) : (dEnd x.cps.toList at1.toNat : Int) = x.length := by
  obtain ⟨h0, h2, h3, _⟩ := h
  have hl := len_list x
  rw [dEnd_all (by omega) h3]; omega
/-- ways through a statement that meet again: the names in ps and what holds of them -/
def JnEnd {σ : Type} (h₀ : Heap) (L : Addr) (s : Shared) (news : List (Addr × Obj)) (ps : σ → List (Str × Value)) (stored : List Str) (m₀ : Str → Option Value) (P : σ → Prop) (f : Flow) (s₂ : Shared) : Prop :=
  f = .next ∧ ∃ c h' tk m' news', s₂ = { s with heap := h', toks := tk } ∧ Fr h₀ L h' m' ∧ News h₀ L h' news' ∧ (∀ p ∈ news, p ∈ news') ∧ (∀ p ∈ ps c, m' p.1 = some p.2) ∧ (∀ z, (∀ p ∈ ps c, z ≠ p.1) → stored.contains z = false → m' z = m₀ z) ∧ P c
theorem jn_end {σ : Type} {h₀ : Heap} {L : Addr} {s : Shared} {news news' : List (Addr × Obj)} {ps : σ → List (Str × Value)} {stored : List Str} {m₀ m' : Str → Option Value} {P : σ → Prop} {h' : Heap} {tk : Nat} (c : σ) (F : Fr h₀ L h' m') (N : News h₀ L h' news') (hn : ∀ p ∈ news, p ∈ news') (hk : ∀ p ∈ ps c, m' p.1 = some p.2) (hr : ∀ z, (∀ p ∈ ps c, z ≠ p.1) → stored.contains z = false → m' z = m₀ z) (hp : P c) :
    JnEnd h₀ L s news ps stored m₀ P .next { s with heap := h', toks := tk } := ⟨rfl, c, h', tk, m', news', rfl, F, N, hn, hk, hr, hp⟩
theorem jn_exec {σ : Type} {M : Model} {A : Around} {E : Value → Shared → Prop} {s : Shared} {T : Sem Flow} {Q : Flow → Shared → Prop} {h₀ : Heap} {L : Addr} {news : List (Addr × Obj)} (ps : σ → List (Str × Value)) (stored : List Str) {m₀ : Str → Option Value} (P : σ → Prop)
    (F : Fr h₀ L s.heap m₀) (h : wpAny M A T (JnEnd h₀ L s news ps stored m₀ P) E s)
    (k : ∀ c (u : Str → Option Value) h' tk, P c → Fr h₀ L h' (kstB (fun z => if stored.contains z then u z else m₀ z) (ps c)) → News h₀ L h' news → Q .next { s with heap := h', toks := tk }) : wpAny M A T Q E s := by
  refine wpAny_mono h (fun f s₂ q => ?_) fun _ _ e => e
  obtain ⟨rfl, c, h', tk, m', news', rfl, F', N', hn, hk, hr, hp⟩ := q
  exact k c m' h' tk hp (ksw_fr hk hr F') fun p hq => N' p (hn p hq)
structure JMark : Prop where
  mark : True
/-- the sign and the start, whatever stood at the text's head -/
def SgP (x : Str) (V0 V : Int) (c : (Int × Tok) × (Int × Tok)) : Prop := ReW x V0 c.1.1 ∧ V = c.2.1 * V0 ∧ (c.2.1 = 1 ∨ c.2.1 = -1)
theorem sg_mul {a b : Int} (h : a = 1 ∨ a = -1) : IntMulOk a b := by
  rcases h with rfl | rfl
  · exact .of_left (by decide)
  · exact .of_left (by decide)
structure KMark : Prop where
  mark : True
theorem read_exponent_ok (w : World) (news : List (Addr × Obj)) (x : Str) (t1 : Tok) (V0 V : Int) (bm bp b0 : Bool) (hsz : x.length ≤ 1000) (hl1 : 1 ≤ x.length) (hV : V0 ≤ 4000)
    (hm : (Txt.slice x none (some 1) == Str.ofString "-") = bm) (hp : (Txt.slice x none (some 1) == Str.ofString "+") = bp) (h00 : (Txt.item x 0 == Str.ofString "-") = b0)
    (hA : bm = false → bp = false → ReW x V0 0 ∧ V = 1 * V0) (hB : (bm = true ∨ bp = true) → b0 = false → ReW x V0 1 ∧ V = 1 * V0) (hC : (bm = true ∨ bp = true) → b0 = true → ReW x V0 1 ∧ V = -1 * V0) :
    Gives w 114 3 news [.str x t1] (fun r news' => ∃ D tk, r = .ref D ∧ news' = (D, (⟨.type "tuple", none, .seq #[.bool true, .int V tk], #[]⟩ : Obj)) :: news ∧ ∀ p ∈ news, p.1 < D) := by
  w_top off
  have kn : hd.heap_39 = hd.heap_39 ∧ PySem.Challenge.rw_pb0325_01 = PySem.Challenge.rw_pb0325_01 := (by k_fill; exact ⟨rfl, rfl⟩); clear kn
  unfold Gives
  intro mean mg mb dp un gd cn cs a ccd cl outer A₀ base h₀ L m s Q E B F X N T hk hd hu hret

  refine wpAny_call ?_
  k_dflt (refine' enter B F X N T hk hd ?eo ?ec ?eb ?el ?es ?ex ?_; (case eo => k_is); (case ec => k_is); (case eb => first | exact BindsTo.of_eq rfl | exact binds_K (by k_in) rfl (by k_is) rfl rfl rfl); (case ex => decide); (case el => exact locs rfl); (case es => exact ⟨rfl, rfl, rfl⟩); k_whole; intro g' L' h' FG' F' N' B' X' T'; (try dsimp only); (try k_lift B'); (try k_fold))
  k_with_none

  have hJ : JMark := ⟨trivial⟩
  have hK : KMark := ⟨trivial⟩
  k_with "exec If" => k_dflt (rename JMark => hj; clear hj; rename Fr _ _ _ _ => lF'; with_unfolding_all refine jn_exec (news := news) (σ := (Int × Tok) × (Int × Tok)) (fun c => [(Str.ofString "start", .int c.1.1 c.1.2), (Str.ofString "sign", .int c.2.1 c.2.2)]) [] (SgP x V0 V) lF' ?_ ?_; rotate_left 1; clear lF'; intro kC kU kH kTk kP kFr kNews; obtain ⟨⟨st, tst⟩, ⟨sg, tsg⟩⟩ := kC; have hR : ReW x V0 st := kP.1; have hVs : V = sg * V0 := kP.2.1; have hsg : sg = 1 ∨ sg = -1 := kP.2.2; have hR1 := hR.1; have hR2 := hR.2.1; have hfu := hR.full; clear kP; dsimp only at *; (try k_fold); rotate_left 1)
  k_with "JnEnd" => k_dflt (first
    | exact jn_end ((_, _), (_, _)) (by assumption) (by assumption) (by exact fun _ h => h) (by kst_all) (by (intro z hz hc; (try simp at hz); (try simp at hc); first | (simp [kstB, hz]; done) | (simp [kstB, hz, hc]; done))) ⟨(hA (by assumption) (by assumption)).1, (hA (by assumption) (by assumption)).2, .inl rfl⟩
    | exact jn_end ((_, _), (_, _)) (by assumption) (by assumption) (by exact fun _ h => h) (by kst_all) (by (intro z hz hc; (try simp at hz); (try simp at hc); first | (simp [kstB, hz]; done) | (simp [kstB, hz, hc]; done))) ⟨(hC (.inl (by assumption)) (by assumption)).1, (hC (.inl (by assumption)) (by assumption)).2, .inr rfl⟩
    | exact jn_end ((_, _), (_, _)) (by assumption) (by assumption) (by exact fun _ h => h) (by kst_all) (by (intro z hz hc; (try simp at hz); (try simp at hc); first | (simp [kstB, hz]; done) | (simp [kstB, hz, hc]; done))) ⟨(hC (.inr (by assumption)) (by assumption)).1, (hC (.inr (by assumption)) (by assumption)).2, .inr rfl⟩
    | exact jn_end ((_, _), (_, _)) (by assumption) (by assumption) (by exact fun _ h => h) (by kst_all) (by (intro z hz hc; (try simp at hz); (try simp at hc); first | (simp [kstB, hz]; done) | (simp [kstB, hz, hc]; done))) ⟨(hB (.inl (by assumption)) (by assumption)).1, (hB (.inl (by assumption)) (by assumption)).2, .inl rfl⟩
    | exact jn_end ((_, _), (_, _)) (by assumption) (by assumption) (by exact fun _ h => h) (by kst_all) (by (intro z hz hc; (try simp at hz); (try simp at hc); first | (simp [kstB, hz]; done) | (simp [kstB, hz, hc]; done))) ⟨(hB (.inr (by assumption)) (by assumption)).1, (hB (.inr (by assumption)) (by assumption)).2, .inl rfl⟩
    | exact jn_end (_, _) (by assumption) (by assumption) (by exact fun _ h => h) (by kst_all) (by (intro z hz hc; (try simp at hz); (try simp at hc); first | (simp [kstB, hz]; done) | (simp [kstB, hz, hc]; done))) ⟨by assumption, ReW.short (by assumption) hV (.inl (by assumption))⟩
    | exact jn_end (_, _) (by assumption) (by assumption) (by exact fun _ h => h) (by kst_all) (by (intro z hz hc; (try simp at hz); (try simp at hc); first | (simp [kstB, hz]; done) | (simp [kstB, hz, hc]; done))) ⟨by assumption, ReW.short (by assumption) hV (.inr (by assumption))⟩)
  k_with "binaryOp Mult int int" => (refine PyProof.Rows.mul_int ?_ (sg_mul (by with_reducible assumption)))
  k_with "compareOp Eq int int" => (first | refine eqi_no (by omega) ?_ | refine eqi_yes (by omega) ?_)
  k_with "compareOp NotEq int int" => (first | refine nei_no (by omega) ?_ | refine nei_yes (by omega) ?_)
  k_with "compareOp Eq str str" => (refine eq_known (by with_reducible assumption) ?_)
  k_with "call ref" => (first
    | (k_dflt (refine' GivesV.useI (digit_end_ok _ _ _ _ _ _ ?x1 ?x2 ?x3) ?k1 ?k2 ?k3 ?k4 ?k5 ?kK ?kd ?ku ?_; (case k1 => k_asm); (case k2 => k_asm); (case k3 => k_asm); (case k4 => k_asm); (case k5 => k_asm); (case kK => first | exact rfl | assumption); (case kd => ktr_room); (case ku => ktr_units); (case x1 => exact hR1); (case x2 => exact Int.le_of_lt (Int.lt_of_lt_of_le (Int.lt_succ _) hR2)); (case x3 => exact hsz)); intro de t' h' tk' hde F' N'; (try k_sweep); (try dsimp only); (try k_fold))
    | (have hdv := ReW.val (by with_reducible assumption) hs6; (k_dflt (refine' GivesV.useI (digits_value_ok _ _ _ _ ?x1 ?x2) ?k1 ?k2 ?k3 ?k4 ?k5 ?kK ?kd ?ku ?_; (case k1 => k_asm); (case k2 => k_asm); (case k3 => k_asm); (case k4 => k_asm); (case k5 => k_asm); (case kK => first | exact rfl | assumption); (case kd => ktr_room); (case ku => ktr_units); (case x1 => exact ReW.digs (by with_reducible assumption) hs6); (case x2 => omega)); intro fd t' h' tk' hfd F' N'; (try k_sweep); (try dsimp only); (try k_fold)); have hfd2 : fd = V0 := hfd.trans hdv; clear hfd hdv))
  k_with "exec While BoolOp cons nil" => k_dflt (first
    | (rename KMark => hj; clear hj; rename Fr _ _ _ _ => lF'; with_unfolding_all refine jn_exec (news := news) (σ := Int × Tok) (fun c => [(Str.ofString "start", .int c.1 c.2)]) [] (fun c => ReW x V0 c.1 ∧ (x.length : Int) - c.1 ≤ 6) lF' ?_ ?_; rotate_left 1; clear lF'; intro kC kU kH kTk kP kFr kNews; obtain ⟨at1, tst⟩ := kC; have hW2 : ReW x V0 at1 := kP.1; have hs6 : (x.length : Int) - at1 ≤ 6 := kP.2; have hA1 := hW2.1; have hB1 := hW2.2.1; clear kP; dsimp only at *; (try k_fold); rotate_left 1)
    | (rename Fr _ _ _ _ => lF'; rename News _ _ _ _ => lN'; with_unfolding_all refine' ksw_while (σ := Int × Tok) (fun _ => news) (fun c => [(Str.ofString "start", .int c.1 c.2)]) (fun _ => True) [] (fun c => ReW x V0 c.1) (fun c => (x.length - c.1).toNat) (_, _) lF' ?kn ?kf ?kk ?kp ?_; (case kn => exact lN'); (case kf => trivial); (case kk => kst_all); (case kp => exact hR); clear lF' lN'; intro kC kU kH kTk kFacts kInv kFr kNews; obtain ⟨at1, ts⟩ := kC; have hW : ReW x V0 at1 := kInv; have hA := hW.1; have hB := hW.2.1; clear kFacts kInv; dsimp only at *))
  k_with "KswEnd" => exact ksw_end (σ := Int × Tok) (_, _) (by assumption) (by assumption) (by exact fun _ h => h) trivial (by kst_all) (by (intro z hz hc; (try simp at hz); (try simp at hc); first | (simp [kstB, hz]; done) | (simp [kstB, hz, hc]; done))) (ReW.next (by assumption) (by assumption) (by assumption)) (up_meas (by omega))
  k_steps
  all_goals subst hfd2
  all_goals subst hVs
  all_goals exact hret _ _ _ _ (by k_asm) (by k_asm) ⟨_, _, rfl, rfl, by assumption⟩
theorem read_exponent_none (w : World) (news : List (Addr × Obj)) (x : Str) (t1 : Tok) (hm : (Txt.slice x none (some 1) == Str.ofString "-") = false) (hp : (Txt.slice x none (some 1) == Str.ofString "+") = false) (hx : x.length = 0) :
    Gives w 114 3 news [.str x t1] (fun r news' => ∃ D tk, r = .ref D ∧ news' = (D, (⟨.type "tuple", none, .seq #[.bool false, .int 0 tk], #[]⟩ : Obj)) :: news ∧ ∀ p ∈ news, p.1 < D) := by
  w_top off
  have kn : hd.heap_39 = hd.heap_39 ∧ PySem.Challenge.rw_pb0325_01 = PySem.Challenge.rw_pb0325_01 := (by k_fill; exact ⟨rfl, rfl⟩); clear kn
  unfold Gives
  intro mean mg mb dp un gd cn cs a ccd cl outer A₀ base h₀ L m s Q E B F X N T hk hd hu hret

  refine wpAny_call ?_
  k_dflt (refine' enter B F X N T hk hd ?eo ?ec ?eb ?el ?es ?ex ?_; (case eo => k_is); (case ec => k_is); (case eb => first | exact BindsTo.of_eq rfl | exact binds_K (by k_in) rfl (by k_is) rfl rfl rfl); (case ex => decide); (case el => exact locs rfl); (case es => exact ⟨rfl, rfl, rfl⟩); k_whole; intro g' L' h' FG' F' N' B' X' T'; (try dsimp only); (try k_lift B'); (try k_fold))
  k_with_none

  k_with "compareOp Eq int int" => (first | refine eqi_no (by omega) ?_ | refine eqi_yes (by omega) ?_)
  k_with "compareOp Eq str str" => (refine eq_known (by with_reducible assumption) ?_)
  k_steps
  all_goals exact hret _ _ _ _ (by k_asm) (by k_asm) ⟨_, _, rfl, rfl, by assumption⟩
section
variable {prog : Program} {w : World} {A : Around} {E : Value → Shared → Prop} {s : Shared} {x y : Str} {a b P : Int} {t u : Tok} {Q : Value → Shared → Prop}
theorem ne_known {c : Bool} (hb : (x != y) = c) (h : Q (.bool c) s) : wpAny (model prog w) A (compareOp .NotEq (.str x t) (.str y u)) Q E s :=
  PyProof.Rows.ne_str (by rw [hb]; exact h)
theorem isub_let (hP : a - b = P) (h : Q (.int P s.toks) { s with toks := s.toks + 1 }) : wpAny (model prog w) A (inplaceOp .Sub (.int a t) (.int b u)) Q E s :=
  PyProof.Rows.isub_int (by rw [hP]; exact h)
end
theorem cat_le {x : Str} {a b c d : Option Int} (h : x.length ≤ 1000) : (Txt.slice x a b ++ Txt.slice x c d).length ≤ 5000 := by
  rw [PySem.strLen_append]
  have h1 := Txt.slice_le x a b
  have h2 := Txt.slice_le x c d
  omega
noncomputable def ratV (eb fb top hid lst sg over under : Int) : Int := packV eb fb top hid lst sg (qq fb over under) (0 - qsh fb over under) (qq fb over under * under != over * 2 ^ (qsh fb over under).toNat)
noncomputable def decV (eb fb top hid lst sg M P : Int) : Int :=
  if M = 0 then (sg * 2 ^ eb.toNat + 0) * hid + 0
  else if 0 ≤ P then ratV eb fb top hid lst sg (M * 10 ^ P.toNat) 1
  else ratV eb fb top hid lst sg M (10 ^ (0 - P).toNat)
/-- what a form's numbers keep to, and the two quotients -/
structure DOk (eb fb bi top hid lst M P : Int) : Prop where
  eb0 : 0 ≤ eb
  eb1 : eb ≤ 64
  hid0 : 0 < hid
  hid1 : hid < 2 ^ 60
  M0 : 0 ≤ M
  P0 : -100 ≤ P
  P1 : P ≤ 100
  smM : Sm M
  smP : Sm (10 ^ P.toNat)
  q1 : M ≠ 0 → 0 ≤ P → QOk eb fb bi top hid lst (M * 10 ^ P.toNat) 1
  q2 : M ≠ 0 → ¬ 0 ≤ P → QOk eb fb bi top hid lst M (10 ^ (0 - P).toNat)

theorem decV_z {eb fb top hid lst sg M P : Int} (h : M = 0) : (sg * 2 ^ eb.toNat + 0) * hid + 0 = decV eb fb top hid lst sg M P := by unfold decV; rw [if_pos h]
theorem decV_p {eb fb top hid lst sg M P : Int} (h : M ≠ 0) (h2 : 0 ≤ P) : ratV eb fb top hid lst sg (M * 10 ^ P.toNat) 1 = decV eb fb top hid lst sg M P := by unfold decV; rw [if_neg h, if_pos h2]
theorem decV_n {eb fb top hid lst sg M P : Int} (h : M ≠ 0) (h2 : ¬ 0 ≤ P) : ratV eb fb top hid lst sg M (10 ^ (0 - P).toNat) = decV eb fb top hid lst sg M P := by unfold decV; rw [if_neg h, if_neg h2]
/-- what read_decimal hands back: a made pair on the ledger -/
def Pair (b : Bool) (v : Int) (news : List (Addr × Obj)) (r : Value) (news' : List (Addr × Obj)) : Prop :=
  ∃ D tk, r = .ref D ∧ news' = (D, (⟨.type "tuple", none, .seq #[.bool b, .int v tk], #[]⟩ : Obj)) :: news ∧ ∀ p ∈ news, p.1 < D
theorem retT {h₀ h' : Heap} {L : Addr} {m : Str → Option Value} {news rest : List (Addr × Obj)} {s : Shared} {Q : Value → Shared → Prop} {tk : Tok} {tk' : Nat} {D : Addr} {b : Bool} {v y : Int}
    (hret : ∀ r news' h' tk', Fr h₀ L h' m → News h₀ L h' news' → Pair b v news r news' → Q r { s with heap := h', toks := tk' })
    (F : Fr h₀ L h' m) (N : News h₀ L h' ((D, (⟨.type "tuple", none, .seq #[.bool b, .int y tk], #[]⟩ : Obj)) :: rest)) (hsub : ∀ p ∈ news, p ∈ rest) (hlt : ∀ p ∈ news, p.1 < D) (e : y = v) : Q (.ref D) { s with heap := h', toks := tk' } := by
  subst e
  refine hret _ ((D, _) :: news) _ _ F (fun p hp => ?_) ⟨D, tk, rfl, rfl, hlt⟩
  rcases List.mem_cons.mp hp with e | hp
  · exact N p (e ▸ List.mem_cons_self ..)
  · exact N p (List.mem_cons_of_mem _ (hsub p hp))

theorem lt_via {news : List (Addr × Obj)} {D0 D : Addr} {X : Prop} (h0 : ∀ p ∈ news, p.1 < D0) (h : @LT.lt Nat _ D0 D ∧ X) : ∀ p ∈ news, p.1 < D := fun p hp => Nat.lt_trans (h0 p hp) h.1

def JnPost {σ : Type} (h₀ : Heap) (L : Addr) (s : Shared) (news : List (Addr × Obj)) (ps : σ → List (Str × Value)) (stored : List Str) (m₀ : Str → Option Value) (P : σ → Prop) (Q : Flow → Shared → Prop) (f : Flow) (s₂ : Shared) : Prop :=
  match f with
  | .next => JnEnd h₀ L s news ps stored m₀ P .next s₂
  | f => Q f s₂
theorem jnp_ret {σ : Type} {h₀ : Heap} {L : Addr} {s s₂ : Shared} {news : List (Addr × Obj)} {ps : σ → List (Str × Value)} {stored : List Str} {m₀ : Str → Option Value} {P : σ → Prop} {Q : Flow → Shared → Prop} {v : Value} (h : Q (.ret v) s₂) : JnPost h₀ L s news ps stored m₀ P Q (.ret v) s₂ := h
theorem jnp_next {σ : Type} {h₀ : Heap} {L : Addr} {s s₂ : Shared} {news : List (Addr × Obj)} {ps : σ → List (Str × Value)} {stored : List Str} {m₀ : Str → Option Value} {P : σ → Prop} {Q : Flow → Shared → Prop} (h : JnEnd h₀ L s news ps stored m₀ P .next s₂) : JnPost h₀ L s news ps stored m₀ P Q .next s₂ := h
theorem jnp_exec {σ : Type} {M : Model} {A : Around} {E : Value → Shared → Prop} {s : Shared} {T : Sem Flow} {Q : Flow → Shared → Prop} {h₀ : Heap} {L : Addr} {news : List (Addr × Obj)} (ps : σ → List (Str × Value)) (stored : List Str) {m₀ : Str → Option Value} (P : σ → Prop)
    (F : Fr h₀ L s.heap m₀) (h : wpAny M A T (JnPost h₀ L s news ps stored m₀ P Q) E s)
    (k : ∀ c (u : Str → Option Value) h' tk, P c → Fr h₀ L h' (kstB (fun z => if stored.contains z then u z else m₀ z) (ps c)) → News h₀ L h' news → Q .next { s with heap := h', toks := tk }) : wpAny M A T Q E s := by
  refine wpAny_mono h (fun f s₂ q => ?_) fun _ _ e => e
  cases f with
  | next =>
    obtain ⟨_, c, h', tk, m', news', rfl, F', N', hn, hk, hr, hp⟩ := q
    exact k c m' h' tk hp (ksw_fr hk hr F') fun p hq => N' p (hn p hq)
  | ret v => exact q
  | brk => exact q
  | cont => exact q
theorem nb_pos {n : Nat} (h : (n : Int) ≠ 0) : 0 < n := Nat.pos_of_ne_zero fun e => h (by rw [e]; rfl)
theorem nb_suc {n : Nat} : 0 ≤ (n : Int) + 1 := Int.natCast_nonneg (n + 1)
theorem nb_le {n m k : Nat} (h : n + 1 ≤ m) (h2 : m ≤ k) : (n : Int) + 1 ≤ k := Int.ofNat_le.mpr (Nat.le_trans h h2)
theorem hid_lo {a : Int} (h : 0 < a) : -(2 ^ 64) < a := Int.lt_trans (by decide) h
theorem hid_hi : (2 : Int) ^ 60 < 2 ^ 64 := by decide
theorem retF {h₀ h' : Heap} {L : Addr} {m : Str → Option Value} {news rest : List (Addr × Obj)} {s : Shared} {Q : Value → Shared → Prop} {tk : Tok} {tk' : Nat} {D : Addr} {b : Bool} {v : Int}
    (hret : ∀ r news' h' tk', Fr h₀ L h' m → News h₀ L h' news' → Pair b v news r news' → Q r { s with heap := h', toks := tk' })
    (F : Fr h₀ L h' m) (N : News h₀ L h' ((D, (⟨.type "tuple", none, .seq #[.bool false, .int 0 tk], #[]⟩ : Obj)) :: rest)) (hsub : ∀ p ∈ news, p ∈ rest) (hlt : ∀ p ∈ news, p.1 < D) (e : b = false ∧ v = 0) : Q (.ref D) { s with heap := h', toks := tk' } := by
  obtain ⟨e1, e2⟩ := e
  subst e1; subst e2
  exact retT hret F N hsub hlt rfl
noncomputable abbrev cutD (x : Str) (nb nl : Nat) : List Nat := (Txt.slice x none (some (nb : Int)) ++ Txt.slice x (some ((nb : Int) + 1)) (some (nl : Int))).cps.toList
theorem read_decimal_ok (w : World) (news : List (Addr × Obj)) (fm : Addr) (eb fb bi top hid lst sg : Int) (x : Str) (t1 t2 : Tok) (nb nl : Nat) (M P V : Int) (dot ee g R : Bool) (v : Int) (hsz : x.length ≤ 1000)
    (hE1 : dEnd x.cps.toList (Int.toNat 0) = nb) (hdot : (Txt.slice x (some (nb : Int)) (some ((nb : Int) + 1)) != Str.ofString ".") = dot)
    (hq : 0 < nb → dot = false → dEnd x.cps.toList ((nb : Int) + 1).toNat = nl ∧ nb + 1 ≤ nl ∧ nl ≤ x.length ∧ ∀ c ∈ cutD x nb nl, isD c = true) (hM : valD (cutD x nb nl) = M)
    (hee : (Txt.item x (nl : Int) != Str.ofString "E") = ee) (hre : 0 < nb → dot = false → (nl : Int) < x.length → ee = false → ∀ news' t, Gives w 114 3 news' [.str (Txt.slice x (some ((nl : Int) + 1)) none) t] (Pair g V news'))
    (hV0 : ¬ (nl : Int) < x.length → V = 0) (hP : V - ((nl : Int) - nb - 1) = P)
    (rA : (nb : Int) = 0 → R = false ∧ v = 0) (rB : dot = true → R = false ∧ v = 0) (rC : ee = true → (nl : Int) < x.length → R = false ∧ v = 0) (rD : g = false → (nl : Int) < x.length → R = false ∧ v = 0)
    (rG : 0 < nb → dot = false → ((nl : Int) < x.length → ee = false ∧ g = true) → R = true ∧ v = decV eb fb top hid lst sg M P ∧ -100 ≤ V ∧ V ≤ 100 ∧ sg.natAbs < 2 ^ 64 ∧ DOk eb fb bi top hid lst M P ∧ FormIn w.params news fm eb fb bi top hid lst) :
    Gives w 121 6 news [.ref fm, .int sg t1, .str x t2] (Pair R v news) := by
  w_top off
  have kn : hd.heap_39 = hd.heap_39 ∧ PySem.Challenge.rw_pb0325_01 = PySem.Challenge.rw_pb0325_01 := (by k_fill; exact ⟨rfl, rfl⟩); clear kn
  unfold Gives
  intro mean mg mb dp un gd cn cs a ccd cl outer A₀ base h₀ L m s Q E B F X N T hk hd hu hret

  refine wpAny_call ?_
  k_dflt (refine' enter B F X N T hk hd ?eo ?ec ?eb ?el ?es ?ex ?_; (case eo => k_is); (case ec => k_is); (case eb => first | exact BindsTo.of_eq rfl | exact binds_K (by k_in) rfl (by k_is) rfl rfl rfl); (case ex => decide); (case el => exact locs rfl); (case es => exact ⟨rfl, rfl, rfl⟩); k_whole; intro g' L' h' FG' F' N' B' X' T'; (try dsimp only); (try k_lift B'); (try k_fold))
  k_with_none

  have hJ : JMark := ⟨trivial⟩
  k_with "exec If" => k_dflt (
      (with_reducible show wpAny _ _ (exec (Stmt.If (Expr.Compare (Expr.Name (Str.ofString "last") _) _ _ _) _ _ _) _) _ _ _)
      rename JMark => hj
      clear hj
      rename Fr _ _ _ _ => lF'
      with_unfolding_all refine jnp_exec (news := news) (σ := Int × Tok) (fun c => [(Str.ofString "power", .int c.1 c.2)]) [Str.ofString "good"] (fun c => c.1 = V ∧ ((nl : Int) < x.length → ee = false ∧ g = true)) lF' ?_ ?_
      rotate_left 1
      clear lF'
      intro kC kU kH kTk kP kFr kNews
      obtain ⟨pw, tpw⟩ := kC
      have hpw : pw = V := kP.1
      obtain ⟨rG1, rG2, rG3, rG4, hs, rG5, hf⟩ := rG (nb_pos (by with_reducible assumption)) (by with_reducible assumption) kP.2
      subst rG1
      subst rG2
      obtain ⟨eb0, eb1, hid0, hid1, M0, P0, P1, smM, smP, q1, q2⟩ := rG5
      have hbits : Builtin.Int.intBits hid ≤ 64 := intBits_le_64 (hid_lo hid0) (Int.lt_trans hid1 hid_hi)
      subst hpw
      clear kP rA rB rC rD hre hV0
      dsimp only at *
      (try k_fold)
      rotate_left 1)
  k_with "JnPost" => k_dflt (first
    | refine jnp_ret ?_
    | exact jnp_next (jn_end (_, _) (by assumption) (by assumption) (by exact fun _ h => h) (by kst_all) (by (intro z hz hc; (try simp at hz); (try simp at hc); first | (simp [kstB, hz]; done) | (simp [kstB, hz, hc]; done))) ⟨(hV0 (by assumption)).symm, fun h => absurd h (by assumption)⟩)
    | exact jnp_next (jn_end (_, _) (by assumption) (by assumption) (by exact fun _ h => List.mem_cons_of_mem _ h) (by kst_all) (by (intro z hz hc; (try simp at hz); (try simp at hc); first | (simp [kstB, hz]; done) | (simp [kstB, hz, hc]; done))) ⟨rfl, fun _ => ⟨by assumption, by assumption⟩⟩))
  k_with "compareOp Eq int int" => (first | refine eqi_no (by omega) ?_ | refine eqi_yes (by omega) ?_)
  k_with "compareOp NotEq int int" => (first | refine nei_no (by omega) ?_ | refine nei_yes (by omega) ?_)
  k_with "compareOp NotEq str str" => (refine ne_known (by with_reducible assumption) ?_)
  k_with "compareOp Eq str str" => (refine eq_known (by with_reducible assumption) ?_)
  k_with "inplaceOp Sub int int" => (refine isub_let (by with_reducible assumption) ?_)
  k_with "binaryOp Mult int int" => (refine PyProof.Rows.mul_int ?_ (Sm.mulOk (by with_reducible assumption) (by with_reducible assumption)))
  k_with "call ref" => (first
    | ((k_dflt (refine' GivesV.useI (digit_end_ok _ _ _ _ _ _ ?x1 ?x2 ?x3) ?k1 ?k2 ?k3 ?k4 ?k5 ?kK ?kd ?ku ?_; (case k1 => k_asm); (case k2 => k_asm); (case k3 => k_asm); (case k4 => k_asm); (case k5 => k_asm); (case kK => first | exact rfl | assumption); (case kd => ktr_room); (case ku => ktr_units); (case x1 => exact Int.le_refl 0); (case x2 => exact Int.natCast_nonneg _); (case x3 => exact hsz)); intro de t' h' tk' hde F' N'; (try k_sweep); (try dsimp only); (try k_fold)); rw [hE1] at hde; subst hde)
    | ((obtain ⟨hE2, hn1, hn2, hdg0⟩ := hq (nb_pos (by with_reducible assumption)) (by with_reducible assumption)); (k_dflt (refine' GivesV.useI (digit_end_ok _ _ _ _ _ _ ?x1 ?x2 ?x3) ?k1 ?k2 ?k3 ?k4 ?k5 ?kK ?kd ?ku ?_; (case k1 => k_asm); (case k2 => k_asm); (case k3 => k_asm); (case k4 => k_asm); (case k5 => k_asm); (case kK => first | exact rfl | assumption); (case kd => ktr_room); (case ku => ktr_units); (case x1 => exact nb_suc); (case x2 => exact nb_le hn1 hn2); (case x3 => exact hsz)); intro de t' h' tk' hde F' N'; (try k_sweep); (try dsimp only); (try k_fold)); rw [hE2] at hde; subst hde)
    | ((k_dflt (refine' GivesV.useI (digits_value_ok _ _ _ _ ?x1 ?x2) ?k1 ?k2 ?k3 ?k4 ?k5 ?kK ?kd ?ku ?_; (case k1 => k_asm); (case k2 => k_asm); (case k3 => k_asm); (case k4 => k_asm); (case k5 => k_asm); (case kK => first | exact rfl | assumption); (case kd => ktr_room); (case ku => ktr_units); (case x1 => exact hdg0); (case x2 => exact cat_le hsz)); intro dg t' h' tk' hdg F' N'; (try k_sweep); (try dsimp only); (try k_fold)); rw [hM] at hdg; subst hdg)
    | ((have hrd := hre (nb_pos (by with_reducible assumption)) (by with_reducible assumption) (by with_reducible assumption) (by with_reducible assumption)); (k_dflt (refine' Gives.use (hrd _ _ ) ?k1 ?k2 ?k3 ?k4 ?k5 ?kK ?kd ?ku ?_; (case k1 => k_asm); (case k2 => k_asm); (case k3 => k_asm); (case k4 => k_asm); (case k5 => k_asm); (case kK => first | exact rfl | assumption); (case kd => ktr_room); (case ku => ktr_units)); intro r' n' h' tk' F' N' o'; (try k_sweep); (try dsimp only); (try k_fold)); (obtain ⟨D0, tk0, e1, e2, hlt0⟩ := o'); subst e1; subst e2; (try dsimp only); (try k_fold))
    | (k_dflt (refine' GivesV.use (signed_zero_ok _ _ _ _ _ _ _ _ _ _ _ ?x1 ?x2 ?x3 ?x4 ?x5) ?k1 ?k2 ?k3 ?k4 ?k5 ?kK ?kd ?ku ?_; (case k1 => k_asm); (case k2 => k_asm); (case k3 => k_asm); (case k4 => k_asm); (case k5 => k_asm); (case kK => first | exact rfl | assumption); (case kd => ktr_room); (case ku => ktr_units); (case x1 => exact hf); (case x2 => exact eb0); (case x3 => exact eb1); (case x4 => exact hbits); (case x5 => exact hs)); intro t' h' tk' F' N'; (try k_sweep); (try dsimp only); (try k_fold))
    | (k_dflt (refine' GivesV.use (from_ratio_ok _ _ _ _ _ _ _ _ _ _ _ _ _ _ _ ?x1 ?x2 ?x3) ?k1 ?k2 ?k3 ?k4 ?k5 ?kK ?kd ?ku ?_; (case k1 => k_asm); (case k2 => k_asm); (case k3 => k_asm); (case k4 => k_asm); (case k5 => k_asm); (case kK => first | exact rfl | assumption); (case kd => ktr_room); (case ku => ktr_units); (case x1 => exact hf); (case x2 => exact hs); (case x3 => exact q1 (by assumption) (by assumption))); intro t' h' tk' F' N'; (try k_sweep); (try dsimp only); (try k_fold))
    | (k_dflt (refine' GivesV.use (from_ratio_ok _ _ _ _ _ _ _ _ _ _ _ _ _ _ _ ?x1 ?x2 ?x3) ?k1 ?k2 ?k3 ?k4 ?k5 ?kK ?kd ?ku ?_; (case k1 => k_asm); (case k2 => k_asm); (case k3 => k_asm); (case k4 => k_asm); (case k5 => k_asm); (case kK => first | exact rfl | assumption); (case kd => ktr_room); (case ku => ktr_units); (case x1 => exact hf); (case x2 => exact hs); (case x3 => exact q2 (by assumption) (by assumption))); intro t' h' tk' F' N'; (try k_sweep); (try dsimp only); (try k_fold)))
  k_steps
  all_goals first
    | exact retT hret (by k_asm) (by k_asm) (fun _ h => h) (by assumption) (decV_z (by assumption))
    | exact retT hret (by k_asm) (by k_asm) (fun _ h => h) (by assumption) (decV_p (by assumption) (by assumption))
    | exact retT hret (by k_asm) (by k_asm) (fun _ h => h) (by assumption) (decV_n (by assumption) (by assumption))
    | exact retF hret (by k_asm) (by k_asm) (fun _ h => h) (by assumption) (rA (by assumption))
    | exact retF hret (by k_asm) (by k_asm) (fun _ h => h) (by assumption) (rB (by assumption))
    | exact retF hret (by k_asm) (by k_asm) (fun _ h => h) (by assumption) (rC (by assumption) (by assumption))
    | exact retF hret (by k_asm) (by k_asm) (fun _ h => List.mem_cons_of_mem _ h) (lt_via (by assumption) (by assumption)) (rD (by assumption) (by assumption))
theorem read_decimal_bare (w : World) (news : List (Addr × Obj)) (fm : Addr) (eb fb bi top hid lst sg : Int) (x : Str) (t1 t2 : Tok) (nb nl : Nat) (M P : Int) (hf : FormIn w.params news fm eb fb bi top hid lst) (hs : sg.natAbs < 2 ^ 64) (hsz : x.length ≤ 1000)
    (hE1 : dEnd x.cps.toList (Int.toNat 0) = nb) (hnb : 0 < nb) (hdot : (Txt.slice x (some (nb : Int)) (some ((nb : Int) + 1)) != Str.ofString ".") = false) (hE2 : dEnd x.cps.toList ((nb : Int) + 1).toNat = nl) (hnl : nl = x.length) (hnn : nb + 1 ≤ nl)
    (hdg0 : ∀ c ∈ (Txt.slice x none (some (nb : Int)) ++ Txt.slice x (some ((nb : Int) + 1)) (some (nl : Int))).cps.toList, isD c = true)
    (hM : valD (Txt.slice x none (some (nb : Int)) ++ Txt.slice x (some ((nb : Int) + 1)) (some (nl : Int))).cps.toList = M) (hP : 0 - ((nl : Int) - nb - 1) = P) (hd0 : DOk eb fb bi top hid lst M P) :
    Gives w 121 6 news [.ref fm, .int sg t1, .str x t2] (Pair true (decV eb fb top hid lst sg M P) news) := by
  have hd1 := hd0.P0
  have hd2 := hd0.P1
  exact read_decimal_ok w news fm eb fb bi top hid lst sg x t1 t2 nb nl M P 0 false _ true true _ hsz hE1 hdot (fun _ _ => ⟨hE2, hnn, Nat.le_of_eq hnl, hdg0⟩) hM rfl (fun _ _ h _ => absurd h (by omega)) (fun _ => rfl) hP (fun h => absurd h (by omega)) (fun h => by cases h) (fun _ h => absurd h (by omega)) (fun h => by cases h) (fun _ _ _ => ⟨rfl, rfl, by decide, by decide, hs, hd0, hf⟩)
theorem read_decimal_exp (w : World) (news : List (Addr × Obj)) (fm : Addr) (eb fb bi top hid lst sg : Int) (x : Str) (t1 t2 : Tok) (nb nl : Nat) (M P : Int) (hf : FormIn w.params news fm eb fb bi top hid lst) (hs : sg.natAbs < 2 ^ 64) (hsz : x.length ≤ 1000)
    (hE1 : dEnd x.cps.toList (Int.toNat 0) = nb) (hnb : 0 < nb) (hdot : (Txt.slice x (some (nb : Int)) (some ((nb : Int) + 1)) != Str.ofString ".") = false) (hE2 : dEnd x.cps.toList ((nb : Int) + 1).toNat = nl) (hnl : nl < x.length) (hee : (Txt.item x (nl : Int) != Str.ofString "E") = false) (V : Int) (hV0 : -100 ≤ V) (hV1 : V ≤ 100) (hre : ∀ news' t, Gives w 114 3 news' [.str (Txt.slice x (some ((nl : Int) + 1)) none) t] (Pair true V news')) (hnn : nb + 1 ≤ nl)
    (hdg0 : ∀ c ∈ (Txt.slice x none (some (nb : Int)) ++ Txt.slice x (some ((nb : Int) + 1)) (some (nl : Int))).cps.toList, isD c = true)
    (hM : valD (Txt.slice x none (some (nb : Int)) ++ Txt.slice x (some ((nb : Int) + 1)) (some (nl : Int))).cps.toList = M) (hP : V - ((nl : Int) - nb - 1) = P) (hd0 : DOk eb fb bi top hid lst M P) :
    Gives w 121 6 news [.ref fm, .int sg t1, .str x t2] (Pair true (decV eb fb top hid lst sg M P) news) := by
  exact read_decimal_ok w news fm eb fb bi top hid lst sg x t1 t2 nb nl M P V false false true true _ hsz hE1 hdot (fun _ _ => ⟨hE2, hnn, Nat.le_of_lt hnl, hdg0⟩) hM hee (fun _ _ _ _ => hre) (fun h => absurd (by omega) h) hP (fun h => absurd h (by omega)) (fun h => by cases h) (fun h => by cases h) (fun h => by cases h) (fun _ _ _ => ⟨rfl, rfl, hV0, hV1, hs, hd0, hf⟩)
theorem read_decimal_badA (w : World) (news : List (Addr × Obj)) (fm : Addr) (sg : Int) (x : Str) (t1 t2 : Tok) (hsz : x.length ≤ 1000) (hE1 : dEnd x.cps.toList (Int.toNat 0) = 0) :
    Gives w 121 6 news [.ref fm, .int sg t1, .str x t2] (Pair false 0 news) :=
  read_decimal_ok w news fm 0 0 0 0 0 0 sg x t1 t2 0 0 _ _ 0 _ _ true false 0 hsz hE1 rfl (fun h => absurd h (by decide)) rfl rfl (fun h => absurd h (by decide)) (fun _ => rfl) rfl (fun _ => ⟨rfl, rfl⟩) (fun _ => ⟨rfl, rfl⟩) (fun _ _ => ⟨rfl, rfl⟩) (fun h => by cases h) (fun h => absurd h (by decide))
theorem read_decimal_badB (w : World) (news : List (Addr × Obj)) (fm : Addr) (sg : Int) (x : Str) (t1 t2 : Tok) (nb : Nat) (hsz : x.length ≤ 1000) (hE1 : dEnd x.cps.toList (Int.toNat 0) = nb) (hnb : 0 < nb) (hdot : (Txt.slice x (some (nb : Int)) (some ((nb : Int) + 1)) != Str.ofString ".") = true) :
    Gives w 121 6 news [.ref fm, .int sg t1, .str x t2] (Pair false 0 news) :=
  read_decimal_ok w news fm 0 0 0 0 0 0 sg x t1 t2 nb 0 _ _ 0 true _ true false 0 hsz hE1 hdot (fun _ h => by cases h) rfl rfl (fun _ h => by cases h) (fun _ => rfl) rfl (fun _ => ⟨rfl, rfl⟩) (fun _ => ⟨rfl, rfl⟩) (fun _ _ => ⟨rfl, rfl⟩) (fun h => by cases h) (fun _ h => by cases h)
theorem read_decimal_badC (w : World) (news : List (Addr × Obj)) (fm : Addr) (sg : Int) (x : Str) (t1 t2 : Tok) (nb nl : Nat) (hsz : x.length ≤ 1000) (hE1 : dEnd x.cps.toList (Int.toNat 0) = nb) (hnb : 0 < nb) (hdot : (Txt.slice x (some (nb : Int)) (some ((nb : Int) + 1)) != Str.ofString ".") = false)
    (hE2 : dEnd x.cps.toList ((nb : Int) + 1).toNat = nl) (hnl : nl < x.length) (hnn : nb + 1 ≤ nl) (hee : (Txt.item x (nl : Int) != Str.ofString "E") = true)
    (hdg0 : ∀ c ∈ (Txt.slice x none (some (nb : Int)) ++ Txt.slice x (some ((nb : Int) + 1)) (some (nl : Int))).cps.toList, isD c = true) :
    Gives w 121 6 news [.ref fm, .int sg t1, .str x t2] (Pair false 0 news) :=
  read_decimal_ok w news fm 0 0 0 0 0 0 sg x t1 t2 nb nl _ _ 0 false true true false 0 hsz hE1 hdot (fun _ _ => ⟨hE2, hnn, Nat.le_of_lt hnl, hdg0⟩) rfl hee (fun _ _ _ h => by cases h) (fun _ => rfl) rfl (fun _ => ⟨rfl, rfl⟩) (fun _ => ⟨rfl, rfl⟩) (fun _ _ => ⟨rfl, rfl⟩) (fun _ _ => ⟨rfl, rfl⟩) (fun _ _ h => by have := (h (by omega)).1; cases this)
theorem read_decimal_badD (w : World) (news : List (Addr × Obj)) (fm : Addr) (sg : Int) (x : Str) (t1 t2 : Tok) (nb nl : Nat) (hsz : x.length ≤ 1000) (hE1 : dEnd x.cps.toList (Int.toNat 0) = nb) (hnb : 0 < nb) (hdot : (Txt.slice x (some (nb : Int)) (some ((nb : Int) + 1)) != Str.ofString ".") = false)
    (hE2 : dEnd x.cps.toList ((nb : Int) + 1).toNat = nl) (hnl : nl < x.length) (hnn : nb + 1 ≤ nl) (hee : (Txt.item x (nl : Int) != Str.ofString "E") = false)
    (hdg0 : ∀ c ∈ (Txt.slice x none (some (nb : Int)) ++ Txt.slice x (some ((nb : Int) + 1)) (some (nl : Int))).cps.toList, isD c = true) (hre : ∀ news' t, Gives w 114 3 news' [.str (Txt.slice x (some ((nl : Int) + 1)) none) t] (Pair false 0 news')) :
    Gives w 121 6 news [.ref fm, .int sg t1, .str x t2] (Pair false 0 news) :=
  read_decimal_ok w news fm 0 0 0 0 0 0 sg x t1 t2 nb nl _ _ 0 false false false false 0 hsz hE1 hdot (fun _ _ => ⟨hE2, hnn, Nat.le_of_lt hnl, hdg0⟩) rfl hee (fun _ _ _ _ => hre) (fun _ => rfl) rfl (fun _ => ⟨rfl, rfl⟩) (fun _ => ⟨rfl, rfl⟩) (fun _ _ => ⟨rfl, rfl⟩) (fun _ _ => ⟨rfl, rfl⟩) (fun _ _ h => by have := (h (by omega)).2; cases this)
theorem read_real_pos (w : World) (news : List (Addr × Obj)) (fm : Addr) (x : Str) (t2 : Tok) (b : Bool) (v : Int) (hsz : x.length ≤ 1000) (hN : (x == Str.ofString "NAN") = false) (hm : (Txt.slice x none (some 1) == Str.ofString "-") = false) (hI : (x == Str.ofString "INF") = false)
    (hrd : ∀ t t', Gives w 121 6 news [.ref fm, .int 0 t, .str x t'] (Pair b v news)) :
    Gives w 128 7 news [.ref fm, .str x t2] (Pair b v news) := by
  w_top off
  have kn : hd.heap_39 = hd.heap_39 ∧ PySem.Challenge.rw_pb0325_01 = PySem.Challenge.rw_pb0325_01 := (by k_fill; exact ⟨rfl, rfl⟩); clear kn
  unfold Gives
  intro mean mg mb dp un gd cn cs a ccd cl outer A₀ base h₀ L m s Q E B F X N T hk hd hu hret

  refine wpAny_call ?_
  k_dflt (refine' enter B F X N T hk hd ?eo ?ec ?eb ?el ?es ?ex ?_; (case eo => k_is); (case ec => k_is); (case eb => first | exact BindsTo.of_eq rfl | exact binds_K (by k_in) rfl (by k_is) rfl rfl rfl); (case ex => decide); (case el => exact locs rfl); (case es => exact ⟨rfl, rfl, rfl⟩); k_whole; intro g' L' h' FG' F' N' B' X' T'; (try dsimp only); (try k_lift B'); (try k_fold))
  k_with_none

  k_with "compareOp Eq int int" => (first | refine eqi_no (by omega) ?_ | refine eqi_yes (by omega) ?_)
  k_with "compareOp NotEq int int" => (first | refine nei_no (by omega) ?_ | refine nei_yes (by omega) ?_)
  k_with "compareOp NotEq str str" => (refine ne_known (by with_reducible assumption) ?_)
  k_with "compareOp Eq str str" => (refine eq_known (by with_reducible assumption) ?_)
  k_with "call ref" => ((k_dflt (refine' Gives.use (hrd _ _ ) ?k1 ?k2 ?k3 ?k4 ?k5 ?kK ?kd ?ku ?_; (case k1 => k_asm); (case k2 => k_asm); (case k3 => k_asm); (case k4 => k_asm); (case k5 => k_asm); (case kK => first | exact rfl | assumption); (case kd => ktr_room); (case ku => ktr_units)); intro r' n' h' tk' F' N' o'; (try k_sweep); (try dsimp only); (try k_fold)); (obtain ⟨D0, tk0, e1, e2, hlt0⟩ := o'); subst e1; subst e2; (try dsimp only); (try k_fold))
  k_steps
  all_goals exact retT hret (by k_asm) (by k_asm) (fun _ h => h) (by assumption) rfl
theorem read_real_neg (w : World) (news : List (Addr × Obj)) (fm : Addr) (x : Str) (t2 : Tok) (b : Bool) (v : Int) (hsz : x.length ≤ 1000) (hN : (x == Str.ofString "NAN") = false) (hm : (Txt.slice x none (some 1) == Str.ofString "-") = true) (hI : (Txt.slice x (some 1) none == Str.ofString "INF") = false)
    (hrd : ∀ t t', Gives w 121 6 news [.ref fm, .int 1 t, .str (Txt.slice x (some 1) none) t'] (Pair b v news)) :
    Gives w 128 7 news [.ref fm, .str x t2] (Pair b v news) := by
  w_top off
  have kn : hd.heap_39 = hd.heap_39 ∧ PySem.Challenge.rw_pb0325_01 = PySem.Challenge.rw_pb0325_01 := (by k_fill; exact ⟨rfl, rfl⟩); clear kn
  unfold Gives
  intro mean mg mb dp un gd cn cs a ccd cl outer A₀ base h₀ L m s Q E B F X N T hk hd hu hret

  refine wpAny_call ?_
  k_dflt (refine' enter B F X N T hk hd ?eo ?ec ?eb ?el ?es ?ex ?_; (case eo => k_is); (case ec => k_is); (case eb => first | exact BindsTo.of_eq rfl | exact binds_K (by k_in) rfl (by k_is) rfl rfl rfl); (case ex => decide); (case el => exact locs rfl); (case es => exact ⟨rfl, rfl, rfl⟩); k_whole; intro g' L' h' FG' F' N' B' X' T'; (try dsimp only); (try k_lift B'); (try k_fold))
  k_with_none

  k_with "compareOp Eq int int" => (first | refine eqi_no (by omega) ?_ | refine eqi_yes (by omega) ?_)
  k_with "compareOp NotEq int int" => (first | refine nei_no (by omega) ?_ | refine nei_yes (by omega) ?_)
  k_with "compareOp NotEq str str" => (refine ne_known (by with_reducible assumption) ?_)
  k_with "compareOp Eq str str" => (refine eq_known (by with_reducible assumption) ?_)
  k_with "call ref" => ((k_dflt (refine' Gives.use (hrd _ _ ) ?k1 ?k2 ?k3 ?k4 ?k5 ?kK ?kd ?ku ?_; (case k1 => k_asm); (case k2 => k_asm); (case k3 => k_asm); (case k4 => k_asm); (case k5 => k_asm); (case kK => first | exact rfl | assumption); (case kd => ktr_room); (case ku => ktr_units)); intro r' n' h' tk' F' N' o'; (try k_sweep); (try dsimp only); (try k_fold)); (obtain ⟨D0, tk0, e1, e2, hlt0⟩ := o'); subst e1; subst e2; (try dsimp only); (try k_fold))
  k_steps
  all_goals exact retT hret (by k_asm) (by k_asm) (fun _ h => h) (by assumption) rfl
section
local macro_rules | `(tactic| k_all) => `(tactic| assumption)
noncomputable abbrev poolO (ce : Addr) (spot val : Int) (t1 t2 : Tok) (n : Nat) : Obj := ⟨.type "list", none, .seq #[.ref ce, .int spot t1, .int val t2] n, #[]⟩
noncomputable abbrev cellsO (vs : List Value) (n : Nat) : Obj := ⟨.type "list", none, .seq vs.toArray n, #[]⟩
/-- ways through a statement that meet again, over a ledger that it may turn; a return leaves -/
def JlPost {σ : Type} (h₀ : Heap) (L : Addr) (s : Shared) (Led : σ → List (Addr × Obj)) (ps : σ → List (Str × Value)) (stored : List Str) (m₀ : Str → Option Value) (P : σ → Prop) (Q : Flow → Shared → Prop) (f : Flow) (s₂ : Shared) : Prop :=
  match f with
  | .next => ∃ c h' tk m' news', s₂ = { s with heap := h', toks := tk } ∧ Fr h₀ L h' m' ∧ News h₀ L h' news' ∧ (∀ p ∈ Led c, p ∈ news') ∧ (∀ p ∈ ps c, m' p.1 = some p.2) ∧ (∀ z, (∀ p ∈ ps c, z ≠ p.1) → stored.contains z = false → m' z = m₀ z) ∧ P c
  | f => Q f s₂
section
variable {σ : Type} {h₀ : Heap} {L : Addr} {s s₂ : Shared} {Led : σ → List (Addr × Obj)} {ps : σ → List (Str × Value)} {stored : List Str} {m₀ m' : Str → Option Value} {P : σ → Prop} {Q : Flow → Shared → Prop} {h' : Heap} {tk : Nat} {news news' : List (Addr × Obj)} {v : Value}
theorem jl_ret (h : Q (.ret v) s₂) : JlPost h₀ L s Led ps stored m₀ P Q (.ret v) s₂ := h
theorem jl_next (c : σ) (F : Fr h₀ L h' m') (N : News h₀ L h' news') (hn : ∀ p ∈ Led c, p ∈ news') (hk : ∀ p ∈ ps c, m' p.1 = some p.2) (hr : ∀ z, (∀ p ∈ ps c, z ≠ p.1) → stored.contains z = false → m' z = m₀ z) (hp : P c) :
    JlPost h₀ L s Led ps stored m₀ P Q .next { s with heap := h', toks := tk } := ⟨c, h', tk, m', news', rfl, F, N, hn, hk, hr, hp⟩
theorem jl_exec {M : Model} {A : Around} {E : Value → Shared → Prop} {T : Sem Flow} (Led : σ → List (Addr × Obj)) (ps : σ → List (Str × Value)) (stored : List Str) (P : σ → Prop)
    (F : Fr h₀ L s.heap m₀) (h : wpAny M A T (JlPost h₀ L s Led ps stored m₀ P Q) E s)
    (k : ∀ c (u : Str → Option Value) h' tk, P c → Fr h₀ L h' (kstB (fun z => if stored.contains z then u z else m₀ z) (ps c)) → News h₀ L h' (Led c) → Q .next { s with heap := h', toks := tk }) : wpAny M A T Q E s := by
  refine wpAny_mono h (fun f s₂ q => ?_) fun _ _ e => e
  cases f with
  | next =>
    obtain ⟨c, h', tk, m', news', rfl, F', N', hn, hk, hr, hp⟩ := q
    exact k c m' h' tk hp (ksw_fr hk hr F') fun p hq => N' p (hn p hq)
  | ret v => exact q
  | brk => exact q
  | cont => exact q
/-- the same, over the ledger as it stands -/
theorem jl_execN {M : Model} {A : Around} {E : Value → Shared → Prop} {T : Sem Flow} (stored : List Str) (F : Fr h₀ L s.heap m₀) (N : News h₀ L s.heap news)
    (h : wpAny M A T (JlPost (σ := Unit) h₀ L s (fun _ => news) (fun _ => []) stored m₀ (fun _ => True) Q) E s)
    (k : ∀ (u : Str → Option Value) h' tk, Fr h₀ L h' (fun z => if stored.contains z then u z else m₀ z) → News h₀ L h' news → Q .next { s with heap := h', toks := tk }) : wpAny M A T Q E s :=
  jl_exec (σ := Unit) _ _ stored _ F h fun _ u h' tk _ F' N' => k u h' tk F' N'
end
/-- a draw: what comes back, and the pool behind it -/
def LdOut (pl ce : Addr) (vs : List Value) (nc : Nat) (rest : List (Addr × Obj)) (spot most : Int) (r : Value) (news' : List (Addr × Obj)) : Prop :=
  ∃ v spot' val' tr ta tb n', r = .int v tr ∧ 0 ≤ v ∧ v < most ∧ spot ≤ spot' ∧ spot' ≤ spot + 1 ∧ 0 ≤ val' ∧ news' = (pl, poolO ce spot' val' ta tb n') :: (ce, cellsO vs nc) :: rest
theorem news_sub {h₀ h : Heap} {L : Addr} {a b : List (Addr × Obj)} (N : News h₀ L h a) (hs : ∀ p ∈ b, p ∈ a) : News h₀ L h b := fun p hp => N p (hs p hp)
theorem ld_end {h₀ h' : Heap} {L : Addr} {m : Str → Option Value} {pl ce : Addr} {vs : List Value} {nc : Nat} {rest rest2 : List (Addr × Obj)} {spot most v spot' val' : Int} {tr ta tb : Tok} {n' : Nat} {s : Shared} {Q : Value → Shared → Prop} {tk' : Nat}
    (hret : ∀ r news' h' tk', Fr h₀ L h' m → News h₀ L h' news' → LdOut pl ce vs nc rest spot most r news' → Q r { s with heap := h', toks := tk' })
    (F : Fr h₀ L h' m) (N : News h₀ L h' rest2) (hsub : ∀ p ∈ (pl, poolO ce spot' val' ta tb n') :: (ce, cellsO vs nc) :: rest, p ∈ rest2) (h0 : 0 ≤ v) (h1 : v < most) (h2 : spot ≤ spot') (h3 : spot' ≤ spot + 1) (h4 : 0 ≤ val') :
    Q (.int v tr) { s with heap := h', toks := tk' } :=
  hret _ _ _ _ F (news_sub N hsub) ⟨v, spot', val', tr, ta, tb, n', rfl, h0, h1, h2, h3, h4, rfl⟩
theorem fm0 {a b : Int} (h : 0 < b) : 0 ≤ a.fmod b := by rw [Int.fmod_eq_emod_of_nonneg _ (Int.le_of_lt h)]; exact Int.emod_nonneg _ (Int.ne_of_gt h)
theorem fm1 {a b : Int} (h : 0 < b) : a.fmod b < b := by rw [Int.fmod_eq_emod_of_nonneg _ (Int.le_of_lt h)]; exact Int.emod_lt_of_pos _ h
theorem fd0 {a b : Int} (h0 : 0 ≤ a) (h : 0 < b) : 0 ≤ a.fdiv b := by rw [Int.fdiv_eq_ediv_of_nonneg _ (Int.le_of_lt h)]; exact Int.ediv_nonneg h0 (Int.le_of_lt h)
def LdP (spot : Int) (c : (Int × Int) × (Tok × Tok × Nat)) : Prop := spot ≤ c.1.1 ∧ c.1.1 ≤ spot + 1 ∧ 0 ≤ c.1.2
theorem ldp {spot a b : Int} {t : Tok × Tok × Nat} (h1 : spot ≤ a) (h2 : a ≤ spot + 1) (h3 : 0 ≤ b) : LdP spot ((a, b), t) := ⟨h1, h2, h3⟩
theorem law_digit_raw (w : World) (rest : List (Addr × Obj)) (pl ce : Addr) (vs : List Value) (ns : List Int) (spot val most : Int) (t1 t2 t3 : Tok) (n nc : Nat) (hi : IntsAre vs ns) (hn0 : 0 < ns.length) (hn1 : ns.length ≤ 64) (hs0 : 0 ≤ spot) (hs1 : spot ≤ 1000000) (hv0 : 0 ≤ val) (hm0 : 0 < most) (hm1 : most ≤ 1000) (hne : ce ≠ pl) (hrest : ∀ p ∈ rest, p.1 ≠ pl) :
    Gives w 135 1 ((pl, poolO ce spot val t1 t2 n) :: (ce, cellsO vs nc) :: rest) [.ref pl, .int most t3] (LdOut pl ce vs nc rest spot most) := by
  w_top off
  have kn : hd.heap_39 = hd.heap_39 ∧ PySem.Challenge.rw_pb0325_01 = PySem.Challenge.rw_pb0325_01 := (by k_fill; exact ⟨rfl, rfl⟩); clear kn
  unfold Gives
  intro mean mg mb dp un gd cn cs a ccd cl outer A₀ base h₀ L m s Q E B F X N T hk hd hu hret

  refine wpAny_call ?_
  k_dflt (refine' enter B F X N T hk hd ?eo ?ec ?eb ?el ?es ?ex ?_; (case eo => k_is); (case ec => k_is); (case eb => first | exact BindsTo.of_eq rfl | exact binds_K (by k_in) rfl (by k_is) rfl rfl rfl); (case ex => decide); (case el => exact locs rfl); (case es => exact ⟨rfl, rfl, rfl⟩); k_whole; intro g' L' h' FG' F' N' B' X' T'; (try dsimp only); (try k_lift B'); (try k_fold))
  k_with_none

  have hJ : JMark := ⟨trivial⟩
  k_with "exec If" => k_dflt (
      rename JMark => hj
      clear hj
      rename Fr _ _ _ _ => lF'
      with_unfolding_all refine jl_exec (σ := (Int × Int) × (Tok × Tok × Nat)) (fun c => (pl, poolO ce c.1.1 c.1.2 c.2.1 c.2.2.1 c.2.2.2) :: (ce, cellsO vs nc) :: rest) (fun _ => []) [Str.ofString "cells", Str.ofString "spot", Str.ofString "cell", Str.ofString "small"] (LdP spot) lF' ?_ ?_
      rotate_left 1
      clear lF'
      intro kC kU kH kTk kP kFr kNews
      obtain ⟨⟨sp1, vl1⟩, ⟨ta1, tb1, nn1⟩⟩ := kC
      have hsp1 : spot ≤ sp1 := kP.1
      have hsp2 : sp1 ≤ spot + 1 := kP.2.1
      have hvl1 : 0 ≤ vl1 := kP.2.2
      clear kP
      dsimp only at *
      (try k_fold)
      rotate_left 1)
  k_with "JlPost" => k_dflt (first
    | exact jl_next ((_, _), (_, _, _)) (by assumption) (by assumption) (by exact fun _ h => h) (by intro p hp; exact absurd hp List.not_mem_nil) (by intro z _ h3; simp only [List.contains_cons, List.contains_nil, Bool.or_false, Bool.or_eq_false_iff, beq_eq_false_iff_ne, ne_eq] at h3; simp [h3]) (ldp (by first | exact Int.le_refl _ | exact Int.le_add_of_nonneg_right (by decide)) (by first | exact Int.le_refl _ | exact Int.le_add_of_nonneg_right (by decide)) (by assumption))
    | exact jl_next ((_, _), (_, _, _)) (by assumption) (by assumption) (by exact fun _ h => h) (by intro p hp; exact absurd hp List.not_mem_nil) (by intro z _ h3; simp only [List.contains_cons, List.contains_nil, Bool.or_false, Bool.or_eq_false_iff, beq_eq_false_iff_ne, ne_eq] at h3; simp [h3]) (ldp (by first | exact Int.le_refl _ | exact Int.le_add_of_nonneg_right (by decide)) (by first | exact Int.le_refl _ | exact Int.le_add_of_nonneg_right (by decide)) (fm0 (by decide)))
    | exact jl_next ((_, _), (_, _, _)) (by assumption) (by assumption) (by exact fun _ h => List.mem_cons_of_mem _ h) (by intro p hp; exact absurd hp List.not_mem_nil) (by intro z _ h3; simp only [List.contains_cons, List.contains_nil, Bool.or_false, Bool.or_eq_false_iff, beq_eq_false_iff_ne, ne_eq] at h3; simp [h3]) (ldp (by first | exact Int.le_refl _ | exact Int.le_add_of_nonneg_right (by decide)) (by first | exact Int.le_refl _ | exact Int.le_add_of_nonneg_right (by decide)) (by assumption))
    | exact jl_next ((_, _), (_, _, _)) (by assumption) (by assumption) (by exact fun _ h => List.mem_cons_of_mem _ h) (by intro p hp; exact absurd hp List.not_mem_nil) (by intro z _ h3; simp only [List.contains_cons, List.contains_nil, Bool.or_false, Bool.or_eq_false_iff, beq_eq_false_iff_ne, ne_eq] at h3; simp [h3]) (ldp (by first | exact Int.le_refl _ | exact Int.le_add_of_nonneg_right (by decide)) (by first | exact Int.le_refl _ | exact Int.le_add_of_nonneg_right (by decide)) (fm0 (by decide))))
  k_steps
  all_goals first
    | exact ld_end hret (by k_asm) (by k_asm) (fun p hp => hp) (fm0 hm0) (fm1 hm0) hsp1 hsp2 (fd0 hvl1 hm0)
    | exact ld_end hret (by k_asm) (by k_asm) (fun p hp => List.mem_cons_of_mem _ hp) (fm0 hm0) (fm1 hm0) (by omega) (by omega) (fd0 (fm0 (by decide)) hm0)
    | exact ld_end hret (by k_asm) (by k_asm) (fun p hp => hp) (fm0 hm0) (fm1 hm0) (by omega) (by omega) (fd0 hv0 hm0)
/-- a draw over any ledger -/
def LdRes (ce : Addr) (g : Obj → List (Addr × Obj)) (spot most : Int) (r : Value) (news' : List (Addr × Obj)) : Prop :=
  ∃ v spot' val' tr ta tb n', r = .int v tr ∧ 0 ≤ v ∧ v < most ∧ spot ≤ spot' ∧ spot' ≤ spot + 1 ∧ 0 ≤ val' ∧ news' = g (poolO ce spot' val' ta tb n')
theorem law_digit_ok (w : World) (news : List (Addr × Obj)) (g : Obj → List (Addr × Obj)) (pl ce : Addr) (vs : List Value) (ns : List Int) (spot val most : Int) (t1 t2 t3 : Tok) (n nc : Nat) (hU : UpdF pl (poolO ce spot val t1 t2 n) news g) (hc : (ce, cellsO vs nc) ∈ news) (hi : IntsAre vs ns) (hn0 : 0 < ns.length) (hn1 : ns.length ≤ 64) (hs0 : 0 ≤ spot) (hs1 : spot ≤ 1000000) (hv0 : 0 ≤ val) (hm0 : 0 < most) (hm1 : most ≤ 1000) (hne : ce ≠ pl) :
    Gives w 135 1 news [.ref pl, .int most t3] (LdRes ce g spot most) := by
  unfold Gives
  intro mean mg mb dp un gd cn cs a ccd cl outer A₀ base h₀ L m s Q E B F X N T hk hd hu hret
  obtain ⟨pre, post, e1, e2, h1, h2⟩ := hU.split
  have N1 : News h₀ L s.heap ((pl, poolO ce spot val t1 t2 n) :: (ce, cellsO vs nc) :: (pre ++ post)) := news_sub N fun p hp => by
    rcases List.mem_cons.mp hp with rfl | hp
    · rw [e1]; simp
    rcases List.mem_cons.mp hp with rfl | hp
    · exact hc
    · rw [e1]; rcases List.mem_append.mp hp with h | h <;> simp [h]
  refine law_digit_raw w (pre ++ post) pl ce vs ns spot val most t1 t2 t3 n nc hi hn0 hn1 hs0 hs1 hv0 hm0 hm1 hne (fun p hp => (List.mem_append.mp hp).elim (h1 p) (h2 p)) _ _ _ _ _ _ _ _ _ _ _ _ _ _ _ _ _ _ _ _ B F X N1 T hk hd hu ?_
  rintro r news' h' tk' F' N' ⟨v, spot', val', tr, ta, tb, n', rfl, a1, a2, a3, a4, a5, rfl⟩
  refine hret _ (g (poolO ce spot' val' ta tb n')) h' tk' F' (news_sub N' fun p hp => ?_) ⟨v, spot', val', tr, ta, tb, n', rfl, a1, a2, a3, a4, a5, rfl⟩
  rw [e2] at hp
  rcases List.mem_append.mp hp with h | h
  · simp [h]
  rcases List.mem_cons.mp h with rfl | h
  · simp
  · simp [h]
theorem pool_lift {w : World} {f : Addr} {D : Nat} {args : List Value} {news : List (Addr × Obj)} {g : Obj → List (Addr × Obj)} {pl ce : Addr} {o co : Obj} {R : Value → Obj → Prop}
    (canon : ∀ rest, (∀ p ∈ rest, p.1 ≠ pl) → Gives w f D ((pl, o) :: (ce, co) :: rest) args (fun r news' => ∃ o', R r o' ∧ news' = (pl, o') :: (ce, co) :: rest))
    (hU : UpdF pl o news g) (hc : (ce, co) ∈ news) : Gives w f D news args (fun r news' => ∃ o', R r o' ∧ news' = g o') := by
  unfold Gives
  intro mean mg mb dp un gd cn cs a ccd cl outer A₀ base h₀ L m s Q E B F X N T hk hd hu hret
  obtain ⟨pre, post, e1, e2, h1, h2⟩ := hU.split
  have N1 : News h₀ L s.heap ((pl, o) :: (ce, co) :: (pre ++ post)) := news_sub N fun p hp => by
    rcases List.mem_cons.mp hp with rfl | hp
    · rw [e1]; simp
    rcases List.mem_cons.mp hp with rfl | hp
    · exact hc
    · rw [e1]; rcases List.mem_append.mp hp with h | h <;> simp [h]
  refine canon (pre ++ post) (fun p hp => (List.mem_append.mp hp).elim (h1 p) (h2 p)) _ _ _ _ _ _ _ _ _ _ _ _ _ _ _ _ _ _ _ _ B F X N1 T hk hd hu ?_
  rintro r news' h' tk' F' N' ⟨o', hr, rfl⟩
  refine hret _ (g o') h' tk' F' (news_sub N' fun p hp => ?_) ⟨o', hr, rfl⟩
  rw [e2] at hp
  rcases List.mem_append.mp hp with h | h
  · simp [h]
  rcases List.mem_cons.mp h with rfl | h
  · simp
  · simp [h]
/-- the figures' word: digits, as many as turns -/
def FigW (spot0 : Int) (pre : List Int) (row : Str) (spot val : Int) : Prop :=
  (∀ c ∈ row.cps.toList, isD c = true) ∧ row.length = pre.length ∧ spot0 ≤ spot ∧ spot ≤ spot0 + 1 + pre.length ∧ 0 ≤ val
theorem off_ne {own rest : List (Addr × Obj)} {pl ce : Addr} {o co : Obj} (hrest : ∀ p ∈ rest, p.1 ≠ pl) (hne : ce ≠ pl) (h : OwnOff own (((pl, o) :: (ce, co) :: rest).map (·.1))) : ∀ p ∈ (ce, co) :: (rest ++ own), p.1 ≠ pl := by
  intro p hp
  rcases List.mem_cons.mp hp with rfl | hp
  · exact hne
  rcases List.mem_append.mp hp with hp | hp
  · exact hrest p hp
  · exact h p hp pl (by simp)
theorem FigW.start {spot0 spot val : Int} (h1 : spot0 ≤ spot) (h2 : spot ≤ spot0 + 1) (h3 : 0 ≤ val) : FigW spot0 [] (Str.ofString "") spot val := by
  refine ⟨by decide +kernel, by decide +kernel, h1, ?_, h3⟩
  simp only [List.length_nil]; omega
theorem digs_item {v : Int} (h0 : 0 ≤ v) (h1 : v < 10) : ∃ c, Txt.item (Str.ofString "0123456789") v = ⟨#[c]⟩ ∧ isD c = true := by
  have hl : (Str.ofString "0123456789").length = 10 := by decide +kernel
  obtain ⟨c, hc, e⟩ := item_code (x := Str.ofString "0123456789") h0 (by rw [hl]; omega)
  refine ⟨c, e, ?_⟩
  have := List.mem_of_getElem? hc
  have h2 := isD_mem c
  rw [decide_eq_true this] at h2
  exact h2.symm
theorem FigW.step {spot0 kN : Int} {pre : List Int} {row : Str} {sp vl sp' vl' v : Int} (h : FigW spot0 pre row sp vl) (h0 : 0 ≤ v) (h1 : v < 10) (h2 : sp ≤ sp') (h3 : sp' ≤ sp + 1) (h4 : 0 ≤ vl') : FigW spot0 (pre ++ [kN]) (row ++ Txt.item (Str.ofString "0123456789") v) sp' vl' := by
  obtain ⟨a1, a2, a3, a4, a5⟩ := h
  obtain ⟨c, e, hc⟩ := digs_item h0 h1
  rw [e]
  refine ⟨?_, ?_, by omega, ?_, h4⟩
  · rw [Str.cps_append, Array.toList_append]
    intro d hd
    rcases List.mem_append.mp hd with hd | hd
    · exact a1 d hd
    · have : d = c := by simpa using hd
      rw [this]; exact hc
  · rw [PySem.strLen_append, a2, List.length_append]; rfl
  · rw [List.length_append]; simp only [List.length_cons, List.length_nil]; omega
/-- what the figures hand back -/
def FigR (ce : Addr) (spot least : Int) (r : Value) (o' : Obj) : Prop :=
  ∃ row t sp vl ta tb nn, r = .str row t ∧ (∀ c ∈ row.cps.toList, isD c = true) ∧ least ≤ row.length ∧ (row.length : Int) ≤ least + 8 ∧ spot ≤ sp ∧ sp ≤ spot + 30 ∧ 0 ≤ vl ∧ o' = poolO ce sp vl ta tb nn
theorem FigW.done {spot0 least v sp vl : Int} {row : Str} {ce : Addr} {t ta tb : Tok} {nn : Nat} (h : FigW spot0 (rangeKs 0 (least + v - 0).toNat) row sp vl) (h0 : 0 ≤ least) (h1 : least ≤ 10) (h2 : 0 ≤ v) (h3 : v < 9) : FigR ce spot0 least (.str row t) (poolO ce sp vl ta tb nn) := by
  obtain ⟨a1, a2, a3, a4, a5⟩ := h
  rw [rangeKs_length] at a2 a4
  exact ⟨row, t, sp, vl, ta, tb, nn, rfl, a1, by omega, by omega, a3, by omega, a5, rfl⟩
theorem nine_le0 : (900000 : Int) ≤ 1000000 := by decide
theorem law_figures_raw (w : World) (rest : List (Addr × Obj)) (pl ce : Addr) (vs : List Value) (ns : List Int) (spot val least : Int) (t1 t2 t3 : Tok) (n nc : Nat) (hi : IntsAre vs ns) (hn0 : 0 < ns.length) (hn1 : ns.length ≤ 64) (hs0 : 0 ≤ spot) (hs1 : spot ≤ 900000) (hv0 : 0 ≤ val) (hm0 : 0 ≤ least) (hm1 : least ≤ 10) (hne : ce ≠ pl) (hrest : ∀ p ∈ rest, p.1 ≠ pl) :
    Gives w 156 2 ((pl, poolO ce spot val t1 t2 n) :: (ce, cellsO vs nc) :: rest) [.ref pl, .int least t3] (fun r news' => ∃ o', FigR ce spot least r o' ∧ news' = (pl, o') :: (ce, cellsO vs nc) :: rest) := by
  w_top off
  have kn : hd.heap_39 = hd.heap_39 ∧ PySem.Challenge.rw_pb0325_01 = PySem.Challenge.rw_pb0325_01 := (by k_fill; exact ⟨rfl, rfl⟩); clear kn
  unfold Gives
  intro mean mg mb dp un gd cn cs a ccd cl outer A₀ base h₀ L m s Q E B F X N T hk hd hu hret

  refine wpAny_call ?_
  k_dflt (refine' enter B F X N T hk hd ?eo ?ec ?eb ?el ?es ?ex ?_; (case eo => k_is); (case ec => k_is); (case eb => first | exact BindsTo.of_eq rfl | exact binds_K (by k_in) rfl (by k_is) rfl rfl rfl); (case ex => decide); (case el => exact locs rfl); (case es => exact ⟨rfl, rfl, rfl⟩); k_whole; intro g' L' h' FG' F' N' B' X' T'; (try dsimp only); (try k_lift B'); (try k_fold))
  k_with_none

  k_with "call ref" => ((k_dflt (refine' Gives.use (law_digit_ok _ _ _ _ _ _ _ _ _ _ _ _ _ _ _ ?x1 ?x2 ?x3 ?x4 ?x5 ?x6 ?x7 ?x8 ?x9 ?x10 ?x11) ?k1 ?k2 ?k3 ?k4 ?k5 ?kK ?kd ?ku ?_; (case k1 => k_asm); (case k2 => k_asm); (case k3 => k_asm); (case k4 => k_asm); (case k5 => k_asm); (case kK => first | exact rfl | assumption); (case kd => ktr_room); (case ku => ktr_units); (case x1 => (refine' UpdF.head ?ua; (case ua => first | (intro p hp; rcases List.mem_cons.mp hp with rfl | hp; exact hne; exact hrest p hp) | exact off_ne hrest hne kOff))); (case x2 => (first | exact List.Mem.head _ | assumption | (refine List.mem_cons_of_mem _ ?_; (first | exact List.Mem.head _ | assumption | (refine List.mem_cons_of_mem _ ?_; (first | exact List.Mem.head _ | assumption | (refine List.mem_cons_of_mem _ ?_; (first | exact List.Mem.head _ | assumption | (refine List.mem_cons_of_mem _ ?_; (first | exact List.Mem.head _ | assumption | (refine List.mem_cons_of_mem _ ?_; (first | exact List.Mem.head _ | assumption | (refine List.mem_cons_of_mem _ ?_; (first | exact List.Mem.head _ | assumption | (refine List.mem_cons_of_mem _ ?_; (first | exact List.Mem.head _ | assumption | (refine List.mem_cons_of_mem _ ?_; (first | exact List.Mem.head _ | assumption | (refine List.mem_cons_of_mem _ ?_; (first | exact List.Mem.head _ | assumption)))))))))))))))))))); (case x3 => exact hi); (case x4 => exact hn0); (case x5 => exact hn1); (case x6 => (first | exact hs0 | exact Int.le_trans hs0 hw2 | omega)); (case x7 => (first | exact Int.le_trans hs1 nine_le0 | omega)); (case x8 => (first | exact hv0 | exact hw4 | omega)); (case x9 => decide); (case x10 => decide); (case x11 => exact hne)); intro r' n' h' tk' F' N' o'; (try k_sweep); (try dsimp only); (try k_fold)); (obtain ⟨v, spot', val', tr, ta, tb, n', e1, a1, a2, a3, a4, a5, e2⟩ := o'); subst e1; subst e2; (try dsimp only at N'); (try dsimp only); (try k_fold))
  k_with "pyIter ref" =>
    k_dflt (
      rename Fr _ _ _ _ => lF'
      rename News _ _ _ _ => lN'
      rename IsRange _ _ _ _ _ _ _ _ => rgX
      with_unfolding_all refine' kst_range (σ := Str × Tok × Int × Int × Tok × Tok × Nat) (fun c => (pl, poolO ce c.2.2.1 c.2.2.2.1 c.2.2.2.2.1 c.2.2.2.2.2.1 c.2.2.2.2.2.2) :: (ce, cellsO vs nc) :: rest) (fun c => [(Str.ofString "row", .str c.1 c.2.1)]) (fun _ => True) [] (fun pre c => FigW spot pre c.1 c.2.2.1 c.2.2.2.1) (_, _, spot', val', ta, tb, n') (by rfl) rgX ?ksm (by first | exact rangeSize_nat _ _ | rfl) lF' ?kn ?kf ?kk ?kp ?_ ?_
      case ksm => exact small_one (by omega) (by omega) (by omega) (by omega)
      case kn => with_unfolding_all exact lN'
      case kf => trivial
      case kk => kst_all
      case kp => exact FigW.start (by assumption) (by assumption) (by assumption)
      all_goals (try clear lF' lN')
      focus
        intro kC kPre kN kT kU kH kTk kOwn kEq kLt kOff kFacts kInv kFr kNews
        obtain ⟨row, trow, sp, vl, ta, tb, nn⟩ := kC
        have hW : FigW spot kPre row sp vl := kInv
        clear kFacts kInv
        have hw1 := hW.2.1
        have hw2 := hW.2.2.1
        have hw3 := hW.2.2.2.1
        have hw4 := hW.2.2.2.2
        dsimp only at *
        try k_fold
      rotate_left
      focus
        intro kC kU kH kTk kFacts kInv kFr kNews
        obtain ⟨row, trow, sp, vl, ta, tb, nn⟩ := kC
        have hW := kInv
        dsimp only at *
        try k_fold
      rotate_left)
  k_with "InvEndN" => k_dflt (exact kst_end (_, _, spot', val', ta, tb, n') (by assumption) (by assumption) (fun p hp => List.mem_append_left _ hp) (fun p hp => List.mem_append_right _ hp) rfl trivial (by kst_all) (by (intro z he hz hc; (try simp at hz); (try simp at hc); first | (simp [kstB, he, hz]; done) | (simp [kstB, he, hz, hc]; done))) (FigW.step hW (by assumption) (by assumption) (by assumption) (by assumption) (by assumption)))
  k_steps
  all_goals exact hret _ _ _ _ (by k_asm) (by k_asm) ⟨_, FigW.done (by assumption) (by assumption) (by assumption) (by assumption) (by assumption), rfl⟩
theorem law_figures_ok (w : World) (news : List (Addr × Obj)) (g : Obj → List (Addr × Obj)) (pl ce : Addr) (vs : List Value) (ns : List Int) (spot val least : Int) (t1 t2 t3 : Tok) (n nc : Nat) (hU : UpdF pl (poolO ce spot val t1 t2 n) news g) (hc : (ce, cellsO vs nc) ∈ news) (hi : IntsAre vs ns) (hn0 : 0 < ns.length) (hn1 : ns.length ≤ 64) (hs0 : 0 ≤ spot) (hs1 : spot ≤ 900000) (hv0 : 0 ≤ val) (hm0 : 0 ≤ least) (hm1 : least ≤ 10) (hne : ce ≠ pl) :
    Gives w 156 2 news [.ref pl, .int least t3] (fun r news' => ∃ o', FigR ce spot least r o' ∧ news' = g o') :=
  pool_lift (fun rest hrest => law_figures_raw w rest pl ce vs ns spot val least t1 t2 t3 n nc hi hn0 hn1 hs0 hs1 hv0 hm0 hm1 hne hrest) hU hc
/-- the nine ways of spoiling, over codes -/
def Spoil (b d l : List Nat) : Prop :=
  l = b ++ d ∨ l = b ++ 46 :: 46 :: d ∨ l = (b ++ 46 :: d) ++ [69] ∨ l = 45 :: 45 :: (b ++ 46 :: d) ∨ l = (b ++ 46 :: d) ++ [32] ∨ l = 46 :: d ∨ l = 43 :: (b ++ 46 :: d) ∨ l = b ++ 44 :: d ∨ l = (b ++ 46 :: d) ++ [101, 49]
theorem cat_list (x y : Str) : (x ++ y).cps.toList = x.cps.toList ++ y.cps.toList := by rw [Str.cps_append, Array.toList_append]
section
variable {x : Str} {b d : List Nat} (hx : x.cps.toList = b ++ 46 :: d) (hfi : Txt.find x (Str.ofString ".") = (b.length : Nat))
include hx hfi
theorem sp_a : (Txt.slice x none (some (Txt.find x (Str.ofString ".")))).cps.toList = b := by
  rw [hfi, slice_to (by omega)]
  show List.take _ _ = _
  rw [hx, Int.toNat_natCast]; simp
theorem sp_b : (Txt.slice x (some (Txt.find x (Str.ofString ".") + 1)) none).cps.toList = d := by
  have hl := len_list x
  rw [hx] at hl
  simp only [List.length_append, List.length_cons] at hl
  rw [hfi, slice_frm (by omega) (by omega)]
  show List.drop _ _ = _
  rw [hx, show ((b.length : Int) + 1).toNat = b.length + 1 by omega, List.drop_append]
  simp
theorem sp_c : (Txt.slice x (some (Txt.find x (Str.ofString "."))) none).cps.toList = 46 :: d := by
  have hl := len_list x
  rw [hx] at hl
  simp only [List.length_append, List.length_cons] at hl
  rw [hfi, slice_frm (by omega) (by omega)]
  show List.drop _ _ = _
  rw [hx, Int.toNat_natCast]; simp
theorem sp0 : Spoil b d (Txt.slice x none (some (Txt.find x (Str.ofString "."))) ++ Txt.slice x (some (Txt.find x (Str.ofString ".") + 1)) none).cps.toList := by
  rw [cat_list, sp_a hx hfi, sp_b hx hfi]; exact .inl rfl
theorem sp1 : Spoil b d (Txt.slice x none (some (Txt.find x (Str.ofString "."))) ++ Str.ofString "." ++ Txt.slice x (some (Txt.find x (Str.ofString "."))) none).cps.toList := by
  rw [cat_list, cat_list, sp_a hx hfi, sp_c hx hfi, show (Str.ofString ".").cps.toList = [46] by decide +kernel]; exact .inr (.inl (by simp))
theorem sp2 : Spoil b d (x ++ Str.ofString "E").cps.toList := by
  rw [cat_list, hx, show (Str.ofString "E").cps.toList = [69] by decide +kernel]; exact .inr (.inr (.inl rfl))
theorem sp3 : Spoil b d (Str.ofString "-" ++ Str.ofString "-" ++ x).cps.toList := by
  rw [cat_list, cat_list, hx, show (Str.ofString "-").cps.toList = [45] by decide +kernel]; exact .inr (.inr (.inr (.inl (by simp))))
theorem sp4 : Spoil b d (x ++ Str.ofString " ").cps.toList := by
  rw [cat_list, hx, show (Str.ofString " ").cps.toList = [32] by decide +kernel]; exact .inr (.inr (.inr (.inr (.inl rfl))))
theorem sp5 : Spoil b d (Txt.slice x (some (Txt.find x (Str.ofString "."))) none).cps.toList := by
  rw [sp_c hx hfi]; exact .inr (.inr (.inr (.inr (.inr (.inl rfl)))))
theorem sp6 : Spoil b d (Str.ofString "+" ++ x).cps.toList := by
  rw [cat_list, hx, show (Str.ofString "+").cps.toList = [43] by decide +kernel]; exact .inr (.inr (.inr (.inr (.inr (.inr (.inl rfl))))))
theorem sp7 : Spoil b d (Txt.slice x none (some (Txt.find x (Str.ofString "."))) ++ Str.ofString "," ++ Txt.slice x (some (Txt.find x (Str.ofString ".") + 1)) none).cps.toList := by
  rw [cat_list, cat_list, sp_a hx hfi, sp_b hx hfi, show (Str.ofString ",").cps.toList = [44] by decide +kernel]; exact .inr (.inr (.inr (.inr (.inr (.inr (.inr (.inl (by simp))))))))
theorem sp8 : Spoil b d (x ++ Str.ofString "e1").cps.toList := by
  rw [cat_list, hx, show (Str.ofString "e1").cps.toList = [101, 49] by decide +kernel]; exact .inr (.inr (.inr (.inr (.inr (.inr (.inr (.inr rfl)))))))
end
def SpoilR (ce : Addr) (spot : Int) (b d : List Nat) (r : Value) (o' : Obj) : Prop :=
  ∃ y t sp vl ta tb nn, r = .str y t ∧ Spoil b d y.cps.toList ∧ spot ≤ sp ∧ sp ≤ spot + 30 ∧ 0 ≤ vl ∧ o' = poolO ce sp vl ta tb nn
theorem SpoilR.mk {ce : Addr} {spot sp vl : Int} {b d : List Nat} {y : Str} {t ta tb : Tok} {nn : Nat} (h : Spoil b d y.cps.toList) (h1 : spot ≤ sp) (h2 : sp ≤ spot + 1) (h3 : 0 ≤ vl) : SpoilR ce spot b d (.str y t) (poolO ce sp vl ta tb nn) := ⟨y, t, sp, vl, ta, tb, nn, rfl, h, h1, by omega, h3, rfl⟩
theorem nine_le : (900000 : Int) ≤ 1000000 := by decide
theorem law_spoiled_raw (w : World) (rest : List (Addr × Obj)) (pl ce : Addr) (vs : List Value) (ns : List Int) (spot val : Int) (x : Str) (t1 t2 t3 : Tok) (n nc : Nat) (b d : List Nat) (hi : IntsAre vs ns) (hn0 : 0 < ns.length) (hn1 : ns.length ≤ 64) (hs0 : 0 ≤ spot) (hs1 : spot ≤ 900000) (hv0 : 0 ≤ val) (hsz : x.length ≤ 1000) (hx : x.cps.toList = b ++ 46 :: d) (hfi : Txt.find x (Str.ofString ".") = (b.length : Nat)) (hne : ce ≠ pl) (hrest : ∀ p ∈ rest, p.1 ≠ pl) :
    Gives w 163 2 ((pl, poolO ce spot val t1 t2 n) :: (ce, cellsO vs nc) :: rest) [.ref pl, .str x t3] (fun r news' => ∃ o', SpoilR ce spot b d r o' ∧ news' = (pl, o') :: (ce, cellsO vs nc) :: rest) := by
  w_top off
  have kn : hd.heap_39 = hd.heap_39 ∧ PySem.Challenge.rw_pb0325_01 = PySem.Challenge.rw_pb0325_01 := (by k_fill; exact ⟨rfl, rfl⟩); clear kn
  unfold Gives
  intro mean mg mb dp un gd cn cs a ccd cl outer A₀ base h₀ L m s Q E B F X N T hk hd hu hret

  refine wpAny_call ?_
  k_dflt (refine' enter B F X N T hk hd ?eo ?ec ?eb ?el ?es ?ex ?_; (case eo => k_is); (case ec => k_is); (case eb => first | exact BindsTo.of_eq rfl | exact binds_K (by k_in) rfl (by k_is) rfl rfl rfl); (case ex => decide); (case el => exact locs rfl); (case es => exact ⟨rfl, rfl, rfl⟩); k_whole; intro g' L' h' FG' F' N' B' X' T'; (try dsimp only); (try k_lift B'); (try k_fold))
  k_with_none

  k_with "call ref" => ((k_dflt (refine' Gives.use (law_digit_ok _ _ _ _ _ _ _ _ _ _ _ _ _ _ _ ?x1 ?x2 ?x3 ?x4 ?x5 ?x6 ?x7 ?x8 ?x9 ?x10 ?x11) ?k1 ?k2 ?k3 ?k4 ?k5 ?kK ?kd ?ku ?_; (case k1 => k_asm); (case k2 => k_asm); (case k3 => k_asm); (case k4 => k_asm); (case k5 => k_asm); (case kK => first | exact rfl | assumption); (case kd => ktr_room); (case ku => ktr_units); (case x1 => (refine' UpdF.head ?ua; (case ua => (intro p hp; rcases List.mem_cons.mp hp with rfl | hp; exact hne; exact hrest p hp)))); (case x2 => (first | exact List.Mem.head _ | assumption | (refine List.mem_cons_of_mem _ ?_; (first | exact List.Mem.head _ | assumption | (refine List.mem_cons_of_mem _ ?_; (first | exact List.Mem.head _ | assumption | (refine List.mem_cons_of_mem _ ?_; (first | exact List.Mem.head _ | assumption | (refine List.mem_cons_of_mem _ ?_; (first | exact List.Mem.head _ | assumption | (refine List.mem_cons_of_mem _ ?_; (first | exact List.Mem.head _ | assumption | (refine List.mem_cons_of_mem _ ?_; (first | exact List.Mem.head _ | assumption | (refine List.mem_cons_of_mem _ ?_; (first | exact List.Mem.head _ | assumption | (refine List.mem_cons_of_mem _ ?_; (first | exact List.Mem.head _ | assumption | (refine List.mem_cons_of_mem _ ?_; (first | exact List.Mem.head _ | assumption)))))))))))))))))))); (case x3 => exact hi); (case x4 => exact hn0); (case x5 => exact hn1); (case x6 => exact hs0); (case x7 => exact Int.le_trans hs1 nine_le); (case x8 => exact hv0); (case x9 => decide); (case x10 => decide); (case x11 => exact hne)); intro r' n' h' tk' F' N' o'; (try k_sweep); (try dsimp only); (try k_fold)); (obtain ⟨v, spot', val', tr, ta, tb, n', e1, a1, a2, a3, a4, a5, e2⟩ := o'); subst e1; subst e2; (try dsimp only at N'); (try dsimp only); (try k_fold))
  k_steps
  · exfalso; omega
  · exact hret _ _ _ _ (by k_asm) (by k_asm) ⟨_, SpoilR.mk (sp0 hx hfi) (by assumption) (by assumption) (by assumption), rfl⟩
  · exact hret _ _ _ _ (by k_asm) (by k_asm) ⟨_, SpoilR.mk (sp1 hx hfi) (by assumption) (by assumption) (by assumption), rfl⟩
  · exact hret _ _ _ _ (by k_asm) (by k_asm) ⟨_, SpoilR.mk (sp2 hx hfi) (by assumption) (by assumption) (by assumption), rfl⟩
  · exact hret _ _ _ _ (by k_asm) (by k_asm) ⟨_, SpoilR.mk (sp3 hx hfi) (by assumption) (by assumption) (by assumption), rfl⟩
  · exact hret _ _ _ _ (by k_asm) (by k_asm) ⟨_, SpoilR.mk (sp4 hx hfi) (by assumption) (by assumption) (by assumption), rfl⟩
  · exact hret _ _ _ _ (by k_asm) (by k_asm) ⟨_, SpoilR.mk (sp5 hx hfi) (by assumption) (by assumption) (by assumption), rfl⟩
  · exact hret _ _ _ _ (by k_asm) (by k_asm) ⟨_, SpoilR.mk (sp6 hx hfi) (by assumption) (by assumption) (by assumption), rfl⟩
  · exact hret _ _ _ _ (by k_asm) (by k_asm) ⟨_, SpoilR.mk (sp7 hx hfi) (by assumption) (by assumption) (by assumption), rfl⟩
  · exact hret _ _ _ _ (by k_asm) (by k_asm) ⟨_, SpoilR.mk (sp8 hx hfi) (by assumption) (by assumption) (by assumption), rfl⟩
theorem law_spoiled_ok (w : World) (news : List (Addr × Obj)) (g : Obj → List (Addr × Obj)) (pl ce : Addr) (vs : List Value) (ns : List Int) (spot val : Int) (x : Str) (t1 t2 t3 : Tok) (n nc : Nat) (b d : List Nat) (hU : UpdF pl (poolO ce spot val t1 t2 n) news g) (hc : (ce, cellsO vs nc) ∈ news) (hi : IntsAre vs ns) (hn0 : 0 < ns.length) (hn1 : ns.length ≤ 64) (hs0 : 0 ≤ spot) (hs1 : spot ≤ 900000) (hv0 : 0 ≤ val) (hsz : x.length ≤ 1000) (hx : x.cps.toList = b ++ 46 :: d) (hfi : Txt.find x (Str.ofString ".") = (b.length : Nat)) (hne : ce ≠ pl) :
    Gives w 163 2 news [.ref pl, .str x t3] (fun r news' => ∃ o', SpoilR ce spot b d r o' ∧ news' = g o') :=
  pool_lift (fun rest hrest => law_spoiled_raw w rest pl ce vs ns spot val x t1 t2 t3 n nc b d hi hn0 hn1 hs0 hs1 hv0 hsz hx hfi hne hrest) hU hc
end
noncomputable def un (fb size : Int) : Int := if size.fdiv (2 ^ fb.toNat) = 0 then size.fmod (2 ^ fb.toNat) else (2 ^ fb.toNat + size.fmod (2 ^ fb.toNat)) * 2 ^ (size.fdiv (2 ^ fb.toNat) - 1).toNat
theorem un_z {fb size : Int} (h : size.fdiv (2 ^ fb.toNat) = 0) : size.fmod (2 ^ fb.toNat) = un fb size := by unfold un; rw [if_pos h]
theorem un_p {fb size : Int} (h : size.fdiv (2 ^ fb.toNat) ≠ 0) : (2 ^ fb.toNat + size.fmod (2 ^ fb.toNat)) * 2 ^ (size.fdiv (2 ^ fb.toNat) - 1).toNat = un fb size := by unfold un; rw [if_neg h]
theorem Sm.pow2 {k : Nat} (h : k < 4000) : Sm (2 ^ k) := by
  refine ⟨Int.le_of_lt (pow2_pos k), ?_⟩
  have e : ((2 : Int) ^ k).toNat = 2 ^ k := by
    have : ((2 : Int) ^ k) = ((2 ^ k : Nat) : Int) := by simp
    rw [this, Int.toNat_natCast]
  rw [e, Nat.log2_two_pow]; exact h
theorem law_units_ok (w : World) (news : List (Addr × Obj)) (fm : Addr) (eb fb bi top hid lst size : Int) (t1 : Tok) (hf : FormIn w.params news fm eb fb bi top hid lst) (hfb0 : 0 ≤ fb) (hfb1 : fb ≤ 64) (hz0 : 0 ≤ size) (hz1 : size.fdiv (2 ^ fb.toNat) ≤ 300) :
    GivesV w 142 1 news [.ref fm, .int size t1] (fun t => .int (un fb size) t) := by
  w_top off
  have kn : hd.heap_39 = hd.heap_39 ∧ PySem.Challenge.rw_pb0325_01 = PySem.Challenge.rw_pb0325_01 := (by k_fill; exact ⟨rfl, rfl⟩); clear kn
  unfold GivesV
  intro mean mg mb dp un gd cn cs a ccd cl outer A₀ base h₀ L m s Q E B F X N T hk hd hu hret

  have hf' := hf
  obtain ⟨dx, u1, u2, u3, u4, u5, u6, k1, k2, k3, k4, k5, k6, hm1, hm2⟩ := hf'
  have hp := pow2_pos fb.toNat
  have hq0 := fd0 hz0 hp
  have hs1 : Sm (2 ^ (size.fdiv (2 ^ fb.toNat) - 1).toNat) := Sm.pow2 (by omega)
  have hs2 : Sm (2 ^ fb.toNat + size.fmod (2 ^ fb.toNat)) := (Sm.pow2 (k := fb.toNat + 1) (by omega)).of_le (by have := fm0 (a := size) hp; omega) (by have := fm1 (a := size) hp; rw [Int.pow_succ]; omega)
  refine wpAny_call ?_
  k_dflt (refine' enter B F X N T hk hd ?eo ?ec ?eb ?el ?es ?ex ?_; (case eo => k_is); (case ec => k_is); (case eb => first | exact BindsTo.of_eq rfl | exact binds_K (by k_in) rfl (by k_is) rfl rfl rfl); (case ex => decide); (case el => exact locs rfl); (case es => exact ⟨rfl, rfl, rfl⟩); k_whole; intro g' L' h' FG' F' N' B' X' T'; (try dsimp only); (try k_lift B'); (try k_fold))
  k_with_none

  k_with "binaryOp Mult int int" => (refine PyProof.Rows.mul_int ?_ (Sm.mulOk (by with_reducible assumption) (by with_reducible assumption)))
  k_steps
  · exact retI hret (by k_asm) (news_sub (by k_asm) fun p hp => List.mem_cons_of_mem _ hp) (un_z (by assumption))
  · exact retI hret (by k_asm) (news_sub (by k_asm) fun p hp => List.mem_cons_of_mem _ hp) (un_p (by assumption))
noncomputable def ab (v : Int) : Int := if v < 0 then -v else v
section
variable {prog : Program} {w : World} {A : Around} {E : Value → Shared → Prop} {s : Shared} {a b n v : Int} {t u : Tok} {Q : Value → Shared → Prop}
theorem abs_let (h : ∀ (x : Int) (tx : Tok) (k : Nat), x = ab v → Q (.int x tx) { s with toks := k }) : wpAny (model prog w) A (call (.builtin "abs") [.int v t]) Q E s :=
  PyProof.Rows.call_abs_int fun u tk => h _ u tk rfl
theorem pow_let (hn : 0 ≤ n) (hn2 : n ≤ 1000000) (ha : a.natAbs < 2 ^ 64) (hv : a ^ n.toNat = v) (h : Q (.int v s.toks) { s with toks := s.toks + 1 }) : wpAny (model prog w) A (binaryOp .Pow (.int a t) (.int n u)) Q E s :=
  PyProof.Rows.pow_int_small hn hn2 ha (by rw [hv]; exact h)
theorem two_small : (2 : Int).natAbs < 2 ^ 64 := by decide
theorem mul_let (hm : IntMulOk a b) (hv : a * b = v) (h : Q (.int v s.toks) { s with toks := s.toks + 1 }) : wpAny (model prog w) A (binaryOp .Mult (.int a t) (.int b u)) Q E s :=
  PyProof.Rows.mul_int (by rw [hv]; exact h) hm
end
theorem retB {h₀ h' : Heap} {L : Addr} {m : Str → Option Value} {news : List (Addr × Obj)} {s : Shared} {Q : Value → Shared → Prop} {tk' : Nat} {b : Bool} (hret : ∀ (t : Tok) (h' : Heap) (tk' : Nat), Fr h₀ L h' m → News h₀ L h' news → Q (.bool true) { s with heap := h', toks := tk' }) (F : Fr h₀ L h' m) (N : News h₀ L h' news) (e : b = true) : Q (.bool b) { s with heap := h', toks := tk' } := by
  subst e
  exact hret 0 h' tk' F N
/-- what the look at the neighbours asks, kept out of arithmetic's sight -/
structure NrOk (eb fb size over under pe pf lim aw : Int) : Prop where
  epe : (2 : Int) ^ eb.toNat = pe
  epf : (2 : Int) ^ fb.toNat = pf
  elim : (pe - 1) * pf = lim
  eaw : ab (un fb size * under - over) = aw
  pr : 0 ≤ size - 1 → aw ≤ ab (un fb (size - 1) * under - over) ∧ (ab (un fb (size - 1) * under - over) = aw → size.fmod 2 ≠ 1)
  nx : size + 1 ≤ lim → aw ≤ ab (un fb (size + 1) * under - over) ∧ (ab (un fb (size + 1) * under - over) = aw → size.fmod 2 ≠ 1)
  sm : ∀ s : Int, 0 ≤ s → s ≤ lim → Sm (un fb s)
  fd : ∀ s : Int, 0 ≤ s → s ≤ lim → s.fdiv (2 ^ fb.toNat) ≤ 300
theorem une {h₀ h' : Heap} {L I D : Addr} {o to : Obj} {m' : Str → Option Value} {news : List (Addr × Obj)} {s₁ : Shared} {tk : Nat} {rest : (Str → Option Value) → List (Addr × Obj) → Prop} (F : Fr h₀ L h' m') (N : News h₀ L h' ((I, o) :: (D, to) :: news)) (l1 : ∀ p ∈ (D, to) :: news, p.1 < I) (r : rest m' ((D, to) :: news)) :
    UnrEndW h₀ L s₁ [(I, o)] (fun m' n' => SubL [(D, to)] n' ∧ rest m' n') { s₁ with heap := h', toks := tk } :=
  ⟨h', tk, m', (D, to) :: news, rfl, F, N, (fun p hp q hq => by rw [List.mem_singleton.mp hq]; exact Nat.ne_of_lt (l1 p hp)), ⟨⟨List.mem_cons_self .., trivial⟩, r⟩⟩
theorem eight_le : (8 : Int) ≤ 1000000 := by decide
theorem sixty_le : (64 : Int) ≤ 1000000 := by decide
theorem law_nearest_ok (w : World) (news : List (Addr × Obj)) (fm : Addr) (eb fb bi top hid lst size over under : Int) (t1 t2 t3 : Tok) (pe pf lim aw : Int) (hf : FormIn w.params news fm eb fb bi top hid lst) (he0 : 0 ≤ eb) (he1 : eb ≤ 8) (hfb0 : 0 ≤ fb) (hfb1 : fb ≤ 64) (hz0 : 0 ≤ size) (hz1 : size ≤ lim) (hun : Sm under) (hN : NrOk eb fb size over under pe pf lim aw) :
    GivesV w 149 3 news [.ref fm, .int size t1, .int over t2, .int under t3] (fun t => .bool true) := by
  w_top off
  have kn : hd.heap_39 = hd.heap_39 ∧ PySem.Challenge.rw_pb0325_01 = PySem.Challenge.rw_pb0325_01 := (by k_fill; exact ⟨rfl, rfl⟩); clear kn
  unfold GivesV
  intro mean mg mb dp un gd cn cs a ccd cl outer A₀ base h₀ L m s Q E B F X N T hk hd hu hret

  have hf' := hf
  obtain ⟨dx, u1, u2, u3, u4, u5, u6, k1, k2, k3, k4, k5, k6, hm1, hm2⟩ := hf'
  have hsl : Sm pf := hN.epf ▸ Sm.pow2 (by omega)
  have hse : Sm (pe - 1) := (hN.epe ▸ Sm.pow2 (k := eb.toNat) (by omega) : Sm pe).of_le (by have := pow2_pos eb.toNat; have := hN.epe; omega) (by omega)
  refine wpAny_call ?_
  k_dflt (refine' enter B F X N T hk hd ?eo ?ec ?eb ?el ?es ?ex ?_; (case eo => k_is); (case ec => k_is); (case eb => first | exact BindsTo.of_eq rfl | exact binds_K (by k_in) rfl (by k_is) rfl rfl rfl); (case ex => decide); (case el => exact locs rfl); (case es => exact ⟨rfl, rfl, rfl⟩); k_whole; intro g' L' h' FG' F' N' B' X' T'; (try dsimp only); (try k_lift B'); (try k_fold))
  k_with_none

  k_with "exec If" => k_dflt (
      (with_reducible show wpAny _ _ (exec (Stmt.If (Expr.BoolOp BoolOp.And _ _) _ _ _) _) _ _ _)
      (with_reducible fail_if_success (show wpAny _ _ _ (JlPost _ _ _ _ _ _ _ _ _) _ _))
      rename Fr _ _ _ _ => lF'
      rename News _ _ _ _ => lN'
      with_unfolding_all refine jl_execN [Str.ofString "beside"] lF' lN' ?_ ?_
      rotate_left 1
      clear lF' lN'
      intro kU kH kTk kFr kNews
      (try dsimp only at kFr)
      (try dsimp only)
      (try k_fold)
      rotate_left 1)
  k_with "JlPost" => k_dflt (first
    | exact jl_next () (by assumption) (by assumption) (by exact fun _ h => h) (by intro p hp; exact absurd hp List.not_mem_nil) (by intro z _ h3; simp only [List.contains_cons, List.contains_nil, Bool.or_false, Bool.or_eq_false_iff, beq_eq_false_iff_ne, ne_eq] at h3; simp [h3]) trivial
    | refine jl_ret ?_)
  k_with "binaryOp Pow int int" => (first
    | refine pow_let he0 (Int.le_trans he1 eight_le) two_small hN.epe ?_
    | refine pow_let hfb0 (Int.le_trans hfb1 sixty_le) two_small hN.epf ?_)
  k_with "binaryOp Mult int int" => (first
    | refine mul_let (Sm.mulOk hse hsl) hN.elim ?_
    | refine PyProof.Rows.mul_int ?_ (Sm.mulOk huS hun))
  k_with "call ref" => ((k_dflt (refine' GivesV.useI (law_units_ok _ _ _ _ _ _ _ _ _ _ _ ?x1 ?x2 ?x3 ?x4 ?x5) ?k1 ?k2 ?k3 ?k4 ?k5 ?kK ?kd ?ku ?_; (case k1 => k_asm); (case k2 => k_asm); (case k3 => k_asm); (case k4 => k_asm); (case k5 => k_asm); (case kK => first | exact rfl | assumption); (case kd => ktr_room); (case ku => ktr_units); (case x1 => (first | assumption | (apply FormIn.cons; assumption) | (apply FormIn.cons; apply FormIn.cons; assumption) | (apply FormIn.cons; apply FormIn.cons; apply FormIn.cons; assumption) | (apply FormIn.cons; apply FormIn.cons; apply FormIn.cons; apply FormIn.cons; assumption))); (case x2 => exact hfb0); (case x3 => exact hfb1); (case x4 => (first | exact hz0 | omega)); (case x5 => exact hN.fd _ (by first | exact hz0 | omega) (by first | exact hz1 | omega))); intro uu t' h' tk' huu F' N'; (try k_sweep); (try dsimp only); (try k_fold)); have huS : Sm uu := (by rw [huu]; exact hN.sm _ (by first | exact hz0 | omega) (by first | exact hz1 | omega)))
  k_with "call builtin:abs" =>
    k_dflt (
      refine abs_let ?_
      intro x tx kx hx
      rw [huu] at hx
      first
        | (rw [hN.eaw] at hx; subst hx)
        | (have q0 := hN.pr (by omega); rw [← hx] at q0; have q1 := q0.1; have q2 := q0.2; clear q0 hx)
        | (have q0 := hN.nx (by omega); rw [← hx] at q0; have q1 := q0.1; have q2 := q0.2; clear q0 hx)
      clear huS huu
      (try dsimp only)
      (try k_fold))
  k_with "compareOp LtE int int" => (refine PyProof.Rows.le_int ?_)
  k_with "compareOp Eq int int" => (refine eqi_no (q2 (by assumption)) ?_)
  k_with "execs cons" => (refine wpAny_execs_cons ?_)
  k_with "execs cons Assign cons" => (refine wpAny_execs_cons ?_)
  k_with "execs nil" => (refine wpAny_execs_nil ?_)
  k_with "pyIter ref" => k_dflt (rename Fr _ _ _ _ => lF'; rename News _ _ _ _ => lN'; with_unfolding_all refine iter_tupTurns (vs := [_, _]) (by rfl) lF' lN' (List.mem_cons_self ..) (by rfl) (by rfl) ?_; clear lF' lN'; intro i' li1)
  k_with "UnrEndW" => k_dflt (refine une (by assumption) (by assumption) (by assumption) ?_)
  k_with "ItemsRest" => first
    | ((with_unfolding_all refine ItemsRest.val (fun h' tk' F' => ?_)); ktu_objs; (try k_fold))
    | (with_unfolding_all refine ItemsRest.zero (fun h' tk' F' N' => ?_))
  k_steps
  all_goals first
    | exact retB hret (by k_asm) (news_sub (by k_asm) fun p hp => List.mem_cons_of_mem _ (List.mem_cons_of_mem _ hp)) (decide_eq_true hz1)
    | exact retB hret (by k_asm) (news_sub (by k_asm) fun p hp => List.mem_cons_of_mem _ hp) (decide_eq_true hz1)
    | exact retB hret (by k_asm) (by k_asm) (decide_eq_true hz1)
end
section
open PyProof.V
def TurnEnd (h₀ : Heap) (L pl ce : Addr) (ws : List Value) (own : List (Addr × Obj)) (s₁ : Shared) (k : Nat) (s₂ : Shared) : Prop :=
  ∃ h' tk m' news' sp vl ta tb nn, s₂ = { s₁ with heap := h', toks := tk } ∧ Fr h₀ L h' m' ∧ News h₀ L h' news' ∧ ((pl, poolO ce sp vl ta tb nn) ∈ news' ∧ (ce, cellsO ws 0) ∈ news') ∧ (∀ p ∈ own, p ∈ news') ∧ m' (Str.ofString "pool") = some (.ref pl) ∧ 0 ≤ sp ∧ sp ≤ 200 * ((k : Int) + 1) ∧ 0 ≤ vl
def TurnPost (h₀ : Heap) (L pl ce : Addr) (ws : List Value) (own : List (Addr × Obj)) (s₁ : Shared) (k : Nat) (Q : Flow → Shared → Prop) (f : Flow) (s₂ : Shared) : Prop :=
  match f with
  | .ret v => Q (.ret v) s₂
  | .brk => Q .next s₂
  | _ => TurnEnd h₀ L pl ce ws own s₁ k s₂
theorem TurnEnd.mk {h₀ : Heap} {L pl ce : Addr} {ws : List Value} {own news' : List (Addr × Obj)} {s₁ : Shared} {k : Nat} {h' : Heap} {tk : Nat} {m' : Str → Option Value} {sp vl : Int} {ta tb : Tok} {nn : Nat} (F : Fr h₀ L h' m') (N : News h₀ L h' news') (h1 : (pl, poolO ce sp vl ta tb nn) ∈ news') (h2 : (ce, cellsO ws 0) ∈ news') (h3 : ∀ p ∈ own, p ∈ news') (h4 : m' (Str.ofString "pool") = some (.ref pl)) (h5 : 0 ≤ sp) (h6 : sp ≤ 200 * ((k : Int) + 1)) (h7 : 0 ≤ vl) :
    TurnEnd h₀ L pl ce ws own s₁ k { s₁ with heap := h', toks := tk } := ⟨h', tk, m', news', sp, vl, ta, tb, nn, rfl, F, N, ⟨h1, h2⟩, h3, h4, h5, h6, h7⟩

theorem law_loop {prog : Program} {w : World} {A : Around} {E : Value → Shared → Prop} {s : Shared} {env : Env} {h₀ : Heap} {x : Str} {body : List Stmt} {Q : Flow → Shared → Prop} {r pl ce : Addr} {t₀ u₀ v₀ : Tok} {m₀ : Str → Option Value} {ws : List Value} {t1 t2 : Tok} {rest : List (Addr × Obj)}
    (hh : A.handled = none) (hr : IsRange s.heap r 0 4 1 t₀ u₀ v₀) (F : Fr h₀ env.locals s.heap m₀) (N : News h₀ env.locals s.heap ((pl, poolO ce 0 0 t1 t2 0) :: (ce, cellsO ws 0) :: rest)) (hpm : m₀ (Str.ofString "pool") = some (.ref pl))
    (turn : ∀ (k : Nat) (sp vl : Int) (ta tb : Tok) (nn : Nat) (u : Str → Option Value) (kI : Int) (t : Tok) h tk own, k < 4 → 0 ≤ sp → sp ≤ 200 * (k : Int) → 0 ≤ vl → OwnOff own [pl, ce] →
      Fr h₀ env.locals h (fun y => if y = x then some (.int kI t) else if y = Str.ofString "pool" then some (.ref pl) else u y) → News h₀ env.locals h ((pl, poolO ce sp vl ta tb nn) :: (ce, cellsO ws 0) :: own) →
      wpAny (model prog w) A (execs body env) (TurnPost h₀ env.locals pl ce ws own { s with heap := h, toks := tk } k Q) E { s with heap := h, toks := tk })
    (done : ∀ (u : Str → Option Value) h tk news', Fr h₀ env.locals h u → News h₀ env.locals h news' → Q .next { s with heap := h, toks := tk }) :
    wpAny (model prog w) A (pyIter (.ref r)) (fun it s₂ => LoopAtV prog w A h₀ env x body Q E it s₂) E s := by
  refine wpAny_pyIter_range hr (by decide) ?_
  have W : Walks prog w A s.heap.objs.size [s.heap.objs.size] [s.heap.objs.size] 4 (fun i v => i < 4 ∧ ∃ t, v = .int (0 + i * 1) t)
      (fun i h => IsRangeIter h s.heap.objs.size (0 + (i : Nat) * 1) (((4 : Nat) : Int) - (i : Nat)) 1) := (Walks.range hh _ 0 1 4).bound
  have N' : News h₀ env.locals s.heap [(pl, poolO ce 0 0 t1 t2 0), (ce, cellsO ws 0)] := fun p hp => N p (by
    rcases List.mem_cons.mp hp with rfl | hp
    · exact List.mem_cons_self ..
    · rw [List.mem_singleton.mp hp]; simp)
  refine loop_invN (news := [(pl, poolO ce 0 0 t1 t2 0), (ce, cellsO ws 0)]) (fun i m nx => ∃ sp vl ta tb nn, nx = [(pl, poolO ce sp vl ta tb nn), (ce, cellsO ws 0)] ∧ m (Str.ofString "pool") = some (.ref pl) ∧ 0 ≤ sp ∧ sp ≤ 200 * (i : Int) ∧ 0 ≤ vl) W ?_ ?_ ?_ ?_ (by show IsRangeIter _ _ _ _ _; rw [show Builtin.Range.rangeSize 0 4 1 = ((4 : Nat) : Int) from by decide]; simpa using Heap.get?_push_size _ rfl) (F.push _) (fun p hp => ⟨Heap.get?_push_of_some _ (N' p hp).1, (N' p hp).2⟩) ⟨0, 0, t1, t2, 0, rfl, hpm, by omega, by omega, by omega⟩ ?_ ?_
  · intro hm
    exact absurd F.ns.lt ((List.mem_singleton.mp hm) ▸ Nat.lt_irrefl _)
  · intro b hb
    rw [List.mem_singleton.mp hb]
    exact next_is_new F
  · intro p hp hI
    exact absurd (Heap.lt_size (N' p hp).1) ((List.mem_singleton.mp hI) ▸ Nat.lt_irrefl _)
  · intro p hp hI
    exact absurd (Heap.lt_size (N' p hp).1) ((List.mem_singleton.mp hI) ▸ Nat.lt_irrefl _)
  · rintro i v m₁ nx h tk own hi ⟨_, t, rfl⟩ _ hoff ⟨sp, vl, ta, tb, nn, rfl, hp, h1, h2, h3⟩ F₁ N₁
    have F₂ : Fr h₀ env.locals h (fun y => if y = x then some (.int (0 + (i : Int) * 1) t) else if y = Str.ofString "pool" then some (.ref pl) else m₁ y) := by
      have e : (fun y => if y = x then some (Value.int (0 + (i : Int) * 1) t) else if y = Str.ofString "pool" then some (.ref pl) else m₁ y) = fun y => if y = x then some (Value.int (0 + (i : Int) * 1) t) else m₁ y := by
        funext y
        by_cases a : y = x
        · simp [a]
        · by_cases b : y = Str.ofString "pool"
          · subst b; simp [a, hp]
          · simp [a, b]
      rw [e]; exact F₁
    refine wpAny_mono (turn i sp vl ta tb nn m₁ _ t h tk own hi h1 h2 h3 hoff F₂ N₁) (fun f s₂ p => ?_) fun _ _ e => e
    have fin : TurnEnd h₀ env.locals pl ce ws own { s with heap := h, toks := tk } i s₂ → InvEndN h₀ env.locals (fun m nx => ∃ sp vl ta tb nn, nx = [(pl, poolO ce sp vl ta tb nn), (ce, cellsO ws 0)] ∧ m (Str.ofString "pool") = some (.ref pl) ∧ 0 ≤ sp ∧ sp ≤ 200 * ((i + 1 : Nat) : Int) ∧ 0 ≤ vl) own ([(pl, poolO ce 0 0 t1 t2 0), (ce, cellsO ws 0)].map (·.1)) { s with heap := h, toks := tk } s₂ := by
      rintro ⟨h', tk', m', news', sp', vl', ta', tb', nn', rfl, F', N2, ⟨q1, q2⟩, q3, q4, q5, q6, q7⟩
      refine InvEndN.intro (nx := [(pl, poolO ce sp' vl' ta' tb' nn'), (ce, cellsO ws 0)]) F' N2 ⟨sp', vl', ta', tb', nn', rfl, q4, q5, by omega, q7⟩ rfl (fun p hp => ?_) q3
      rcases List.mem_cons.mp hp with rfl | hp
      · exact q1
      · rw [List.mem_singleton.mp hp]; exact q2
    cases f with
    | ret v => exact p
    | brk => exact p
    | next => exact fin p
    | cont => exact fin p
  · rintro m₁ nx h tk _ F₁ N₁
    exact done m₁ h tk nx F₁ N₁
end
theorem at_dot {x : Str} {i : Nat} : StrLaws.At x (Str.ofString ".") x.length i ↔ x.cps.toList[i]? = some 46 := by
  unfold StrLaws.At PySem.Builtin.Str.subAt
  have hl : (Str.ofString ".").length = 1 := by decide +kernel
  have hc : (Str.ofString ".").cps = #[46] := by decide +kernel
  rw [hl, hc, beq_iff_eq]
  constructor
  · rintro ⟨h, e⟩
    have e' := congrArg Array.toList e
    rw [Array.toList_extract] at e'
    have q : (x.cps.toList.drop i).take 1 = [46] := by simpa [List.extract] using e'
    have : ((x.cps.toList.drop i).take 1)[0]? = some 46 := by rw [q]; rfl
    rw [List.getElem?_take_of_lt (by omega), List.getElem?_drop] at this
    simpa using this
  · intro h
    have hlt : i < x.cps.toList.length := (List.getElem?_eq_some_iff.mp h).1
    refine ⟨by rw [len_list] at hlt; omega, ?_⟩
    apply Array.toList_inj.mp
    rw [Array.toList_extract]
    have q : x.cps.toList.drop i = 46 :: x.cps.toList.drop (i + 1) := by
      rw [List.drop_eq_getElem_cons hlt]
      rw [(List.getElem?_eq_some_iff.mp h).2]
    simp [List.extract, q]
theorem find_dot {x : Str} {b d : List Nat} (hx : x.cps.toList = b ++ 46 :: d) (hb : ∀ c ∈ b, isD c = true) : Txt.find x (Str.ofString ".") = (b.length : Nat) := by
  rcases find_whole x (Str.ofString ".") with ⟨_, h⟩ | ⟨i, h1, h2, h3⟩
  · refine absurd (at_dot.mpr ?_) (h b.length)
    rw [hx, List.getElem?_append_right (Nat.le_refl _), Nat.sub_self]; rfl
  · rw [h1]
    have e : i = b.length := by
      rcases Nat.lt_trichotomy i b.length with a | a | a
      · have q := at_dot.mp h2
        rw [hx, List.getElem?_append_left a] at q
        have := hb 46 (List.mem_of_getElem? q)
        simp [isD] at this
      · exact a
      · refine absurd (at_dot.mpr ?_) (h3 b.length a)
        rw [hx, List.getElem?_append_right (Nat.le_refl _), Nat.sub_self]; rfl
    rw [e]
theorem cat_dot (r q : Str) : (r ++ Str.ofString "." ++ q).cps.toList = r.cps.toList ++ 46 :: q.cps.toList := by
  have hc : (Str.ofString ".").cps = #[46] := by decide +kernel
  rw [cat_list, cat_list, hc]; simp
theorem find_cat {r q : Str} (hb : ∀ c ∈ r.cps.toList, isD c = true) : Txt.find (r ++ Str.ofString "." ++ q) (Str.ofString ".") = (r.cps.toList.length : Nat) := find_dot (cat_dot r q) hb
theorem len_cat {r q : Str} {a b : Int} (h1 : (r.length : Int) ≤ a) (h2 : (q.length : Int) ≤ b) (h : a + b ≤ 900) : (r ++ Str.ofString "." ++ q).length ≤ 1000 := by
  have e : (r ++ Str.ofString "." ++ q).length = r.length + (q.length + 1) := by
    rw [← len_list, cat_dot, List.length_append, List.length_cons, len_list, len_list]
  omega
theorem takeWhile_at : ∀ {l m : List Nat} {c : Nat}, (∀ c ∈ l, isD c = true) → isD c = false → (l ++ c :: m).takeWhile isD = l
  | [], m, c, _, hc => by simp [List.takeWhile_cons, hc]
  | a :: l, m, c, h, hc => by
    rw [List.cons_append, List.takeWhile_cons, h a (List.mem_cons_self ..)]
    simp only [if_true]
    rw [takeWhile_at (fun c hc => h c (List.mem_cons_of_mem _ hc)) hc]
theorem dEnd_at {l m : List Nat} {c : Nat} (hb : ∀ c ∈ l, isD c = true) (hc : isD c = false) : dEnd (l ++ c :: m) 0 = l.length := by
  unfold dEnd
  rw [List.drop_zero, takeWhile_at hb hc, Nat.zero_add]
theorem dEnd_at2 {p l m : List Nat} {c n : Nat} (hn : n = p.length) (hb : ∀ c ∈ l, isD c = true) (hc : isD c = false) : dEnd (p ++ (l ++ c :: m)) n = n + l.length := by
  subst hn; unfold dEnd
  rw [List.drop_left, takeWhile_at hb hc]
theorem dEnd_end2 {p l : List Nat} {n : Nat} (hn : n = p.length) (hb : ∀ c ∈ l, isD c = true) : dEnd (p ++ l) n = n + l.length := by
  subst hn; unfold dEnd
  rw [List.drop_left, takeWhile_all hb]
theorem slice_one {x : Str} {p m : List Nat} {c n : Nat} (hx : x.cps.toList = p ++ c :: m) (hn : n = p.length) : Txt.slice x (some (n : Int)) (some ((n : Int) + 1)) = ⟨#[c]⟩ := by
  subst hn
  have hl : x.length = p.length + (m.length + 1) := by rw [← len_list, hx, List.length_append, List.length_cons]
  rw [slice_ij (by omega) (by omega) (by omega), hx, Int.toNat_natCast, List.drop_left, show ((p.length : Int) + 1 - p.length).toNat = 1 from by omega]
  rfl
theorem slice_none {x : Str} {p : List Nat} {n : Nat} (hx : x.cps.toList = p) (hn : n = p.length) : Txt.slice x (some (n : Int)) (some ((n : Int) + 1)) = ⟨#[]⟩ := by
  subst hn
  have hl : x.length = p.length := by rw [← len_list, hx]
  rw [slice_ij (by omega) (by omega) (by omega), hx, Int.toNat_natCast, List.drop_length]
  simp
theorem head_one {x : Str} {m : List Nat} {c : Nat} (hx : x.cps.toList = c :: m) : Txt.slice x none (some 1) = ⟨#[c]⟩ := by
  rw [slice_to (by decide), hx]; rfl
theorem slice_mid {x : Str} {p q m : List Nat} {i j : Nat} (hx : x.cps.toList = p ++ (q ++ m)) (hi : i = p.length) (hj : j = p.length + q.length) : (Txt.slice x (some (i : Int)) (some (j : Int))).cps.toList = q := by
  subst hi; subst hj
  have hl : x.length = p.length + (q.length + m.length) := by rw [← len_list, hx, List.length_append, List.length_append]
  rw [slice_ij (by omega) (by omega) (by omega), hx, Int.toNat_natCast, List.drop_left, show (((p.length + q.length : Nat) : Int) - p.length).toNat = q.length from by omega, List.take_left]
theorem head_ne {x y : Str} {m n : List Nat} {c d : Nat} (hx : x.cps.toList = c :: m) (hy : y.cps.toList = d :: n) (h : c ≠ d) : (x == y) = false := by
  rw [beq_eq_false_iff_ne]; intro e; rw [e, hy] at hx
  exact h (List.cons.inj hx).1.symm
theorem nan_list : (Str.ofString "NAN").cps.toList = [78, 65, 78] := by decide +kernel
theorem inf_list : (Str.ofString "INF").cps.toList = [73, 78, 70] := by decide +kernel
theorem minus_mk : Str.ofString "-" = ⟨#[45]⟩ := by decide +kernel
theorem dot_mk : Str.ofString "." = ⟨#[46]⟩ := by decide +kernel
theorem ne_dot {c : Nat} {y : Str} (hy : y = ⟨#[c]⟩) (h : c ≠ 46) : (y != Str.ofString ".") = true := by
  subst hy; rw [bne_iff_ne, dot_mk]; intro e
  exact h (by simpa using str_mk_inj e)
theorem is_dot {y : Str} (hy : y = ⟨#[46]⟩) : (y != Str.ofString ".") = false := by
  subst hy; rw [dot_mk]; simp
theorem bad0 (w : World) (news : List (Addr × Obj)) (fm : Addr) (sg : Int) (x : Str) (t1 t2 : Tok) (b : List Nat) (hsz : x.length ≤ 1000) (hx : x.cps.toList = b) (hb : ∀ c ∈ b, isD c = true) (h0 : 0 < b.length) :
    Gives w 121 6 news [.ref fm, .int sg t1, .str x t2] (Pair false 0 news) := by
  refine read_decimal_badB w news fm sg x t1 t2 b.length hsz ?_ h0 ?_
  · rw [hx]; simpa using dEnd_end2 (p := []) (n := 0) rfl hb
  · rw [slice_none hx rfl, dot_mk]; decide
theorem bad7 (w : World) (news : List (Addr × Obj)) (fm : Addr) (sg : Int) (x : Str) (t1 t2 : Tok) (b m : List Nat) (c : Nat) (hsz : x.length ≤ 1000) (hx : x.cps.toList = b ++ c :: m) (hb : ∀ c ∈ b, isD c = true) (h0 : 0 < b.length) (hc : isD c = false) (hc' : c ≠ 46) :
    Gives w 121 6 news [.ref fm, .int sg t1, .str x t2] (Pair false 0 news) := by
  refine read_decimal_badB w news fm sg x t1 t2 b.length hsz ?_ h0 ?_
  · rw [hx]; exact dEnd_at hb hc
  · exact ne_dot (slice_one hx rfl) hc'
theorem badA' (w : World) (news : List (Addr × Obj)) (fm : Addr) (sg : Int) (x : Str) (t1 t2 : Tok) (m : List Nat) (c : Nat) (hsz : x.length ≤ 1000) (hx : x.cps.toList = c :: m) (hc : isD c = false) :
    Gives w 121 6 news [.ref fm, .int sg t1, .str x t2] (Pair false 0 news) := by
  refine read_decimal_badA w news fm sg x t1 t2 hsz ?_
  rw [hx]; exact dEnd_at (l := []) (fun _ h => nomatch h) hc
theorem pos_of (w : World) (news : List (Addr × Obj)) (fm : Addr) (x : Str) (t2 : Tok) (b : Bool) (v : Int) (c : Nat) (m : List Nat) (hsz : x.length ≤ 1000) (hx : x.cps.toList = c :: m) (h1 : c ≠ 78) (h2 : c ≠ 73) (h3 : c ≠ 45)
    (hrd : ∀ t t', Gives w 121 6 news [.ref fm, .int 0 t, .str x t'] (Pair b v news)) :
    Gives w 128 7 news [.ref fm, .str x t2] (Pair b v news) :=
  read_real_pos w news fm x t2 b v hsz (head_ne hx nan_list h1) (by rw [head_one hx, minus_mk, one_beq rfl]; simpa using h3) (head_ne hx inf_list h2) hrd
section
variable {x : Str} {b d m : List Nat} {c : Nat} (hx : x.cps.toList = b ++ 46 :: (d ++ m))
include hx
theorem sl_a : (Txt.slice x none (some (b.length : Int))).cps.toList = b := by
  rw [slice_to (by omega), hx, Int.toNat_natCast, List.take_left]
theorem sl_b : (Txt.slice x (some ((b.length : Int) + 1)) (some ((b.length + 1 + d.length : Nat) : Int))).cps.toList = d := by
  have := slice_mid (x := x) (p := b ++ [46]) (q := d) (m := m) (i := b.length + 1) (j := b.length + 1 + d.length) (by rw [hx]; simp) (by simp) (by simp)
  rw [show ((b.length + 1 : Nat) : Int) = (b.length : Int) + 1 from by omega] at this; exact this
theorem digs_of (hb : ∀ c ∈ b, isD c = true) (hd : ∀ c ∈ d, isD c = true) : ∀ c ∈ (Txt.slice x none (some (b.length : Int)) ++ Txt.slice x (some ((b.length : Int) + 1)) (some ((b.length + 1 + d.length : Nat) : Int))).cps.toList, isD c = true := by
  rw [cat_list, sl_a hx, sl_b hx]
  intro c hc
  rcases List.mem_append.mp hc with h | h
  · exact hb c h
  · exact hd c h
end
theorem toNat_succ {n : Nat} : ((n : Int) + 1).toNat = n + 1 := rfl
theorem badC' (w : World) (news : List (Addr × Obj)) (fm : Addr) (sg : Int) (x : Str) (t1 t2 : Tok) (b d m : List Nat) (c : Nat) (hsz : x.length ≤ 1000) (hx : x.cps.toList = b ++ 46 :: (d ++ c :: m)) (hb : ∀ c ∈ b, isD c = true) (hd : ∀ c ∈ d, isD c = true) (h0 : 0 < b.length) (hc : isD c = false) (hc' : c ≠ 69) :
    Gives w 121 6 news [.ref fm, .int sg t1, .str x t2] (Pair false 0 news) := by
  have hx' : x.cps.toList = (b ++ [46]) ++ (d ++ c :: m) := by rw [hx]; simp
  have hl : x.length = b.length + 1 + d.length + (m.length + 1) := by rw [← len_list, hx', List.length_append, List.length_append, List.length_append, List.length_cons, List.length_cons, List.length_nil]; omega
  refine read_decimal_badC w news fm sg x t1 t2 b.length (b.length + 1 + d.length) hsz ?_ h0 ?_ ?_ (by rw [hl]; exact Nat.lt_add_of_pos_right (Nat.succ_pos _)) (Nat.le_add_right _ _) ?_ (digs_of hx hb hd)
  · rw [hx]; exact dEnd_at hb (by decide)
  · exact is_dot (slice_one hx rfl)
  · rw [hx', toNat_succ]; exact dEnd_at2 (by simp) hd hc
  · have hi : x.cps.toList[b.length + 1 + d.length]? = some c := by
      rw [hx', List.getElem?_append_right (by simp)]; simp
    rw [item_cons hi, bne_iff_ne]; intro e
    have e2 : Str.ofString "E" = ⟨#[69]⟩ := by decide +kernel
    rw [e2] at e
    exact hc' (by simpa using str_mk_inj e)
theorem badD' (w : World) (news : List (Addr × Obj)) (fm : Addr) (sg : Int) (x : Str) (t1 t2 : Tok) (b d : List Nat) (hsz : x.length ≤ 1000) (hx : x.cps.toList = b ++ 46 :: (d ++ [69])) (hb : ∀ c ∈ b, isD c = true) (hd : ∀ c ∈ d, isD c = true) (h0 : 0 < b.length) :
    Gives w 121 6 news [.ref fm, .int sg t1, .str x t2] (Pair false 0 news) := by
  have hx' : x.cps.toList = (b ++ [46]) ++ (d ++ [69]) := by rw [hx]; simp
  have hl : x.length = b.length + 1 + d.length + 1 := by rw [← len_list, hx', List.length_append, List.length_append, List.length_append, List.length_cons, List.length_cons, List.length_nil]; omega
  have e2 : Str.ofString "E" = ⟨#[69]⟩ := by decide +kernel
  refine read_decimal_badD w news fm sg x t1 t2 b.length (b.length + 1 + d.length) hsz ?_ h0 ?_ ?_ (by rw [hl]; exact Nat.lt_succ_self _) (Nat.le_add_right _ _) ?_ (digs_of hx hb hd) ?_
  · rw [hx]; exact dEnd_at hb (by decide)
  · exact is_dot (slice_one hx rfl)
  · rw [hx', toNat_succ]; exact dEnd_at2 (by simp) hd (by decide)
  · have hi : x.cps.toList[b.length + 1 + d.length]? = some 69 := by
      rw [hx', List.getElem?_append_right (by simp)]; simp
    rw [item_cons hi, e2]; simp
  · intro news' t
    have e : Txt.slice x (some (((b.length + 1 + d.length : Nat) : Int) + 1)) none = ⟨#[]⟩ := by
      rw [slice_frm (i := ((b.length + 1 + d.length : Nat) : Int) + 1) (Int.natCast_nonneg (b.length + 1 + d.length + 1)) (Int.ofNat_le.mpr (Nat.le_of_eq hl.symm)), toNat_succ, List.drop_eq_nil_of_le (by rw [len_list, hl]; exact Nat.le_refl _)]
    rw [e]
    exact read_exponent_none w news' _ t (by decide +kernel) (by decide +kernel) rfl
theorem isD_bounds {c : Nat} (h : isD c = true) : c ≠ 78 ∧ c ≠ 73 ∧ c ≠ 45 := by
  rw [isD_iff] at h; omega
theorem bad3 (w : World) (news : List (Addr × Obj)) (fm : Addr) (x : Str) (t2 : Tok) (m : List Nat) (hsz : x.length ≤ 999) (hx : x.cps.toList = 45 :: 45 :: m) :
    Gives w 128 7 news [.ref fm, .str x t2] (Pair false 0 news) := by
  have hl : x.length = m.length + 2 := by rw [← len_list, hx, List.length_cons, List.length_cons]
  have e : (Txt.slice x (some 1) none).cps.toList = 45 :: m := by rw [slice_frm (by decide) (by omega), hx]; rfl
  refine read_real_neg w news fm x t2 false 0 (by omega) (head_ne hx nan_list (by decide)) (by rw [head_one hx, minus_mk]; simp) (head_ne e inf_list (by decide)) fun t t' => ?_
  exact badA' w news fm 1 _ t t' m 45 (by rw [← len_list, e, List.length_cons]; omega) e (by decide)
theorem spoil_bad (w : World) (news : List (Addr × Obj)) (fm : Addr) (x : Str) (t2 : Tok) (b d : List Nat) (hsz : x.length ≤ 999) (hs : Spoil b d x.cps.toList) (hb : ∀ c ∈ b, isD c = true) (hd : ∀ c ∈ d, isD c = true) (h0 : 0 < b.length) :
    Gives w 128 7 news [.ref fm, .str x t2] (Pair false 0 news) := by
  obtain ⟨c0, r, rfl⟩ : ∃ c r, b = c :: r := by
    cases b with
    | nil => simp at h0
    | cons c r => exact ⟨c, r, rfl⟩
  obtain ⟨n1, n2, n3⟩ := isD_bounds (hb c0 (List.mem_cons_self ..))
  rcases hs with h | h | h | h | h | h | h | h | h
  · exact pos_of w news fm x t2 false 0 c0 _ (by omega) h n1 n2 n3 fun t t' => bad0 w news fm 0 x t t' (c0 :: r ++ d) (by omega) h (fun c hc => (List.mem_append.mp hc).elim (hb c) (hd c)) (by simp)
  · exact pos_of w news fm x t2 false 0 c0 _ (by omega) h n1 n2 n3 fun t t' => badC' w news fm 0 x t t' (c0 :: r) [] d 46 (by omega) h hb (fun _ h => nomatch h) h0 (by decide) (by decide)
  · exact pos_of w news fm x t2 false 0 c0 _ (by omega) h n1 n2 n3 fun t t' => badD' w news fm 0 x t t' (c0 :: r) d (by omega) (by rw [h]; simp) hb hd h0
  · exact bad3 w news fm x t2 _ hsz h
  · exact pos_of w news fm x t2 false 0 c0 _ (by omega) h n1 n2 n3 fun t t' => badC' w news fm 0 x t t' (c0 :: r) d [] 32 (by omega) (by rw [h]; simp) hb hd h0 (by decide) (by decide)
  · exact pos_of w news fm x t2 false 0 46 _ (by omega) h (by decide) (by decide) (by decide) fun t t' => badA' w news fm 0 x t t' d 46 (by omega) h (by decide)
  · exact pos_of w news fm x t2 false 0 43 _ (by omega) h (by decide) (by decide) (by decide) fun t t' => badA' w news fm 0 x t t' _ 43 (by omega) h (by decide)
  · exact pos_of w news fm x t2 false 0 c0 _ (by omega) h n1 n2 n3 fun t t' => bad7 w news fm 0 x t t' (c0 :: r) d 44 (by omega) h hb h0 (by decide) (by decide)
  · exact pos_of w news fm x t2 false 0 c0 _ (by omega) h n1 n2 n3 fun t t' => badC' w news fm 0 x t t' (c0 :: r) d [49] 101 (by omega) (by rw [h]; simp) hb hd h0 (by decide) (by decide)
theorem spoil_len {x : Str} {b d : List Nat} {n m : Int} (hs : Spoil b d x.cps.toList) (hb : (b.length : Int) ≤ n) (hd : (d.length : Int) ≤ m) (h : n + m ≤ 900) : x.length ≤ 999 := by
  have e := len_list x
  rcases hs with h | h | h | h | h | h | h | h | h <;> (rw [h] at e; simp at e; omega)
theorem fdm {P a b : Int} (hP : 0 < P) (h0 : 0 ≤ b) (h1 : b < P) : (a * P + b).fdiv P = a ∧ (a * P + b).fmod P = b := by
  rw [Int.fdiv_eq_ediv_of_nonneg _ (Int.le_of_lt hP), Int.fmod_eq_emod_of_nonneg _ (Int.le_of_lt hP)]
  refine ⟨?_, ?_⟩
  · rw [Int.add_comm, Int.add_mul_ediv_right _ _ (Int.ne_of_gt hP), Int.ediv_eq_zero_of_lt h0 h1]; omega
  · rw [Int.add_comm, Int.add_mul_emod_self_right]; exact Int.emod_eq_of_lt h0 h1
theorem un_lo {fb k P : Int} (hP : 2 ^ fb.toNat = P) (h0 : 0 ≤ k) (h1 : k < P) : un fb k = k := by
  have h := fdm (P := P) (a := 0) (b := k) (by omega) h0 h1
  rw [Int.zero_mul, Int.zero_add] at h
  unfold un
  rw [hP, h.1, h.2, if_pos rfl]
theorem un_hi {fb k P : Int} {j : Nat} (hP : 2 ^ fb.toNat = P) (h0 : P ≤ k) (h1 : k < 2 * P) : un fb (j * P + k) = k * 2 ^ j := by
  have h := fdm (P := P) (a := j + 1) (b := k - P) (by omega) (by omega) (by omega)
  rw [Int.add_mul, Int.one_mul, show (j : Int) * P + P + (k - P) = j * P + k from by omega] at h
  unfold un
  rw [hP, h.1, h.2, if_neg (by omega), show P + (k - P) = k from by omega, show ((j : Int) + 1 - 1).toNat = j from by omega]
/-- the size of j steps up and the count k -/
def Rg (P k : Int) (j : Nat) : Prop := 0 ≤ k ∧ k ≤ 2 * P ∧ (0 < j → P ≤ k)
theorem un_jk {fb k P : Int} {j : Nat} (hP : 2 ^ fb.toNat = P) (hr : Rg P k j) : un fb (j * P + k) = k * 2 ^ j := by
  obtain ⟨h0, h1, h2⟩ := hr
  have hp : 0 < P := hP ▸ pow2_pos _
  by_cases ha : k < P
  · have hj : j = 0 := by omega
    subst hj
    simpa using un_lo hP h0 ha
  by_cases hb : k < 2 * P
  · exact un_hi hP (by omega) hb
  · have e : k = 2 * P := by omega
    have h := un_hi (fb := fb) (j := j + 1) hP (Int.le_refl P) (by omega)
    rw [show ((j + 1 : Nat) : Int) * P + P = j * P + k from by rw [Int.natCast_add, Int.add_mul]; simp; omega] at h
    rw [h, e, Int.pow_succ, Int.mul_comm 2 P, Int.mul_assoc, Int.mul_comm 2]
theorem un_nx {fb k P : Int} {j : Nat} (hP : 2 ^ fb.toNat = P) (hr : Rg P k j) (hP2 : 2 ≤ P) : (k + 1) * 2 ^ j ≤ un fb (j * P + k + 1) := by
  have hr' := hr
  obtain ⟨h0, h1, h2⟩ := hr
  by_cases hb : k < 2 * P
  · have := un_jk (fb := fb) (P := P) (k := k + 1) (j := j) hP ⟨by omega, by omega, by omega⟩
    rw [show (j : Int) * P + k + 1 = j * P + (k + 1) from by omega, this]; exact Int.le_refl _
  · have e : k = 2 * P := by omega
    have h := un_jk (fb := fb) (P := P) (k := P + 1) (j := j + 1) hP ⟨by omega, by omega, by omega⟩
    rw [show ((j + 1 : Nat) : Int) * P + (P + 1) = j * P + k + 1 from by rw [Int.natCast_add, Int.add_mul]; simp; omega] at h
    rw [h, Int.pow_succ, Int.mul_comm (2 ^ j) 2, ← Int.mul_assoc]
    exact Int.mul_le_mul_of_nonneg_right (by omega) (Int.le_of_lt (pow2_pos j))
theorem even_jk {P k P2 : Int} {j : Nat} (hP : P = 2 * P2) (h : k.fmod 2 ≠ 1) : ((j : Int) * P + k).fmod 2 ≠ 1 := by
  rw [Int.fmod_eq_emod_of_nonneg _ (by decide)] at *
  rw [hP, show (j : Int) * (2 * P2) = 2 * (j * P2) from by rw [Int.mul_left_comm]]
  omega
theorem ab_up {X S O N : Int} (hS : 0 < S) (h : 2 * O - 2 * X ≤ S) (hn : X + S ≤ N) : ab (X - O) ≤ ab (N - O) ∧ (ab (N - O) = ab (X - O) → 2 * O - 2 * X = S) := by
  unfold ab
  refine ⟨by split <;> split <;> omega, fun e => ?_⟩
  split at e <;> split at e <;> omega
theorem ab_neg (a b : Int) : ab (a - b) = ab (-a - -b) := by
  unfold ab; split <;> split <;> omega
theorem ab_dn {X S O N : Int} (hS : 0 < S) (h : 2 * X - 2 * O ≤ S) (hn : N ≤ X - S) : ab (X - O) ≤ ab (N - O) ∧ (ab (N - O) = ab (X - O) → 2 * X - 2 * O = S) := by
  have := ab_up (X := -X) (S := S) (O := -O) (N := -N) hS (by omega) (by omega)
  rw [ab_neg X O, ab_neg N O]
  exact ⟨this.1, fun e => by have := this.2 e; omega⟩
theorem next_ok {fb U O k P P2 : Int} {j : Nat} (hP : 2 ^ fb.toNat = P) (hP1 : P = 2 * P2) (hP2 : 2 ≤ P) (hU : 0 < U) (hr : Rg P k j)
    (h1 : 2 * O - 2 * (k * (2 ^ j * U)) ≤ 2 ^ j * U) (h2 : 2 * O - 2 * (k * (2 ^ j * U)) = 2 ^ j * U → k.fmod 2 ≠ 1) :
    ab (un fb (j * P + k) * U - O) ≤ ab (un fb (j * P + k + 1) * U - O) ∧ (ab (un fb (j * P + k + 1) * U - O) = ab (un fb (j * P + k) * U - O) → ((j : Int) * P + k).fmod 2 ≠ 1) := by
  have hn' := Int.mul_le_mul_of_nonneg_right (un_nx (fb := fb) hP hr hP2) (Int.le_of_lt hU)
  rw [un_jk hP hr, Int.mul_assoc k]
  rw [Int.mul_assoc (k + 1), Int.add_mul, Int.one_mul] at hn'
  have h := ab_up (Int.mul_pos (pow2_pos j) hU) h1 hn'
  exact ⟨h.1, fun e => even_jk hP1 (h2 (h.2 e))⟩
theorem rg_pred {P k : Int} {j : Nat} (hr : Rg P k j) (hP : 0 < P) (h0 : 0 ≤ (j : Int) * P + k - 1) (hc : ¬ (k = P ∧ 0 < j)) : Rg P (k - 1) j := by
  obtain ⟨r0, r1, r2⟩ := hr
  by_cases hj : 0 < j
  · have := r2 hj
    refine ⟨?_, ?_, fun _ => ?_⟩ <;> omega
  · have : j = 0 := by omega
    subst this
    rw [show ((0 : Nat) : Int) = 0 from rfl, Int.zero_mul] at h0
    refine ⟨?_, ?_, fun h => absurd h hj⟩ <;> omega
theorem idx_pred {P k : Int} {i : Nat} (e : k = P) : (i : Int) * P + (2 * P - 1) = ((i + 1 : Nat) : Int) * P + k - 1 := by
  rw [Int.natCast_add, Int.add_mul, Int.natCast_one, Int.one_mul]; omega
theorem ab_far {X T O N : Int} (hT : 0 < T) (h : X ≤ O) (hn : N = X - T) : ab (X - O) ≤ ab (N - O) ∧ (ab (N - O) = ab (X - O) → False) := by
  subst hn
  unfold ab
  refine ⟨by split <;> split <;> omega, fun e => ?_⟩
  split at e <;> split at e <;> omega
theorem prev_ok {fb U O k P P2 : Int} {j : Nat} (hP : 2 ^ fb.toNat = P) (hP1 : P = 2 * P2) (hP2 : 2 ≤ P) (hU : 0 < U) (hr : Rg P k j) (h0 : 0 ≤ (j : Int) * P + k - 1)
    (h1 : k = P → 0 < j → k * (2 ^ j * U) ≤ O)
    (h2 : ¬ (k = P ∧ 0 < j) → 2 * (k * (2 ^ j * U)) - 2 * O ≤ 2 ^ j * U ∧ (2 * (k * (2 ^ j * U)) - 2 * O = 2 ^ j * U → k.fmod 2 ≠ 1)) :
    ab (un fb (j * P + k) * U - O) ≤ ab (un fb (j * P + k - 1) * U - O) ∧ (ab (un fb (j * P + k - 1) * U - O) = ab (un fb (j * P + k) * U - O) → ((j : Int) * P + k).fmod 2 ≠ 1) := by
  have hp0 : 0 < P := Int.lt_of_lt_of_le (by decide) hP2
  rw [un_jk hP hr, Int.mul_assoc k]
  by_cases hc : k = P ∧ 0 < j
  · have g1 := h1 hc.1 hc.2
    obtain ⟨e, hj⟩ := hc
    obtain ⟨i, rfl⟩ : ∃ i, j = i + 1 := ⟨j - 1, (Nat.succ_pred_eq_of_pos hj).symm⟩
    have h := un_jk (fb := fb) (P := P) (k := 2 * P - 1) (j := i) hP (by clear h1 h2 g1 h0; exact ⟨by omega, by omega, fun _ => by omega⟩)
    rw [idx_pred e] at h
    have e2 : k * ((2 : Int) ^ (i + 1) * U) = 2 * P * (2 ^ i * U) := by rw [e, Int.pow_succ]; ac_rfl
    rw [h, Int.mul_assoc, e2]
    rw [e2] at g1
    have q := ab_far (N := (2 * P - 1) * (2 ^ i * U)) (Int.mul_pos (pow2_pos i) hU) g1 (by rw [Int.sub_mul, Int.one_mul])
    exact ⟨q.1, fun e => (q.2 e).elim⟩
  · obtain ⟨g1, g2⟩ := h2 hc
    have h := un_jk (fb := fb) hP (rg_pred hr hp0 h0 hc)
    rw [← Int.add_sub_assoc] at h
    rw [h, Int.mul_assoc]
    have q := ab_dn (N := (k - 1) * (2 ^ j * U)) (Int.mul_pos (pow2_pos j) hU) g1 (by rw [Int.sub_mul, Int.one_mul]; exact Int.le_refl _)
    exact ⟨q.1, fun e => even_jk hP1 (g2 (q.2 e))⟩
theorem rnd_lo {m sh : Int} {rest : Bool} {q low W H : Int} (hW : 2 ^ sh.toNat = W) (hsh : 1 ≤ sh) (hH : 2 ^ (sh - 1).toNat = H) (hq : m = q * W + low) (h0 : 0 ≤ low) (h1 : low < W) :
    W = 2 * H ∧ ((rnd m sh rest = q ∧ (low < H ∨ (low = H ∧ rest = false ∧ q.fmod 2 ≠ 1))) ∨ (rnd m sh rest = q + 1 ∧ (H < low ∨ (low = H ∧ (rest = true ∨ (q + 1).fmod 2 ≠ 1))))) := by
  have hp := pow2_pos sh.toNat
  rw [hW] at hp
  have e := fdm hp h0 h1 (a := q)
  refine ⟨?_, ?_⟩
  · rw [← hW, ← hH, show sh.toNat = (sh - 1).toNat + 1 from by omega, Int.pow_succ, Int.mul_comm]
  unfold rnd
  rw [hW, hH, hq, e.1, show q * W + low - q * W = low from by omega, Int.one_mul]
  by_cases c : low > H ∨ (low = H ∧ (rest = true ∨ q.fmod 2 = 1))
  · rw [if_pos c]
    refine .inr ⟨rfl, ?_⟩
    rcases c with c | ⟨c1, c2 | c2⟩
    · exact .inl c
    · exact .inr ⟨c1, .inl c2⟩
    · refine .inr ⟨c1, .inr ?_⟩
      rw [Int.fmod_eq_emod_of_nonneg _ (show (0 : Int) ≤ 2 by decide)] at c2 ⊢; omega
  · rw [if_neg c]
    refine .inl ⟨rfl, ?_⟩
    by_cases a : low < H
    · exact .inl a
    · have e : low = H := Classical.byContradiction fun hn => c (.inl (by omega))
      refine .inr ⟨e, ?_, fun h => c (.inr ⟨e, .inr h⟩)⟩
      cases rest
      · rfl
      · exact absurd (.inr ⟨e, .inl rfl⟩) c
theorem rn_dn {X l H W r den : Int} (hW : W = 2 * H) (l0 : 0 ≤ l) (r0 : 0 ≤ r) (rd : r < den) (g : l + den ≤ H) (hH : 0 < H) :
    (2 * X - 2 * (X + l + r) < W) ∧ (2 * (X + l + r) - 2 * X < W) := by constructor <;> omega
theorem rn_tie {X l H W : Int} (hW : W = 2 * H) (hl : l = H) (l0 : 0 < H) :
    (2 * X - 2 * (X + l + 0) < W) ∧ (2 * (X + l + 0) - 2 * X ≤ W) := by constructor <;> omega
theorem rn_up {X l H W r den : Int} (hW : W = 2 * H) (rd : r < den) (r0 : 0 ≤ r) (g2 : l + den ≤ W) (g : H + den ≤ l) (hd : 0 < den) :
    (2 * (X + W) - 2 * (X + l + r) < W) ∧ (2 * (X + l + r) - 2 * (X + W) < W) := by constructor <;> omega
theorem rn_upt {X l H W r den : Int} (hW : W = 2 * H) (rd : r < den) (r0 : 0 ≤ r) (g2 : l + den ≤ W) (hl : l = H) (hd : 0 < den) :
    (2 * (X + W) - 2 * (X + l + r) ≤ W) ∧ (2 * (X + l + r) - 2 * (X + W) < W) ∧ (2 * (X + W) - 2 * (X + l + r) = W → r = 0) := by refine ⟨?_, ?_, fun _ => ?_⟩ <;> omega
theorem lt_both {A B W : Int} {C : Prop} (h : A < W ∧ B < W) : (A ≤ W ∧ (A = W → C)) ∧ (B ≤ W ∧ (B = W → C)) :=
  ⟨⟨Int.le_of_lt h.1, fun e => absurd e (Int.ne_of_lt h.1)⟩, ⟨Int.le_of_lt h.2, fun e => absurd e (Int.ne_of_lt h.2)⟩⟩
/-- rounding, over a quotient with a rest: the two bounds and the ties -/
theorem rnd_near {m sh den r k : Int} {rest : Bool} (hsh : 1 ≤ sh) (hd : 0 < den) (hr0 : 0 ≤ r) (hr1 : r < den) (hrest : rest = true ↔ r ≠ 0) (hk : rnd m sh rest = k) :
    (2 * (k * 2 ^ sh.toNat * den) - 2 * (m * den + r) ≤ 2 ^ sh.toNat * den ∧ (2 * (k * 2 ^ sh.toNat * den) - 2 * (m * den + r) = 2 ^ sh.toNat * den → k.fmod 2 ≠ 1)) ∧
    (2 * (m * den + r) - 2 * (k * 2 ^ sh.toNat * den) ≤ 2 ^ sh.toNat * den ∧ (2 * (m * den + r) - 2 * (k * 2 ^ sh.toNat * den) = 2 ^ sh.toNat * den → k.fmod 2 ≠ 1)) := by
  generalize hW : (2 : Int) ^ sh.toNat = W
  generalize hH : (2 : Int) ^ (sh - 1).toNat = H
  have hWp : 0 < W := hW ▸ pow2_pos _
  have hHp : 0 < H := hH ▸ pow2_pos _
  have h1 := Int.emod_nonneg m (Int.ne_of_gt hWp)
  have h2 := Int.emod_lt_of_pos m hWp
  have h3 := (Int.mul_ediv_add_emod m W).symm
  rw [Int.mul_comm] at h3
  generalize m / W = q at h3
  generalize m % W = low at h1 h2 h3
  obtain ⟨hWH, hc⟩ := rnd_lo (rest := rest) hW hsh hH h3 h1 h2
  rw [hk] at hc
  rw [h3, Int.add_mul]
  have l0 : 0 ≤ low * den := Int.mul_nonneg h1 (Int.le_of_lt hd)
  have hHd : 0 < H * den := Int.mul_pos hHp hd
  have hWd : W * den = 2 * (H * den) := by rw [hWH, Int.mul_assoc]
  have mle : ∀ {a b : Int}, a + 1 ≤ b → a * den + den ≤ b * den := fun {a b} h => by
    have := Int.mul_le_mul_of_nonneg_right h (Int.le_of_lt hd)
    rwa [Int.add_mul, Int.one_mul] at this
  rcases hc with ⟨e, c⟩ | ⟨e, c⟩
  · subst e
    rcases c with c | ⟨c1, c2, c3⟩
    · exact lt_both (rn_dn hWd l0 hr0 hr1 (mle c) hHd)
    · have hr : r = 0 := Classical.byContradiction fun hn => by rw [hrest.mpr hn] at c2; cases c2
      subst hr; subst c1
      have q := rn_tie (X := k * W * den) hWd rfl hHd
      exact ⟨⟨Int.le_of_lt q.1, fun _ => c3⟩, ⟨q.2, fun _ => c3⟩⟩
  · subst e
    rw [show (q + 1) * W * den = q * W * den + W * den from by rw [Int.add_mul, Int.one_mul, Int.add_mul]]
    rcases c with c | ⟨c1, c2⟩
    · exact lt_both (rn_up hWd hr1 hr0 (mle h2) (mle c) hd)
    · subst c1
      have q := rn_upt (X := q * W * den) hWd hr1 hr0 (mle h2) rfl hd
      refine ⟨⟨q.1, fun e => ?_⟩, ⟨Int.le_of_lt q.2.1, fun e => absurd e (Int.ne_of_lt q.2.1)⟩⟩
      rcases c2 with c2 | c2
      · exact absurd (q.2.2 e) (hrest.mp c2)
      · exact c2
theorem scale_le {D G x y z X Y Z : Int} (hD : 0 < D) (hG : 0 < G) (hx : D * x = X * G) (hy : D * y = Y * G) (hz : D * z = Z * G) (h : 2 * X - 2 * Y ≤ Z) : 2 * x - 2 * y ≤ z := by
  have h1 := Int.mul_le_mul_of_nonneg_right h (Int.le_of_lt hG)
  rw [Int.sub_mul, Int.mul_assoc, Int.mul_assoc, ← hx, ← hy, ← hz] at h1
  refine Int.le_of_mul_le_mul_left (a := D) ?_ hD
  rw [Int.mul_sub, Int.mul_left_comm D 2, Int.mul_left_comm D 2]; exact h1
theorem scale_eq {D G x y z X Y Z : Int} (hG : 0 < G) (hx : D * x = X * G) (hy : D * y = Y * G) (hz : D * z = Z * G) (h : 2 * x - 2 * y = z) : 2 * X - 2 * Y = Z := by
  refine Int.eq_of_mul_eq_mul_right (Int.ne_of_gt hG) (?_ : (2 * X - 2 * Y) * G = Z * G)
  rw [Int.sub_mul, Int.mul_assoc, Int.mul_assoc, ← hx, ← hy, ← hz, ← h, Int.mul_sub, Int.mul_left_comm D 2, Int.mul_left_comm D 2]
/-- what rounding leaves: the count k, j steps up, near to O over U -/
structure Near (P U O k : Int) (j : Nat) : Prop where
  rg : Rg P k j
  up : 2 * (k * (2 ^ j * U)) - 2 * O ≤ 2 ^ j * U ∧ (2 * (k * (2 ^ j * U)) - 2 * O = 2 ^ j * U → k.fmod 2 ≠ 1)
  dn : 2 * O - 2 * (k * (2 ^ j * U)) ≤ 2 ^ j * U ∧ (2 * O - 2 * (k * (2 ^ j * U)) = 2 ^ j * U → k.fmod 2 ≠ 1)
  norm : 0 < j → P * (2 ^ j * U) ≤ O
theorem rnd_or (m sh : Int) (rest : Bool) : rnd m sh rest = m.fdiv (2 ^ sh.toNat) ∨ rnd m sh rest = m.fdiv (2 ^ sh.toNat) + 1 := by
  unfold rnd; split
  · exact .inr rfl
  · exact .inl rfl
theorem plc_nat {L s fb p bl : Int} {Ln sn fn bn qn : Nat} (e1 : (Ln : Int) = L) (e2 : (sn : Int) = s) (e3 : (fn : Int) = fb) (e4 : (bn : Int) = bl) (e5 : (qn : Int) = p - (0 - s)) (j : Nat) (ej : (j : Int) = p + L) (hp1 : 0 - s + bl - fb - 1 ≤ p) (hp2 : 0 < j → p = 0 - s + bl - fb - 1) :
    qn + Ln = j + sn ∧ bn ≤ fn + qn + 1 ∧ (0 < j → fn + qn + 1 = bn) := by
  refine ⟨by omega, by omega, fun h => ?_⟩
  have := hp2 h
  omega
theorem plc_lin {lst s fb p bl : Int} (hl : lst ≤ 0) (hs0 : 0 ≤ s) (hfb : 0 ≤ fb) (hb : fb + 4 ≤ bl) (hp : p = if lst > 0 - s + bl - fb - 1 then lst else 0 - s + bl - fb - 1) :
    ∃ j : Nat, p = lst + j ∧ 1 ≤ p - (0 - s) ∧ (p - (0 - s)).toNat + (0 - lst).toNat = j + s.toNat ∧ bl.toNat ≤ fb.toNat + (p - (0 - s)).toNat + 1 ∧ (0 < j → fb.toNat + (p - (0 - s)).toNat + 1 = bl.toNat) := by
  obtain ⟨hp0, hp1, hp2⟩ : lst ≤ p ∧ 0 - s + bl - fb - 1 ≤ p ∧ (lst = p ∨ p = 0 - s + bl - fb - 1) := by
    split at hp
    · exact ⟨Int.le_of_eq hp.symm, by omega, .inl hp.symm⟩
    · exact ⟨by omega, Int.le_of_eq hp.symm, .inr hp⟩
  clear hp
  obtain ⟨j, hj⟩ := Int.eq_ofNat_of_zero_le (Int.sub_nonneg_of_le hp0)
  have h1 : 1 ≤ p - (0 - s) := by clear hp2 hj; omega
  have q := plc_nat (L := 0 - lst) (fb := fb) (Int.toNat_of_nonneg (by clear hp2 hj h1 hp1 hp0 hb; omega)) (Int.toNat_of_nonneg hs0) (Int.toNat_of_nonneg hfb) (Int.toNat_of_nonneg (a := bl) (by clear hp2 hj h1 hp1 hp0 hl hs0; omega)) (Int.toNat_of_nonneg (Int.le_trans (by decide) h1)) j (by clear hp2 h1 hp1 hp0 hb; omega) hp1 (fun h => by rcases hp2 with e | e <;> clear h1 hp1 hb <;> omega)
  exact ⟨j, by clear hp2 h1 hp1 hp0 hb q; omega, h1, q.1, q.2.1, q.2.2⟩
theorem rest_iff {q den r N : Int} (h : den * q + r = N) : (q * den != N) = true ↔ r ≠ 0 := by
  rw [bne_iff_ne, ← h, Int.mul_comm den q]
  constructor <;> intro h h2 <;> omega
theorem rg_of {k c P : Int} {j : Nat} (hor : k = c ∨ k = c + 1) (h0 : 0 ≤ c) (h1 : c < 2 * P) (h2 : 0 < j → P ≤ c) : Rg P k j := by
  refine ⟨?_, ?_, fun h => ?_⟩
  · omega
  · omega
  · have := h2 h; omega
theorem blen_pos' {a : Int} {k : Nat} (h : k + 1 ≤ blen a) : 0 < a := by
  refine Classical.byContradiction fun hn => ?_
  have : blen a = 0 := by unfold blen; rw [if_pos (by omega)]
  omega
theorem qsh_nonneg (fb over under : Int) : 0 ≤ qsh fb over under := by unfold qsh; split <;> omega
theorem rat_near {fb lst num den O U : Int} (hfb : 0 ≤ fb) (hl : lst ≤ 0) (hn : 0 < num) (hd : 0 < den) (hU : 0 < U) (heq : num * U * 2 ^ (0 - lst).toNat = den * O) :
    ∃ j : Nat, plc fb lst (qq fb num den) (0 - qsh fb num den) = lst + j ∧
      Near (2 ^ fb.toNat) U O (rnd (qq fb num den) (plc fb lst (qq fb num den) (0 - qsh fb num den) - (0 - qsh fb num den)) (qq fb num den * den != num * 2 ^ (qsh fb num den).toNat)) j := by
  have hb : fb + 4 ≤ blen (qq fb num den) := quo_big hn hd hfb rfl
  have hqe : (num * 2 ^ (qsh fb num den).toNat) / den = qq fb num den := by unfold qq; rw [Int.fdiv_eq_ediv_of_nonneg _ (Int.le_of_lt hd)]
  obtain ⟨j, hj, hsh, hexp, hbl1, hbl2⟩ := plc_lin hl (qsh_nonneg fb num den) hfb hb rfl
  refine ⟨j, hj, ?_⟩
  have hqp : 0 < qq fb num den := blen_pos' (k := 0) (by omega)
  have hdm := Int.mul_ediv_add_emod (num * 2 ^ (qsh fb num den).toNat) den
  have hr0 := Int.emod_nonneg (num * 2 ^ (qsh fb num den).toNat) (Int.ne_of_gt hd)
  have hr1 := Int.emod_lt_of_pos (num * 2 ^ (qsh fb num den).toNat) hd
  rw [hqe] at hdm
  have hrest := rest_iff hdm
  change (plc fb lst (qq fb num den) (0 - qsh fb num den)) = _ at hj
  generalize hP : plc fb lst (qq fb num den) (0 - qsh fb num den) - (0 - qsh fb num den) = sh
  replace hsh : 1 ≤ sh := hP ▸ hsh
  replace hexp : sh.toNat + (0 - lst).toNat = j + (qsh fb num den).toNat := hP ▸ hexp
  replace hbl1 : (blen (qq fb num den) : Int).toNat ≤ fb.toNat + sh.toNat + 1 := hP ▸ hbl1
  replace hbl2 : 0 < j → fb.toNat + sh.toNat + 1 = (blen (qq fb num den) : Int).toNat := hP ▸ hbl2
  clear hP hj hb hqe
  generalize (qsh fb num den).toNat = s at *
  generalize (num * 2 ^ s) % den = r at *
  generalize qq fb num den = q at *
  generalize (q * den != num * 2 ^ s) = rest at *
  rw [Int.toNat_natCast] at hbl1 hbl2
  have hnr := rnd_near (m := q) (k := rnd q sh rest) hsh hd hr0 hr1 hrest rfl
  have hor := rnd_or q sh rest
  generalize rnd q sh rest = k at *
  have hexp : (2 : Int) ^ sh.toNat * 2 ^ (0 - lst).toNat = 2 ^ j * 2 ^ s := by rw [← Int.pow_add, ← Int.pow_add, hexp]
  have hW := pow2_pos sh.toNat
  have hPW : (2 : Int) ^ fb.toNat * 2 ^ sh.toNat = 2 ^ (fb.toNat + sh.toNat) := (Int.pow_add _ _ _).symm
  have hPW2 : 2 * (2 : Int) ^ fb.toNat * 2 ^ sh.toNat = 2 ^ (fb.toNat + sh.toNat + 1) := by rw [Int.mul_assoc, hPW, Int.pow_succ, Int.mul_comm]
  have hq2 : q < 2 * 2 ^ fb.toNat * 2 ^ sh.toNat := by
    rw [hPW2]; exact Int.lt_of_lt_of_le (blen_hi q) (p2mono hbl1)
  have hq1 : 0 < j → 2 ^ fb.toNat * 2 ^ sh.toNat ≤ q := by
    intro h
    obtain ⟨bk, hbk, hqlo⟩ := blen_lo hqp
    rw [hPW]; exact Int.le_trans (p2mono (Nat.le_of_eq (Nat.succ.inj ((hbl2 h).trans hbk)))) hqlo
  rw [Int.fdiv_eq_ediv_of_nonneg _ (Int.le_of_lt hW)] at hor
  have hrg : Rg (2 ^ fb.toNat) k j := rg_of hor (Int.ediv_nonneg (Int.le_of_lt hqp) (Int.le_of_lt hW)) (Int.ediv_lt_of_lt_mul hW hq2) fun h => (Int.le_ediv_iff_mul_le hW).mpr (hq1 h)
  have hD : 0 < 2 ^ s * den := Int.mul_pos (pow2_pos s) hd
  have hG : 0 < U * 2 ^ (0 - lst).toNat := Int.mul_pos hU (pow2_pos _)
  have hz : ∀ c : Int, 2 ^ s * den * (c * (2 ^ j * U)) = c * 2 ^ sh.toNat * den * (U * 2 ^ (0 - lst).toNat) := by
    intro c
    have : 2 ^ s * den * (c * (2 ^ j * U)) = c * den * U * (2 ^ j * 2 ^ s) := by ac_rfl
    rw [this, ← hexp]; ac_rfl
  have hO : 2 ^ s * den * O = (q * den + r) * (U * 2 ^ (0 - lst).toNat) := by
    rw [Int.mul_comm q den, hdm, Int.mul_assoc, ← heq]; ac_rfl
  have hz1 := hz 1
  rw [Int.one_mul, Int.one_mul] at hz1
  refine ⟨hrg, ⟨scale_le hD hG (hz k) hO hz1 hnr.1.1, fun e => hnr.1.2 (scale_eq hG (hz k) hO hz1 e)⟩, ⟨scale_le hD hG hO (hz k) hz1 hnr.2.1, fun e => hnr.2.2 (scale_eq hG hO (hz k) hz1 e)⟩, fun h => ?_⟩
  refine Int.le_of_mul_le_mul_left (a := 2 ^ s * den) ?_ hD
  rw [hz, hO]
  exact Int.mul_le_mul_of_nonneg_right (Int.le_trans (Int.mul_le_mul_of_nonneg_right (hq1 h) (Int.le_of_lt hd)) (Int.le_add_of_nonneg_right hr0)) (Int.le_of_lt hG)
noncomputable def szW (top P k : Int) (j : Nat) : Int := if j * P + k ≤ top * P then j * P + k else top * P
theorem pk1 {top j A B P : Int} (h : top * P ≤ (j + 2) * P) (hE : A = B + top * P) : A = B + (if j * P + 2 * P ≤ top * P then j * P + 2 * P else top * P) := by
  rw [Int.add_mul] at h
  split <;> omega
theorem packW_sz {eb top P lst sg k : Int} {j : Nat} (hP : 0 < P) (ht : 1 ≤ top) (hr : Rg P k j) : packW eb top P lst sg (lst + j) k = sg * (2 ^ eb.toNat * P) + szW top P k j := by
  obtain ⟨r0, r1, r2⟩ := hr
  have mul : ∀ {a b : Int}, a ≤ b → a * P ≤ b * P := fun h => Int.mul_le_mul_of_nonneg_right h (Int.le_of_lt hP)
  have e2 : P * 2 ^ Int.toNat 1 = 2 * P := by rw [show Int.toNat 1 = 1 from rfl, Int.pow_succ, Int.pow_zero, Int.one_mul, Int.mul_comm]
  have ej : lst + (j : Int) - lst + 1 = j + 1 := by clear r0 r1 r2; omega
  have ej2 : lst + (j : Int) + 1 - lst + 1 = j + 2 := by clear r0 r1 r2 ej; omega
  unfold packW szW
  rw [e2, ← Int.mul_assoc, ej, ej2]
  generalize sg * 2 ^ eb.toNat = E
  by_cases c1 : k = 2 * P
  · rw [if_pos c1, c1]
    by_cases c2 : top ≤ (j : Int) + 2
    · rw [if_pos c2, Int.add_mul]
      exact pk1 (mul c2) (Int.add_zero _)
    · rw [if_neg c2, Int.add_mul, Int.add_mul]
      have h := mul (Int.le_of_lt (Int.not_le.mp c2))
      rw [Int.add_mul] at h
      rw [if_pos h, Int.sub_self, Int.add_zero]
  · rw [if_neg c1]
    by_cases c3 : k < P
    · have hj : j = 0 := by clear c1 ej ej2; omega
      subst hj
      rw [if_pos c3, if_pos (by rw [Int.natCast_zero, Int.zero_mul, Int.zero_add]; exact Int.le_trans (Int.le_of_lt c3) (by have := mul ht; rwa [Int.one_mul] at this)), Int.natCast_zero, Int.zero_mul, Int.zero_add, Int.add_zero]
    · rw [if_neg c3]
      by_cases c2 : top ≤ (j : Int) + 1
      · rw [if_pos c2, Int.add_mul]
        have h := mul c2
        rw [Int.add_mul] at h
        clear c1 c2 r0 r1 r2 ej ej2 mul e2
        split <;> omega
      · rw [if_neg c2, Int.add_mul, Int.add_mul]
        have h := mul (Int.not_le.mp c2)
        rw [Int.add_mul, Int.add_mul] at h
        clear c1 c2 r0 r2 ej ej2 mul e2
        rw [if_pos (by omega)]; omega
theorem sz_range {top P k : Int} {j : Nat} (hP : 0 < P) (ht : 1 ≤ top) (hr : Rg P k j) : 0 ≤ szW top P k j ∧ szW top P k j ≤ top * P := by
  obtain ⟨r0, r1, r2⟩ := hr
  have h1 : 0 ≤ (j : Int) * P := Int.mul_nonneg (by omega) (Int.le_of_lt hP)
  have h2 : 0 ≤ top * P := Int.mul_nonneg (by omega) (Int.le_of_lt hP)
  unfold szW; split <;> omega
theorem un_sm {fb s top : Int} (hf : fb ≤ 64) (ht : top ≤ 300) (h0 : 0 ≤ s) (h1 : s ≤ top * 2 ^ fb.toNat) : Sm (un fb s) ∧ s.fdiv (2 ^ fb.toNat) ≤ 300 := by
  have hp := pow2_pos fb.toNat
  have e1 : s.fdiv (2 ^ fb.toNat) ≤ top := by
    rw [Int.fdiv_eq_ediv_of_nonneg _ (Int.le_of_lt hp)]
    have := Int.ediv_le_ediv hp h1
    rw [Int.mul_ediv_cancel _ (Int.ne_of_gt hp)] at this
    exact this
  have e2 := fm0 (a := s) hp
  have e3 := fm1 (a := s) hp
  have e4 := fd0 h0 hp
  refine ⟨?_, by omega⟩
  unfold un
  split
  · exact Sm.of_lt' e2 e3 (by omega)
  · have hq := pow2_pos (s.fdiv (2 ^ fb.toNat) - 1).toNat
    refine Sm.of_lt' (k := (fb.toNat + 1) + (s.fdiv (2 ^ fb.toNat) - 1).toNat) (Int.mul_nonneg (by omega) (Int.le_of_lt hq)) ?_ (by omega)
    rw [Int.pow_add]
    refine Int.mul_lt_mul_of_pos_right ?_ hq
    rw [Int.pow_succ]; omega
theorem nr_of {eb fb U O k : Int} {j : Nat} (he0 : 2 ≤ eb) (he1 : eb ≤ 8) (hf0 : 1 ≤ fb) (hf1 : fb ≤ 23) (hU : 0 < U) (hN : Near (2 ^ fb.toNat) U O k j) :
    NrOk eb fb (szW (2 ^ eb.toNat - 1) (2 ^ fb.toNat) k j) O U (2 ^ eb.toNat) (2 ^ fb.toNat) ((2 ^ eb.toNat - 1) * 2 ^ fb.toNat) (ab (un fb (szW (2 ^ eb.toNat - 1) (2 ^ fb.toNat) k j) * U - O)) := by
  have he : 2 ≤ eb.toNat ∧ eb.toNat ≤ 8 := by clear hN; omega
  have hf : 1 ≤ fb.toNat ∧ fb ≤ 64 := by clear hN; omega
  have hpe : (4 : Int) ≤ 2 ^ eb.toNat := p2mono (a := 2) he.1
  have hpe2 : (2 : Int) ^ eb.toNat ≤ 256 := p2mono (b := 8) he.2
  have hpf : (2 : Int) ≤ 2 ^ fb.toNat := p2mono (a := 1) hf.1
  have hP1 : (2 : Int) ^ fb.toNat = 2 * 2 ^ (fb.toNat - 1) := by rw [← Int.mul_comm, ← Int.pow_succ, Nat.succ_eq_add_one, Nat.sub_add_cancel hf.1]
  have hsm : ∀ s : Int, 0 ≤ s → s ≤ (2 ^ eb.toNat - 1) * 2 ^ fb.toNat → Sm (un fb s) ∧ s.fdiv (2 ^ fb.toNat) ≤ 300 := fun s h0 h1 => un_sm hf.2 (by clear hpf hP1 h0 h1; omega) h0 h1
  obtain ⟨rg, up, dn, norm⟩ := hN
  refine ⟨rfl, rfl, rfl, rfl, ?_, ?_, fun s a b => (hsm s a b).1, fun s a b => (hsm s a b).2⟩
  · unfold szW
    have h3 : 3 ≤ (2 : Int) ^ eb.toNat - 1 := by clear hpe2 hpf hP1 up dn norm; omega
    generalize (2 : Int) ^ eb.toNat - 1 = top at h3 ⊢
    split
    · exact fun h => prev_ok rfl hP1 hpf hU rg h (fun e hj => by rw [e]; exact norm hj) fun _ => up
    · rename_i hc
      have hp0 : (0 : Int) < 2 ^ fb.toNat := pow2_pos _
      have hj : top ≤ (j : Int) + 1 := by
        refine Classical.byContradiction fun hn => hc ?_
        have h := Int.mul_le_mul_of_nonneg_right (show (j : Int) + 2 ≤ top by omega) (Int.le_of_lt hp0)
        rw [Int.add_mul] at h
        have := rg.2.1
        clear up dn norm hpe hpe2 hpf hP1 he hf
        omega
      obtain ⟨i, hi⟩ : ∃ i : Nat, top = (i : Int) + 1 := ⟨(top - 1).toNat, by clear hc up dn norm hpe hpe2 hpf hP1 he hf hj; omega⟩
      have e : top * 2 ^ fb.toNat = (i : Int) * 2 ^ fb.toNat + 2 ^ fb.toNat := by rw [hi, Int.add_mul, Int.one_mul]
      have hij : i ≤ j := by clear hc up dn norm hpe hpe2 hpf hP1 he hf e; omega
      have hi0 : 0 < i := by clear hc up dn norm hpe hpe2 hpf hP1 he hf e hij; omega
      rw [e]
      refine fun h => prev_ok rfl hP1 hpf hU ⟨Int.le_of_lt hp0, by clear h hc up dn norm hpe hpe2 hpf hP1 he hf hj e; omega, fun _ => Int.le_refl _⟩ h (fun _ _ => ?_) fun hn => absurd ⟨rfl, hi0⟩ hn
      refine Int.le_trans (Int.mul_le_mul_of_nonneg_left (Int.mul_le_mul_of_nonneg_right (p2mono (b := j) hij) (Int.le_of_lt hU)) (Int.le_of_lt hp0)) (norm (Nat.lt_of_lt_of_le hi0 hij))
  · unfold szW
    generalize ht : (2 : Int) ^ eb.toNat - 1 = top
    split
    · exact fun _ => next_ok rfl hP1 hpf hU rg dn.1 dn.2
    · intro h; exact absurd h (Int.not_le.mpr (Int.lt_succ _))
theorem ten_pos (n : Nat) : (0 : Int) < 10 ^ n := Int.pow_pos (by decide)
theorem ten_lt (n : Nat) : (10 : Int) ^ n < 2 ^ (4 * n + 1) := by
  induction n with
  | zero => decide
  | succ n ih =>
    rw [show 4 * (n + 1) + 1 = (4 * n + 1) + 4 from by omega, Int.pow_succ, Int.pow_add, show (2 : Int) ^ 4 = 16 from by decide]
    have := pow2_pos (4 * n + 1)
    omega
theorem ten_sm {n : Nat} (h : n ≤ 900) : Sm (10 ^ n) := Sm.of_lt' (Int.le_of_lt (ten_pos n)) (ten_lt n) (by omega)
theorem dok_of {eb fb bi top hid lst M P : Int} (he0 : 2 ≤ eb) (he1 : eb ≤ 8) (hf0 : 1 ≤ fb) (hf1 : fb ≤ 23) (hh : hid = 2 ^ fb.toNat) (hl : lst ≤ 0) (hM0 : 0 ≤ M) (hM1 : M < 2 ^ 72) (hP0 : -75 ≤ P) (hP1 : P ≤ 75) : DOk eb fb bi top hid lst M P := by
  have h0 : 0 < hid := hh ▸ pow2_pos _
  have h1 : hid < 2 ^ 60 := by
    have : hid ≤ 2 ^ 23 := hh ▸ p2mono (Int.toNat_le.mpr hf1)
    exact Int.lt_of_le_of_lt this (by decide)
  have hbM : blen M ≤ 72 := blen_le hM1
  have eb0 : 0 ≤ eb := Int.le_trans (by decide) he0
  have eb1 : eb ≤ 64 := Int.le_trans he1 (by decide)
  have fb0 : 0 ≤ fb := Int.le_trans (by decide) hf0
  have fb1 : fb ≤ 64 := Int.le_trans hf1 (by decide)
  have hM2 : M ≠ 0 → 0 < M := fun h => Int.lt_iff_le_and_ne.mpr ⟨hM0, Ne.symm h⟩
  have hPn : P.toNat ≤ 75 := Int.toNat_le.mpr hP1
  refine ⟨eb0, eb1, h0, h1, hM0, Int.le_trans (by decide) hP0, Int.le_trans hP1 (by decide), Sm.of_lt' hM0 hM1 (by decide), ten_sm (Nat.le_trans hPn (by decide)), fun hn hp => ⟨eb0, eb1, fb0, fb1, h0, h1, hl, Int.mul_pos (hM2 hn) (ten_pos _), by decide, ?_, by decide⟩, fun hn hp => ⟨eb0, eb1, fb0, fb1, h0, h1, hl, hM2 hn, ten_pos _, Int.le_trans (Int.ofNat_le.mpr hbM) (by decide), ?_⟩⟩
  · have h : M * 10 ^ P.toNat < 2 ^ (72 + (4 * P.toNat + 1)) := by
      rw [Int.pow_add]
      exact Int.lt_of_le_of_lt (Int.mul_le_mul_of_nonneg_right (Int.le_of_lt hM1) (Int.le_of_lt (ten_pos _))) (Int.mul_lt_mul_of_pos_left (ten_lt _) (pow2_pos _))
    have := blen_le h
    clear h hM2 hM0 hM1 hbM h0 h1
    omega
  · have := blen_le (ten_lt (0 - P).toNat)
    omega
theorem near_zero {P U : Int} (hP : 0 < P) (hU : 0 < U) : Near P U 0 0 0 := by
  refine ⟨⟨by omega, by omega, fun h => absurd h (by decide)⟩, ?_, ?_, fun h => absurd h (by decide)⟩ <;>
  · rw [Int.pow_zero, Int.one_mul]; exact ⟨by omega, fun _ => by decide⟩
theorem dec_near {eb fb top hid lst sg M P V O U : Int} {n : Nat} (hfb : 0 ≤ fb) (hh : hid = 2 ^ fb.toNat) (ht : 1 ≤ top) (hl : lst ≤ 0) (hM0 : 0 ≤ M) (hP : P = V - n)
    (hO : O = if 0 ≤ V then M * 2 ^ (0 - lst).toNat * 10 ^ V.toNat else M * 2 ^ (0 - lst).toNat) (hU : U = if 0 ≤ V then 10 ^ n else 10 ^ n * 10 ^ (0 - V).toNat) :
    0 < U ∧ ∃ k j, decV eb fb top hid lst sg M P = sg * (2 ^ eb.toNat * hid) + szW top hid k j ∧ Near hid U O k j := by
  have h0 : 0 < hid := hh ▸ pow2_pos _
  have hU0 : 0 < U := by
    rw [hU]; split
    · exact ten_pos _
    · exact Int.mul_pos (ten_pos _) (ten_pos _)
  refine ⟨hU0, ?_⟩
  have rat : ∀ num den : Int, 0 < num → 0 < den → num * U * 2 ^ (0 - lst).toNat = den * O → ∃ k j, ratV eb fb top hid lst sg num den = sg * (2 ^ eb.toNat * hid) + szW top hid k j ∧ Near hid U O k j := by
    intro num den hn hd he
    obtain ⟨j, e, hN⟩ := rat_near (fb := fb) hfb hl hn hd hU0 he
    refine ⟨_, j, ?_, hh ▸ hN⟩
    unfold ratV packV
    rw [e, hh] at *
    exact packW_sz h0 ht hN.rg
  unfold decV
  by_cases hz : M = 0
  · rw [if_pos hz]
    refine ⟨0, 0, ?_, ?_⟩
    · have h2 : 0 ≤ top * hid := Int.mul_nonneg (by omega) (Int.le_of_lt h0)
      unfold szW
      rw [if_pos (by simpa using h2), ← Int.mul_assoc]; simp
    · have : O = 0 := by rw [hO, hz]; simp
      rw [this]; exact near_zero h0 hU0
  · rw [if_neg hz]
    by_cases hp : 0 ≤ P
    · rw [if_pos hp]
      have hM : 0 < M := Int.lt_iff_le_and_ne.mpr ⟨hM0, Ne.symm hz⟩
      have hV : V = P + n := by clear rat hO hU; omega
      have hV0 : 0 ≤ V := hV ▸ Int.add_nonneg hp (Int.natCast_nonneg n)
      refine rat _ _ (Int.mul_pos hM (ten_pos _)) (by decide) ?_
      rw [hO, hU, if_pos hV0, if_pos hV0, show V.toNat = P.toNat + n from by rw [hV, Int.toNat_add hp (Int.natCast_nonneg n), Int.toNat_natCast], Int.pow_add]
      ac_rfl
    · rw [if_neg hp]
      refine rat _ _ (Int.lt_iff_le_and_ne.mpr ⟨hM0, Ne.symm hz⟩) (ten_pos _) ?_
      by_cases hv : 0 ≤ V
      · rw [hO, hU, if_pos hv, if_pos hv]
        have e : (10 : Int) ^ n = 10 ^ (0 - P).toNat * 10 ^ V.toNat := by rw [← Int.pow_add]; congr 1; clear rat hO hU; omega
        rw [e]; ac_rfl
      · rw [hO, hU, if_neg hv, if_neg hv]
        have e : (10 : Int) ^ (0 - P).toNat = 10 ^ n * 10 ^ (0 - V).toNat := by rw [← Int.pow_add]; congr 1; clear rat hO hU; omega
        rw [e]; ac_rfl
theorem span_of {eb fb hid sg sz bits span top : Int} (he : 0 ≤ eb) (hf : 0 ≤ fb) (hh : hid = 2 ^ fb.toNat) (ht : top = 2 ^ eb.toNat - 1) (hs : span = 2 ^ (eb + fb).toNat) (hb : bits = sg * (2 ^ eb.toNat * hid) + sz) (h0 : 0 ≤ sz) (h1 : sz ≤ top * hid) : bits.fdiv span = sg ∧ bits.fmod span = sz := by
  have hp : 0 < hid := hh ▸ pow2_pos _
  have e : (2 : Int) ^ eb.toNat * hid = span := by rw [hh, hs, ← Int.pow_add, ← Int.toNat_add he hf]
  have hsp : 0 < span := hs ▸ pow2_pos _
  rw [hb, e]
  refine fdm hsp h0 ?_
  rw [ht, Int.sub_mul, e, Int.one_mul] at h1
  exact Int.lt_of_le_of_lt h1 (Int.sub_lt_self _ hp)
section
open PySem.NumText
theorem valD_digits : ∀ (l : List Nat), (∀ c ∈ l, isD c = true) → ∀ a : Nat, l.foldl (fun (a : Int) (c : Nat) => a * 10 + ((c : Int) - 48)) (a : Int) = ((l.foldl (fun acc c => acc * 10 + (c - 48)) a : Nat) : Int)
  | [], _, a => rfl
  | c :: l, h, a => by
    have hc := isD_iff.mp (h c (List.mem_cons_self ..))
    rw [List.foldl_cons, List.foldl_cons, ← valD_digits l (fun d hd => h d (List.mem_cons_of_mem _ hd)) (a * 10 + (c - 48))]
    congr 1
    omega
theorem valD_eq {l : List Nat} (h : ∀ c ∈ l, isD c = true) : valD l = ((digitsVal l : Nat) : Int) := valD_digits l h 0
theorem int_reads {x : Str} (h : ∀ c ∈ x.cps.toList, isD c = true) (h1 : 0 < x.length) (h2 : x.length ≤ 600) : PySem.intText? x = some (valD x.cps.toList) := by
  rw [valD_eq h]
  refine intText_digits (fun c hc => isD_iff.mp (h c hc)) (fun e => ?_) (by omega)
  have := len_list x
  rw [e] at this; simp at this; omega
theorem valD_lt (l : List Nat) (hd : ∀ c ∈ l, isD c = true) : ∀ a : Int, l.foldl (fun (a : Int) (c : Nat) => a * 10 + ((c : Int) - 48)) a < (a + 1) * 10 ^ l.length := by
  induction l with
  | nil => intro a; simp; omega
  | cons c r ih =>
    intro a
    have hc := isD_iff.mp (hd c (List.mem_cons_self ..))
    rw [List.foldl_cons, List.length_cons, Int.pow_succ]
    have h1 := ih (fun c hc => hd c (List.mem_cons_of_mem _ hc)) (a * 10 + ((c : Int) - 48))
    have h2 : (a * 10 + ((c : Int) - 48) + 1) * 10 ^ r.length ≤ ((a + 1) * 10) * 10 ^ r.length := Int.mul_le_mul_of_nonneg_right (by omega) (Int.pow_nonneg (by decide))
    have h3 : (a + 1) * (10 ^ r.length * 10) = (a + 1) * 10 * 10 ^ r.length := by rw [Int.mul_assoc, Int.mul_comm (10 ^ r.length) 10]
    omega
theorem valD_hi {l : List Nat} (hd : ∀ c ∈ l, isD c = true) (h : l.length ≤ 17) : valD l < 2 ^ 72 := by
  have h1 := valD_lt l hd 0
  have h2 := ten_le h
  unfold valD
  have h3 : (10 : Int) ^ 17 < 2 ^ 72 := by decide
  omega
theorem valD_zeros (k : Nat) (l : List Nat) : valD (List.replicate k 48 ++ l) = valD l := by
  induction k with
  | zero => rfl
  | succ k ih => rw [List.replicate_succ, List.cons_append, valD_cons0, ih]
theorem mul0_list (v : Int) : (Txt.mul (Str.ofString "0") v).cps.toList = List.replicate v.toNat 48 := by
  rw [show Str.ofString "0" = ⟨#[48]⟩ from by decide +kernel]; exact mul_one_list 48 v
/-- the text of an int that is not negative -/
def NumIs (p : Int) (x : Str) : Prop := x.cps.toList ≠ [] ∧ (∀ c ∈ x.cps.toList, isD c = true) ∧ valD x.cps.toList = p ∧ x.length ≤ 10
theorem num_is {p : Int} (h0 : 0 ≤ p) (h1 : p < 10 ^ 10) : NumIs p (Str.ofString (toString p)) := by
  have hl := KT.len_num h0 h1
  obtain ⟨m, rfl⟩ := Int.eq_ofNat_of_zero_le h0
  have hd : ∀ c ∈ (Str.ofString (toString ((m : Nat) : Int))).cps.toList, isD c = true := by
    intro c hc
    rw [KIN.signs_num] at hc
    obtain ⟨ch, hch, e⟩ := List.mem_map.mp hc
    have r := digit_range (Nat.isDigit_of_mem_toDigits (by decide) (by decide) hch)
    rw [← e]
    exact isD_iff.mpr r
  refine ⟨?_, hd, ?_, hl⟩
  · rw [KIN.signs_num]
    intro e
    have h := toDigits_len_ge 10 m
    rw [List.map_eq_nil_iff.mp e] at h
    exact absurd h (by decide)
  · rw [valD_eq hd, KIN.signs_num, KIN.val_back]
/-- the sign ahead of the exponent, by the manner drawn -/
def Sg (v : Int) (l : List Nat) : Prop := (v < 2 ∧ l = []) ∨ (v = 2 ∧ l = [43]) ∨ (v = 3 ∧ l = [45])
def SgnIs (v : Int) (x : Str) : Prop := Sg v x.cps.toList
theorem Sg.len {v : Int} {l : List Nat} (h : Sg v l) : l.length ≤ 1 := by
  rcases h with ⟨_, h⟩ | ⟨_, h⟩ | ⟨_, h⟩ <;> (rw [h]; simp)
theorem SgnIs.len {v : Int} {x : Str} (h : SgnIs v x) : x.length ≤ 1 := by rw [← len_list]; exact Sg.len h
theorem mul0_len {v : Int} (h1 : v < 9) : (Txt.mul (Str.ofString "0") v).length ≤ 8 := by
  rw [← len_list, mul0_list, List.length_replicate]; omega
def PreIs (m : Int) (x : Str) : Prop := ∃ sg k, x.cps.toList = sg ++ List.replicate k 48 ∧ Sg m sg ∧ x.length ≤ 20
theorem pre_is {m v : Int} {x : Str} (h : SgnIs m x) (h1 : v < 9) : PreIs m (x ++ Txt.mul (Str.ofString "0") v) := by
  refine ⟨x.cps.toList, v.toNat, by rw [cat_list, mul0_list], h, ?_⟩
  rw [PySem.strLen_append]
  have := h.len
  have := mul0_len h1
  omega
def Tl (m p : Int) (l : List Nat) : Prop := ∃ sg dg, l = sg ++ dg ∧ Sg m sg ∧ dg ≠ [] ∧ (∀ c ∈ dg, isD c = true) ∧ valD dg = p
def TailIs (m p : Int) (x : Str) : Prop := Tl m p x.cps.toList ∧ x.length ≤ 40
theorem tail_is {m p : Int} {x y : Str} (h : PreIs m x) (hy : NumIs p y) : TailIs m p (x ++ y) := by
  obtain ⟨sg, k, e, hs, hl⟩ := h
  obtain ⟨h0, h1, h2, h3⟩ := hy
  refine ⟨⟨sg, List.replicate k 48 ++ y.cps.toList, by rw [cat_list, e, List.append_assoc], hs, ?_, ?_, by rw [valD_zeros]; exact h2⟩, by rw [PySem.strLen_append]; omega⟩
  · intro e; exact h0 (List.append_eq_nil_iff.mp e).2
  · intro c hc
    rcases List.mem_append.mp hc with hc | hc
    · rw [List.eq_of_mem_replicate hc]; decide
    · exact h1 c hc
/-- the exponent's text -/
def ExOk (m p : Int) (ex : List Nat) : Prop := (m = 0 ∧ p = 0 ∧ ex = []) ∨ (0 < m ∧ ∃ tl, ex = 69 :: tl ∧ Tl m p tl)
def GoodT (b d : List Nat) (m p : Int) (x : Str) : Prop := (∃ ex, x.cps.toList = b ++ 46 :: (d ++ ex) ∧ ExOk m p ex) ∧ x.length ≤ 500
theorem good0 {r q : Str} {a b m p : Int} (hm : m = 0) (hp : p = 0) (h1 : (r.length : Int) ≤ a) (h2 : (q.length : Int) ≤ b) (h : a + b ≤ 400) : GoodT r.cps.toList q.cps.toList m p (r ++ Str.ofString "." ++ q) := by
  refine ⟨⟨[], by rw [cat_dot]; simp, .inl ⟨hm, hp, rfl⟩⟩, ?_⟩
  rw [← len_list, cat_dot, List.length_append, List.length_cons, len_list, len_list]; omega
theorem good1 {r q y z : Str} {a b m p : Int} (hm : 0 < m) (hy : y = Str.ofString "E") (hz : TailIs m p z) (h1 : (r.length : Int) ≤ a) (h2 : (q.length : Int) ≤ b) (h : a + b ≤ 400) : GoodT r.cps.toList q.cps.toList m p (r ++ Str.ofString "." ++ q ++ y ++ z) := by
  subst hy
  have e : (r ++ Str.ofString "." ++ q ++ Str.ofString "E" ++ z).cps.toList = r.cps.toList ++ 46 :: (q.cps.toList ++ 69 :: z.cps.toList) := by
    rw [cat_list, cat_list, cat_dot, show (Str.ofString "E").cps.toList = [69] from by decide +kernel]; simp
  refine ⟨⟨69 :: z.cps.toList, e, .inr ⟨hm, _, rfl, hz.1⟩⟩, ?_⟩
  have := hz.2
  rw [← len_list, e, List.length_append, List.length_cons, List.length_append, List.length_cons, len_list, len_list, len_list]; omega
def GoodS (b d : List Nat) (m p sg : Int) (x : Str) : Prop := (∃ pre ex, x.cps.toList = pre ++ (b ++ 46 :: (d ++ ex)) ∧ ExOk m p ex ∧ ((sg = 0 ∧ pre = []) ∨ (sg = 1 ∧ pre = [45]))) ∧ x.length ≤ 600
theorem GoodT.pos {b d : List Nat} {m p sg : Int} {x : Str} (h : GoodT b d m p x) (hs : sg = 0) : GoodS b d m p sg x := by
  obtain ⟨⟨ex, e, h1⟩, h2⟩ := h
  exact ⟨⟨[], ex, e, h1, .inl ⟨hs, rfl⟩⟩, by omega⟩
theorem GoodT.neg {b d : List Nat} {m p sg : Int} {x : Str} (h : GoodT b d m p x) (hs : sg = 1) : GoodS b d m p sg (Str.ofString "-" ++ x) := by
  obtain ⟨⟨ex, e, h1⟩, h2⟩ := h
  have e2 : (Str.ofString "-" ++ x).cps.toList = [45] ++ (b ++ 46 :: (d ++ ex)) := by rw [cat_list, e, show (Str.ofString "-").cps.toList = [45] from by decide +kernel]
  refine ⟨⟨[45], ex, e2, h1, .inr ⟨hs, rfl⟩⟩, ?_⟩
  rw [PySem.strLen_append, show (Str.ofString "-").length = 1 from by decide +kernel]; omega
/-- what a form's numbers keep to -/
structure FN (eb fb top hid lst : Int) : Prop where
  e0 : 2 ≤ eb
  e1 : eb ≤ 8
  f0 : 1 ≤ fb
  f1 : fb ≤ 23
  th : top = 2 ^ eb.toNat - 1
  hh : hid = 2 ^ fb.toNat
  l0 : lst ≤ 0
  l1 : -200 ≤ lst
theorem rew_of {x : Str} {p dg : List Nat} {V i : Int} (hx : x.cps.toList = p ++ dg) (hi : i = p.length) (hn : dg ≠ []) (hd : ∀ c ∈ dg, isD c = true) (hv : valD dg = V) : ReW x V i := by
  have hl : x.length = p.length + dg.length := by rw [← len_list, hx, List.length_append]
  have h1 : 0 < dg.length := List.length_pos_iff.mpr hn
  refine ⟨by omega, by omega, ?_, ?_⟩ <;>
  · rw [hx, hi, Int.toNat_natCast, List.drop_left]; assumption
theorem one_eq {x y : Str} {c : Nat} (hx : x = ⟨#[c]⟩) (hy : y = ⟨#[c]⟩) : (x == y) = true := by rw [hx, hy]; simp
theorem plus_mk : Str.ofString "+" = ⟨#[43]⟩ := by decide +kernel
noncomputable def expV (m p : Int) : Int := if m = 3 then 0 - p else p
theorem exp_read (w : World) (news : List (Addr × Obj)) (x : Str) (t : Tok) (m p : Int) (hsz : x.length ≤ 900) (hm : m ≤ 3) (hp : p ≤ 100) (hT : Tl m p x.cps.toList) : Gives w 114 3 news [.str x t] (Pair true (expV m p) news) := by
  obtain ⟨sg, dg, e, hs, hn, hd, hv⟩ := hT
  have hsz' : x.length ≤ 1000 := Nat.le_trans hsz (by decide)
  have hp' : p ≤ 4000 := Int.le_trans hp (by decide)
  have one : ∀ {i : Int}, ReW x p i → 1 ≤ x.length := fun h => by have := h.1; have := h.2.1; clear hd hv e; omega
  rcases hs with ⟨h, rfl⟩ | ⟨h, rfl⟩ | ⟨h, rfl⟩
  · have hR : ReW x p 0 := rew_of (p := []) e rfl hn hd hv
    obtain ⟨c, r, rfl⟩ : ∃ c r, dg = c :: r := by
      cases dg with
      | nil => exact absurd rfl hn
      | cons c r => exact ⟨c, r, rfl⟩
    have hc := isD_iff.mp (hd c (List.mem_cons_self ..))
    rw [List.nil_append] at e
    have ev : expV m p = 1 * p := by unfold expV; rw [if_neg (by clear hd hv e hR one; omega), Int.one_mul]
    have hm0 : (Txt.slice x none (some 1) == Str.ofString "-") = false := by rw [head_one e, one_beq minus_mk]; exact decide_eq_false (by clear hd hv e hR one; omega)
    have hp0 : (Txt.slice x none (some 1) == Str.ofString "+") = false := by rw [head_one e, one_beq plus_mk]; exact decide_eq_false (by clear hd hv e hR one; omega)
    exact read_exponent_ok w news x t p _ _ _ _ hsz' (one hR) hp' hm0 hp0 rfl (fun _ _ => ⟨hR, ev⟩) (fun h _ => by rcases h with h | h <;> cases h) (fun h _ => by rcases h with h | h <;> cases h)
  · have hR : ReW x p 1 := rew_of (p := [43]) e rfl hn hd hv
    have i0 : (Txt.item x 0 == Str.ofString "-") = false := by rw [show Txt.item x 0 = ⟨#[43]⟩ from item_cons (i := 0) (by rw [e]; rfl), one_beq minus_mk]; decide
    have ev : expV m p = 1 * p := by unfold expV; rw [if_neg (by rw [h]; decide), Int.one_mul]
    exact read_exponent_ok w news x t p _ _ _ _ hsz' (one hR) hp' rfl (one_eq (head_one (m := dg) e) plus_mk) i0 (fun _ h => by cases h) (fun _ _ => ⟨hR, ev⟩) (fun _ h => by cases h)
  · have hR : ReW x p 1 := rew_of (p := [45]) e rfl hn hd hv
    have i0 : (Txt.item x 0 == Str.ofString "-") = true := one_eq (item_cons (i := 0) (by rw [e]; rfl)) minus_mk
    have ev : expV m p = -1 * p := by unfold expV; rw [if_pos h, Int.neg_one_mul]; exact Int.zero_sub p
    exact read_exponent_ok w news x t p _ _ _ _ hsz' (one hR) hp' (one_eq (head_one (m := dg) e) minus_mk) rfl i0 (fun h _ => by cases h) (fun _ h => by cases h) (fun _ _ => ⟨hR, ev⟩)
theorem FormIn.fn {P : Params} {news : List (Addr × Obj)} {fm : Addr} {eb fb bi top hid lst : Int} (h : FormIn P news fm eb fb bi top hid lst) : FormIn P news fm eb fb bi top hid lst := h
theorem len_dd (V : Int) (n m : Nat) : V - (((n + 1 + m : Nat) : Int) - n - 1) = V - m := by omega
theorem dec_read (w : World) (news : List (Addr × Obj)) (fm : Addr) (eb fb bi top hid lst sg : Int) (x : Str) (t1 t2 : Tok) (b d ex : List Nat) (m p : Int) (hf : FormIn w.params news fm eb fb bi top hid lst) (hN : FN eb fb top hid lst) (hs : sg.natAbs < 2 ^ 64) (hsz : x.length ≤ 800) (hx : x.cps.toList = b ++ 46 :: (d ++ ex)) (hb : ∀ c ∈ b, isD c = true) (hd : ∀ c ∈ d, isD c = true) (h0 : 0 < b.length) (h1 : b.length ≤ 9) (h2 : d.length ≤ 8) (hE : ExOk m p ex) (hm : m ≤ 3) (hp0 : 0 ≤ p) (hp : p ≤ 60) :
    Gives w 121 6 news [.ref fm, .int sg t1, .str x t2] (Pair true (decV eb fb top hid lst sg (valD (b ++ d)) (expV m p - d.length)) news) := by
  have hbd : ∀ c ∈ b ++ d, isD c = true := fun c hc => (List.mem_append.mp hc).elim (hb c) (hd c)
  have hv0 : -60 ≤ expV m p ∧ expV m p ≤ 60 := by unfold expV; split <;> omega
  have hD : DOk eb fb bi top hid lst (valD (b ++ d)) (expV m p - d.length) := dok_of hN.e0 hN.e1 hN.f0 hN.f1 hN.hh hN.l0 (valD_nonneg hbd) (valD_hi hbd (by rw [List.length_append]; exact Nat.add_le_add h1 h2)) (by omega) (by omega)
  have hx' : x.cps.toList = (b ++ [46]) ++ (d ++ ex) := by rw [hx]; simp
  have hl : x.length = b.length + 1 + d.length + ex.length := by rw [← len_list, hx', List.length_append, List.length_append, List.length_append, List.length_cons, List.length_nil]; omega
  have hM : valD (Txt.slice x none (some (b.length : Int)) ++ Txt.slice x (some ((b.length : Int) + 1)) (some ((b.length + 1 + d.length : Nat) : Int))).cps.toList = valD (b ++ d) := by rw [cat_list, sl_a hx, sl_b hx]
  have hE1 : dEnd x.cps.toList (Int.toNat 0) = b.length := by rw [hx]; exact dEnd_at hb (by decide)
  rcases hE with ⟨rfl, rfl, rfl⟩ | ⟨hm0, tl, rfl, hT⟩
  · refine read_decimal_bare w news fm eb fb bi top hid lst sg x t1 t2 b.length (b.length + 1 + d.length) _ _ hf hs (Nat.le_trans hsz (by decide)) hE1 h0 (is_dot (slice_one hx rfl)) ?_ (by rw [hl]; rfl) (Nat.le_add_right _ _) (digs_of hx hb hd) hM ?_ hD
    · rw [hx', List.append_nil, toNat_succ]; exact dEnd_end2 (by simp) hd
    · exact len_dd 0 b.length d.length
  · have hi : x.cps.toList[b.length + 1 + d.length]? = some 69 := by
      rw [hx', List.getElem?_append_right (by simp)]; simp
    have hlen : (69 :: tl).length = tl.length + 1 := rfl
    have hnl : b.length + 1 + d.length < x.length := by rw [hl, hlen]; exact Nat.lt_add_of_pos_right (Nat.succ_pos _)
    have hnl2 : ((b.length + 1 + d.length : Nat) : Int) + 1 ≤ x.length := Int.ofNat_le.mpr hnl
    have e2 : Str.ofString "E" = ⟨#[69]⟩ := by decide +kernel
    have hcut : (Txt.slice x (some (((b.length + 1 + d.length : Nat) : Int) + 1)) none).cps.toList = tl := by
      rw [slice_frm (Int.add_nonneg (Int.natCast_nonneg _) (by decide)) hnl2]
      show List.drop _ _ = _
      rw [toNat_succ]
      have hx2 : x.cps.toList = ((b ++ [46]) ++ d ++ [69]) ++ tl := by rw [hx]; simp
      rw [hx2]
      exact List.drop_left' (by simp; omega)
    refine read_decimal_exp w news fm eb fb bi top hid lst sg x t1 t2 b.length (b.length + 1 + d.length) _ _ hf hs (Nat.le_trans hsz (by decide)) hE1 h0 (is_dot (slice_one hx rfl)) ?_ hnl ?_ (expV m p) (Int.le_trans (by decide) hv0.1) (Int.le_trans hv0.2 (by decide)) ?_ (Nat.le_add_right _ _) (digs_of hx hb hd) hM (len_dd ..) hD
    · rw [hx', toNat_succ]; exact dEnd_at2 (by simp) hd (by decide)
    · rw [item_cons hi, e2]; simp
    · intro news' t
      refine exp_read w news' _ t m p ?_ hm (Int.le_trans hp (by decide)) (by rw [hcut]; exact hT)
      rw [← len_list, hcut]
      rw [hlen] at hl
      clear hD hM hE1 hi hcut hnl hnl2 hv0 hp hp0
      omega
/-- what the good read hands back, in the law's own words -/
structure BitsOk (eb fb lst sg M V : Int) (n : Int) (bits sz : Int) : Prop where
  up : bits.fdiv (2 ^ (eb + fb).toNat) = sg
  lo : bits.fmod (2 ^ (eb + fb).toNat) = sz
  z0 : 0 ≤ sz
  z1 : sz ≤ (2 ^ eb.toNat - 1) * 2 ^ fb.toNat
  nr : ∀ O U, O = (if 0 ≤ V then M * 2 ^ (0 - lst).toNat * 10 ^ V.toNat else M * 2 ^ (0 - lst).toNat) → U = (if 0 ≤ V then 10 ^ n.toNat else 10 ^ n.toNat * 10 ^ (0 - V).toNat) → NrOk eb fb sz O U (2 ^ eb.toNat) (2 ^ fb.toNat) ((2 ^ eb.toNat - 1) * 2 ^ fb.toNat) (ab (un fb sz * U - O))
theorem bits_ok {eb fb top hid lst sg M V n bits : Int} (hN : FN eb fb top hid lst) (hM : 0 ≤ M) (hn : 0 ≤ n) (hb : bits = decV eb fb top hid lst sg M (V - n)) : ∃ sz, BitsOk eb fb lst sg M V n bits sz := by
  obtain ⟨e0, e1, f0, f1, th, hh, l0, l1⟩ := hN
  have ht : 1 ≤ top := by
    have : (4 : Int) ≤ 2 ^ eb.toNat := p2mono (a := 2) (by omega)
    omega
  have hp : 0 < hid := hh ▸ pow2_pos _
  have hdn : ∀ O U, O = (if 0 ≤ V then M * 2 ^ (0 - lst).toNat * 10 ^ V.toNat else M * 2 ^ (0 - lst).toNat) → U = (if 0 ≤ V then 10 ^ n.toNat else 10 ^ n.toNat * 10 ^ (0 - V).toNat) → 0 < U ∧ ∃ k j, bits = sg * (2 ^ eb.toNat * hid) + szW top hid k j ∧ Near hid U O k j := by
    intro O U hO hU
    rw [hb]
    exact dec_near (n := n.toNat) (Int.le_trans (by decide) f0) hh ht l0 hM (by rw [Int.toNat_of_nonneg hn]) hO hU
  obtain ⟨_, k, j, e, hNr⟩ := hdn _ _ rfl rfl
  have hr := sz_range (top := top) hp ht hNr.rg
  have hsp := span_of (span := 2 ^ (eb + fb).toNat) (Int.le_trans (by decide) e0) (Int.le_trans (by decide) f0) hh th rfl e hr.1 hr.2
  have ez := hsp.2
  refine ⟨szW top hid k j, hsp.1, ez, hr.1, by rw [← th, ← hh]; exact hr.2, fun O U hO hU => ?_⟩
  obtain ⟨hU0, k', j', e', hNr'⟩ := hdn O U hO hU
  have hr' := sz_range (top := top) hp ht hNr'.rg
  have ez' := (span_of (span := 2 ^ (eb + fb).toNat) (Int.le_trans (by decide) e0) (Int.le_trans (by decide) f0) hh th rfl e' hr'.1 hr'.2).2
  have es : szW top hid k j = szW top hid k' j' := ez.symm.trans ez'
  rw [es, th, hh]
  exact nr_of e0 e1 f0 f1 hU0 (hh ▸ hNr')
def GoodR (eb fb lst sg M V n : Int) (news : List (Addr × Obj)) (r : Value) (news' : List (Addr × Obj)) : Prop := ∃ bits sz, Pair true bits news r news' ∧ BitsOk eb fb lst sg M V n bits sz
theorem Gives.mono {w : World} {f : Addr} {D : Nat} {news : List (Addr × Obj)} {vs : List Value} {O1 O2 : Value → List (Addr × Obj) → Prop} (C : Gives w f D news vs O1) (h : ∀ r n, O1 r n → O2 r n) : Gives w f D news vs O2 := by
  unfold Gives at *
  intro mean mg mb dp un gd cn cs a ccd cl outer A₀ base h₀ L m s Q E B F X N T hk hd hu hret
  exact C mean mg mb dp un gd cn cs a ccd cl outer A₀ base h₀ L m s Q E B F X N T hk hd hu fun r n h' tk' F' N' o => hret r n h' tk' F' N' (h r n o)
theorem good_ok (w : World) (news : List (Addr × Obj)) (fm : Addr) (eb fb bi top hid lst : Int) (x r1 r2 : Str) (t2 : Tok) (m p V sg : Int) (hf : FormIn w.params news fm eb fb bi top hid lst) (hN : FN eb fb top hid lst) (hx : GoodS r1.cps.toList r2.cps.toList m p sg x) (hb : ∀ c ∈ r1.cps.toList, isD c = true) (hd : ∀ c ∈ r2.cps.toList, isD c = true) (h1 : 1 ≤ (r1.length : Int)) (h2 : (r1.length : Int) ≤ 1 + 8) (h3 : (r2.length : Int) ≤ 0 + 8) (hm : m < 4) (hp0 : 0 ≤ p) (hp : p < 61) (hV : V = if m = 3 then 0 - p else p) :
    Gives w 128 7 news [.ref fm, .str x t2] (GoodR eb fb lst sg (valD (r1 ++ r2).cps.toList) V r2.length news) := by
  rw [cat_list]
  have hM := valD_nonneg (l := r1.cps.toList ++ r2.cps.toList) (fun c hc => (List.mem_append.mp hc).elim (hb c) (hd c))
  have hV' : V = expV m p := hV
  subst hV'
  obtain ⟨⟨pre, ex, e, hE, hs⟩, hl⟩ := hx
  have hr1 := len_list r1
  have hr2 := len_list r2
  rw [← hr2]
  refine Gives.mono (O1 := Pair true (decV eb fb top hid lst sg (valD (r1.cps.toList ++ r2.cps.toList)) (expV m p - (r2.cps.toList.length : Nat))) news) ?_ fun r n hr => ?_
  · obtain ⟨c0, rr, hc⟩ : ∃ c r, r1.cps.toList = c :: r := by
      cases hq : r1.cps.toList with
      | nil => rw [hq] at hr1; simp at hr1; omega
      | cons c r => exact ⟨c, r, rfl⟩
    obtain ⟨n1, n2, n3⟩ := isD_bounds (hb c0 (by rw [hc]; exact List.mem_cons_self ..))
    rcases hs with ⟨rfl, rfl⟩ | ⟨rfl, rfl⟩
    · rw [List.nil_append] at e
      have e' : x.cps.toList = c0 :: (rr ++ 46 :: (r2.cps.toList ++ ex)) := by rw [e, hc]; rfl
      exact pos_of w news fm x t2 true _ c0 _ (by omega) e' n1 n2 n3 fun t t' => dec_read w news fm eb fb bi top hid lst 0 x t t' _ _ ex m p hf hN (by decide) (by omega) e hb hd (by omega) (by omega) (by omega) hE (by omega) hp0 (by omega)
    · have e' : x.cps.toList = 45 :: (r1.cps.toList ++ 46 :: (r2.cps.toList ++ ex)) := e
      have hxl : x.length = (r1.cps.toList ++ 46 :: (r2.cps.toList ++ ex)).length + 1 := by rw [← len_list, e', List.length_cons]
      have ecut : (Txt.slice x (some 1) none).cps.toList = r1.cps.toList ++ 46 :: (r2.cps.toList ++ ex) := by rw [slice_frm (by decide) (by omega), e']; rfl
      have ecut' : (Txt.slice x (some 1) none).cps.toList = c0 :: (rr ++ 46 :: (r2.cps.toList ++ ex)) := by rw [ecut, hc]; rfl
      refine read_real_neg w news fm x t2 true _ (by omega) (head_ne e' nan_list (by decide)) (one_eq (head_one e') minus_mk) (head_ne ecut' inf_list n2) fun t t' => ?_
      exact dec_read w news fm eb fb bi top hid lst 1 _ t t' _ _ ex m p hf hN (by decide) (by rw [← len_list, ecut]; omega) ecut hb hd (by omega) (by omega) (by omega) hE (by omega) hp0 (by omega)
  · obtain ⟨sz, hz⟩ := bits_ok hN hM (n := (r2.cps.toList.length : Nat)) (by omega) rfl
    exact ⟨_, sz, hr, hz⟩
end
theorem off2 {own : List (Addr × Obj)} {pl ce : Addr} {co : Obj} (hne : ce ≠ pl) (h : OwnOff own [pl, ce]) : ∀ p ∈ (ce, co) :: own, p.1 ≠ pl := by
  intro p hp
  rcases List.mem_cons.mp hp with rfl | hp
  · exact hne
  · exact h p hp pl (List.mem_cons_self ..)
theorem ce_ne {own : List (Addr × Obj)} {pl ce : Addr} (h : OwnOff own [pl, ce]) (hn : ce ≠ pl) : ce ≠ pl := hn
theorem take_pos {ws : List Value} {ns : List Int} (h : IntsAre ws (List.take 40 (ns ++ [0]))) : 0 < (List.take 40 (ns ++ [0])).length ∧ (List.take 40 (ns ++ [0])).length ≤ 64 := by
  rw [List.length_take, List.length_append]; simp only [List.length_cons, List.length_nil]; omega
theorem spoiled_ok (w : World) (news : List (Addr × Obj)) (fm : Addr) (x r1 r2 : Str) (t2 : Tok) (hs : Spoil r1.cps.toList r2.cps.toList x.cps.toList) (hb : ∀ c ∈ r1.cps.toList, isD c = true) (hd : ∀ c ∈ r2.cps.toList, isD c = true) (h1 : 1 ≤ (r1.length : Int)) (h2 : (r1.length : Int) ≤ 1 + 8) (h3 : (r2.length : Int) ≤ 0 + 8) :
    Gives w 128 7 news [.ref fm, .str x t2] (Pair false 0 news) :=
  spoil_bad w news fm x t2 _ _ (spoil_len hs (by rw [len_list]; exact h2) (by rw [len_list]; exact h3) (by omega)) hs hb hd (by rw [len_list]; omega)
theorem upd2 {pl x y : Addr} {o xo yo : Obj} {r : List (Addr × Obj)} (h1 : x ≠ pl) (h2 : y ≠ pl) (h3 : ∀ p ∈ r, p.1 ≠ pl) : UpdF pl o ((x, xo) :: (y, yo) :: (pl, o) :: r) (fun o' => (x, xo) :: (y, yo) :: (pl, o') :: r) := .tail h1 (.tail h2 (.head h3))
theorem upd3 {pl x y z : Addr} {o xo yo zo : Obj} {l : List (Addr × Obj)} (h1 : x ≠ pl) (h2 : y ≠ pl) (h3 : z ≠ pl) (h4 : ∀ p ∈ l, p.1 ≠ pl) : UpdF pl o ((x, xo) :: (y, yo) :: (z, zo) :: (pl, o) :: l) (fun o' => (x, xo) :: (y, yo) :: (z, zo) :: (pl, o') :: l) := .tail h1 (.tail h2 (.tail h3 (.head h4)))
theorem sgn_is {v : Int} (h0 : 0 ≤ v) (h1 : v < 4) : SgnIs v ([Str.ofString "", Str.ofString "", Str.ofString "+", Str.ofString "-"].getD v.toNat PySem.Str.empty) := by
  have : v = 0 ∨ v = 1 ∨ v = 2 ∨ v = 3 := by omega
  rcases this with rfl | rfl | rfl | rfl
  · exact .inl ⟨by decide, by decide +kernel⟩
  · exact .inl ⟨by decide, by decide +kernel⟩
  · exact .inr (.inl ⟨rfl, by decide +kernel⟩)
  · exact .inr (.inr ⟨rfl, by decide +kernel⟩)
theorem sign_pick {prog : Program} {w : World} {A : Around} {E : Value → Shared → Prop} {s : Shared} {value slice : PySem.Expr} {h₀ : Heap} {L D : Addr} {news : List (Addr × Obj)} {t1 t2 t3 t4 u : Tok} {n : Nat} {v : Int} {Q : Value → Shared → Prop}
    (N : News h₀ L s.heap ((D, (⟨.type "tuple", none, .seq #[.str (Str.ofString "") t1, .str (Str.ofString "") t2, .str (Str.ofString "+") t3, .str (Str.ofString "-") t4] n, #[]⟩ : Obj)) :: news)) (h0 : 0 ≤ v) (h1 : v < 4) (h : ∀ x t, SgnIs v x → News h₀ L s.heap news → Q (.str x t) s)
    (hs : subscripted slice false (.ref D) (.int v u) = operate [.ref D, .int v u] (getItem (.ref D) (.int v u))) :
    wpAny (model prog w) A (subscriptTail value slice (.ref D) (.int v u)) Q E s :=
  KTb.item_tup (vs := [.str (Str.ofString "") t1, .str (Str.ofString "") t2, .str (Str.ofString "+") t3, .str (Str.ofString "-") t4]) (ws := [Str.ofString "", Str.ofString "", Str.ofString "+", Str.ofString "-"])
    ⟨_, (N _ (.head _)).1, rfl, n, rfl⟩ (by repeat constructor) h0 (by simpa using h1) (by omega) (fun t' _ => h _ t' (sgn_is h0 h1) (news_sub N fun p hp => List.mem_cons_of_mem _ hp)) hs
theorem form_abs {h₀ h : Heap} {L x d pl : Addr} {po : Obj} {R : Prop} {P : Params} {v v' : Int} {t1 t2 t3 t4 t5 t6 k1 k2 k3 k4 k5 k6 : Tok} {rest : List (Addr × Obj)}
    (N : News h₀ L h ((x, instObj 31 d) :: (d, formD P (.int (2 + v) t1) (.int (1 + v') t2) (.int (1 * 2 ^ (2 + v - 1).toNat - 1) t3) (.int (1 * 2 ^ (2 + v).toNat - 1) t4) (.int (1 * 2 ^ (1 + v').toNat) t5) (.int (1 - (1 * 2 ^ (2 + v - 1).toNat - 1) - (1 + v')) t6) k1 k2 k3 k4 k5 k6) :: (pl, po) :: rest)) (a1 : 0 ≤ v) (a2 : v < 7) (b1 : 0 ≤ v') (b2 : v' < 23) (l1 : @LT.lt Nat _ pl d ∧ R) (l2 : @LT.lt Nat _ d x) :
    ∃ bi top hid lst t1 t2 t3 t4 t5 t6 k1 k2 k3 k4 k5 k6, FN (2 + v) (1 + v') top hid lst ∧ x ≠ pl ∧ d ≠ pl ∧ News h₀ L h ((x, instObj 31 d) :: (d, formD P (.int (2 + v) t1) (.int (1 + v') t2) (.int bi t3) (.int top t4) (.int hid t5) (.int lst t6) k1 k2 k3 k4 k5 k6) :: (pl, po) :: rest) := by
  have h1 : (2 : Int) ≤ 2 ^ (2 + v - 1).toNat := p2mono (a := 1) (by omega)
  have h2 : (2 : Int) ^ (2 + v - 1).toNat ≤ 128 := p2mono (b := 7) (by omega)
  refine ⟨_, _, _, _, _, _, _, _, _, _, _, _, _, _, _, _, ⟨by omega, by omega, by omega, by omega, by rw [Int.one_mul], by rw [Int.one_mul], ?_, ?_⟩, Nat.ne_of_gt (Nat.lt_trans l1.1 l2), Nat.ne_of_gt l1.1, N⟩ <;> omega
/-- the pool's place and value, kept out of arithmetic's sight -/
structure Spt (k n : Nat) (sp vl : Int) : Prop where
  lo : 0 ≤ sp
  hi : sp ≤ 200 * (k : Int) + n
  v0 : 0 ≤ vl
  k4 : k < 4
theorem Spt.up {k n m : Nat} {sp vl sp' vl' : Int} (h : Spt k n sp vl) (h1 : sp ≤ sp') (h2 : sp' ≤ sp + m) (h3 : 0 ≤ vl') : Spt k (n + m) sp' vl' := by
  obtain ⟨a, b, c, d⟩ := h
  exact ⟨by omega, by omega, h3, d⟩
theorem Spt.le {k n : Nat} {sp vl : Int} (h : Spt k n sp vl) (hn : n ≤ 150) : sp ≤ 900000 := by
  obtain ⟨a, b, c, d⟩ := h
  omega
def DigR (ce : Addr) (g : Obj → List (Addr × Obj)) (k n : Nat) (most : Int) (r : Value) (news' : List (Addr × Obj)) : Prop :=
  ∃ v sp vl tr ta tb nn, r = .int v tr ∧ 0 ≤ v ∧ v < most ∧ Spt k (n + 1) sp vl ∧ news' = g (poolO ce sp vl ta tb nn)
section
variable {w : World} {f : Addr} {D : Nat} {news : List (Addr × Obj)} {vs : List Value} {O1 O2 : Value → List (Addr × Obj) → Prop}
end
theorem dig_ok (w : World) (news : List (Addr × Obj)) (g : Obj → List (Addr × Obj)) (pl ce : Addr) (vs : List Value) (ns : List Int) (k m : Nat) (spot val most : Int) (t1 t2 t3 : Tok) (n nc : Nat) (hU : UpdF pl (poolO ce spot val t1 t2 n) news g) (hc : (ce, cellsO vs nc) ∈ news) (hi : IntsAre vs ns) (hn0 : 0 < ns.length) (hn1 : ns.length ≤ 64) (hS : Spt k m spot val) (hm : m ≤ 150) (hm0 : 0 < most) (hm1 : most ≤ 1000) (hne : ce ≠ pl) :
    Gives w 135 1 news [.ref pl, .int most t3] (DigR ce g k m most) :=
  Gives.mono (law_digit_ok w news g pl ce vs ns spot val most t1 t2 t3 n nc hU hc hi hn0 hn1 hS.lo (Int.le_trans (hS.le hm) (by decide)) hS.v0 hm0 hm1 hne) (by intro r n' o; obtain ⟨v, spot', val', tr, ta, tb, nn, e1, a1, a2, a3, a4, a5, e2⟩ := o; exact ⟨v, spot', val', tr, ta, tb, nn, e1, a1, a2, hS.up a3 a4 a5, e2⟩)
def FigS (ce : Addr) (g : Obj → List (Addr × Obj)) (k n : Nat) (least : Int) (r : Value) (news' : List (Addr × Obj)) : Prop :=
  ∃ row t sp vl ta tb nn, r = .str row t ∧ (∀ c ∈ row.cps.toList, isD c = true) ∧ least ≤ row.length ∧ (row.length : Int) ≤ least + 8 ∧ Spt k (n + 30) sp vl ∧ news' = g (poolO ce sp vl ta tb nn)
theorem fig_ok (w : World) (news : List (Addr × Obj)) (g : Obj → List (Addr × Obj)) (pl ce : Addr) (vs : List Value) (ns : List Int) (k m : Nat) (spot val least : Int) (t1 t2 t3 : Tok) (n nc : Nat) (hU : UpdF pl (poolO ce spot val t1 t2 n) news g) (hc : (ce, cellsO vs nc) ∈ news) (hi : IntsAre vs ns) (hn0 : 0 < ns.length) (hn1 : ns.length ≤ 64) (hS : Spt k m spot val) (hm : m ≤ 150) (hm0 : 0 ≤ least) (hm1 : least ≤ 10) (hne : ce ≠ pl) :
    Gives w 156 2 news [.ref pl, .int least t3] (FigS ce g k m least) :=
  Gives.mono (law_figures_ok w news g pl ce vs ns spot val least t1 t2 t3 n nc hU hc hi hn0 hn1 hS.lo (hS.le hm) hS.v0 hm0 hm1 hne) (by intro r n' o; obtain ⟨o'', ⟨row, t, sp', vl', ta, tb, nn', e1, b1, b2, b3, b4, b5, b6, e3⟩, e2⟩ := o; exact ⟨row, t, sp', vl', ta, tb, nn', e1, b1, b2, b3, hS.up b4 b5 b6, by rw [e2, e3]⟩)
def SpoS (ce : Addr) (g : Obj → List (Addr × Obj)) (k n : Nat) (b d : List Nat) (r : Value) (news' : List (Addr × Obj)) : Prop :=
  ∃ y t sp vl ta tb nn, r = .str y t ∧ Spoil b d y.cps.toList ∧ Spt k (n + 30) sp vl ∧ news' = g (poolO ce sp vl ta tb nn)
theorem spo_ok (w : World) (news : List (Addr × Obj)) (g : Obj → List (Addr × Obj)) (pl ce : Addr) (vs : List Value) (ns : List Int) (k m : Nat) (spot val : Int) (r1 r2 : Str) (t1 t2 t3 : Tok) (n nc : Nat) (hU : UpdF pl (poolO ce spot val t1 t2 n) news g) (hc : (ce, cellsO vs nc) ∈ news) (hi : IntsAre vs ns) (hn0 : 0 < ns.length) (hn1 : ns.length ≤ 64) (hS : Spt k m spot val) (hm : m ≤ 150) (hb : ∀ c ∈ r1.cps.toList, isD c = true) (h2 : (r1.length : Int) ≤ 1 + 8) (h3 : (r2.length : Int) ≤ 0 + 8) (hne : ce ≠ pl) :
    Gives w 163 2 news [.ref pl, .str (r1 ++ Str.ofString "." ++ r2) t3] (SpoS ce g k m r1.cps.toList r2.cps.toList) :=
  Gives.mono (law_spoiled_ok w news g pl ce vs ns spot val _ t1 t2 t3 n nc _ _ hU hc hi hn0 hn1 hS.lo (hS.le hm) hS.v0 (len_cat h2 h3 (by decide)) (cat_dot _ _) (find_cat hb) hne) (by intro r n' o; obtain ⟨o'', ⟨row, t, sp', vl', ta, tb, nn', e1, b1, b2, b3, b4, e3⟩, e2⟩ := o; exact ⟨row, t, sp', vl', ta, tb, nn', e1, b1, hS.up b2 b3 b4, by rw [e2, e3]⟩)
theorem FN.e0' {eb fb top hid lst : Int} (h : FN eb fb top hid lst) : 0 ≤ eb := Int.le_trans (by decide) h.e0
theorem FN.f0' {eb fb top hid lst : Int} (h : FN eb fb top hid lst) : 0 ≤ fb := Int.le_trans (by decide) h.f0
theorem FN.f1' {eb fb top hid lst : Int} (h : FN eb fb top hid lst) : fb ≤ 64 := Int.le_trans h.f1 (by decide)
theorem FN.span {eb fb top hid lst : Int} (h : FN eb fb top hid lst) : Sm (2 ^ (eb + fb).toNat) := by
  obtain ⟨e0, e1, f0, f1, th, hh, l0, l1⟩ := h
  exact Sm.pow2 (by omega)
theorem FN.lst {eb fb top hid lst : Int} (h : FN eb fb top hid lst) : Sm (2 ^ (0 - lst).toNat) := by
  obtain ⟨e0, e1, f0, f1, th, hh, l0, l1⟩ := h
  exact Sm.pow2 (by omega)
section
variable {prog : Program} {w : World} {A : Around} {E : Value → Shared → Prop} {s : Shared} {x y r q : Str} {m p a b v : Int} {t u : Tok} {Q : Value → Shared → Prop}
theorem add_pre (h : SgnIs m x) (h1 : v < 9) (k : ∀ z t' tk, PreIs m z → Q (.str z t') { s with toks := tk }) : wpAny (model prog w) A (binaryOp .Add (.str x t) (.str (Txt.mul (Str.ofString "0") v) u)) Q E s :=
  PyProof.Rows.add_str (fun t' tk => k _ t' tk (pre_is h h1)) (by rw [sizeLine_eq]; have := h.len; have := mul0_len h1; omega)
theorem add_tail (h : PreIs m x) (hy : NumIs p y) (k : ∀ z t' tk, TailIs m p z → Q (.str z t') { s with toks := tk }) : wpAny (model prog w) A (binaryOp .Add (.str x t) (.str y u)) Q E s :=
  PyProof.Rows.add_str (fun t' tk => k _ t' tk (tail_is h hy)) (by rw [sizeLine_eq]; obtain ⟨_, _, _, _, h1⟩ := h; have := hy.2.2.2; omega)
theorem add_good (hy : TailIs m p y) (hm : 0 < m) (h1 : (r.length : Int) ≤ 1 + 8) (h2 : (q.length : Int) ≤ 0 + 8) (k : ∀ z t' tk, GoodT r.cps.toList q.cps.toList m p z → Q (.str z t') { s with toks := tk }) : wpAny (model prog w) A (binaryOp .Add (.str (r ++ Str.ofString "." ++ q ++ Str.ofString "E") t) (.str y u)) Q E s :=
  PyProof.Rows.add_str (fun t' tk => k _ t' tk (good1 hm rfl hy h1 h2 (by decide))) (by rw [sizeLine_eq, PySem.strLen_append, show (Str.ofString "E").length = 1 from by decide +kernel]; have := hy.2; have := len_cat (r := r) (q := q) h1 h2 (by omega); omega)
theorem add_E (h1 : (r.length : Int) ≤ 1 + 8) (h2 : (q.length : Int) ≤ 0 + 8) (k : ∀ t' tk, Q (.str (r ++ Str.ofString "." ++ q ++ Str.ofString "E") t') { s with toks := tk }) : wpAny (model prog w) A (binaryOp .Add (.str (r ++ Str.ofString "." ++ q) t) (.str (Str.ofString "E") u)) Q E s :=
  PyProof.Rows.add_str k (by rw [sizeLine_eq, show (Str.ofString "E").length = 1 from by decide +kernel]; have := len_cat (r := r) (q := q) h1 h2 (by omega); omega)
theorem add_neg {b d : List Nat} (h : GoodT b d m p y) (k : ∀ t' tk, Q (.str (Str.ofString "-" ++ y) t') { s with toks := tk }) : wpAny (model prog w) A (binaryOp .Add (.str (Str.ofString "-") t) (.str y u)) Q E s :=
  PyProof.Rows.add_str k (by rw [sizeLine_eq, show (Str.ofString "-").length = 1 from by decide +kernel]; have := h.2; omega)
theorem add_dot (h1 : (r.length : Int) ≤ 1 + 8) (k : ∀ t' tk, Q (.str (r ++ Str.ofString ".") t') { s with toks := tk }) : wpAny (model prog w) A (binaryOp .Add (.str r t) (.str (Str.ofString ".") u)) Q E s :=
  PyProof.Rows.add_str k (by rw [sizeLine_eq, show (Str.ofString ".").length = 1 from by decide +kernel]; omega)
theorem add_dot2 (h1 : (r.length : Int) ≤ 1 + 8) (h2 : (q.length : Int) ≤ 0 + 8) (k : ∀ t' tk, Q (.str (r ++ Str.ofString "." ++ q) t') { s with toks := tk }) : wpAny (model prog w) A (binaryOp .Add (.str (r ++ Str.ofString ".") t) (.str q u)) Q E s :=
  PyProof.Rows.add_str k (by rw [sizeLine_eq, PySem.strLen_append, show (Str.ofString ".").length = 1 from by decide +kernel]; omega)
theorem add_rows (h1 : (r.length : Int) ≤ 1 + 8) (h2 : (q.length : Int) ≤ 0 + 8) (k : ∀ t' tk, Q (.str (r ++ q) t') { s with toks := tk }) : wpAny (model prog w) A (binaryOp .Add (.str r t) (.str q u)) Q E s :=
  PyProof.Rows.add_str k (by rw [sizeLine_eq]; omega)
theorem str_let (h0 : 0 ≤ p) (h1 : p < 61) (k : ∀ z t' tk, NumIs p z → Q (.str z t') { s with toks := tk }) : wpAny (model prog w) A (call (.type "str") [.int p t]) Q E s :=
  P.str_of_int (shown (N := 2 ^ 1920) (by omega) (Int.lt_trans h1 (by decide +kernel)) (Int.le_refl _)) (k _ _ _ (num_is h0 (by omega)))
theorem int_let (hb : ∀ c ∈ r.cps.toList, isD c = true) (hd : ∀ c ∈ q.cps.toList, isD c = true) (h1 : 1 ≤ (r.length : Int)) (h2 : (r.length : Int) ≤ 1 + 8) (h3 : (q.length : Int) ≤ 0 + 8)
    (k : ∀ t' tk, 0 ≤ valD (r ++ q).cps.toList ∧ valD (r ++ q).cps.toList < 2 ^ 72 → Sm (valD (r ++ q).cps.toList) → Q (.int (valD (r ++ q).cps.toList) t') { s with toks := tk }) : wpAny (model prog w) A (call (.type "int") [.str (r ++ q) t]) Q E s := by
  have hbd : ∀ c ∈ (r ++ q).cps.toList, isD c = true := by rw [cat_list]; exact fun c hc => (List.mem_append.mp hc).elim (hb c) (hd c)
  have hl : (r ++ q).length = r.length + q.length := PySem.strLen_append ..
  have g0 := valD_nonneg hbd
  have g1 := valD_hi hbd (by rw [len_list]; omega)
  exact KIN.call_text (int_reads hbd (by omega) (by omega)) (by omega) (k _ _ ⟨g0, g1⟩ (Sm.of_lt' g0 g1 (by decide)))
theorem fdiv_let (hb : 0 < b) (hs : Sm b) (hv : a.fdiv b = v) (h : Q (.int v s.toks) { s with toks := s.toks + 1 }) : wpAny (model prog w) A (binaryOp .FloorDiv (.int a t) (.int b u)) Q E s :=
  PyProof.Rows.floordiv_int (Int.ne_of_gt hb) (by rw [hv]; exact h) (.inl (Sm.noPy hs))
theorem mod_let (hb : 0 < b) (hv : a.fmod b = v) (h : Q (.int v s.toks) { s with toks := s.toks + 1 }) : wpAny (model prog w) A (binaryOp .Mod (.int a t) (.int b u)) Q E s :=
  PyProof.Rows.mod_int' (Int.ne_of_gt hb) (by rw [hv]; exact h)
theorem pow_any {n : Int} (hn : 0 ≤ n) (hn2 : n ≤ 1000000) (ha : a.natAbs < 2 ^ 64) (h : ∀ t tk, Q (.int (a ^ n.toNat) t) { s with toks := tk }) : wpAny (model prog w) A (binaryOp .Pow (.int a t) (.int n u)) Q E s :=
  PyProof.Rows.pow_int_small hn hn2 ha (h _ _)
theorem mul_any (hm : IntMulOk a b) (h : ∀ t tk, Q (.int (a * b) t) { s with toks := tk }) : wpAny (model prog w) A (binaryOp .Mult (.int a t) (.int b u)) Q E s :=
  PyProof.Rows.mul_int (h _ _) hm
theorem ten_small : (10 : Int).natAbs < 2 ^ 64 := by decide
theorem sm_over {M : Int} {k : Nat} (h : 0 ≤ M ∧ M < 2 ^ 72) (hk : k ≤ 300) : Sm (M * 2 ^ k) := by
  refine Sm.of_lt' (k := 72 + k) (Int.mul_nonneg h.1 (Int.le_of_lt (pow2_pos k))) ?_ (by omega)
  rw [Int.pow_add]
  exact Int.mul_lt_mul_of_pos_right h.2 (pow2_pos k)
theorem pow_span {v v' : Int} (a1 : 0 ≤ v) (a2 : v < 7) (b1 : 0 ≤ v') (b2 : v' < 23) (h : ∀ t tk, Q (.int (2 ^ (2 + v + (1 + v')).toNat) t) { s with toks := tk }) : wpAny (model prog w) A (binaryOp .Pow (.int 2 t) (.int (2 + v + (1 + v')) u)) Q E s :=
  pow_any (by omega) (by omega) two_small h
theorem pow_lst {eb fb top hid lst : Int} (hF : FN eb fb top hid lst) (h : ∀ t tk, Q (.int (2 ^ (0 - lst).toNat) t) { s with toks := tk }) : wpAny (model prog w) A (binaryOp .Pow (.int 2 t) (.int (0 - lst) u)) Q E s := by
  obtain ⟨e0, e1, f0, f1, th, hh, l0, l1⟩ := hF
  exact pow_any (by omega) (by omega) two_small h
theorem pow_len (h1 : (q.length : Int) ≤ 0 + 8) (h : ∀ t tk, Q (.int (10 ^ (q.length : Int).toNat) t) { s with toks := tk }) : wpAny (model prog w) A (binaryOp .Pow (.int 10 t) (.int (q.length : Int) u)) Q E s :=
  pow_any (by omega) (by omega) ten_small h
theorem pow_V {V : Int} (h0 : 0 ≤ V) (h1 : V < 61) (h : ∀ t tk, Q (.int (10 ^ V.toNat) t) { s with toks := tk }) : wpAny (model prog w) A (binaryOp .Pow (.int 10 t) (.int V u)) Q E s :=
  pow_any h0 (by omega) ten_small h
theorem pow_zero {V : Int} (h0 : V = 0) (h : ∀ t tk, Q (.int (10 ^ V.toNat) t) { s with toks := tk }) : wpAny (model prog w) A (binaryOp .Pow (.int 10 t) (.int V u)) Q E s :=
  pow_any (by omega) (by omega) ten_small h
theorem pow_nV {V : Int} (h0 : ¬ 0 ≤ V) (h1 : -61 < V) (h : ∀ t tk, Q (.int (10 ^ (0 - V).toNat) t) { s with toks := tk }) : wpAny (model prog w) A (binaryOp .Pow (.int 10 t) (.int (0 - V) u)) Q E s :=
  pow_any (by omega) (by omega) ten_small h
theorem sm_len (h1 : (q.length : Int) ≤ 0 + 8) : Sm (10 ^ (q.length : Int).toNat) := ten_sm (by omega)
theorem sm_V {V : Int} (h1 : V < 61) : Sm (10 ^ V.toNat) := ten_sm (by omega)
theorem sm_nV {V : Int} (h1 : -61 < V) : Sm (10 ^ (0 - V).toNat) := ten_sm (by omega)
theorem sm_zero : Sm (10 ^ Int.toNat 0) := ten_sm (by decide)
theorem sm_overL {eb fb top hid lst M : Int} (h : 0 ≤ M ∧ M < 2 ^ 72) (hF : FN eb fb top hid lst) : Sm (M * 2 ^ (0 - lst).toNat) := by
  obtain ⟨e0, e1, f0, f1, th, hh, l0, l1⟩ := hF
  exact sm_over h (by omega)
theorem ten_sm2 {i j : Nat} (h : i + j ≤ 900) : Sm (10 ^ i * 10 ^ j) := by rw [← Int.pow_add]; exact ten_sm h
theorem sm_len2 {V : Int} (h1 : (q.length : Int) ≤ 0 + 8) (h2 : -61 < V) : Sm (10 ^ (q.length : Int).toNat * 10 ^ (0 - V).toNat) := ten_sm2 (by omega)
end
section
variable {P : Params} {p q : Addr × Obj} {rest : List (Addr × Obj)} {fm dx : Addr} {eb fb bi top hid lst : Int} {t1 t2 t3 t4 t5 t6 k1 k2 k3 k4 k5 k6 : Tok}
theorem formIn2 : FormIn P (p :: (fm, instObj 31 dx) :: (dx, formD P (.int eb t1) (.int fb t2) (.int bi t3) (.int top t4) (.int hid t5) (.int lst t6) k1 k2 k3 k4 k5 k6) :: rest) fm eb fb bi top hid lst :=
  ⟨_, _, _, _, _, _, _, _, _, _, _, _, _, .tail _ (.head _), .tail _ (.tail _ (.head _))⟩
theorem formIn3 : FormIn P (p :: q :: (fm, instObj 31 dx) :: (dx, formD P (.int eb t1) (.int fb t2) (.int bi t3) (.int top t4) (.int hid t5) (.int lst t6) k1 k2 k3 k4 k5 k6) :: rest) fm eb fb bi top hid lst := FormIn.cons formIn2
end
theorem v_pos {m p : Int} (h : m = 3) : 0 - p = if m = 3 then 0 - p else p := (if_pos h).symm
theorem v_neg {m p : Int} (h : m ≠ 3) : p = if m = 3 then 0 - p else p := (if_neg h).symm
theorem v_zero : (0 : Int) = if (0 : Int) = 3 then 0 - 0 else 0 := by decide
def PowEnd (m p : Int) (s : Shared) (v : Value) (s' : Shared) : Prop := ∃ V t tk, v = .int V t ∧ V = (if m = 3 then 0 - p else p) ∧ s' = { s with toks := tk }
def SideEnd (b d : List Nat) (m p sg : Int) (s : Shared) (v : Value) (s' : Shared) : Prop := ∃ x t tk, v = .str x t ∧ GoodS b d m p sg x ∧ s' = { s with toks := tk }
section
variable {M : Model} {A : Around} {E : Value → Shared → Prop} {s : Shared} {x z r q : Str} {m p sg : Int} {t : Tok} {tk : Nat} {Q : Value → Shared → Prop} {b d : List Nat} {q1 q2 q3 : PySem.Pos} {ops : List CmpOp} {cmps : List PySem.Expr} {e1 e2 : PySem.Expr} {env : Env}
theorem PowEnd.yes (h : m = 3) : PowEnd m p s (.int (0 - p) t) { s with toks := tk } := ⟨_, t, tk, rfl, v_pos h, rfl⟩
theorem PowEnd.no (h : m ≠ 3) : PowEnd m p s (.int p t) { s with toks := tk } := ⟨_, t, tk, rfl, v_neg h, rfl⟩
theorem SideEnd.yes (h : GoodT b d m p z) (hs : sg = 1) : SideEnd b d m p sg s (.str (Str.ofString "-" ++ z) t) { s with toks := tk } := ⟨_, t, tk, rfl, h.neg hs, rfl⟩
theorem SideEnd.no (h : GoodT b d m p z) (h0 : 0 ≤ sg) (h1 : sg < 2) (hs : sg ≠ 1) : SideEnd b d m p sg s (.str z t) { s with toks := tk } := ⟨_, t, tk, rfl, h.pos (by omega), rfl⟩
theorem join_pow (hG : GoodT b d m p z) (hp0 : 0 ≤ p) (hp1 : p < 61) (h : wpAny M A (eval (.IfExp (.Compare (.Name (Str.ofString "manner") q1) ops cmps q2) e1 e2 q3) env) (PowEnd m p s) E s) (k : ∀ V t tk, V = (if m = 3 then 0 - p else p) → -61 < V → V < 61 → Q (.int V t) { s with toks := tk }) :
    wpAny M A (eval (.IfExp (.Compare (.Name (Str.ofString "manner") q1) ops cmps q2) e1 e2 q3) env) Q E s := by
  refine wpAny_mono h (fun v s' hv => ?_) fun _ _ e => e
  obtain ⟨V, t, tk, e1, e2, e3⟩ := hv
  subst e1; subst e3
  exact k V t tk e2 (by rw [e2]; split <;> omega) (by rw [e2]; split <;> omega)
theorem join_side (hG : GoodT b d m p z) (hs1 : sg < 2) (h : wpAny M A (eval (.IfExp (.Compare (.Name (Str.ofString "side") q1) ops cmps q2) e1 e2 q3) env) (SideEnd b d m p sg s) E s) (k : ∀ x t tk, GoodS b d m p sg x → Q (.str x t) { s with toks := tk }) :
    wpAny M A (eval (.IfExp (.Compare (.Name (Str.ofString "side") q1) ops cmps q2) e1 e2 q3) env) Q E s := by
  refine wpAny_mono h (fun v s' hv => ?_) fun _ _ e => e
  obtain ⟨x, t, tk, e1, e2, e3⟩ := hv
  subst e1; subst e3
  exact k x t tk e2
theorem good00 (h1 : 1 ≤ (r.length : Int)) (h2 : (r.length : Int) ≤ 1 + 8) (h3 : 0 ≤ (q.length : Int)) (h4 : (q.length : Int) ≤ 0 + 8) : GoodT r.cps.toList q.cps.toList 0 0 (r ++ Str.ofString "." ++ q) := good0 rfl rfl h2 h4 (by omega)
end
theorem Spt.wk {k n m : Nat} {sp vl : Int} (h : Spt k n sp vl) (hn : n ≤ m) : Spt k m sp vl := by
  obtain ⟨a, b, c, d⟩ := h
  exact ⟨a, by omega, c, d⟩
/-- what is known behind 'if manner > 0' -/
def ManP (r q : Str) (k : Nat) (c : (Str × Tok) × (Int × Tok) × (Int × Int × Tok × Tok × Nat)) : Prop :=
  ∃ m p, GoodT r.cps.toList q.cps.toList m p c.1.1 ∧ m < 4 ∧ 0 ≤ p ∧ p < 61 ∧ c.2.1.1 = (if m = 3 then 0 - p else p) ∧ -61 < c.2.1.1 ∧ c.2.1.1 < 61 ∧ Spt k 140 c.2.2.1 c.2.2.2.1
theorem manp {r q z : Str} {k n : Nat} {m p V sp vl : Int} {t tV ta tb : Tok} {nn : Nat} (hG : GoodT r.cps.toList q.cps.toList m p z) (hm : m < 4) (hp0 : 0 ≤ p) (hp : p < 61) (hV : V = (if m = 3 then 0 - p else p)) (h1 : -61 < V) (h2 : V < 61) (hS : Spt k n sp vl) (hn : n ≤ 140) :
    ManP r q k ((z, t), (V, tV), (sp, vl, ta, tb, nn)) := ⟨m, p, hG, hm, hp0, hp, hV, h1, h2, hS.wk hn⟩
theorem manp0 {r q : Str} {k n : Nat} {sp vl : Int} {t tV ta tb : Tok} {nn : Nat} (h1 : 1 ≤ (r.length : Int)) (h2 : (r.length : Int) ≤ 1 + 8) (h3 : 0 ≤ (q.length : Int)) (h4 : (q.length : Int) ≤ 0 + 8) (hS : Spt k n sp vl) (hn : n ≤ 140) :
    ManP r q k ((r ++ Str.ofString "." ++ q, t), (0, tV), (sp, vl, ta, tb, nn)) := manp (good00 h1 h2 h3 h4) (by decide) (by decide) (by decide) v_zero (by decide) (by decide) hS hn
theorem join_man {M : Model} {A : Around} {E : Value → Shared → Prop} {T : Sem Flow} {h₀ : Heap} {L pl ce : Addr} {s : Shared} {m₀ : Str → Option Value} {Q : Flow → Shared → Prop} {a b c : Addr × Obj} {sp vl : Int} {ta tb : Tok} {nn : Nat} {rest : List (Addr × Obj)} {r q : Str} (k : Nat)
    (F : Fr h₀ L s.heap m₀) (N : News h₀ L s.heap (a :: b :: c :: (pl, poolO ce sp vl ta tb nn) :: rest)) (h1 : 1 ≤ (r.length : Int)) (h2 : (r.length : Int) ≤ 1 + 8) (h3 : 0 ≤ (q.length : Int)) (h4 : (q.length : Int) ≤ 0 + 8)
    (h : wpAny M A T (JlPost h₀ L s (fun e => a :: b :: c :: (pl, poolO ce e.2.2.1 e.2.2.2.1 e.2.2.2.2.1 e.2.2.2.2.2.1 e.2.2.2.2.2.2) :: rest) (fun e => [(Str.ofString "body", .str e.1.1 e.1.2), (Str.ofString "power", .int e.2.1.1 e.2.1.2)]) [Str.ofString "tail"] m₀ (ManP r q k) Q) E s)
    (g : ∀ (z : Str) (V sp vl m p : Int) (t tV ta tb : Tok) (nn : Nat) (u : Str → Option Value) h' tk, GoodT r.cps.toList q.cps.toList m p z → m < 4 → 0 ≤ p → p < 61 → V = (if m = 3 then 0 - p else p) → -61 < V → V < 61 → Spt k 140 sp vl →
      Fr h₀ L h' (fun y => if y = Str.ofString "body" then some (.str z t) else if y = Str.ofString "power" then some (.int V tV) else if [Str.ofString "tail"].contains y then u y else m₀ y) → News h₀ L h' (a :: b :: c :: (pl, poolO ce sp vl ta tb nn) :: rest) → Q .next { s with heap := h', toks := tk }) : wpAny M A T Q E s := by
  refine jl_exec _ _ [Str.ofString "tail"] _ F h fun e u h' tk hP F' N' => ?_
  obtain ⟨⟨z, t⟩, ⟨V, tV⟩, ⟨sp, vl, ta, tb, nn⟩⟩ := e
  obtain ⟨m, p, q1, q2, q3, q4, q5, q6, q7, q8⟩ := hP
  exact g z V sp vl m p t tV ta tb nn u h' tk q1 q2 q3 q4 q5 q6 q7 q8 F' N'
theorem turn_fin {h₀ h' : Heap} {L pl ce : Addr} {ws : List Value} {own : List (Addr × Obj)} {s₁ : Shared} {k tk : Nat} {Q : Flow → Shared → Prop} {m' : Str → Option Value} {p1 p2 p3 p4 : Addr × Obj} {sp vl : Int} {ta tb : Tok} {nn : Nat}
    (F : Fr h₀ L h' m') (N : News h₀ L h' (p1 :: p2 :: p3 :: p4 :: (pl, poolO ce sp vl ta tb nn) :: (ce, cellsO ws 0) :: own)) (h4 : m' (Str.ofString "pool") = some (.ref pl)) (n : Nat) (hS : Spt k n sp vl) (hn : n ≤ 200) :
    TurnPost h₀ L pl ce ws own s₁ k Q .next { s₁ with heap := h', toks := tk } :=
  TurnEnd.mk F N (.tail _ (.tail _ (.tail _ (.tail _ (.head _))))) (.tail _ (.tail _ (.tail _ (.tail _ (.tail _ (.head _)))))) (fun p hp => .tail _ (.tail _ (.tail _ (.tail _ (.tail _ (.tail _ hp)))))) h4 hS.lo (by have := hS.hi; omega) hS.v0
theorem holds : PySem.Challenge.rw_pb0325_01.Holds := hd (by
  w_top off
  k_go0
  have hret := True.intro
  (all_goals try k_fold)
  k_with_none
  k_with "exec For Name Call cons nil" => (rename Fr _ _ _ _ => lF'; with_unfolding_all refine' For_invVF lF' ?k1 ?k2 ?_; (case k1 => exact rfl); (case k2 => exact rfl); k_whole)
  k_with "subscriptTail BinOp Name Add List Slice ref ref" => (k_dflt (refine kba_turn (value' := PySem.Expr.Name (PySem.Str.ofString "_") ⟨0, 0, 0, 0⟩) (fun _ => rfl) ?_))
  k_with "pyIter ref" =>
    k_dflt (
      rename Fr _ _ _ _ => lF'
      rename News _ _ _ _ => lN'
      rename IsRange _ _ _ _ _ _ _ _ => rgX
      with_unfolding_all refine' law_loop (by rfl) rgX lF' lN' (by rfl) ?_ ?_
      rotate_left 1
      intro u h tk news' F' N'
      clear lF' lN'
      (try k_fold)
      rotate_left 1
      intro k sp vl ta tb nn u kI t h tk own hk4 hsp0 hsp1 hvl hoff F' N'
      clear lF' lN'
      (try k_fold)
      rename (IntsAre _ (List.take 40 _)) => hIc
      have hcl0 := (take_pos hIc).1
      have hcl1 := (take_pos hIc).2
      have hS := (⟨hsp0, by omega, hvl, hk4⟩ : Spt k 0 sp vl)
      have hcp := ce_ne hoff (by k_ne)
      clear hsp0 hsp1 hvl hk4)
  k_with "subscriptTail Tuple cons Name ref int" => (k_dflt (rename News _ _ _ _ => lN; refine sign_pick lN (by with_reducible assumption) (by with_reducible assumption) ?_ (by with_unfolding_all rfl); clear lN; intro sgn tsg hsg N'; (try dsimp only); (try k_fold)))
  k_with "eval IfExp Compare BinOp Name" => (k_dflt (first
    | (with_reducible (fail_if_success (show wpAny _ _ _ (PowEnd _ _ _) _ _)); (rename GoodT _ _ _ _ _ => hG); refine join_pow hG (by with_reducible assumption) (by with_reducible assumption) ?_ ?_; rotate_left 1; intro V tV kV hV hV1 hV2; (try dsimp only); (try k_fold); rotate_left 1)
    | (with_reducible (fail_if_success (show wpAny _ _ _ (SideEnd _ _ _ _ _ _) _ _)); (rename GoodT _ _ _ _ _ => hG); refine join_side hG (by with_reducible assumption) ?_ ?_; rotate_left 1; intro xS tS kS hS; (try dsimp only); (try k_fold); rotate_left 1)
    | (with_reducible (fail_if_success (show wpAny _ _ _ (SideEnd _ _ _ _ _ _) _ _)); (have hG := good00 (by with_reducible assumption) (by with_reducible assumption) (by with_reducible assumption) (by with_reducible assumption)); refine join_side hG (by with_reducible assumption) ?_ ?_; rotate_left 1; intro xS tS kS hS; (try dsimp only); (try k_fold); rotate_left 1)))
  k_with "PowEnd" => (k_dflt (first
    | exact PowEnd.yes (by with_reducible assumption)
    | exact PowEnd.no (by with_reducible assumption)))
  k_with "SideEnd" => (k_dflt (first
    | exact SideEnd.yes (by with_reducible assumption) (by with_reducible assumption)
    | exact SideEnd.no (by with_reducible assumption) (by with_reducible assumption) (by with_reducible assumption) (by with_reducible assumption)))
  k_with "exec If" => k_dflt (
      (with_reducible show wpAny _ _ (exec (Stmt.If (Expr.Compare (Expr.Name (Str.ofString "manner") _) _ _ _) _ _ _) _) _ _ _)
      (with_reducible fail_if_success (show wpAny _ _ _ (JlPost _ _ _ _ _ _ _ _ _) _ _))
      rename Fr _ _ _ _ => lF'
      rename News _ _ _ _ => lN'
      refine join_man k lF' lN' (by with_reducible assumption) (by with_reducible assumption) (by with_reducible assumption) (by with_reducible assumption) ?_ ?_
      rotate_left 1
      clear lF' lN'
      intro z V sp3 vl3 mA pA tz tV ta3 tb3 nn3 u3 h3 tk3 hG hG1 hG2 hG3 hV hV1 hV2 hS F' N'
      (try dsimp only)
      (try k_fold)
      rotate_left 1)
  k_with "JlPost" => k_dflt (first
    | exact jl_next ((_, _), (_, _), (_, _, _, _, _)) (by assumption) (by assumption) (by exact fun _ h => h) (by kst_all) (by (intro z hz hc; (try simp at hz); (try simp at hc); first | (simp [kstB, hz]; done) | (simp [kstB, hz, hc]; done))) (manp (by with_reducible assumption) (by with_reducible assumption) (by with_reducible assumption) (by with_reducible assumption) (by with_reducible assumption) (by with_reducible assumption) (by with_reducible assumption) (by with_reducible assumption) (by decide))
    | exact jl_next ((_, _), (_, _), (_, _, _, _, _)) (by assumption) (by assumption) (by exact fun _ h => h) (by kst_all) (by (intro z hz hc; (try simp at hz); (try simp at hc); first | (simp [kstB, hz]; done) | (simp [kstB, hz, hc]; done))) (manp0 (by with_reducible assumption) (by with_reducible assumption) (by with_reducible assumption) (by with_reducible assumption) (by with_reducible assumption) (by decide))
    | refine jl_ret ?_)
  k_with "compareOp NotEq int int" => (refine nei_no rfl ?_)
  k_with "binaryOp Add str str" => ((with_reducible first
    | (refine add_pre (by with_reducible assumption) (by with_reducible assumption) ?_; intro z tz kz hz)
    | (refine add_tail (by with_reducible assumption) (by with_reducible assumption) ?_; intro z tz kz hz)
    | (refine add_good (by with_reducible assumption) (by with_reducible assumption) (by with_reducible assumption) (by with_reducible assumption) ?_; intro z tz kz hz)
    | (refine add_E (by with_reducible assumption) (by with_reducible assumption) ?_; intro tz kz)
    | (refine add_neg (by with_reducible assumption) ?_; intro tz kz)
    | (refine add_dot2 (by with_reducible assumption) (by with_reducible assumption) ?_; intro tz kz)
    | (refine add_dot (by with_reducible assumption) ?_; intro tz kz)
    | (refine add_rows (by with_reducible assumption) (by with_reducible assumption) ?_; intro tz kz)); (try dsimp only); (try k_fold))
  k_with "call type:str" => (with_reducible (refine str_let (by with_reducible assumption) (by with_reducible assumption) ?_; intro z tz kz hz); (try dsimp only); (try k_fold))
  k_with "call type:int" => (with_reducible (refine int_let (by with_reducible assumption) (by with_reducible assumption) (by with_reducible assumption) (by with_reducible assumption) (by with_reducible assumption) ?_; intro tz kz hM1 hM2); (try dsimp only); (try k_fold))
  k_with "binaryOp FloorDiv int int" => (refine fdiv_let (pow2_pos _) hFN.span (BitsOk.up (by with_reducible assumption)) ?_)
  k_with "binaryOp Mod int int" => (refine mod_let (pow2_pos _) (BitsOk.lo (by with_reducible assumption)) ?_)
  k_with "binaryOp Pow int int" => ((with_reducible first
    | (refine pow_span (by with_reducible assumption) (by with_reducible assumption) (by with_reducible assumption) (by with_reducible assumption) ?_; intro tz kz)
    | (refine pow_lst hFN ?_; intro tz kz)
    | (refine pow_len (by with_reducible assumption) ?_; intro tz kz)
    | (refine pow_zero rfl ?_; intro tz kz)
    | (refine pow_nV (by with_reducible assumption) (by with_reducible assumption) ?_; intro tz kz)
    | (refine pow_V (by with_reducible assumption) (by with_reducible assumption) ?_; intro tz kz)); (try dsimp only); (try k_fold))
  k_with "binaryOp Mult int int" => ((with_reducible first
    | (refine mul_any (Sm.mulOk (by with_reducible assumption) hFN.lst) ?_; intro tz kz)
    | (refine mul_any (Sm.mulOk (sm_overL (by with_reducible assumption) hFN) sm_zero) ?_; intro tz kz)
    | (refine mul_any (Sm.mulOk (sm_overL (by with_reducible assumption) hFN) (sm_V (by with_reducible assumption))) ?_; intro tz kz)
    | (refine mul_any (Sm.mulOk (sm_len (by with_reducible assumption)) (sm_nV (by with_reducible assumption))) ?_; intro tz kz)); (try dsimp only); (try k_fold))
  k_with "TurnPost next" => k_dflt (
      refine turn_fin (by k_asm) (by k_asm) ?_ _ (by with_reducible assumption) ?_
      (with_unfolding_all rfl)
      decide)
  k_with "call ref" => (k_dflt (first
    | ((k_dflt (refine' Gives.use (dig_ok _ _ _ _ _ _ _ _ _ _ _ _ _ _ _ _ _ ?x1 ?x2 ?x3 ?x4 ?x5 ?x6 ?x7 ?x8 ?x9 ?x10) ?k1 ?k2 ?k3 ?k4 ?k5 ?kK ?kd ?ku ?_; (case k1 => k_asm); (case k2 => k_asm); (case k3 => k_asm); (case k4 => k_asm); (case k5 => k_asm); (case kK => first | exact rfl | assumption); (case kd => ktr_room); (case ku => ktr_units); (case x1 => (with_reducible first | exact UpdF.head (off2 hcp hoff) | (refine upd2 ?_ ?_ (off2 hcp hoff); assumption; assumption) | (refine upd3 ?_ ?_ ?_ (off2 hcp hoff); assumption; assumption; assumption))); (case x2 => k_mem); (case x3 => exact hIc); (case x4 => exact hcl0); (case x5 => exact hcl1); (case x6 => with_reducible assumption); (case x7 => decide); (case x8 => decide); (case x9 => decide); (case x10 => exact hcp)); intro r' n' h' tk' F' N' o'; (try k_sweep); (try dsimp only); (try k_fold)); (obtain ⟨v, spot', val', tr, ta, tb, n', e1, a1, a2, hS, e2⟩ := o'); subst e1; subst e2; (try dsimp only at N'); (try dsimp only); (try k_fold))
    | ((rename News _ _ _ _ => lN; (try simp only [List.cons_append, List.nil_append] at lN); (try (obtain ⟨bi, top, hid, lst, ft1, ft2, ft3, ft4, ft5, ft6, fk1, fk2, fk3, fk4, fk5, fk6, hFN, hx, hd, N1⟩ := form_abs lN (by with_reducible assumption) (by with_reducible assumption) (by with_reducible assumption) (by with_reducible assumption) (by with_reducible assumption) (by with_reducible assumption); clear lN))); (k_dflt (refine' Gives.use (fig_ok _ _ _ _ _ _ _ _ _ _ _ _ _ _ _ _ _ ?x1 ?x2 ?x3 ?x4 ?x5 ?x6 ?x7 ?x8 ?x9 ?x10) ?k1 ?k2 ?k3 ?k4 ?k5 ?kK ?kd ?ku ?_; (case k1 => k_asm); (case k2 => k_asm); (case k3 => k_asm); (case k4 => k_asm); (case k5 => k_asm); (case kK => first | exact rfl | assumption); (case kd => ktr_room); (case ku => ktr_units); (case x1 => (with_reducible first | exact UpdF.head (off2 hcp hoff) | (refine upd2 ?_ ?_ (off2 hcp hoff); assumption; assumption) | (refine upd3 ?_ ?_ ?_ (off2 hcp hoff); assumption; assumption; assumption))); (case x2 => k_mem); (case x3 => exact hIc); (case x4 => exact hcl0); (case x5 => exact hcl1); (case x6 => with_reducible assumption); (case x7 => decide); (case x8 => decide); (case x9 => decide); (case x10 => exact hcp)); intro r' n' h' tk' F' N' o'; (try k_sweep); (try dsimp only); (try k_fold)); (obtain ⟨row, t, sp', vl', ta, tb, nn', e1, b1, b2, b3, hS, e2⟩ := o'); subst e1; subst e2; (try dsimp only at N'); (try dsimp only); (try k_fold))
    | ((k_dflt (refine' Gives.use (spo_ok _ _ _ _ _ _ _ _ _ _ _ _ _ _ _ _ _ _ ?x1 ?x2 ?x3 ?x4 ?x5 ?x6 ?x7 ?x8 ?x9 ?x10 ?x11) ?k1 ?k2 ?k3 ?k4 ?k5 ?kK ?kd ?ku ?_; (case k1 => k_asm); (case k2 => k_asm); (case k3 => k_asm); (case k4 => k_asm); (case k5 => k_asm); (case kK => first | exact rfl | assumption); (case kd => ktr_room); (case ku => ktr_units); (case x1 => (with_reducible first | exact UpdF.head (off2 hcp hoff) | (refine upd2 ?_ ?_ (off2 hcp hoff); assumption; assumption) | (refine upd3 ?_ ?_ ?_ (off2 hcp hoff); assumption; assumption; assumption))); (case x2 => k_mem); (case x3 => exact hIc); (case x4 => exact hcl0); (case x5 => exact hcl1); (case x6 => with_reducible assumption); (case x7 => decide); (case x8 => with_reducible assumption); (case x9 => with_reducible assumption); (case x10 => with_reducible assumption); (case x11 => exact hcp)); intro r' n' h' tk' F' N' o'; (try k_sweep); (try dsimp only); (try k_fold)); (obtain ⟨row, t, sp', vl', ta, tb, nn', e1, b1, hS, e2⟩ := o'); subst e1; subst e2; (try dsimp only at N'); (try dsimp only); (try k_fold))
    | ((k_dflt (refine' Gives.use (spoiled_ok _ _ _ _ _ _ _ ?x1 ?x2 ?x3 ?x4 ?x5 ?x6) ?k1 ?k2 ?k3 ?k4 ?k5 ?kK ?kd ?ku ?_; (case k1 => k_asm); (case k2 => k_asm); (case k3 => k_asm); (case k4 => k_asm); (case k5 => k_asm); (case kK => first | exact rfl | assumption); (case kd => ktr_room); (case ku => ktr_units); (case x1 => with_reducible assumption); (case x2 => with_reducible assumption); (case x3 => with_reducible assumption); (case x4 => with_reducible assumption); (case x5 => with_reducible assumption); (case x6 => with_reducible assumption)); intro r' n' h' tk' F' N' o'; (try k_sweep); (try dsimp only); (try k_fold)); (obtain ⟨D, tD, e1, e2, lD⟩ := o'); subst e1; subst e2; (have lq := Nat.ne_of_gt (lD _ (.tail _ (.tail _ (.head _))))); (dsimp only at lq); clear lD; (try dsimp only at N'); (try dsimp only); (try k_fold))
    | ((k_dflt (refine' Gives.use (good_ok _ _ _ _ _ _ _ _ _ _ _ _ _ _ _ _ _ ?x1 ?x2 ?x3 ?x4 ?x5 ?x6 ?x7 ?x8 ?x9 ?x10 ?x11 ?x12) ?k1 ?k2 ?k3 ?k4 ?k5 ?kK ?kd ?ku ?_; (case k1 => k_asm); (case k2 => k_asm); (case k3 => k_asm); (case k4 => k_asm); (case k5 => k_asm); (case kK => first | exact rfl | assumption); (case kd => ktr_room); (case ku => ktr_units); (case x1 => (with_reducible first | exact formIn2 | exact formIn3)); (case x2 => exact hFN); (case x3 => with_reducible assumption); (case x4 => with_reducible assumption); (case x5 => with_reducible assumption); (case x6 => with_reducible assumption); (case x7 => with_reducible assumption); (case x8 => with_reducible assumption); (case x9 => (first | with_reducible assumption | decide)); (case x10 => (first | with_reducible assumption | decide)); (case x11 => (first | with_reducible assumption | decide)); (case x12 => (with_reducible first | assumption | exact v_zero))); intro r' n' h' tk' F' N' o'; (try k_sweep); (try dsimp only); (try k_fold)); (obtain ⟨bits, sz, ⟨D, tD, e1, e2, lD⟩, hB⟩ := o'); subst e1; subst e2; (clear lD); (try dsimp only at N'); (try dsimp only); (try k_fold))
    | ((k_dflt (refine' GivesV.use (law_nearest_ok _ _ _ _ _ _ _ _ _ _ _ _ _ _ _ _ _ _ _ ?x1 ?x2 ?x3 ?x4 ?x5 ?x6 ?x7 ?x8 ?x9) ?k1 ?k2 ?k3 ?k4 ?k5 ?kK ?kd ?ku ?_; (case k1 => k_asm); (case k2 => k_asm); (case k3 => k_asm); (case k4 => k_asm); (case k5 => k_asm); (case kK => first | exact rfl | assumption); (case kd => ktr_room); (case ku => ktr_units); (case x1 => (with_reducible first | exact formIn2 | exact formIn3)); (case x2 => exact hFN.e0'); (case x3 => exact hFN.e1); (case x4 => exact hFN.f0'); (case x5 => exact hFN.f1'); (case x6 => exact hB.z0); (case x7 => exact hB.z1); (case x8 => (with_reducible first | exact sm_len2 (by with_reducible assumption) (by with_reducible assumption) | exact sm_len (by with_reducible assumption))); (case x9 => (first | exact hB.nr _ _ (if_pos (by with_reducible assumption)).symm (if_pos (by with_reducible assumption)).symm | exact hB.nr _ _ (if_neg (by with_reducible assumption)).symm (if_neg (by with_reducible assumption)).symm | exact hB.nr _ _ (if_pos (by decide)).symm (if_pos (by decide)).symm))); intro t' h' tk' F' N'; (try k_sweep); (try dsimp only); (try k_fold)))))
  k_steps
  )
end Mine
end
set_option maxRecDepth 100000 in
set_option maxHeartbeats 8000000 in
theorem PySem.Challenge.cw_pb0325_01_holds : PySem.Challenge.rw_pb0325_01.Holds := by
  exact Mine.holds
