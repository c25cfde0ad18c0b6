import PyProof.Rows.All
import Wide.All
import OpenK.AllK
import Wide.FinOn
import PySem.Challenge.RW_sa0361_01
open PySem PySem.W PySem.Calls PyProof.Rows
set_option Elab.async false
set_option maxRecDepth 100000
set_option maxHeartbeats 8000000
-- the head, once
namespace Mine
open_top sq_hd for PySem.Challenge.rw_sa0361_01
end Mine
-- SqBase
namespace Mine
abbrev SqRet (h₀ : Heap) (L : Addr) (m : Str → Option Value) (news : List (Addr × Obj)) (s : Shared) (Q : Value → Shared → Prop) (R : Tok → Value) : Prop :=
  ∀ (t : Tok) (h' : Heap) (tk' : Nat), Fr h₀ L h' m → News h₀ L h' news → Q (R t) { s with heap := h', toks := tk' }
abbrev SqC (f : Addr) (D : Nat) (vs : List Value) (pre : Prop) (R : Tok → Value) : Prop :=
  ∀ (w : World) (loose : List Str) (mean : ExcName → Option Value) (mg mb : Str → Option Value) (dp un : Nat) (gd : Option (List Code)) (cn : Str) (cs : Scope) (a : Addr) (ccd : Value) (cl : List (Str × Addr)) (outer : List Env) (A₀ : Around) (base h₀ : Heap) (L : Addr) (m : Str → Option Value) (news : List (Addr × Obj)) (s : Shared) (Q E : Value → Shared → Prop),
    Below A₀ base outer h₀ → Fr h₀ L s.heap m → (sq_hd.heap_39 w.params).In h₀ → News h₀ L s.heap news → Top sq_hd.view_39 loose mean mg mb h₀ → cs.kind = .function →
    pre → dp + D < recursionLimit → un + 8 * D < cLine → SqRet h₀ L m news s Q R →
      wpAny (model PySem.Challenge.rw_sa0361_01.row.prog w) (ktrTop dp un gd cn cs L a ccd cl outer) (call (.ref f) vs) Q E s
def widthF (n : Int) : Int := if n ≤ 0 then 0 else (n.toNat.log2 : Int) + 1
def isNanF (n : Int) : Bool := decide (9218868437227405312 < Builtin.bitAnd n (9223372036854775808 - 1))
def isInfF (n : Int) : Bool := Builtin.bitAnd n (9223372036854775808 - 1) == 9218868437227405312
def isZeroF (n : Int) : Bool := Builtin.bitAnd n (9223372036854775808 - 1) == 0
def isNegF (n : Int) : Bool := n.fdiv (2 ^ 63) == 1
def signedF (sg n : Int) : Int := Builtin.bitOr (Builtin.bitAnd n (9223372036854775808 - 1)) (sg * 2 ^ 63)
def packF (sg e f : Int) : Int := Builtin.bitOr (Builtin.bitOr (sg * 2 ^ 63) (e * 2 ^ 52)) f
section
variable {prog : Program} {w : World} {A₀ A : Around} {s : Shared} {base h₀ : Heap} {outer : List Env} {L : Addr} {m : Str → Option Value} {env : Env} {news : List (Addr × Obj)} {K : Frag} {p : Program} {loose : List Str} {mean : ExcName → Option Value} {mg mb : Str → Option Value}
  {R : Result → Shared → Prop} {name qual : Str} {params : Arguments} {body : List Stmt} {scope : Scope} {dV kV doc pm cdv ct oc : Value} {an od : Option Addr} {osl : Array (Option Value)} {f : Addr} {args : Args} {binds : List (Str × Value)}
theorem enter0 (B : Below A₀ base outer h₀) (F : Fr h₀ L s.heap m) (X₀ : K.In h₀) (N : News h₀ L s.heap news) (T : Top p loose mean mg mb h₀) (hA : A.frames = some (env :: outer)) (hf : env.frame = some L) (hke : env.scope.kind = .function)
    (ho : K.lookup f = some ⟨oc, od, .func (fnOf name qual params body scope dV kV doc pm an cdv ct), osl⟩) (hcd : codeIn K cdv qual = true) (hroom : A.depth < recursionLimit)
    (hbind : BindsTo s (fnOf name qual params body scope dV kV doc pm an cdv ct) args binds) (hloc : ∀ y ∈ binds, scope.names.lookup y.1 = some .local)
    (h : ∀ g L' h₁, Fr h₀ L g m → Fr g L' h₁ (fun y => binds.reverse.lookup y) → News g L' h₁ [] → Below A base (env :: outer) g → K.In g → Top p loose mean mg mb g →
      wpAny (model prog w) (A.deeper (envOf qual scope L' f cdv)) (execs body (envOf qual scope L' f cdv))
        (fun fl s' => LeaveK h₀ L m g (fun r s'' => News h₀ L s''.heap news → R r s'') (match fl with | .ret v => v | _ => .none) s')
        (fun e s' => wpAny (model prog w) (A.deeper (envOf qual scope L' f cdv)) (leaving (envOf qual scope L' f cdv) e) (fun _ s'' => R (.error e) s'') (fun e' s'' => R (.error e') s'') s')
        { s with heap := h₁, toks := s.toks + binds.length })
    (hco : scope.isCoroutine = false) (hgen : scope.isGenerator = false) (hk : scope.kind = .function)
    (hcell : ∀ x ∈ scope.names, x.2 ≠ .cell) : codeAny (model prog w) A (.call (.ref f) args) R s := by
  have B₁ := pushX B F hf hke
  obtain ⟨oL, es, ep, hL, hLd, hLk, hLf⟩ := F.ns
  refine codeAny_call_def (fd := fnOf name qual params body scope dV kV doc pm an cdv ct) (body := body) (binds := binds) hroom ((X₀.keeps F.keep) _ _ ho) rfl (T.nolimit.keeps F.keep) (codeRec_of (X₀.keeps F.keep) hcd) rfl hbind hcell hloc (fun h₁ hns hk₁ => ?_) hco hgen hk
  refine wpAny_mono (h s.heap s.heap.objs.size h₁ F ⟨hns, fun b o e => hk₁ b o e, Nat.le_refl _⟩ News.nil ⟨hA, B₁.stays, B₁.frames⟩ (X₀.keeps F.keep) (T.keeps F.keep)) (fun fl s' hl => ?_) fun _ _ y => y
  obtain ⟨L', m', news', F', N', k⟩ := hl
  refine k ⟨⟨oL, es, ep, F'.keep L oL hL, hLd, hLk, hLf⟩, fun b o e => F'.keep b o (F.keep b o e), F.above⟩ (fun q hp => ⟨(N' q hp).1, fun e => ?_, ?_⟩) (fun q hp => ⟨F'.keep _ _ (N q hp).1, (N q hp).2⟩)
  · have := (N' q hp).2.2; rw [e, hL] at this; cases this
  · cases e : h₀.get? q.1 with
    | none => rfl
    | some o => have := (N' q hp).2.2; rw [F.keep _ _ e] at this; cases this
end
abbrev tup3 (x y z : Int) (t1 t2 t3 : Tok) (c : Nat) : Obj := { cls := .type "tuple", data := .seq #[.int x t1, .int y t2, .int z t3] c }
abbrev tup2 (x y : Int) (t1 t2 : Tok) (c : Nat) : Obj := { cls := .type "tuple", data := .seq #[.int x t1, .int y t2] c }
abbrev SqRet3 (h₀ : Heap) (L : Addr) (m : Str → Option Value) (news : List (Addr × Obj)) (s : Shared) (Q : Value → Shared → Prop) (x y z : Int) : Prop :=
  ∀ (D : Addr) (t1 t2 t3 : Tok) (c : Nat) (h' : Heap) (tk' : Nat), Fr h₀ L h' m → News h₀ L h' ((D, tup3 x y z t1 t2 t3 c) :: news) → Q (.ref D) { s with heap := h', toks := tk' }
abbrev SqRet2 (h₀ : Heap) (L : Addr) (m : Str → Option Value) (news : List (Addr × Obj)) (s : Shared) (Q : Value → Shared → Prop) (x y : Int) : Prop :=
  ∀ (D : Addr) (t1 t2 : Tok) (c : Nat) (h' : Heap) (tk' : Nat), Fr h₀ L h' m → News h₀ L h' ((D, tup2 x y t1 t2 c) :: news) → Q (.ref D) { s with heap := h', toks := tk' }
abbrev SqC3 (f : Addr) (D : Nat) (vs : List Value) (pre : Prop) (x y z : Int) : Prop :=
  ∀ (w : World) (loose : List Str) (mean : ExcName → Option Value) (mg mb : Str → Option Value) (dp un : Nat) (gd : Option (List Code)) (cn : Str) (cs : Scope) (a : Addr) (ccd : Value) (cl : List (Str × Addr)) (outer : List Env) (A₀ : Around) (base h₀ : Heap) (L : Addr) (m : Str → Option Value) (news : List (Addr × Obj)) (s : Shared) (Q E : Value → Shared → Prop),
    Below A₀ base outer h₀ → Fr h₀ L s.heap m → (sq_hd.heap_39 w.params).In h₀ → News h₀ L s.heap news → Top sq_hd.view_39 loose mean mg mb h₀ → cs.kind = .function →
    pre → dp + D < recursionLimit → un + 8 * D < cLine → SqRet3 h₀ L m news s Q x y z →
      wpAny (model PySem.Challenge.rw_sa0361_01.row.prog w) (ktrTop dp un gd cn cs L a ccd cl outer) (call (.ref f) vs) Q E s
abbrev SqC2 (f : Addr) (D : Nat) (vs : List Value) (pre : Prop) (x y : Int) : Prop :=
  ∀ (w : World) (loose : List Str) (mean : ExcName → Option Value) (mg mb : Str → Option Value) (dp un : Nat) (gd : Option (List Code)) (cn : Str) (cs : Scope) (a : Addr) (ccd : Value) (cl : List (Str × Addr)) (outer : List Env) (A₀ : Around) (base h₀ : Heap) (L : Addr) (m : Str → Option Value) (news : List (Addr × Obj)) (s : Shared) (Q E : Value → Shared → Prop),
    Below A₀ base outer h₀ → Fr h₀ L s.heap m → (sq_hd.heap_39 w.params).In h₀ → News h₀ L s.heap news → Top sq_hd.view_39 loose mean mg mb h₀ → cs.kind = .function →
    pre → dp + D < recursionLimit → un + 8 * D < cLine → SqRet2 h₀ L m news s Q x y →
      wpAny (model PySem.Challenge.rw_sa0361_01.row.prog w) (ktrTop dp un gd cn cs L a ccd cl outer) (call (.ref f) vs) Q E s
section
variable {h₀ h' : Heap} {L D : Addr} {m : Str → Option Value} {news news' : List (Addr × Obj)} {s : Shared} {Q : Value → Shared → Prop} {t1 t2 t3 : Tok} {c tk' : Nat} {x y z x' y' z' : Int}
theorem ret3 (hret : SqRet3 h₀ L m news s Q x y z) (F : Fr h₀ L h' m) (N : News h₀ L h' news') (hm : (D, tup3 x' y' z' t1 t2 t3 c) ∈ news') (N9 : News h₀ L h' news) (e1 : x' = x) (e2 : y' = y) (e3 : z' = z) : Q (.ref D) { s with heap := h', toks := tk' } := by
  subst e1; subst e2; subst e3
  refine hret D t1 t2 t3 c h' tk' F fun p hp => ?_
  rcases List.mem_cons.mp hp with rfl | hp
  · exact N _ hm
  · exact N9 _ hp
theorem ret2 (hret : SqRet2 h₀ L m news s Q x y) (F : Fr h₀ L h' m) (N : News h₀ L h' news') (hm : (D, tup2 x' y' t1 t2 c) ∈ news') (N9 : News h₀ L h' news) (e1 : x' = x) (e2 : y' = y) : Q (.ref D) { s with heap := h', toks := tk' } := by
  subst e1; subst e2
  refine hret D t1 t2 c h' tk' F fun p hp => ?_
  rcases List.mem_cons.mp hp with rfl | hp
  · exact N _ hm
  · exact N9 _ hp
end

section
variable {prog : Program} {f : Addr} {D : Nat} {vs : List Value} {pre : Prop} {x y z : Int} {R : Tok → Value} {w : World} {loose : List Str} {mean : ExcName → Option Value} {mg mb : Str → Option Value} {dp un : Nat} {gd : Option (List Code)} {cn : Str} {cs : Scope} {a : Addr} {ccd : Value} {cl : List (Str × Addr)} {outer : List Env} {A₀ : Around} {base h₀ : Heap} {L : Addr} {m : Str → Option Value} {news : List (Addr × Obj)} {s : Shared} {Q E : Value → Shared → Prop}
theorem use1 (C : SqC f D vs pre R) (B : Below A₀ base outer h₀) (F : Fr h₀ L s.heap m) (X : (sq_hd.heap_39 w.params).In h₀) (N : News h₀ L s.heap news) (T : Top sq_hd.view_39 loose mean mg mb h₀) (hk : cs.kind = .function)
    (hp : pre) (hd : dp + D < recursionLimit) (hu : un + 8 * D < cLine) (hret : SqRet h₀ L m news s Q R) :
    wpAny (model PySem.Challenge.rw_sa0361_01.row.prog w) (ktrTop dp un gd cn cs L a ccd cl outer) (call (.ref f) vs) Q E s := C _ _ _ _ _ _ _ _ _ _ _ _ _ _ _ _ _ _ _ _ _ _ _ B F X N T hk hp hd hu hret
theorem use2 (C : SqC2 f D vs pre x y) (B : Below A₀ base outer h₀) (F : Fr h₀ L s.heap m) (X : (sq_hd.heap_39 w.params).In h₀) (N : News h₀ L s.heap news) (T : Top sq_hd.view_39 loose mean mg mb h₀) (hk : cs.kind = .function)
    (hp : pre) (hd : dp + D < recursionLimit) (hu : un + 8 * D < cLine) (hret : SqRet2 h₀ L m news s Q x y) :
    wpAny (model PySem.Challenge.rw_sa0361_01.row.prog w) (ktrTop dp un gd cn cs L a ccd cl outer) (call (.ref f) vs) Q E s := C _ _ _ _ _ _ _ _ _ _ _ _ _ _ _ _ _ _ _ _ _ _ _ B F X N T hk hp hd hu hret
theorem use3 (C : SqC3 f D vs pre x y z) (B : Below A₀ base outer h₀) (F : Fr h₀ L s.heap m) (X : (sq_hd.heap_39 w.params).In h₀) (N : News h₀ L s.heap news) (T : Top sq_hd.view_39 loose mean mg mb h₀) (hk : cs.kind = .function)
    (hp : pre) (hd : dp + D < recursionLimit) (hu : un + 8 * D < cLine) (hret : SqRet3 h₀ L m news s Q x y z) :
    wpAny (model PySem.Challenge.rw_sa0361_01.row.prog w) (ktrTop dp un gd cn cs L a ccd cl outer) (call (.ref f) vs) Q E s := C _ _ _ _ _ _ _ _ _ _ _ _ _ _ _ _ _ _ _ _ _ _ _ B F X N T hk hp hd hu hret
end
def sgnF (n : Int) : Int := n.fdiv (2 ^ 63)
def expF (n : Int) : Int := Builtin.bitAnd (n.fdiv (2 ^ 52)) 2047
def fracF (n : Int) : Int := Builtin.bitAnd n 4503599627370495
def mantF (n : Int) : Int := if expF n = 0 then fracF n else Builtin.bitOr (fracF n) 4503599627370496
def powF (n : Int) : Int := if expF n = 0 then -1074 else expF n - 1075
end Mine
-- SqLeaf
namespace Mine
theorem isNan_K (n : Int) (t : Tok) : SqC 42 1 [.int n t] (True) (fun _ => .bool (isNanF n)) := by
  dsimp only [SqC, SqRet]
  k_with_none
  k_fill
  intro w loose mean mg mb dp un gd cn cs a ccd cl outer A₀ base h₀ L m news s Q E B F X N T hk hp hd hu hret
  refine wpAny_call ?_
  k_dflt cell_enter
  k_steps
  all_goals cb_end hret
theorem isInf_K (n : Int) (t : Tok) : SqC 49 1 [.int n t] (True) (fun _ => .bool (isInfF n)) := by
  dsimp only [SqC, SqRet]
  k_with_none
  k_fill
  intro w loose mean mg mb dp un gd cn cs a ccd cl outer A₀ base h₀ L m news s Q E B F X N T hk hp hd hu hret
  refine wpAny_call ?_
  k_dflt cell_enter
  k_steps
  all_goals cb_end hret
theorem isZero_K (n : Int) (t : Tok) : SqC 56 1 [.int n t] (True) (fun _ => .bool (isZeroF n)) := by
  dsimp only [SqC, SqRet]
  k_with_none
  k_fill
  intro w loose mean mg mb dp un gd cn cs a ccd cl outer A₀ base h₀ L m news s Q E B F X N T hk hp hd hu hret
  refine wpAny_call ?_
  k_dflt cell_enter
  k_steps
  all_goals cb_end hret
theorem isNeg_K (n : Int) (t : Tok) : SqC 35 1 [.int n t] (True) (fun _ => .bool (isNegF n)) := by
  dsimp only [SqC, SqRet]
  k_with_none
  k_fill
  intro w loose mean mg mb dp un gd cn cs a ccd cl outer A₀ base h₀ L m news s Q E B F X N T hk hp hd hu hret
  refine wpAny_call ?_
  k_dflt cell_enter
  k_steps
  all_goals cb_end hret
theorem signed_K (sg n : Int) (t u : Tok) : SqC 63 1 [.int sg t, .int n u] (0 ≤ sg ∧ sg ≤ 1) (fun t => .int (signedF sg n) t) := by
  dsimp only [SqC, SqRet]
  k_with_none
  k_fill
  intro w loose mean mg mb dp un gd cn cs a ccd cl outer A₀ base h₀ L m news s Q E B F X N T hk hp hd hu hret
  obtain ⟨hp1, hp2⟩ := hp
  refine wpAny_call ?_
  k_dflt cell_enter
  k_steps
  all_goals cb_end hret
theorem pack_K (sg e f : Int) (t u v : Tok) : SqC 28 1 [.int sg t, .int e u, .int f v] (0 ≤ sg ∧ sg ≤ 1 ∧ -10000 ≤ e ∧ e ≤ 10000) (fun t => .int (packF sg e f) t) := by
  dsimp only [SqC, SqRet]
  k_with_none
  k_fill
  intro w loose mean mg mb dp un gd cn cs a ccd cl outer A₀ base h₀ L m news s Q E B F X N T hk hp hd hu hret
  obtain ⟨hp1, hp2, hp3, hp4⟩ := hp
  refine wpAny_call ?_
  k_dflt cell_enter
  k_steps
  all_goals cb_end hret
end Mine
-- SqWidth
namespace Mine
theorem log2_shift (n s : Nat) (h : 2 ^ s ≤ n) : n.log2 = (n / 2 ^ s).log2 + s := by
  have hp : 0 < 2 ^ s := Nat.two_pow_pos s
  have hn : n ≠ 0 := by omega
  have hq : n / 2 ^ s ≠ 0 := by
    have := Nat.div_pos h hp
    omega
  have h1 := (Nat.le_log2 hq).mp (Nat.le_refl _)
  have h2 := (Nat.log2_lt hq).mp (Nat.lt_succ_self _)
  have h3 := Nat.div_add_mod n (2 ^ s)
  have h4 := Nat.mod_lt n hp
  apply Nat.le_antisymm
  · apply Nat.le_of_lt_succ
    rw [Nat.log2_lt hn]
    have e : 2 ^ ((n / 2 ^ s).log2 + s).succ = 2 ^ s * 2 ^ (n / 2 ^ s).log2.succ := by
      rw [← Nat.pow_add]; congr 1; omega
    rw [e]
    have := Nat.mul_le_mul_left (2 ^ s) h2
    rw [Nat.mul_succ] at this
    omega
  · rw [Nat.le_log2 hn]
    have e : 2 ^ ((n / 2 ^ s).log2 + s) = 2 ^ s * 2 ^ (n / 2 ^ s).log2 := by
      rw [← Nat.pow_add]; congr 1; omega
    rw [e]
    have := Nat.mul_le_mul_left (2 ^ s) h1
    omega
theorem pow2_cast (k : Nat) : ((2 ^ k : Nat) : Int) = (2 : Int) ^ k := kbt_cast k
theorem fdiv_nat (n : Int) (s : Nat) (h : 0 ≤ n) : n.fdiv (2 ^ s) = ((n.toNat / 2 ^ s : Nat) : Int) := by
  rw [Int.fdiv_eq_ediv_of_nonneg _ (by have := kbt_pos s; omega), Int.natCast_ediv, pow2_cast, Int.toNat_of_nonneg h]
theorem width_shift (n : Int) (s : Nat) (h : (2 : Int) ^ s ≤ n) : widthF n = s + widthF (n.fdiv (2 ^ s)) := by
  have hp := kbt_pos s
  have hn : 0 ≤ n := by omega
  have h1 : 2 ^ s ≤ n.toNat := by
    have := pow2_cast s
    omega
  have hq := Nat.div_pos h1 (Nat.two_pow_pos s)
  rw [fdiv_nat n s hn]
  unfold widthF
  rw [if_neg (by omega), if_neg (by omega), log2_shift _ _ h1, Int.toNat_natCast]
  omega
theorem width_small (n : Int) (h : 0 ≤ n) (h2 : n < 2) : widthF n = n := by
  unfold widthF
  have : n = 0 ∨ n = 1 := by omega
  rcases this with rfl | rfl
  · rfl
  · rfl
theorem fdiv_lt (n : Int) (s : Nat) (h : 0 ≤ n) (k : Nat) (hk : n < 2 ^ (s + k)) : n.fdiv (2 ^ s) < 2 ^ k := by
  rw [fdiv_nat n s h, ← pow2_cast]
  have h1 : n.toNat < 2 ^ (s + k) := by
    have := pow2_cast (s + k)
    omega
  have : n.toNat / 2 ^ s < 2 ^ k := by
    rw [Nat.div_lt_iff_lt_mul (Nat.two_pow_pos s), Nat.mul_comm, ← Nat.pow_add]
    exact h1
  omega
theorem fdiv_nonneg (n : Int) (s : Nat) (h : 0 ≤ n) : 0 ≤ n.fdiv (2 ^ s) := by
  rw [fdiv_nat n s h]; exact Int.natCast_nonneg _

structure WInv (W : Int) (s : Nat) (n c : Int) : Prop where
  lo : 0 ≤ n
  hi : n < 2 ^ s
  eq : W = c + widthF n
theorem winv_yes {W n c : Int} {s : Nat} (h : WInv W (s + s) n c) (hb : 1 * 2 ^ Int.toNat (s : Int) ≤ n) : WInv W s (n.fdiv (2 ^ Int.toNat (s : Int))) (c + s) := by
  rw [Int.toNat_natCast] at *
  rw [Int.one_mul] at hb
  obtain ⟨lo, hi, eq⟩ := h
  exact ⟨fdiv_nonneg n s lo, fdiv_lt n s lo s hi, by rw [eq, width_shift n s hb]; omega⟩
theorem winv_no {W n c : Int} {s : Nat} (h : WInv W (s + s) n c) (hb : ¬ 1 * 2 ^ Int.toNat (s : Int) ≤ n) : WInv W s n c := by
  rw [Int.toNat_natCast, Int.one_mul] at hb
  obtain ⟨lo, hi, eq⟩ := h
  exact ⟨lo, by omega, eq⟩
theorem winv_end {W n c : Int} (h : WInv W 1 n c) : c + n = W := by
  obtain ⟨lo, hi, eq⟩ := h
  rw [eq, width_small n lo (by omega)]
theorem wst {W k c : Int} (h2 : W = c + widthF k) (h1 : 0 ≤ k) (hb : 1 * 2 ^ Int.toNat 64 ≤ k) : 0 ≤ k.fdiv (2 ^ Int.toNat 64) ∧ W = c + 64 + widthF (k.fdiv (2 ^ Int.toNat 64)) := by
  rw [Int.one_mul] at hb
  have := width_shift k (Int.toNat 64) hb
  refine ⟨fdiv_nonneg k _ h1, ?_⟩
  have e : ((Int.toNat 64 : Nat) : Int) = 64 := rfl
  rw [h2, this, e]
  omega
theorem wmeas {k : Int} (h : 0 ≤ k) (hb : 1 * 2 ^ Int.toNat 64 ≤ k) : (k.fdiv (2 ^ Int.toNat 64)).toNat < k.toNat := by
  rw [fdiv_nat k _ h]
  have e : (2 : Nat) ^ Int.toNat 64 = 18446744073709551616 := by decide
  rw [e]
  have e2 : (1 : Int) * 2 ^ Int.toNat 64 = 18446744073709551616 := by decide
  rw [e2] at hb
  omega
theorem wstart {W k c : Int} (h2 : W = c + widthF k) (h1 : 0 ≤ k) (hb : ¬ 1 * 2 ^ Int.toNat 64 ≤ k) : WInv W (32 + 32) k c := by
  refine ⟨h1, ?_, h2⟩
  have e2 : (1 : Int) * 2 ^ Int.toNat 64 = 18446744073709551616 := by decide
  have e3 : (2 : Int) ^ (32 + 32) = 18446744073709551616 := by decide
  omega

def WJoin (W : Int) (st : Nat) (h₀ : Heap) (L : Addr) (m : Str → Option Value) (news : List (Addr × Obj)) (s : Shared) (f : Flow) (s' : Shared) : Prop :=
  f = .next ∧ ∃ (a b : Int) (t u : Tok) (h : Heap) (tk : Nat) (m' : Str → Option Value), s' = { s with heap := h, toks := tk } ∧ WInv W st a b ∧ Fr h₀ L h m' ∧ News h₀ L h news ∧ m' (Str.ofString "n") = some (.int a t) ∧ m' (Str.ofString "many") = some (.int b u) ∧ ∀ z, z ≠ Str.ofString "n" → z ≠ Str.ofString "many" → m' z = m z
theorem width_turn {M : Model} {A : Around} {E : Value → Shared → Prop} {Q : Flow → Shared → Prop} {s : Shared} {env : Env} {h₀ : Heap} {L : Addr} {m : Str → Option Value} {news : List (Addr × Obj)} {test : Expr} {body : List Stmt} {pos : Pos} {W n c : Int} {v : Tok} (st : Nat)
    (F : Fr h₀ L s.heap m) (N : News h₀ L s.heap news) (hst : m (Str.ofString "step") = some (.int (st : Int) v)) (hw : WInv W (st + st) n c)
    (hb : WInv W (st + st) n c → wpAny M A (isTrue test env (eval test env)) (fun b s₂ => if b then wpAny M A (execs body env) (WJoin W st h₀ L m news s) E s₂ else WJoin W st h₀ L m news s .next s₂) E s)
    (hk : ∀ (a b : Int) (t u : Tok) (h : Heap) (tk : Nat), WInv W st a b → Fr h₀ L h (fun z => if z = Str.ofString "n" then some (.int a t) else if z = Str.ofString "many" then some (.int b u) else m z) → News h₀ L h news → Q .next { s with heap := h, toks := tk }) :
    wpAny M A (exec (.If test body [] pos) env) Q E s := by
  have fin : ∀ f s', WJoin W st h₀ L m news s f s' → Q f s' := by
    rintro f s' ⟨rfl, a, b, t, u, h, tk, m', rfl, hi, F', N', h1, h2, h3⟩
    refine hk a b t u h tk hi ?_ N'
    have e : (fun z => if z = Str.ofString "n" then some (.int a t) else if z = Str.ofString "many" then some (.int b u) else m z) = m' := by
      funext z
      by_cases hz : z = Str.ofString "n"
      · rw [if_pos hz, hz, h1]
      · rw [if_neg hz]
        by_cases hy : z = Str.ofString "many"
        · rw [if_pos hy, hy, h2]
        · rw [if_neg hy, h3 z hz hy]
    rw [e]
    exact F'
  refine wpAny_If (wpAny_mono (hb hw) (fun k s₂ h => ?_) fun _ _ x => x)
  cases k with
  | true =>
    simp only [if_true] at h ⊢
    exact wpAny_mono h (fun f s₃ q => fin f s₃ q) fun _ _ x => x
  | false =>
    simp only [Bool.false_eq_true, if_false] at h ⊢
    exact wpAny_execs_nil (fin _ _ h)
local macro_rules | `(tactic| ktr_enter) => `(tactic| (refine' enter0 ?k1 ?k2 ?k3 ?k4 ?k5 ?kA ?kF ?kK ?k6 ?k7 ?k8 ?k9 ?kB ?_ ?c2 ?c3 ?c4 ?c5; (case kA => exact rfl); (case kF => exact rfl); (case kK => assumption); (case k1 => k_asm); (case k2 => k_asm); (case k3 => k_asm); (case k4 => k_asm); (case k5 => k_asm); (case k6 => k_is); (case k7 => k_is); (case k8 => ktr_room); (case k9 => exact BindsTo.of_eq rfl); (case c5 => decide); (case kB => exact locs rfl); (case c2 => exact rfl); (case c3 => exact rfl); (case c4 => exact rfl); k_whole; intro g' L' h' FG' F' N' B' X' T'; (try dsimp only); (try k_lift B'); (try k_fold)))
local macro_rules | `(tactic| walk_at "exec If") => `(tactic| ((rename Fr _ _ _ _ => lF'); (rename News _ _ _ _ => lN'); first
  | (refine' width_turn 32 lF' lN' ?hs (wstart (by assumption) (by assumption) (by assumption)) ?_ ?_; (case hs => with_unfolding_all rfl))
  | (refine' width_turn 16 lF' lN' ?hs (by assumption) ?_ ?_; (case hs => with_unfolding_all rfl))
  | (refine' width_turn 8 lF' lN' ?hs (by assumption) ?_ ?_; (case hs => with_unfolding_all rfl))
  | (refine' width_turn 4 lF' lN' ?hs (by assumption) ?_ ?_; (case hs => with_unfolding_all rfl))
  | (refine' width_turn 2 lF' lN' ?hs (by assumption) ?_ ?_; (case hs => with_unfolding_all rfl))
  | (refine' width_turn 1 lF' lN' ?hs (by assumption) ?_ ?_; (case hs => with_unfolding_all rfl))))
local macro_rules | `(tactic| walk_at "WJoin") => `(tactic| (refine ⟨rfl, _, _, _, _, _, _, _, rfl, ?wi, by assumption, by assumption, ?w1, ?w2, ?w3⟩; (case w1 => with_unfolding_all rfl); (case w2 => with_unfolding_all rfl); (case w3 => (intro z h2 h3; simp [h2, h3])); (case wi => first | exact winv_yes (by assumption) (by assumption) | exact winv_no (by assumption) (by assumption))))
theorem width_K (n : Int) (t : Tok) : SqC 21 1 [.int n t] (0 ≤ n) (fun t => .int (widthF n) t) := by
  dsimp only [SqC, SqRet]
  k_with_none
  k_fill
  intro w loose mean mg mb dp un gd cn cs a ccd cl outer A₀ base h₀ L m news s Q E B F X N T hk hp hd hu hret
  k_with "exec While Compare cons nil" => k_while_given ["n!"] (fun n₀ _ k c => 0 ≤ k ∧ widthF n₀ = c + widthF k) (fun _ _ k _ => k.toNat) "n" "many"
  k_with "state" => first | exact wst (by assumption) (by assumption) (by assumption) | exact ⟨by assumption, by omega⟩
  k_with "measure" => exact wmeas (by assumption) (by assumption)
  k_with "tree" => exact winv_end (by assumption)
  refine wpAny_call ?_
  k_dflt ktr_enter
  k_steps
  all_goals first
    | ((with_reducible show WJoin _ _ _ _ _ _ _ _ _); refine' ⟨rfl, _, _, _, _, _, _, _, rfl, ?wi, by assumption, by assumption, ?w1, ?w2, ?w3⟩; (case w1 => with_unfolding_all rfl); (case w2 => with_unfolding_all rfl); (case w3 => (intro z h2 h3; simp [h2, h3])); (case wi => first | exact winv_yes (by assumption) (by assumption) | exact winv_no (by assumption) (by assumption)))
    | cb_end hret
end Mine
-- SqTup
namespace Mine
local macro_rules | `(tactic| ktr_enter) => `(tactic| (refine' enter0 ?k1 ?k2 ?k3 ?k4 ?k5 ?kA ?kF ?kK ?k6 ?k7 ?k8 ?k9 ?kB ?_ ?c2 ?c3 ?c4 ?c5; (case kA => exact rfl); (case kF => exact rfl); (case kK => assumption); (case k1 => k_asm); (case k2 => k_asm); (case k3 => k_asm); (case k4 => k_asm); (case k5 => k_asm); (case k6 => k_is); (case k7 => k_is); (case k8 => ktr_room); (case k9 => exact BindsTo.of_eq rfl); (case c5 => decide); (case kB => exact locs rfl); (case c2 => exact rfl); (case c3 => exact rfl); (case c4 => exact rfl); k_whole; intro g' L' h' FG' F' N' B' X' T'; (try dsimp only); (try k_lift B'); (try k_fold)))
theorem parts_K (n : Int) (t : Tok) : SqC3 70 1 [.int n t] True (sgnF n) (mantF n) (powF n) := by
  dsimp only [SqC3, SqRet3]
  k_with_none
  k_fill
  intro w loose mean mg mb dp un gd cn cs a ccd cl outer A₀ base h₀ L m news s Q E B F X N T hk hp hd hu hret
  refine wpAny_call ?_
  k_dflt ktr_enter
  k_steps
  all_goals ((rename News _ _ _ _ => n9); (revert n9); (rename News _ _ _ _ => n8); (intro n9); refine' ret3 hret (by assumption) n8 (by k_mem) n9 ?_ ?_ ?_ <;> first | rfl | exact (if_pos (by assumption)).symm | exact (if_neg (by assumption)).symm)
end Mine
-- SqBits
namespace Mine
theorem nat_and_shl (a f k : Nat) (h : f < 2 ^ k) : (a * 2 ^ k) &&& f = 0 := by
  have h1 := Nat.two_pow_add_eq_or_of_lt h a
  have h2 := nat_or_add_and (2 ^ k * a) f
  rw [Nat.mul_comm a]
  omega
theorem bitAnd_shl (a f : Int) (k : Nat) (ha : 0 ≤ a) (hf : 0 ≤ f) (h : f < 2 ^ k) : Builtin.bitAnd (a * 2 ^ k) f = 0 := by
  have hp := kbt_pos k
  rw [bitAnd_pp (Int.mul_nonneg ha (by omega)) hf]
  have e : (a * 2 ^ k).toNat = a.toNat * 2 ^ k := by
    have : ((a.toNat * 2 ^ k : Nat) : Int) = a * 2 ^ k := by
      rw [Int.natCast_mul, kbt_cast, Int.toNat_of_nonneg ha]
    omega
  rw [e, nat_and_shl _ _ _ (by have := kbt_cast k; omega)]
  rfl
theorem bitOr_shl (a f : Int) (k : Nat) (ha : 0 ≤ a) (hf : 0 ≤ f) (h : f < 2 ^ k) : Builtin.bitOr (a * 2 ^ k) f = a * 2 ^ k + f := by
  rw [bitOr_and, bitAnd_shl a f k ha hf h]; omega
theorem bitOr_shl' (a f : Int) (k : Nat) (ha : 0 ≤ a) (hf : 0 ≤ f) (h : f < 2 ^ k) : Builtin.bitOr f (a * 2 ^ k) = a * 2 ^ k + f := by
  rw [bitOr_comm, bitOr_shl a f k ha hf h]
theorem and63 (n : Int) : Builtin.bitAnd n (9223372036854775808 - 1) = n % 9223372036854775808 := kbt_mask n 63
theorem frac_eq (n : Int) : fracF n = n % 4503599627370496 := kbt_mask n 52
theorem fdivp (n : Int) (k : Nat) : n.fdiv (2 ^ k) = n / 2 ^ k := Int.fdiv_eq_ediv_of_nonneg _ (by have := kbt_pos k; omega)
theorem exp_eq (n : Int) : expF n = n / 4503599627370496 % 2048 := by
  unfold expF
  rw [fdivp]
  exact kbt_mask _ 11
theorem exp_bounds (n : Int) : 0 ≤ expF n ∧ expF n ≤ 2047 := by rw [exp_eq]; omega
theorem frac_bounds (n : Int) : 0 ≤ fracF n ∧ fracF n < 4503599627370496 := by rw [frac_eq]; omega
theorem mant_eq (n : Int) : mantF n = if n / 4503599627370496 % 2048 = 0 then n % 4503599627370496 else 4503599627370496 + n % 4503599627370496 := by
  unfold mantF
  rw [exp_eq]
  split
  · exact frac_eq n
  · have h := frac_bounds n
    have := bitOr_shl' 1 (fracF n) 52 (by omega) h.1 h.2
    rw [frac_eq] at *
    exact this
theorem mant_bounds (n : Int) : 0 ≤ mantF n ∧ mantF n < 9007199254740992 := by
  rw [mant_eq]; split <;> omega
theorem pow_bounds (n : Int) : -1074 ≤ powF n ∧ powF n ≤ 972 := by
  have := exp_bounds n
  unfold powF; split <;> omega
end Mine
-- SqSize
namespace Mine
abbrev bitsN (x : Int) : Nat := Builtin.Int.intBits x
theorem bits_pow (k : Nat) : bitsN (2 ^ k) ≤ k + 1 := by
  refine intBits_le_iff.mpr ?_
  have e : ((2 : Int) ^ k).natAbs = 2 ^ k := by
    rw [← kbt_cast k]
    exact Int.natAbs_natCast _
  rw [e]
  exact Nat.pow_lt_pow_right (by omega) (by omega)
theorem bits_shl {a : Int} {m : Nat} (h : bitsN a ≤ m) (k : Nat) : bitsN (a * 2 ^ k) ≤ m + (k + 1) := intBits_mul_le h (bits_pow k)
theorem shl_ok {a p : Int} {m : Nat} (h : bitsN a ≤ m) (hm : m ≤ 20000) (hp : p ≤ 20000) : (Builtin.Int.intBits a : Int) + p ≤ 2 ^ 27 := by
  have h' : Builtin.Int.intBits a ≤ m := h
  omega
theorem py_ok {x y : Int} (h : bitsN y ≤ 9000) : Builtin.divisionGoesByPylong x y = false := by
  refine PyProof.noPylong_of_log2 ?_
  have h2 := intBits_le_iff.mp h
  by_cases h0 : y.natAbs = 0
  · rw [h0]; decide +kernel
  · exact (Nat.log2_lt h0).mpr h2
theorem width_bits {n : Int} (h : 0 ≤ n) : widthF n = bitsN n := by
  unfold widthF
  show _ = ((Builtin.Int.intBits n : Nat) : Int)
  unfold Builtin.Int.intBits
  by_cases h0 : n = 0
  · subst h0; rfl
  · rw [if_neg (by omega), if_neg (by simpa using h0)]
    have e : n.natAbs = n.toNat := by omega
    rw [e]; omega
theorem bits_lt {n : Int} {k : Nat} (h : 0 ≤ n) (h2 : n < 2 ^ k) : bitsN n ≤ k := by
  refine intBits_le_iff.mpr ?_
  have := kbt_cast k
  omega
theorem bits_iff {n : Int} {k : Nat} (h : 0 ≤ n) : bitsN n ≤ k ↔ n < 2 ^ k := by
  have := kbt_cast k
  refine ⟨fun h1 => ?_, bits_lt h⟩
  have h2 := intBits_le_iff.mp h1
  omega
theorem shl_ne {b : Int} (h : 0 < b) (k : Nat) : b * 2 ^ k ≠ 0 := by
  have := Int.mul_pos h (kbt_pos k)
  omega
theorem bits_mono {a : Int} {m n : Nat} (h : bitsN a ≤ m) (h2 : m ≤ n) : bitsN a ≤ n := Nat.le_trans h h2
def qnF (top power : Int) : Int := if 0 ≤ power then top else top * 2 ^ (-power).toNat
def qdF (bottom power : Int) : Int := if 0 ≤ power then bottom * 2 ^ power.toNat else bottom
def topF (n : Int) : Int := if 0 ≤ powF n then mantF n * 2 ^ (powF n).toNat else mantF n
def botF (n : Int) : Int := if 0 ≤ powF n then 1 else 1 * 2 ^ (-powF n).toNat
end Mine
-- SqQuot
namespace Mine
local macro_rules | `(tactic| ktr_enter) => `(tactic| (refine' enter0 ?k1 ?k2 ?k3 ?k4 ?k5 ?kA ?kF ?kK ?k6 ?k7 ?k8 ?k9 ?kB ?_ ?c2 ?c3 ?c4 ?c5; (case kA => exact rfl); (case kF => exact rfl); (case kK => assumption); (case k1 => k_asm); (case k2 => k_asm); (case k3 => k_asm); (case k4 => k_asm); (case k5 => k_asm); (case k6 => k_is); (case k7 => k_is); (case k8 => ktr_room); (case k9 => exact BindsTo.of_eq rfl); (case c5 => decide); (case kB => exact locs rfl); (case c2 => exact rfl); (case c3 => exact rfl); (case c4 => exact rfl); k_whole; intro g' L' h' FG' F' N' B' X' T'; (try dsimp only); (try k_lift B'); (try k_fold)))
local macro_rules | `(tactic| walk_at "binaryOp FloorDiv int int") => `(tactic| (k_here; (with_reducible refine floordiv_int ?kbe ?_ (Or.inl ?kbp)); (case kbe => assumption); (case kbp => assumption)))
local macro_rules | `(tactic| walk_at "binaryOp Mod int int") => `(tactic| (k_here; (with_reducible refine mod_int' ?kbe ?_); (case kbe => assumption)))
local macro_rules | `(tactic| walk_at "binaryOp LShift int int") => `(tactic| (k_here; (with_reducible refine lshift_int ?kbn ?kbs ?_); (case kbn => omega); (case kbs => assumption)))
theorem quotient_K (top bottom power : Int) (t u v : Tok) : SqC3 84 1 [.int top t, .int bottom u, .int power v] (0 < bottom ∧ bitsN top ≤ 4000 ∧ bitsN bottom ≤ 4000 ∧ -4000 ≤ power ∧ power ≤ 4000) ((qnF top power).fdiv (qdF bottom power)) ((qnF top power).fmod (qdF bottom power)) (qdF bottom power) := by
  dsimp only [SqC3, SqRet3]
  k_with_none
  k_fill
  intro w loose mean mg mb dp un gd cn cs a ccd cl outer A₀ base h₀ L m news s Q E B F X N T hk hp hd hu hret
  obtain ⟨hp1, hp2, hp3, hp4, hp5⟩ := hp
  rcases Int.lt_or_le power 0 with hz | hz
  · have hs := shl_ok (p := -power) hp2 (by omega) (by omega)
    have hne : bottom ≠ 0 := by omega
    have hpy := py_ok (x := top * 2 ^ (-power).toNat) (bits_mono hp3 (by omega))
    have e1 : qnF top power = top * 2 ^ (-power).toNat := if_neg (by omega)
    have e2 : qdF bottom power = bottom := if_neg (by omega)
    rw [e1, e2] at hret
    refine wpAny_call ?_
    k_dflt ktr_enter
    k_steps
    all_goals ((rename News _ _ _ _ => n9); (revert n9); (rename News _ _ _ _ => n8); (intro n9); refine' ret3 hret (by assumption) n8 (by k_mem) n9 ?_ ?_ ?_ <;> rfl)
  · have hs := shl_ok (p := power) hp3 (by omega) (by omega)
    have hne : bottom * 2 ^ power.toNat ≠ 0 := shl_ne hp1 _
    have hpy := py_ok (x := top) (bits_mono (bits_shl hp3 power.toNat) (by omega))
    have e1 : qnF top power = top := if_pos hz
    have e2 : qdF bottom power = bottom * 2 ^ power.toNat := if_pos hz
    rw [e1, e2] at hret
    refine wpAny_call ?_
    k_dflt ktr_enter
    k_steps
    all_goals ((rename News _ _ _ _ => n9); (revert n9); (rename News _ _ _ _ => n8); (intro n9); refine' ret3 hret (by assumption) n8 (by k_mem) n9 ?_ ?_ ?_ <;> rfl)
end Mine
-- SqExact
namespace Mine
local macro_rules | `(tactic| ktr_enter) => `(tactic| (refine' enter0 ?k1 ?k2 ?k3 ?k4 ?k5 ?kA ?kF ?kK ?k6 ?k7 ?k8 ?k9 ?kB ?_ ?c2 ?c3 ?c4 ?c5; (case kA => exact rfl); (case kF => exact rfl); (case kK => assumption); (case k1 => k_asm); (case k2 => k_asm); (case k3 => k_asm); (case k4 => k_asm); (case k5 => k_asm); (case k6 => k_is); (case k7 => k_is); (case k8 => ktr_room); (case k9 => exact BindsTo.of_eq rfl); (case c5 => decide); (case kB => exact locs rfl); (case c2 => exact rfl); (case c3 => exact rfl); (case c4 => exact rfl); k_whole; intro g' L' h' FG' F' N' B' X' T'; (try dsimp only); (try k_lift B'); (try k_fold)))
local macro_rules | `(tactic| walk_at "binaryOp FloorDiv int int") => `(tactic| (k_here; (with_reducible refine floordiv_int ?kbe ?_ (Or.inl ?kbp)); (case kbe => assumption); (case kbp => assumption)))
local macro_rules | `(tactic| walk_at "binaryOp Mod int int") => `(tactic| (k_here; (with_reducible refine mod_int' ?kbe ?_); (case kbe => assumption)))
local macro_rules | `(tactic| walk_at "binaryOp LShift int int") => `(tactic| (k_here; (with_reducible refine lshift_int ?kbn ?kbs ?_); (case kbn => omega); (case kbs => assumption)))
local macro_rules | `(tactic| walk_at "call ref") => `(tactic| (k_here; k_dflt (refine' use3 (parts_K _ _) ?k1 ?k2 ?k3 ?k4 ?k5 ?kK ?kp ?kd ?ku ?_; (case k1 => k_asm); (case k2 => k_asm); (case k3 => k_asm); (case k4 => k_asm); (case k5 => k_asm); (case kK => first | exact rfl | assumption); (case kp => trivial); (case kd => ktr_room); (case ku => ktr_units)); intro d9 t9 u9 v9 c9 h9 tk9 F9 N9; (try k_sweep); (try dsimp only); (try k_fold)))
theorem exact_K (n : Int) (t : Tok) : SqC2 77 2 [.int n t] (sgnF n = 0) (topF n) (botF n) := by
  dsimp only [SqC2, SqRet2]
  k_with_none
  k_fill
  intro w loose mean mg mb dp un gd cn cs a ccd cl outer A₀ base h₀ L m news s Q E B F X N T hk hp hd hu hret
  have hm := mant_bounds n
  have hw := pow_bounds n
  have hb : bitsN (mantF n) ≤ 53 := bits_lt hm.1 (by omega)
  have hs := shl_ok (p := powF n) hb (by omega) (by omega)
  have hs2 : (Builtin.Int.intBits 1 : Int) + (-powF n) ≤ 2 ^ 27 := shl_ok (a := 1) (m := 1) (by decide) (by omega) (by omega)
  refine wpAny_call ?_
  k_dflt ktr_enter
  k_steps
  all_goals first
    | (exfalso; omega)
    | ((rename News _ _ _ _ => n9); (revert n9); (rename News _ _ _ _ => n8); (intro n9); refine' ret2 hret (by assumption) n8 (by k_mem) n9 ?_ ?_ <;> first | rfl | exact (if_pos (by assumption)).symm | exact (if_neg (by assumption)).symm | (simp_all; done))
end Mine
-- SqAsm
namespace Mine
local macro_rules | `(tactic| ktr_enter) => `(tactic| (refine' enter0 ?k1 ?k2 ?k3 ?k4 ?k5 ?kA ?kF ?kK ?k6 ?k7 ?k8 ?k9 ?kB ?_ ?c2 ?c3 ?c4 ?c5; (case kA => exact rfl); (case kF => exact rfl); (case kK => assumption); (case k1 => k_asm); (case k2 => k_asm); (case k3 => k_asm); (case k4 => k_asm); (case k5 => k_asm); (case k6 => k_is); (case k7 => k_is); (case k8 => ktr_room); (case k9 => exact BindsTo.of_eq rfl); (case c5 => decide); (case kB => exact locs rfl); (case c2 => exact rfl); (case c3 => exact rfl); (case c4 => exact rfl); k_whole; intro g' L' h' FG' F' N' B' X' T'; (try dsimp only); (try k_lift B'); (try k_fold)))
local macro_rules | `(tactic| walk_at "binaryOp FloorDiv int int") => `(tactic| (k_here; (with_reducible refine floordiv_int ?kbe ?_ (Or.inl ?kbp)); (case kbe => assumption); (case kbp => assumption)))
local macro_rules | `(tactic| walk_at "binaryOp Mod int int") => `(tactic| (k_here; (with_reducible refine mod_int' ?kbe ?_); (case kbe => assumption)))
local macro_rules | `(tactic| walk_at "binaryOp LShift int int") => `(tactic| (k_here; (with_reducible refine lshift_int ?kbn ?kbs ?_); (case kbn => omega); (case kbs => assumption)))
def asmF (sg wh pw : Int) : Int :=
  if wh = 4503599627370496 * 2 ^ Int.toNat 1 then (if 2047 ≤ pw + 1 + 1075 then signedF sg 9218868437227405312 else packF sg (pw + 1 + 1075) (4503599627370496 - 4503599627370496))
  else if wh < 4503599627370496 then Builtin.bitOr (sg * 2 ^ 63) wh
  else if 2047 ≤ pw + 1075 then signedF sg 9218868437227405312 else packF sg (pw + 1075) (wh - 4503599627370496)
local macro_rules | `(tactic| walk_at "call ref") => `(tactic| (k_here; k_dflt (refine' use1 (pack_K _ _ _ _ _ _) ?k1 ?k2 ?k3 ?k4 ?k5 ?kK ?kp ?kd ?ku ?_; (case k1 => k_asm); (case k2 => k_asm); (case k3 => k_asm); (case k4 => k_asm); (case k5 => k_asm); (case kK => first | exact rfl | assumption); (case kp => omega); (case kd => ktr_room); (case ku => ktr_units)); intro t9 h9 tk9 F9 N9; (try k_sweep); (try dsimp only); (try k_fold)))
local macro_rules | `(tactic| walk_at "call ref") => `(tactic| (k_here; k_dflt (refine' use1 (signed_K _ _ _ _) ?k1 ?k2 ?k3 ?k4 ?k5 ?kK ?kp ?kd ?ku ?_; (case k1 => k_asm); (case k2 => k_asm); (case k3 => k_asm); (case k4 => k_asm); (case k5 => k_asm); (case kK => first | exact rfl | assumption); (case kp => omega); (case kd => ktr_room); (case ku => ktr_units)); intro t9 h9 tk9 F9 N9; (try k_sweep); (try dsimp only); (try k_fold)))
theorem assembled_K (sg wh pw : Int) (t u v : Tok) : SqC 98 2 [.int sg t, .int wh u, .int pw v] (0 ≤ sg ∧ sg ≤ 1 ∧ -8000 ≤ pw ∧ pw ≤ 8000) (fun t => .int (asmF sg wh pw) t) := by
  dsimp only [SqC, SqRet]
  k_with_none
  k_fill
  intro w loose mean mg mb dp un gd cn cs a ccd cl outer A₀ base h₀ L m news s Q E B F X N T hk hp hd hu hret
  obtain ⟨hp1, hp2, hp3, hp4⟩ := hp
  refine wpAny_call ?_
  k_dflt ktr_enter
  k_steps
  all_goals first
    | (exfalso; omega)
    | (refine' cb_retI hret ?_ (by assumption) (by assumption); first | rfl | (simp only [asmF]; (repeat' split) <;> first | rfl | (exfalso; omega)))
end Mine
-- SqRatio
namespace Mine
local macro_rules | `(tactic| ktr_enter) => `(tactic| (refine' enter0 ?k1 ?k2 ?k3 ?k4 ?k5 ?kA ?kF ?kK ?k6 ?k7 ?k8 ?k9 ?kB ?_ ?c2 ?c3 ?c4 ?c5; (case kA => exact rfl); (case kF => exact rfl); (case kK => assumption); (case k1 => k_asm); (case k2 => k_asm); (case k3 => k_asm); (case k4 => k_asm); (case k5 => k_asm); (case k6 => k_is); (case k7 => k_is); (case k8 => ktr_room); (case k9 => exact BindsTo.of_eq rfl); (case c5 => decide); (case kB => exact locs rfl); (case c2 => exact rfl); (case c3 => exact rfl); (case c4 => exact rfl); k_whole; intro g' L' h' FG' F' N' B' X' T'; (try dsimp only); (try k_lift B'); (try k_fold)))
local macro_rules | `(tactic| walk_at "binaryOp FloorDiv int int") => `(tactic| (k_here; (with_reducible refine floordiv_int ?kbe ?_ (Or.inl ?kbp)); (case kbe => assumption); (case kbp => assumption)))
local macro_rules | `(tactic| walk_at "binaryOp Mod int int") => `(tactic| (k_here; (with_reducible refine mod_int' ?kbe ?_); (case kbe => assumption)))
local macro_rules | `(tactic| walk_at "binaryOp LShift int int") => `(tactic| (k_here; (with_reducible refine lshift_int ?kbn ?kbs ?_); (case kbn => omega); (case kbs => assumption)))
def rndF (sg q r u p : Int) : Int := if u < 2 * r then asmF sg (q + 1) p else if 2 * r = u then (if q.fmod 2 = 1 then asmF sg (q + 1) p else asmF sg q p) else asmF sg q p
abbrev p0F (top bottom : Int) : Int := if -1074 > widthF top - widthF bottom - 53 then -1074 else widthF top - widthF bottom - 53
abbrev quoF (top bottom p : Int) : Int := (qnF top p).fdiv (qdF bottom p)
abbrev remF (top bottom p : Int) : Int := (qnF top p).fmod (qdF bottom p)
def rrF (sg top bottom : Int) : Int :=
  if top = 0 then sg * 2 ^ Int.toNat 63
  else if 4503599627370496 * 2 ^ Int.toNat 1 ≤ quoF top bottom (p0F top bottom) then
    rndF sg (quoF top bottom (p0F top bottom + 1)) (remF top bottom (p0F top bottom + 1)) (qdF bottom (p0F top bottom + 1)) (p0F top bottom + 1)
  else rndF sg (quoF top bottom (p0F top bottom)) (remF top bottom (p0F top bottom)) (qdF bottom (p0F top bottom)) (p0F top bottom)
section
variable {sg q r u p top bottom v : Int}
theorem rnd_a (h : u < 2 * r) : asmF sg (q + 1) p = rndF sg q r u p := by unfold rndF; rw [if_pos h]
theorem rnd_b (h : ¬ u < 2 * r) (h2 : 2 * r = u) (h3 : q.fmod 2 = 1) : asmF sg (q + 1) p = rndF sg q r u p := by unfold rndF; rw [if_neg h, if_pos h2, if_pos h3]
theorem rnd_c (h : ¬ u < 2 * r) (h2 : 2 * r = u) (h3 : ¬ q.fmod 2 = 1) : asmF sg q p = rndF sg q r u p := by unfold rndF; rw [if_neg h, if_pos h2, if_neg h3]
theorem rnd_d (h : ¬ u < 2 * r) (h2 : ¬ 2 * r = u) : asmF sg q p = rndF sg q r u p := by unfold rndF; rw [if_neg h, if_neg h2]
theorem rr_0 (h : top = 0) : sg * 2 ^ Int.toNat 63 = rrF sg top bottom := by unfold rrF; rw [if_pos h]
theorem rr_1 (h : top ≠ 0) (h2 : 4503599627370496 * 2 ^ Int.toNat 1 ≤ quoF top bottom (p0F top bottom))
    (h3 : v = rndF sg (quoF top bottom (p0F top bottom + 1)) (remF top bottom (p0F top bottom + 1)) (qdF bottom (p0F top bottom + 1)) (p0F top bottom + 1)) : v = rrF sg top bottom := by unfold rrF; rw [if_neg h, if_pos h2]; exact h3
theorem rr_2 (h : top ≠ 0) (h2 : ¬ 4503599627370496 * 2 ^ Int.toNat 1 ≤ quoF top bottom (p0F top bottom))
    (h3 : v = rndF sg (quoF top bottom (p0F top bottom)) (remF top bottom (p0F top bottom)) (qdF bottom (p0F top bottom)) (p0F top bottom)) : v = rrF sg top bottom := by unfold rrF; rw [if_neg h, if_neg h2]; exact h3
end
local macro_rules | `(tactic| walk_at "call ref") => `(tactic| (k_here; k_dflt (refine' use1 (width_K _ _) ?k1 ?k2 ?k3 ?k4 ?k5 ?kK ?kp ?kd ?ku ?_; (case k1 => k_asm); (case k2 => k_asm); (case k3 => k_asm); (case k4 => k_asm); (case k5 => k_asm); (case kK => first | exact rfl | assumption); (case kp => omega); (case kd => ktr_room); (case ku => ktr_units)); intro t9 h9 tk9 F9 N9; (try k_sweep); (try dsimp only); (try k_fold)))
local macro_rules | `(tactic| walk_at "call ref") => `(tactic| (k_here; k_dflt (refine' use3 (quotient_K _ _ _ _ _ _) ?k1 ?k2 ?k3 ?k4 ?k5 ?kK ?kp ?kd ?ku ?_; (case k1 => k_asm); (case k2 => k_asm); (case k3 => k_asm); (case k4 => k_asm); (case k5 => k_asm); (case kK => first | exact rfl | assumption); (case kp => omega); (case kd => ktr_room); (case ku => ktr_units)); intro d9 t9 u9 v9 c9 h9 tk9 F9 N9; (try k_sweep); (try dsimp only); (try k_fold)))
local macro_rules | `(tactic| walk_at "call ref") => `(tactic| (k_here; k_dflt (refine' use1 (assembled_K _ _ _ _ _ _) ?k1 ?k2 ?k3 ?k4 ?k5 ?kK ?kp ?kd ?ku ?_; (case k1 => k_asm); (case k2 => k_asm); (case k3 => k_asm); (case k4 => k_asm); (case k5 => k_asm); (case kK => first | exact rfl | assumption); (case kp => omega); (case kd => ktr_room); (case ku => ktr_units)); intro t9 h9 tk9 F9 N9; (try k_sweep); (try dsimp only); (try k_fold)))
theorem round_ratio_K (sg top bottom : Int) (t u v : Tok) : SqC 91 3 [.int sg t, .int top u, .int bottom v] (0 ≤ sg ∧ sg ≤ 1 ∧ 0 ≤ top ∧ 0 < bottom ∧ bitsN top ≤ 2500 ∧ bitsN bottom ≤ 1500) (fun t => .int (rrF sg top bottom) t) := by
  dsimp only [SqC, SqRet]
  k_with_none
  k_fill
  intro w loose mean mg mb dp un gd cn cs a ccd cl outer A₀ base h₀ L m news s Q E B F X N T hk hp hd hu hret
  obtain ⟨hp1, hp2, hp3, hp4, hp5, hp6⟩ := hp
  have hw1 := width_bits hp3
  have hw2 := width_bits (n := bottom) (by omega)
  refine wpAny_call ?_
  k_dflt ktr_enter
  k_steps
  all_goals (refine' cb_retI hret ?_ (by assumption) (by assumption); first
    | exact rr_0 (by assumption)
    | (first | refine rr_1 (by assumption) (by assumption) ?_ | refine rr_2 (by assumption) (by assumption) ?_); first
      | exact rnd_a (by assumption) | exact rnd_b (by assumption) (by assumption) (by assumption) | exact rnd_c (by assumption) (by assumption) (by assumption) | exact rnd_d (by assumption) (by assumption))
end Mine
-- SqScaled
namespace Mine
local macro_rules | `(tactic| walk_at "sq pad") => `(tactic| fail "pad")
local macro_rules | `(tactic| ktr_enter) => `(tactic| (refine' enter0 ?k1 ?k2 ?k3 ?k4 ?k5 ?kA ?kF ?kK ?k6 ?k7 ?k8 ?k9 ?kB ?_ ?c2 ?c3 ?c4 ?c5; (case kA => exact rfl); (case kF => exact rfl); (case kK => assumption); (case k1 => k_asm); (case k2 => k_asm); (case k3 => k_asm); (case k4 => k_asm); (case k5 => k_asm); (case k6 => k_is); (case k7 => k_is); (case k8 => ktr_room); (case k9 => exact BindsTo.of_eq rfl); (case c5 => decide); (case kB => exact locs rfl); (case c2 => exact rfl); (case c3 => exact rfl); (case c4 => exact rfl); k_whole; intro g' L' h' FG' F' N' B' X' T'; (try dsimp only); (try k_lift B'); (try k_fold)))
local macro_rules | `(tactic| walk_at "binaryOp FloorDiv int int") => `(tactic| (k_here; (with_reducible refine floordiv_int ?kbe ?_ (Or.inl ?kbp)); (case kbe => assumption); (case kbp => assumption)))
local macro_rules | `(tactic| walk_at "binaryOp Mod int int") => `(tactic| (k_here; (with_reducible refine mod_int' ?kbe ?_); (case kbe => assumption)))
local macro_rules | `(tactic| walk_at "binaryOp LShift int int") => `(tactic| (k_here; (with_reducible refine lshift_int ?kbn ?kbs ?_); (case kbn => omega); (case kbs => assumption)))
def rsF (sg m p : Int) : Int :=
  if m = 0 then sg * 2 ^ Int.toNat 63
  else if widthF m + p ≤ -1074 - 1 then sg * 2 ^ Int.toNat 63
  else if 1024 < widthF m + p then signedF sg 9218868437227405312
  else if 0 ≤ p then rrF sg (m * 2 ^ p.toNat) 1 else rrF sg m (1 * 2 ^ (-p).toNat)
theorem rs_pre1 {sg m p : Int} (h1 : 0 ≤ sg) (h2 : sg ≤ 1) (h3 : 0 ≤ m) (h4 : bitsN m ≤ 200) (h5 : p ≤ 1024) : 0 ≤ sg ∧ sg ≤ 1 ∧ 0 ≤ m * 2 ^ p.toNat ∧ 0 < (1 : Int) ∧ bitsN (m * 2 ^ p.toNat) ≤ 2500 ∧ bitsN 1 ≤ 1500 := by
  have hp := kbt_pos p.toNat
  refine ⟨h1, h2, Int.mul_nonneg h3 (by omega), by omega, bits_mono (bits_shl h4 _) (by omega), by decide⟩
theorem rs_pre2 {sg m p : Int} (h1 : 0 ≤ sg) (h2 : sg ≤ 1) (h3 : 0 ≤ m) (h4 : bitsN m ≤ 200) (h5 : -1400 ≤ p) : 0 ≤ sg ∧ sg ≤ 1 ∧ 0 ≤ m ∧ 0 < 1 * (2 : Int) ^ (-p).toNat ∧ bitsN m ≤ 2500 ∧ bitsN (1 * 2 ^ (-p).toNat) ≤ 1500 := by
  have hp := kbt_pos (-p).toNat
  refine ⟨h1, h2, h3, by omega, by omega, bits_mono (bits_shl (a := 1) (m := 1) (by decide) _) (by omega)⟩
local macro_rules | `(tactic| walk_at "call ref") => `(tactic| (k_here; k_dflt (refine' use1 (width_K _ _) ?k1 ?k2 ?k3 ?k4 ?k5 ?kK ?kp ?kd ?ku ?_; (case k1 => k_asm); (case k2 => k_asm); (case k3 => k_asm); (case k4 => k_asm); (case k5 => k_asm); (case kK => first | exact rfl | assumption); (case kp => omega); (case kd => ktr_room); (case ku => ktr_units)); intro t9 h9 tk9 F9 N9; (try k_sweep); (try dsimp only); (try k_fold)))
local macro_rules | `(tactic| walk_at "call ref") => `(tactic| (k_here; k_dflt (refine' use1 (signed_K _ _ _ _) ?k1 ?k2 ?k3 ?k4 ?k5 ?kK ?kp ?kd ?ku ?_; (case k1 => k_asm); (case k2 => k_asm); (case k3 => k_asm); (case k4 => k_asm); (case k5 => k_asm); (case kK => first | exact rfl | assumption); (case kp => omega); (case kd => ktr_room); (case ku => ktr_units)); intro t9 h9 tk9 F9 N9; (try k_sweep); (try dsimp only); (try k_fold)))
local macro_rules | `(tactic| walk_at "call ref") => `(tactic| (k_here; k_dflt (refine' use1 (round_ratio_K _ _ _ _ _ _) ?k1 ?k2 ?k3 ?k4 ?k5 ?kK ?kp ?kd ?ku ?_; (case k1 => k_asm); (case k2 => k_asm); (case k3 => k_asm); (case k4 => k_asm); (case k5 => k_asm); (case kK => first | exact rfl | assumption); (case kp => first | exact rs_pre1 (by assumption) (by assumption) (by assumption) (by assumption) (by omega) | exact rs_pre2 (by assumption) (by assumption) (by assumption) (by assumption) (by omega)); (case kd => ktr_room); (case ku => ktr_units)); intro t9 h9 tk9 F9 N9; (try k_sweep); (try dsimp only); (try k_fold)))
theorem round_scaled_K (sg m p : Int) (t u v : Tok) : SqC 105 4 [.int sg t, .int m u, .int p v] (0 ≤ sg ∧ sg ≤ 1 ∧ 0 ≤ m ∧ bitsN m ≤ 200 ∧ -5000 ≤ p ∧ p ≤ 5000) (fun t => .int (rsF sg m p) t) := by
  dsimp only [SqC, SqRet]
  k_with_none
  k_fill
  intro w loose mean mg mb dp un gd cn cs a ccd cl outer A₀ base h₀ L m news s Q E B F X N T hk hp hd hu hret
  obtain ⟨hp1, hp2, hp3, hp4, hp5, hp6⟩ := hp
  have hw1 := width_bits hp3
  have hs := shl_ok (p := p) hp4 (by omega) (by omega)
  have hs2 : (Builtin.Int.intBits 1 : Int) + (-p) ≤ 2 ^ 27 := shl_ok (a := 1) (m := 1) (by decide) (by omega) (by omega)
  refine wpAny_call ?_
  k_dflt ktr_enter
  k_steps
  all_goals (refine' cb_retI hret ?_ (by assumption) (by assumption))
  all_goals (unfold rsF; first
    | rw [if_pos (by assumption)]
    | rw [if_neg (by assumption), if_pos (by assumption)]
    | rw [if_neg (by assumption), if_neg (by assumption), if_pos (by assumption)]
    | rw [if_neg (by assumption), if_neg (by assumption), if_neg (by assumption), if_pos (by assumption)]
    | rw [if_neg (by assumption), if_neg (by assumption), if_neg (by assumption), if_neg (by assumption)])
end Mine
-- SqArith
namespace Mine
local macro_rules | `(tactic| ktr_enter) => `(tactic| (refine' enter0 ?k1 ?k2 ?k3 ?k4 ?k5 ?kA ?kF ?kK ?k6 ?k7 ?k8 ?k9 ?kB ?_ ?c2 ?c3 ?c4 ?c5; (case kA => exact rfl); (case kF => exact rfl); (case kK => assumption); (case k1 => k_asm); (case k2 => k_asm); (case k3 => k_asm); (case k4 => k_asm); (case k5 => k_asm); (case k6 => k_is); (case k7 => k_is); (case k8 => ktr_room); (case k9 => exact BindsTo.of_eq rfl); (case c5 => decide); (case kB => exact locs rfl); (case c2 => exact rfl); (case c3 => exact rfl); (case c4 => exact rfl); k_whole; intro g' L' h' FG' F' N' B' X' T'; (try dsimp only); (try k_lift B'); (try k_fold)))
local macro_rules | `(tactic| walk_at "binaryOp FloorDiv int int") => `(tactic| (k_here; (with_reducible refine floordiv_int ?kbe ?_ (Or.inl ?kbp)); (case kbe => assumption); (case kbp => assumption)))
local macro_rules | `(tactic| walk_at "binaryOp Mod int int") => `(tactic| (k_here; (with_reducible refine mod_int' ?kbe ?_); (case kbe => assumption)))
local macro_rules | `(tactic| walk_at "binaryOp LShift int int") => `(tactic| (k_here; (with_reducible refine lshift_int ?kbn ?kbs ?_); (case kbn => omega); (case kbs => assumption)))
theorem isNan_no (n : Int) (t : Tok) : SqC 42 1 [.int n t] (isNanF n = false) (fun _ => .bool false) := by
  dsimp only [SqC]; intro w loose mean mg mb dp un gd cn cs a ccd cl outer A₀ base h₀ L m news s Q E B F X N T hk hp hd hu hret
  exact use1 (isNan_K n t) B F X N T hk trivial hd hu (by rw [hp]; exact hret)
theorem isInf_no (n : Int) (t : Tok) : SqC 49 1 [.int n t] (isInfF n = false) (fun _ => .bool false) := by
  dsimp only [SqC]; intro w loose mean mg mb dp un gd cn cs a ccd cl outer A₀ base h₀ L m news s Q E B F X N T hk hp hd hu hret
  exact use1 (isInf_K n t) B F X N T hk trivial hd hu (by rw [hp]; exact hret)
theorem isNeg_no (n : Int) (t : Tok) : SqC 35 1 [.int n t] (isNegF n = false) (fun _ => .bool false) := by
  dsimp only [SqC]; intro w loose mean mg mb dp un gd cn cs a ccd cl outer A₀ base h₀ L m news s Q E B F X N T hk hp hd hu hret
  exact use1 (isNeg_K n t) B F X N T hk trivial hd hu (by rw [hp]; exact hret)
theorem sgn_01 {n : Int} (h : 0 ≤ n) (h2 : n < 18446744073709551616) : sgnF n = 0 ∨ sgnF n = 1 := by
  have e : sgnF n = n / 2 ^ 63 := fdivp n 63
  have e2 : (2 : Int) ^ 63 = 9223372036854775808 := by decide
  rw [e, e2]; omega
theorem xor_01 {a b : Int} (h : a = 0 ∨ a = 1) (h2 : b = 0 ∨ b = 1) : 0 ≤ Builtin.bitXor a b ∧ Builtin.bitXor a b ≤ 1 := by
  rcases h with rfl | rfl <;> rcases h2 with rfl | rfl <;> decide
abbrev mulF (a b : Int) : Int := rsF (Builtin.bitXor (sgnF a) (sgnF b)) (mantF a * mantF b) (powF a + powF b)
def fromF (n : Int) : Int := rrF (if n < 0 then 1 else 0) (if n < 0 then -n else n) 1
def absF (n : Int) : Int := signedF 0 n
def cmpF (a b : Int) : Int := if a = b then 0 else if a < b then -1 else 1
def ldF (c : Int) : Int := (23 + (c * 37).fmod 2000) * 2 ^ Int.toNat 52 + (c * 2783377641436327).fmod (2 ^ Int.toNat 52)
local macro_rules | `(tactic| walk_at "call ref") => `(tactic| (k_here; (with_reducible show wpAny _ _ (call (Value.ref 42) _) _ _ _); k_dflt (refine' use1 (isNan_no _ _) ?k1 ?k2 ?k3 ?k4 ?k5 ?kK ?kp ?kd ?ku ?_; (case k1 => k_asm); (case k2 => k_asm); (case k3 => k_asm); (case k4 => k_asm); (case k5 => k_asm); (case kK => first | exact rfl | assumption); (case kp => assumption); (case kd => ktr_room); (case ku => ktr_units)); intro t9 h9 tk9 F9 N9; (try k_sweep); (try dsimp only); (try k_fold)))
local macro_rules | `(tactic| walk_at "call ref") => `(tactic| (k_here; (with_reducible show wpAny _ _ (call (Value.ref 49) _) _ _ _); k_dflt (refine' use1 (isInf_no _ _) ?k1 ?k2 ?k3 ?k4 ?k5 ?kK ?kp ?kd ?ku ?_; (case k1 => k_asm); (case k2 => k_asm); (case k3 => k_asm); (case k4 => k_asm); (case k5 => k_asm); (case kK => first | exact rfl | assumption); (case kp => assumption); (case kd => ktr_room); (case ku => ktr_units)); intro t9 h9 tk9 F9 N9; (try k_sweep); (try dsimp only); (try k_fold)))
local macro_rules | `(tactic| walk_at "call ref") => `(tactic| (k_here; (with_reducible show wpAny _ _ (call (Value.ref 35) _) _ _ _); k_dflt (refine' use1 (isNeg_no _ _) ?k1 ?k2 ?k3 ?k4 ?k5 ?kK ?kp ?kd ?ku ?_; (case k1 => k_asm); (case k2 => k_asm); (case k3 => k_asm); (case k4 => k_asm); (case k5 => k_asm); (case kK => first | exact rfl | assumption); (case kp => assumption); (case kd => ktr_room); (case ku => ktr_units)); intro t9 h9 tk9 F9 N9; (try k_sweep); (try dsimp only); (try k_fold)))
local macro_rules | `(tactic| walk_at "call ref") => `(tactic| (k_here; (with_reducible show wpAny _ _ (call (Value.ref 70) _) _ _ _); k_dflt (refine' use3 (parts_K _ _) ?k1 ?k2 ?k3 ?k4 ?k5 ?kK ?kp ?kd ?ku ?_; (case k1 => k_asm); (case k2 => k_asm); (case k3 => k_asm); (case k4 => k_asm); (case k5 => k_asm); (case kK => first | exact rfl | assumption); (case kp => trivial); (case kd => ktr_room); (case ku => ktr_units)); intro d9 t9 u9 v9 c9 h9 tk9 F9 N9; (try k_sweep); (try dsimp only); (try k_fold)))
local macro_rules | `(tactic| walk_at "call ref") => `(tactic| (k_here; (with_reducible show wpAny _ _ (call (Value.ref 63) _) _ _ _); k_dflt (refine' use1 (signed_K _ _ _ _) ?k1 ?k2 ?k3 ?k4 ?k5 ?kK ?kp ?kd ?ku ?_; (case k1 => k_asm); (case k2 => k_asm); (case k3 => k_asm); (case k4 => k_asm); (case k5 => k_asm); (case kK => first | exact rfl | assumption); (case kp => omega); (case kd => ktr_room); (case ku => ktr_units)); intro t9 h9 tk9 F9 N9; (try k_sweep); (try dsimp only); (try k_fold)))
local macro_rules | `(tactic| walk_at "call ref") => `(tactic| (k_here; (with_reducible show wpAny _ _ (call (Value.ref 105) _) _ _ _); k_dflt (refine' use1 (round_scaled_K _ _ _ _ _ _) ?k1 ?k2 ?k3 ?k4 ?k5 ?kK ?kp ?kd ?ku ?_; (case k1 => k_asm); (case k2 => k_asm); (case k3 => k_asm); (case k4 => k_asm); (case k5 => k_asm); (case kK => first | exact rfl | assumption); (case kp => refine ⟨by assumption, by assumption, by assumption, by assumption, by omega, by omega⟩); (case kd => ktr_room); (case ku => ktr_units)); intro t9 h9 tk9 F9 N9; (try k_sweep); (try dsimp only); (try k_fold)))
theorem mul_K (x y : Int) (t u : Tok) : SqC 140 5 [.int x t, .int y u] (0 ≤ x ∧ x < 18446744073709551616 ∧ 0 ≤ y ∧ y < 18446744073709551616 ∧ isNanF x = false ∧ isNanF y = false ∧ isInfF x = false ∧ isInfF y = false) (fun t => .int (mulF x y) t) := by
  dsimp only [SqC, SqRet]
  k_with_none
  k_fill
  intro w loose mean mg mb dp un gd cn cs a ccd cl outer A₀ base h₀ L m news s Q E B F X N T hk hp hd hu hret
  obtain ⟨hp1, hp2, hp3, hp4, hp5, hp6, hp7, hp8⟩ := hp
  have hx := xor_01 (sgn_01 hp1 hp2) (sgn_01 hp3 hp4)
  obtain ⟨hx1, hx2⟩ := hx
  unfold sgnF at hx1 hx2
  have hm1 := mant_bounds x
  have hm2 := mant_bounds y
  have hw1 := pow_bounds x
  have hw2 := pow_bounds y
  have hb1 : bitsN (mantF x) ≤ 53 := bits_lt hm1.1 (by omega)
  have hb2 : bitsN (mantF y) ≤ 53 := bits_lt hm2.1 (by omega)
  have hok : IntMulOk (mantF x) (mantF y) := IntMulOk.of_le hb1 hb2 (by omega)
  have hmm : 0 ≤ mantF x * mantF y := Int.mul_nonneg hm1.1 hm2.1
  have hbm : bitsN (mantF x * mantF y) ≤ 200 := bits_mono (intBits_mul_le hb1 hb2) (by omega)
  refine wpAny_call ?_
  k_dflt ktr_enter
  k_steps
  all_goals cb_end hret
theorem absolute_K (x : Int) (t : Tok) : SqC 133 2 [.int x t] (isNanF x = false) (fun t => .int (absF x) t) := by
  dsimp only [SqC, SqRet]
  k_with_none
  k_fill
  intro w loose mean mg mb dp un gd cn cs a ccd cl outer A₀ base h₀ L m news s Q E B F X N T hk hp hd hu hret
  refine wpAny_call ?_
  k_dflt ktr_enter
  k_steps
  all_goals cb_end hret
theorem order_key_K (x : Int) (t : Tok) : SqC 147 2 [.int x t] (isNegF x = false) (fun t => .int x t) := by
  dsimp only [SqC, SqRet]
  k_with_none
  k_fill
  intro w loose mean mg mb dp un gd cn cs a ccd cl outer A₀ base h₀ L m news s Q E B F X N T hk hp hd hu hret
  refine wpAny_call ?_
  k_dflt ktr_enter
  k_steps
  all_goals cb_end hret
local macro_rules | `(tactic| walk_at "call ref") => `(tactic| (k_here; (with_reducible show wpAny _ _ (call (Value.ref 147) _) _ _ _); k_dflt (refine' use1 (order_key_K _ _) ?k1 ?k2 ?k3 ?k4 ?k5 ?kK ?kp ?kd ?ku ?_; (case k1 => k_asm); (case k2 => k_asm); (case k3 => k_asm); (case k4 => k_asm); (case k5 => k_asm); (case kK => first | exact rfl | assumption); (case kp => assumption); (case kd => ktr_room); (case ku => ktr_units)); intro t9 h9 tk9 F9 N9; (try k_sweep); (try dsimp only); (try k_fold)))
end Mine
-- SqCmp
namespace Mine
local macro_rules | `(tactic| walk_at "sq pad") => `(tactic| fail "pad")
local macro_rules | `(tactic| walk_at "sq pad") => `(tactic| fail "pad")
local macro_rules | `(tactic| walk_at "sq pad") => `(tactic| fail "pad")
local macro_rules | `(tactic| walk_at "sq pad") => `(tactic| fail "pad")
local macro_rules | `(tactic| ktr_enter) => `(tactic| (refine' enter0 ?k1 ?k2 ?k3 ?k4 ?k5 ?kA ?kF ?kK ?k6 ?k7 ?k8 ?k9 ?kB ?_ ?c2 ?c3 ?c4 ?c5; (case kA => exact rfl); (case kF => exact rfl); (case kK => assumption); (case k1 => k_asm); (case k2 => k_asm); (case k3 => k_asm); (case k4 => k_asm); (case k5 => k_asm); (case k6 => k_is); (case k7 => k_is); (case k8 => ktr_room); (case k9 => exact BindsTo.of_eq rfl); (case c5 => decide); (case kB => exact locs rfl); (case c2 => exact rfl); (case c3 => exact rfl); (case c4 => exact rfl); k_whole; intro g' L' h' FG' F' N' B' X' T'; (try dsimp only); (try k_lift B'); (try k_fold)))
local macro_rules | `(tactic| walk_at "binaryOp FloorDiv int int") => `(tactic| (k_here; (with_reducible refine floordiv_int ?kbe ?_ (Or.inl ?kbp)); (case kbe => with_reducible assumption); (case kbp => with_reducible assumption)))
local macro_rules | `(tactic| walk_at "binaryOp Mod int int") => `(tactic| (k_here; (with_reducible refine mod_int' ?kbe ?_); (case kbe => with_reducible assumption)))
local macro_rules | `(tactic| walk_at "binaryOp LShift int int") => `(tactic| (k_here; (with_reducible refine lshift_int ?kbn ?kbs ?_); (case kbn => omega); (case kbs => with_reducible assumption)))
local macro_rules | `(tactic| walk_at "binaryOp Mult int int") => `(tactic| (k_here; (with_reducible refine mul_int ?_ ?hm); (case hm => with_reducible assumption)))
local macro_rules | `(tactic| walk_at "binaryOp Pow int int") => `(tactic| (k_here; (with_reducible refine pow_int ?kb1 ?kb2 ?_); (case kb1 => decide); (case kb2 => with_reducible assumption)))
local macro_rules | `(tactic| walk_at "call ref") => `(tactic| (k_here; (with_reducible show wpAny _ _ (call (Value.ref 42) _) _ _ _); k_dflt (refine' use1 (isNan_no _ _) ?k1 ?k2 ?k3 ?k4 ?k5 ?kK ?kp ?kd ?ku ?_; (case k1 => k_asm); (case k2 => k_asm); (case k3 => k_asm); (case k4 => k_asm); (case k5 => k_asm); (case kK => first | exact rfl | assumption); (case kp => assumption); (case kd => ktr_room); (case ku => ktr_units)); intro t9 h9 tk9 F9 N9; (try k_sweep); (try dsimp only); (try k_fold)))
local macro_rules | `(tactic| walk_at "call ref") => `(tactic| (k_here; (with_reducible show wpAny _ _ (call (Value.ref 147) _) _ _ _); k_dflt (refine' use1 (order_key_K _ _) ?k1 ?k2 ?k3 ?k4 ?k5 ?kK ?kp ?kd ?ku ?_; (case k1 => k_asm); (case k2 => k_asm); (case k3 => k_asm); (case k4 => k_asm); (case k5 => k_asm); (case kK => first | exact rfl | assumption); (case kp => assumption); (case kd => ktr_room); (case ku => ktr_units)); intro t9 h9 tk9 F9 N9; (try k_sweep); (try dsimp only); (try k_fold)))
theorem compare_K (x y : Int) (t u : Tok) : SqC 154 3 [.int x t, .int y u] (isNanF x = false ∧ isNanF y = false ∧ isNegF x = false ∧ isNegF y = false) (fun t => .int (cmpF x y) t) := by
  dsimp only [SqC, SqRet]
  k_with_none
  k_fill
  intro w loose mean mg mb dp un gd cn cs a ccd cl outer A₀ base h₀ L m news s Q E B F X N T hk hp hd hu hret
  obtain ⟨hp1, hp2, hp3, hp4⟩ := hp
  refine wpAny_call ?_
  k_dflt ktr_enter
  k_steps
  all_goals first
    | (exfalso; omega)
    | (refine' cb_retI hret ?_ (by assumption) (by assumption); first | rfl | (simp only [cmpF]; (repeat' split) <;> first | rfl | (exfalso; omega)))
end Mine
-- SqLd
namespace Mine
local macro_rules | `(tactic| walk_at "sq pad") => `(tactic| fail "pad")
local macro_rules | `(tactic| walk_at "sq pad") => `(tactic| fail "pad")
local macro_rules | `(tactic| walk_at "sq pad") => `(tactic| fail "pad")
local macro_rules | `(tactic| walk_at "sq pad") => `(tactic| fail "pad")
local macro_rules | `(tactic| walk_at "sq pad") => `(tactic| fail "pad")
local macro_rules | `(tactic| walk_at "sq pad") => `(tactic| fail "pad")
local macro_rules | `(tactic| walk_at "sq pad") => `(tactic| fail "pad")
local macro_rules | `(tactic| ktr_enter) => `(tactic| (refine' enter0 ?k1 ?k2 ?k3 ?k4 ?k5 ?kA ?kF ?kK ?k6 ?k7 ?k8 ?k9 ?kB ?_ ?c2 ?c3 ?c4 ?c5; (case kA => exact rfl); (case kF => exact rfl); (case kK => assumption); (case k1 => k_asm); (case k2 => k_asm); (case k3 => k_asm); (case k4 => k_asm); (case k5 => k_asm); (case k6 => k_is); (case k7 => k_is); (case k8 => ktr_room); (case k9 => exact BindsTo.of_eq rfl); (case c5 => decide); (case kB => exact locs rfl); (case c2 => exact rfl); (case c3 => exact rfl); (case c4 => exact rfl); k_whole; intro g' L' h' FG' F' N' B' X' T'; (try dsimp only); (try k_lift B'); (try k_fold)))
local macro_rules | `(tactic| walk_at "binaryOp FloorDiv int int") => `(tactic| (k_here; (with_reducible refine floordiv_int ?kbe ?_ (Or.inl ?kbp)); (case kbe => with_reducible assumption); (case kbp => with_reducible assumption)))
local macro_rules | `(tactic| walk_at "binaryOp Mod int int") => `(tactic| (k_here; (with_reducible refine mod_int' ?kbe ?_); (case kbe => with_reducible assumption)))
local macro_rules | `(tactic| walk_at "binaryOp LShift int int") => `(tactic| (k_here; (with_reducible refine lshift_int ?kbn ?kbs ?_); (case kbn => omega); (case kbs => with_reducible assumption)))
local macro_rules | `(tactic| walk_at "binaryOp Mult int int") => `(tactic| (k_here; (with_reducible refine mul_int ?_ ?hm); (case hm => with_reducible assumption)))
local macro_rules | `(tactic| walk_at "binaryOp Pow int int") => `(tactic| (k_here; (with_reducible refine pow_int ?kb1 ?kb2 ?_); (case kb1 => decide); (case kb2 => with_reducible assumption)))
theorem law_double_K (x : Int) (t : Tok) : SqC 161 1 [.int x t] (True) (fun t => .int (ldF x) t) := by
  dsimp only [SqC, SqRet]
  k_with_none
  k_fill
  intro w loose mean mg mb dp un gd cn cs a ccd cl outer A₀ base h₀ L m news s Q E B F X N T hk hp hd hu hret
  have hok1 : IntMulOk x 37 := IntMulOk.of_right (by decide)
  have hok2 : IntMulOk (23 + (x * 37).fmod 2000) (2 ^ Int.toNat 52) := IntMulOk.of_right (by show bitsN _ ≤ 64; exact bits_mono (bits_pow _) (by decide))
  have hok3 : IntMulOk x 2783377641436327 := IntMulOk.of_right (by show bitsN _ ≤ 64; exact bits_lt (by omega) (by omega))
  have hpw : (Builtin.Int.intBits 2 : Int) * 52 ≤ 2 ^ 27 := by decide
  have hne : (2 : Int) ^ Int.toNat 52 ≠ 0 := by have := kbt_pos (Int.toNat 52); omega
  refine wpAny_call ?_
  k_dflt ktr_enter
  k_steps
  all_goals cb_end hret
end Mine
-- SqFrom
namespace Mine
local macro_rules | `(tactic| walk_at "sq pad") => `(tactic| fail "pad")
local macro_rules | `(tactic| walk_at "sq pad") => `(tactic| fail "pad")
local macro_rules | `(tactic| walk_at "sq pad") => `(tactic| fail "pad")
local macro_rules | `(tactic| walk_at "sq pad") => `(tactic| fail "pad")
local macro_rules | `(tactic| walk_at "sq pad") => `(tactic| fail "pad")
local macro_rules | `(tactic| walk_at "sq pad") => `(tactic| fail "pad")
local macro_rules | `(tactic| walk_at "sq pad") => `(tactic| fail "pad")
local macro_rules | `(tactic| ktr_enter) => `(tactic| (refine' enter0 ?k1 ?k2 ?k3 ?k4 ?k5 ?kA ?kF ?kK ?k6 ?k7 ?k8 ?k9 ?kB ?_ ?c2 ?c3 ?c4 ?c5; (case kA => exact rfl); (case kF => exact rfl); (case kK => assumption); (case k1 => k_asm); (case k2 => k_asm); (case k3 => k_asm); (case k4 => k_asm); (case k5 => k_asm); (case k6 => k_is); (case k7 => k_is); (case k8 => ktr_room); (case k9 => exact BindsTo.of_eq rfl); (case c5 => decide); (case kB => exact locs rfl); (case c2 => exact rfl); (case c3 => exact rfl); (case c4 => exact rfl); k_whole; intro g' L' h' FG' F' N' B' X' T'; (try dsimp only); (try k_lift B'); (try k_fold)))
local macro_rules | `(tactic| walk_at "binaryOp FloorDiv int int") => `(tactic| (k_here; (with_reducible refine floordiv_int ?kbe ?_ (Or.inl ?kbp)); (case kbe => with_reducible assumption); (case kbp => with_reducible assumption)))
local macro_rules | `(tactic| walk_at "binaryOp Mod int int") => `(tactic| (k_here; (with_reducible refine mod_int' ?kbe ?_); (case kbe => with_reducible assumption)))
local macro_rules | `(tactic| walk_at "binaryOp LShift int int") => `(tactic| (k_here; (with_reducible refine lshift_int ?kbn ?kbs ?_); (case kbn => omega); (case kbs => with_reducible assumption)))
local macro_rules | `(tactic| walk_at "binaryOp Mult int int") => `(tactic| (k_here; (with_reducible refine mul_int ?_ ?hm); (case hm => with_reducible assumption)))
local macro_rules | `(tactic| walk_at "binaryOp Pow int int") => `(tactic| (k_here; (with_reducible refine pow_int ?kb1 ?kb2 ?_); (case kb1 => decide); (case kb2 => with_reducible assumption)))
theorem from_1 {x : Int} (h : x < 0) : rrF 1 (if x < 0 then -x else x) 1 = fromF x := by unfold fromF; simp [h]
theorem from_2 {x : Int} (h : ¬ x < 0) : rrF 0 (if x < 0 then -x else x) 1 = fromF x := by unfold fromF; simp [h]
local macro_rules | `(tactic| walk_at "call ref") => `(tactic| (k_here; (with_reducible show wpAny _ _ (call (Value.ref 91) _) _ _ _); k_dflt (refine' use1 (round_ratio_K _ _ _ _ _ _) ?k1 ?k2 ?k3 ?k4 ?k5 ?kK ?kp ?kd ?ku ?_; (case k1 => k_asm); (case k2 => k_asm); (case k3 => k_asm); (case k4 => k_asm); (case k5 => k_asm); (case kK => first | exact rfl | assumption); (case kp => refine ⟨by omega, by omega, by assumption, by omega, by assumption, by decide⟩); (case kd => ktr_room); (case ku => ktr_units)); intro t9 h9 tk9 F9 N9; (try k_sweep); (try dsimp only); (try k_fold)))
theorem from_int_K (x : Int) (t : Tok) : SqC 112 4 [.int x t] (bitsN x ≤ 1000) (fun t => .int (fromF x) t) := by
  dsimp only [SqC, SqRet]
  k_with_none
  k_fill
  intro w loose mean mg mb dp un gd cn cs a ccd cl outer A₀ base h₀ L m news s Q E B F X N T hk hp hd hu hret
  have ha1 : 0 ≤ (if x < 0 then -x else x) := by split <;> omega
  have ha2 : bitsN (if x < 0 then -x else x) ≤ 2500 := bits_mono (intBits_ite_le (intBits_neg_le hp) hp) (by omega)
  refine wpAny_call ?_
  k_dflt ktr_enter
  k_steps
  all_goals (refine' cb_retI hret ?_ (by assumption) (by assumption); first | exact from_1 (by assumption) | exact from_2 (by assumption))
end Mine
-- SqRoot
namespace Mine
local macro_rules | `(tactic| walk_at "sq pad") => `(tactic| fail "pad")
local macro_rules | `(tactic| walk_at "sq pad") => `(tactic| fail "pad")
local macro_rules | `(tactic| walk_at "sq pad") => `(tactic| fail "pad")
local macro_rules | `(tactic| walk_at "sq pad") => `(tactic| fail "pad")
local macro_rules | `(tactic| walk_at "sq pad") => `(tactic| fail "pad")
local macro_rules | `(tactic| walk_at "sq pad") => `(tactic| fail "pad")
local macro_rules | `(tactic| walk_at "sq pad") => `(tactic| fail "pad")
local macro_rules | `(tactic| walk_at "sq pad") => `(tactic| fail "pad")
local macro_rules | `(tactic| ktr_enter) => `(tactic| (refine' enter0 ?k1 ?k2 ?k3 ?k4 ?k5 ?kA ?kF ?kK ?k6 ?k7 ?k8 ?k9 ?kB ?_ ?c2 ?c3 ?c4 ?c5; (case kA => exact rfl); (case kF => exact rfl); (case kK => assumption); (case k1 => k_asm); (case k2 => k_asm); (case k3 => k_asm); (case k4 => k_asm); (case k5 => k_asm); (case k6 => k_is); (case k7 => k_is); (case k8 => ktr_room); (case k9 => exact BindsTo.of_eq rfl); (case c5 => decide); (case kB => exact locs rfl); (case c2 => exact rfl); (case c3 => exact rfl); (case c4 => exact rfl); k_whole; intro g' L' h' FG' F' N' B' X' T'; (try dsimp only); (try k_lift B'); (try k_fold)))
local macro_rules | `(tactic| walk_at "binaryOp FloorDiv int int") => `(tactic| (k_here; (with_reducible refine floordiv_int ?kbe ?_ (Or.inl ?kbp)); (case kbe => with_reducible assumption); (case kbp => with_reducible assumption)))
local macro_rules | `(tactic| walk_at "binaryOp Mod int int") => `(tactic| (k_here; (with_reducible refine mod_int' ?kbe ?_); (case kbe => with_reducible assumption)))
local macro_rules | `(tactic| walk_at "binaryOp LShift int int") => `(tactic| (k_here; (with_reducible refine lshift_int ?kbn ?kbs ?_); (case kbn => omega); (case kbs => with_reducible assumption)))
local macro_rules | `(tactic| walk_at "binaryOp Mult int int") => `(tactic| (k_here; (with_reducible refine mul_int ?_ ?hm); (case hm => with_reducible assumption)))
local macro_rules | `(tactic| walk_at "binaryOp Pow int int") => `(tactic| (k_here; (with_reducible refine pow_int ?kb1 ?kb2 ?_); (case kb1 => decide); (case kb2 => with_reducible assumption)))
noncomputable def isq (n : Nat) : Nat := Nat.rec (motive := fun _ => Nat) 0 (fun k r => if (r + 1) * (r + 1) ≤ k + 1 then r + 1 else r) n
theorem isq_succ (n : Nat) : isq (n + 1) = if (isq n + 1) * (isq n + 1) ≤ n + 1 then isq n + 1 else isq n := rfl
theorem isq_lo (n : Nat) : isq n * isq n ≤ n := by
  induction n with
  | zero => exact Nat.le_refl 0
  | succ n ih =>
    rw [isq_succ]
    split <;> omega
theorem isq_hi (n : Nat) : n < (isq n + 1) * (isq n + 1) := by
  induction n with
  | zero => exact Nat.succ_pos 0
  | succ n h =>
    rw [isq_succ]
    split
    · rename_i h2
      have e : (isq n + 1 + 1) * (isq n + 1 + 1) = (isq n + 1) * (isq n + 1) + 2 * (isq n + 1) + 1 := by
        rw [Nat.mul_add, Nat.add_mul]; omega
      omega
    · omega
theorem isq_unique {n r : Nat} (h1 : r * r ≤ n) (h2 : n < (r + 1) * (r + 1)) : r = isq n := by
  have h3 := isq_lo n
  have h4 := isq_hi n
  rcases Nat.lt_trichotomy r (isq n) with h | h | h
  · have := Nat.mul_le_mul (show r + 1 ≤ isq n from h) (show r + 1 ≤ isq n from h)
    omega
  · exact h
  · have := Nat.mul_le_mul (show isq n + 1 ≤ r from h) (show isq n + 1 ≤ r from h)
    omega
noncomputable def isqF (n : Int) : Int := (isq n.toNat : Nat)
theorem wr_end {n r : Int} (h2 : n < (r + 1) * (r + 1)) (h0 : 0 < r) (hn : 0 < n) (hb : r ≤ (r + n.fdiv r).fdiv 2) : r = isqF n := by
  rw [Int.fdiv_eq_ediv_of_nonneg _ (by omega), Int.fdiv_eq_ediv_of_nonneg _ (by omega)] at hb
  have h3 : r ≤ n / r := by omega
  have h4 := Int.ediv_mul_le n (show r ≠ 0 by omega)
  have h5 := Int.mul_le_mul_of_nonneg_right h3 (show 0 ≤ r by omega)
  unfold isqF
  have e1 : (r.toNat : Int) = r := Int.toNat_of_nonneg (by omega)
  have e2 : (n.toNat : Int) = n := Int.toNat_of_nonneg (by omega)
  have := @isq_unique n.toNat r.toNat (by apply Int.ofNat_le.mp; rw [Int.natCast_mul, e1, e2]; omega)
    (by apply Int.ofNat_lt.mp; rw [Int.natCast_mul, Int.natCast_add, e1, e2]; exact h2)
  rw [← this, e1]
theorem wr_step {n r : Int} (h0 : 0 < r) (hn : 0 < n) : 0 < (r + n.fdiv r).fdiv 2 ∧ n < ((r + n.fdiv r).fdiv 2 + 1) * ((r + n.fdiv r).fdiv 2 + 1) := by
  rw [Int.fdiv_eq_ediv_of_nonneg _ (show (0:Int) ≤ 2 by omega), Int.fdiv_eq_ediv_of_nonneg _ (show 0 ≤ r by omega)]
  have hq0 : 0 ≤ n / r := Int.ediv_nonneg (by omega) (by omega)
  have h4 := Int.lt_mul_ediv_self_add (x := n) h0
  generalize hq : n / r = q at *
  constructor
  · rcases Int.lt_or_le 1 r with h | h
    · omega
    · have : r = 1 := by omega
      subst this
      rw [Int.ediv_one] at hq
      omega
  · generalize hb : (r + q) / 2 = b
    have h5 : r + q + 1 ≤ 2 * b + 2 := by omega
    have h6 := Int.mul_le_mul h5 h5 (by omega) (by omega)
    have h7 : 0 ≤ (r - (q + 1)) * (r - (q + 1)) := by
      rcases Int.le_total 0 (r - (q + 1)) with h | h
      · exact Int.mul_nonneg h h
      · exact Int.mul_nonneg_of_nonpos_of_nonpos h h
    have e1 : (r + q + 1) * (r + q + 1) = (r - (q + 1)) * (r - (q + 1)) + 4 * (r * q + r) := by grind
    have e2 : (2 * b + 2) * (2 * b + 2) = 4 * ((b + 1) * (b + 1)) := by grind
    omega
theorem wr_start {n : Int} (hn : 0 < n) : n < (1 * 2 ^ ((widthF n + 1).fdiv 2).toNat + 1) * (1 * 2 ^ ((widthF n + 1).fdiv 2).toNat + 1) := by
  have hw := width_bits (n := n) (by omega)
  have h1 := (bits_iff (n := n) (k := bitsN n) (by omega)).mp (Nat.le_refl _)
  rw [hw, Int.fdiv_eq_ediv_of_nonneg _ (by omega)]
  generalize bitsN n = w at *
  have e : (((w : Int) + 1) / 2).toNat = (w + 1) / 2 := by omega
  rw [e]
  generalize hk : (w + 1) / 2 = k
  have hwk : w ≤ k + k := by omega
  have h2 : (2 : Int) ^ w ≤ 2 ^ k * 2 ^ k := by
    rw [← Int.pow_add, ← kbt_cast, ← kbt_cast]
    exact Int.ofNat_le.mpr (Nat.pow_le_pow_right (by omega) hwk)
  have hp := kbt_pos k
  generalize (2 : Int) ^ k = P at *
  have e3 : (1 * P + 1) * (1 * P + 1) = P * P + 2 * P + 1 := by grind
  omega
abbrev WR (n r : Int) : Prop := 0 < r ∧ n < (r + 1) * (r + 1) ∧ bitsN r ≤ 200 ∧ r ≠ 0 ∧ Builtin.divisionGoesByPylong n r = false
theorem wr_inv0 {n : Int} (hn : 0 < n) (hb : bitsN n ≤ 200) : WR n (1 * 2 ^ ((widthF n + 1).fdiv 2).toNat) := by
  have hw := width_bits (n := n) (by omega)
  have hp := kbt_pos ((widthF n + 1).fdiv 2).toNat
  have hbb : bitsN (1 * 2 ^ ((widthF n + 1).fdiv 2).toNat) ≤ 200 := by
    refine bits_mono (bits_shl (a := 1) (m := 1) (by decide) _) ?_
    rw [Int.fdiv_eq_ediv_of_nonneg _ (by omega)]
    omega
  exact ⟨by omega, wr_start hn, hbb, by omega, py_ok (bits_mono hbb (by omega))⟩
theorem wr_inv1 {n r : Int} (h2 : n < (r + 1) * (r + 1)) (h0 : 0 < r) (hn : 0 < n) (hb : bitsN r ≤ 200) (hx : ¬ r ≤ (r + n.fdiv r).fdiv 2) : WR n ((r + n.fdiv r).fdiv 2) := by
  have h3 := wr_step h0 hn
  have hbb : bitsN ((r + n.fdiv r).fdiv 2) ≤ 200 := intBits_le_of_natAbs (by omega) hb
  exact ⟨h3.1, h3.2, hbb, by omega, py_ok (bits_mono hbb (by omega))⟩
theorem wr_meas {n r : Int} (h0 : 0 < r) (hx : ¬ r ≤ (r + n.fdiv r).fdiv 2) : ((r + n.fdiv r).fdiv 2).toNat < r.toNat := by omega
local macro_rules | `(tactic| walk_at "call ref") => `(tactic| (k_here; (with_reducible show wpAny _ _ (call (Value.ref 21) _) _ _ _); k_dflt (refine' use1 (width_K _ _) ?k1 ?k2 ?k3 ?k4 ?k5 ?kK ?kp ?kd ?ku ?_; (case k1 => k_asm); (case k2 => k_asm); (case k3 => k_asm); (case k4 => k_asm); (case k5 => k_asm); (case kK => first | exact rfl | assumption); (case kp => omega); (case kd => ktr_room); (case ku => ktr_units)); intro t9 h9 tk9 F9 N9; (try k_sweep); (try dsimp only); (try k_fold)))
theorem whole_root_K (n : Int) (t : Tok) : SqC 119 2 [.int n t] (0 < n ∧ bitsN n ≤ 200) (fun t => .int (isqF n) t) := by
  dsimp only [SqC, SqRet]
  k_with_none
  k_fill
  intro w loose mean mg mb dp un gd cn cs a ccd cl outer A₀ base h₀ L m news s Q E B F X N T hk hp hd hu hret
  obtain ⟨hp1, hp2⟩ := hp
  have hw := width_bits (n := n) (by omega)
  have hfd : 0 ≤ (widthF n + 1).fdiv 2 := by rw [Int.fdiv_eq_ediv_of_nonneg _ (by omega)]; omega
  have hs : (Builtin.Int.intBits 1 : Int) + (widthF n + 1).fdiv 2 ≤ 2 ^ 27 := shl_ok (a := 1) (m := 1) (by decide) (by omega) (by rw [Int.fdiv_eq_ediv_of_nonneg _ (by omega)]; omega)
  k_with "exec While Constant cons nil" => k_while_given ["n"] (fun n₀ _ r => WR n₀ r) (fun _ _ r => r.toNat) "root"
  k_with "state" => first | exact wr_inv0 hp1 hp2 | exact wr_inv1 (by assumption) (by assumption) (by assumption) (by assumption) (by assumption)
  k_with "measure" => exact wr_meas (by assumption) (by assumption)
  refine wpAny_call ?_
  k_dflt ktr_enter
  k_steps
  · exfalso; omega
  · exact cb_retI hret (wr_end (by assumption) (by assumption) hp1 (by assumption)) (by assumption) (by assumption)
end Mine
-- SqSqrt
namespace Mine
local macro_rules | `(tactic| walk_at "sq pad") => `(tactic| fail "pad")
local macro_rules | `(tactic| walk_at "sq pad") => `(tactic| fail "pad")
local macro_rules | `(tactic| ktr_enter) => `(tactic| (refine' enter0 ?k1 ?k2 ?k3 ?k4 ?k5 ?kA ?kF ?kK ?k6 ?k7 ?k8 ?k9 ?kB ?_ ?c2 ?c3 ?c4 ?c5; (case kA => exact rfl); (case kF => exact rfl); (case kK => assumption); (case k1 => k_asm); (case k2 => k_asm); (case k3 => k_asm); (case k4 => k_asm); (case k5 => k_asm); (case k6 => k_is); (case k7 => k_is); (case k8 => ktr_room); (case k9 => exact BindsTo.of_eq rfl); (case c5 => decide); (case kB => exact locs rfl); (case c2 => exact rfl); (case c3 => exact rfl); (case c4 => exact rfl); k_whole; intro g' L' h' FG' F' N' B' X' T'; (try dsimp only); (try k_lift B'); (try k_fold)))
local macro_rules | `(tactic| walk_at "binaryOp FloorDiv int int") => `(tactic| (k_here; (with_reducible refine floordiv_int ?kbe ?_ (Or.inl ?kbp)); (case kbe => with_reducible assumption); (case kbp => with_reducible assumption)))
local macro_rules | `(tactic| walk_at "binaryOp Mod int int") => `(tactic| (k_here; (with_reducible refine mod_int' ?kbe ?_); (case kbe => with_reducible assumption)))
local macro_rules | `(tactic| walk_at "binaryOp LShift int int") => `(tactic| (k_here; (with_reducible refine lshift_int ?kbn ?kbs ?_); (case kbn => omega); (case kbs => with_reducible assumption)))
local macro_rules | `(tactic| walk_at "binaryOp Mult int int") => `(tactic| (k_here; (with_reducible refine mul_int ?_ ?hm); (case hm => with_reducible assumption)))
local macro_rules | `(tactic| walk_at "binaryOp Pow int int") => `(tactic| (k_here; (with_reducible refine pow_int ?kb1 ?kb2 ?_); (case kb1 => decide); (case kb2 => with_reducible assumption)))
theorem isZero_no (n : Int) (t : Tok) : SqC 56 1 [.int n t] (isZeroF n = false) (fun _ => .bool false) := by
  dsimp only [SqC]; intro w loose mean mg mb dp un gd cn cs a ccd cl outer A₀ base h₀ L m news s Q E B F X N T hk hp hd hu hret
  exact use1 (isZero_K n t) B F X N T hk trivial hd hu (by rw [hp]; exact hret)
theorem isZero_yes (n : Int) (t : Tok) : SqC 56 1 [.int n t] (isZeroF n = true) (fun _ => .bool true) := by
  dsimp only [SqC]; intro w loose mean mg mb dp un gd cn cs a ccd cl outer A₀ base h₀ L m news s Q E B F X N T hk hp hd hu hret
  exact use1 (isZero_K n t) B F X N T hk trivial hd hu (by rw [hp]; exact hret)
def bigF (x : Int) : Int := if (powF x).fmod 2 = 0 then mantF x * 2 ^ Int.toNat (2 * 56) else mantF x * 2 ^ Int.toNat 1 * 2 ^ Int.toNat (2 * 56)
def evF (x : Int) : Int := if (powF x).fmod 2 = 0 then (powF x).fdiv 2 - 56 - 1 else (powF x - 1).fdiv 2 - 56 - 1
noncomputable def twoF (S : Int) : Int := if isqF S * isqF S < S then 2 * isqF S + 1 else 2 * isqF S + 0
noncomputable def sqrtF (x : Int) : Int := if isZeroF x = true then x else rsF 0 (twoF (bigF x)) (evF x)
theorem isq_facts (S : Int) (h0 : 0 < S) (hb : bitsN S ≤ 180) : 0 ≤ isqF S ∧ IntMulOk (isqF S) (isqF S) ∧ bitsN (2 * isqF S + 1) ≤ 200 ∧ bitsN (2 * isqF S + 0) ≤ 200 ∧ 0 ≤ 2 * isqF S + 1 ∧ 0 ≤ 2 * isqF S + 0 := by
  have h1 : 0 ≤ isqF S := Int.natCast_nonneg _
  have h2 := isq_lo S.toNat
  have h3 : isq S.toNat ≤ S.toNat := Nat.le_trans (Nat.le_mul_self _) h2
  have h4 : bitsN (isqF S) ≤ 180 := intBits_le_of_natAbs (by unfold isqF; omega) hb
  have h5 : bitsN (2 * isqF S) ≤ 2 + 180 := intBits_mul_le (by decide) h4
  refine ⟨h1, IntMulOk.of_le h4 h4 (by omega), bits_mono (intBits_add_le (n := 1) h5 (by decide)) (by omega), bits_mono (intBits_add_le (n := 1) h5 (by decide)) (by omega), by omega, by omega⟩
theorem sq_e1 {x S : Int} (hz : isZeroF x = false) (hS : bigF x = S) {e : Int} (he : evF x = e) (h : isqF S * isqF S < S) : rsF 0 (2 * isqF S + 1) e = sqrtF x := by
  unfold sqrtF twoF; rw [hS, he, if_pos h, hz]; rfl
theorem sq_e2 {x S : Int} (hz : isZeroF x = false) (hS : bigF x = S) {e : Int} (he : evF x = e) (h : ¬ isqF S * isqF S < S) : rsF 0 (2 * isqF S + 0) e = sqrtF x := by
  unfold sqrtF twoF; rw [hS, he, if_neg h, hz]; rfl
local macro_rules | `(tactic| walk_at "call ref") => `(tactic| (k_here; (with_reducible show wpAny _ _ (call (Value.ref 42) _) _ _ _); k_dflt (refine' use1 (isNan_no _ _) ?k1 ?k2 ?k3 ?k4 ?k5 ?kK ?kp ?kd ?ku ?_; (case k1 => k_asm); (case k2 => k_asm); (case k3 => k_asm); (case k4 => k_asm); (case k5 => k_asm); (case kK => first | exact rfl | assumption); (case kp => assumption); (case kd => ktr_room); (case ku => ktr_units)); intro t9 h9 tk9 F9 N9; (try k_sweep); (try dsimp only); (try k_fold)))
local macro_rules | `(tactic| walk_at "call ref") => `(tactic| (k_here; (with_reducible show wpAny _ _ (call (Value.ref 49) _) _ _ _); k_dflt (refine' use1 (isInf_no _ _) ?k1 ?k2 ?k3 ?k4 ?k5 ?kK ?kp ?kd ?ku ?_; (case k1 => k_asm); (case k2 => k_asm); (case k3 => k_asm); (case k4 => k_asm); (case k5 => k_asm); (case kK => first | exact rfl | assumption); (case kp => assumption); (case kd => ktr_room); (case ku => ktr_units)); intro t9 h9 tk9 F9 N9; (try k_sweep); (try dsimp only); (try k_fold)))
local macro_rules | `(tactic| walk_at "call ref") => `(tactic| (k_here; (with_reducible show wpAny _ _ (call (Value.ref 35) _) _ _ _); k_dflt (refine' use1 (isNeg_no _ _) ?k1 ?k2 ?k3 ?k4 ?k5 ?kK ?kp ?kd ?ku ?_; (case k1 => k_asm); (case k2 => k_asm); (case k3 => k_asm); (case k4 => k_asm); (case k5 => k_asm); (case kK => first | exact rfl | assumption); (case kp => assumption); (case kd => ktr_room); (case ku => ktr_units)); intro t9 h9 tk9 F9 N9; (try k_sweep); (try dsimp only); (try k_fold)))
local macro_rules | `(tactic| walk_at "call ref") => `(tactic| (k_here; (with_reducible show wpAny _ _ (call (Value.ref 56) _) _ _ _); k_dflt (refine' use1 (isZero_no _ _) ?k1 ?k2 ?k3 ?k4 ?k5 ?kK ?kp ?kd ?ku ?_; (case k1 => k_asm); (case k2 => k_asm); (case k3 => k_asm); (case k4 => k_asm); (case k5 => k_asm); (case kK => first | exact rfl | assumption); (case kp => assumption); (case kd => ktr_room); (case ku => ktr_units)); intro t9 h9 tk9 F9 N9; (try k_sweep); (try dsimp only); (try k_fold)))
local macro_rules | `(tactic| walk_at "call ref") => `(tactic| (k_here; (with_reducible show wpAny _ _ (call (Value.ref 56) _) _ _ _); k_dflt (refine' use1 (isZero_yes _ _) ?k1 ?k2 ?k3 ?k4 ?k5 ?kK ?kp ?kd ?ku ?_; (case k1 => k_asm); (case k2 => k_asm); (case k3 => k_asm); (case k4 => k_asm); (case k5 => k_asm); (case kK => first | exact rfl | assumption); (case kp => assumption); (case kd => ktr_room); (case ku => ktr_units)); intro t9 h9 tk9 F9 N9; (try k_sweep); (try dsimp only); (try k_fold)))
local macro_rules | `(tactic| walk_at "call ref") => `(tactic| (k_here; (with_reducible show wpAny _ _ (call (Value.ref 70) _) _ _ _); k_dflt (refine' use3 (parts_K _ _) ?k1 ?k2 ?k3 ?k4 ?k5 ?kK ?kp ?kd ?ku ?_; (case k1 => k_asm); (case k2 => k_asm); (case k3 => k_asm); (case k4 => k_asm); (case k5 => k_asm); (case kK => first | exact rfl | assumption); (case kp => trivial); (case kd => ktr_room); (case ku => ktr_units)); intro d9 t9 u9 v9 c9 h9 tk9 F9 N9; (try k_sweep); (try dsimp only); (try k_fold)))
local macro_rules | `(tactic| walk_at "call ref") => `(tactic| (k_here; (with_reducible show wpAny _ _ (call (Value.ref 119) _) _ _ _); k_dflt (refine' use1 (whole_root_K _ _) ?k1 ?k2 ?k3 ?k4 ?k5 ?kK ?kp ?kd ?ku ?_; (case k1 => k_asm); (case k2 => k_asm); (case k3 => k_asm); (case k4 => k_asm); (case k5 => k_asm); (case kK => first | exact rfl | assumption); (case kp => exact ⟨by with_reducible assumption, by with_reducible assumption⟩); (case kd => ktr_room); (case ku => ktr_units)); intro t9 h9 tk9 F9 N9; (try k_sweep); (try dsimp only); (try k_fold)))
local macro_rules | `(tactic| walk_at "call ref") => `(tactic| (k_here; (with_reducible show wpAny _ _ (call (Value.ref 105) _) _ _ _); k_dflt (refine' use1 (round_scaled_K _ _ _ _ _ _) ?k1 ?k2 ?k3 ?k4 ?k5 ?kK ?kp ?kd ?ku ?_; (case k1 => k_asm); (case k2 => k_asm); (case k3 => k_asm); (case k4 => k_asm); (case k5 => k_asm); (case kK => first | exact rfl | assumption); (case kp => refine ⟨by omega, by omega, by with_reducible assumption, by with_reducible assumption, by omega, by omega⟩); (case kd => ktr_room); (case ku => ktr_units)); intro t9 h9 tk9 F9 N9; (try k_sweep); (try dsimp only); (try k_fold)))
theorem sqrt_K (x : Int) (t : Tok) : SqC 126 5 [.int x t] (isNanF x = false ∧ isNegF x = false ∧ isInfF x = false ∧ (isZeroF x = false → 0 < mantF x)) (fun t => .int (sqrtF x) t) := by
  dsimp only [SqC, SqRet]
  k_with_none
  k_fill
  intro w loose mean mg mb dp un gd cn cs a ccd cl outer A₀ base h₀ L m news s Q E B F X N T hk hp hd hu hret
  obtain ⟨hp1, hp2, hp3, hp4⟩ := hp
  have hm2 := mant_bounds x
  have hw := pow_bounds x
  rcases hz : isZeroF x with _ | _
  · have hm1 := hp4 hz
    clear hp4
    have hb : bitsN (mantF x) ≤ 53 := bits_lt hm2.1 (by omega)
    have hb1 := bits_shl hb (Int.toNat 1)
    have hs0 : (Builtin.Int.intBits (mantF x) : Int) + 1 ≤ 2 ^ 27 := shl_ok hb (by omega) (by omega)
    have hs1 : (Builtin.Int.intBits (mantF x) : Int) + 2 * 56 ≤ 2 ^ 27 := shl_ok hb (by omega) (by omega)
    have hs2 : (Builtin.Int.intBits (mantF x * 2 ^ Int.toNat 1) : Int) + 2 * 56 ≤ 2 ^ 27 := shl_ok hb1 (by decide) (by omega)
    have hS1 : 0 < mantF x * 2 ^ Int.toNat (2 * 56) := Int.mul_pos hm1 (kbt_pos _)
    have hS2 : 0 < mantF x * 2 ^ Int.toNat 1 * 2 ^ Int.toNat (2 * 56) := Int.mul_pos (Int.mul_pos hm1 (kbt_pos _)) (kbt_pos _)
    have hB1 : bitsN (mantF x * 2 ^ Int.toNat (2 * 56)) ≤ 180 := bits_mono (bits_shl hb _) (by decide)
    have hB2 : bitsN (mantF x * 2 ^ Int.toNat 1 * 2 ^ Int.toNat (2 * 56)) ≤ 180 := bits_mono (bits_shl hb1 _) (by decide)
    have hq1 := isq_facts _ hS1 hB1
    have hq2 := isq_facts _ hS2 hB2
    have hB1' := bits_mono (n := 200) hB1 (by decide)
    have hB2' := bits_mono (n := 200) hB2 (by decide)
    obtain ⟨hq11, hq12, hq13, hq14, hq15, hq16⟩ := hq1
    obtain ⟨hq21, hq22, hq23, hq24, hq25, hq26⟩ := hq2
    have hf1 : -600 ≤ (powF x).fdiv 2 ∧ (powF x).fdiv 2 ≤ 600 := by rw [Int.fdiv_eq_ediv_of_nonneg _ (by omega)]; omega
    have hf2 : -600 ≤ (powF x - 1).fdiv 2 ∧ (powF x - 1).fdiv 2 ≤ 600 := by rw [Int.fdiv_eq_ediv_of_nonneg _ (by omega)]; omega
    refine wpAny_call ?_
    k_dflt ktr_enter
    k_steps
    all_goals (refine' cb_retI hret ?_ (by assumption) (by assumption); first
      | exact sq_e1 hz (if_pos (by with_reducible assumption)) (if_pos (by with_reducible assumption)) (by with_reducible assumption)
      | exact sq_e2 hz (if_pos (by with_reducible assumption)) (if_pos (by with_reducible assumption)) (by with_reducible assumption)
      | exact sq_e1 hz (if_neg (by with_reducible assumption)) (if_neg (by with_reducible assumption)) (by with_reducible assumption)
      | exact sq_e2 hz (if_neg (by with_reducible assumption)) (if_neg (by with_reducible assumption)) (by with_reducible assumption))
  · refine wpAny_call ?_
    k_dflt ktr_enter
    k_steps
    all_goals exact cb_retI hret (if_pos hz).symm (by assumption) (by assumption)
end Mine
-- SqMath
namespace Mine
-- powers of two in Int
theorem p2_add (a b : Nat) : (2 : Int) ^ (a + b) = 2 ^ a * 2 ^ b := Int.pow_add 2 a b
theorem p2_pos (k : Nat) : (0 : Int) < 2 ^ k := kbt_pos k
theorem p2_le {a b : Nat} (h : a ≤ b) : (2 : Int) ^ a ≤ 2 ^ b := by
  rw [← kbt_cast, ← kbt_cast]; exact Int.ofNat_le.mpr (Nat.pow_le_pow_right (by omega) h)
-- rounding to even
def rne (n u : Int) : Int := if u < 2 * n.fmod u then n.fdiv u + 1 else if 2 * n.fmod u = u then (if (n.fdiv u).fmod 2 = 1 then n.fdiv u + 1 else n.fdiv u) else n.fdiv u
theorem rnd_rne (sg n u p : Int) : rndF sg (n.fdiv u) (n.fmod u) u p = asmF sg (rne n u) p := by
  unfold rndF rne
  (repeat' split) <;> rfl
theorem fd_facts {n u : Int} (hu : 0 < u) : u * n.fdiv u + n.fmod u = n ∧ 0 ≤ n.fmod u ∧ n.fmod u < u := by
  rw [Int.fdiv_eq_ediv_of_nonneg _ (by omega), Int.fmod_eq_emod_of_nonneg _ (by omega)]
  exact ⟨Int.mul_ediv_add_emod n u, Int.emod_nonneg _ (by omega), Int.emod_lt_of_pos _ hu⟩
theorem rne_bounds {n u : Int} (hu : 0 < u) : u * (2 * rne n u) - u ≤ 2 * n ∧ 2 * n ≤ u * (2 * rne n u) + u := by
  obtain ⟨h1, h2, h3⟩ := fd_facts (n := n) hu
  unfold rne
  generalize n.fdiv u = q at *
  generalize n.fmod u = r at *
  have e1 : u * (2 * (q + 1)) = 2 * (u * q) + 2 * u := by grind
  have e2 : u * (2 * q) = 2 * (u * q) := by grind
  (repeat' split) <;> (first | rw [e1] | rw [e2]) <;> omega
theorem rne_exact {W u : Int} (hu : 0 < u) : rne (W * u) u = W := by
  have h1 : (W * u).fdiv u = W := by
    rw [Int.fdiv_eq_ediv_of_nonneg _ (by omega)]; exact Int.mul_ediv_cancel _ (by omega)
  have h2 : (W * u).fmod u = 0 := by
    rw [Int.fmod_eq_emod_of_nonneg _ (by omega)]; exact Int.mul_emod_left _ _
  unfold rne
  rw [h1, h2, if_neg (by omega), if_neg (by omega)]
theorem rne_mono {n n' u : Int} (hu : 0 < u) (h : n ≤ n') : rne n u ≤ rne n' u := by
  rcases Int.lt_or_le (rne n' u) (rne n u) with hlt | hle
  · have h1 := (rne_bounds (n := n) hu).1
    have h2 := (rne_bounds (n := n') hu).2
    have h3 : u * (2 * (rne n' u + 1)) ≤ u * (2 * rne n u) := Int.mul_le_mul_of_nonneg_left (by omega) (by omega)
    have e1 : u * (2 * (rne n' u + 1)) = u * (2 * rne n' u) + 2 * u := by grind
    have : n = n' := by omega
    subst this
    omega
  · exact hle
theorem rne_scale {n u k : Int} (hu : 0 < u) (hk : 0 < k) : rne (n * k) (u * k) = rne n u := by
  have huk : 0 < u * k := Int.mul_pos hu hk
  have h1 : (n * k).fdiv (u * k) = n.fdiv u := by
    rw [Int.fdiv_eq_ediv_of_nonneg _ (by omega), Int.fdiv_eq_ediv_of_nonneg _ (by omega)]
    exact Int.mul_ediv_mul_of_pos_left _ _ hk
  have h2 : (n * k).fmod (u * k) = n.fmod u * k := by
    rw [Int.fmod_eq_emod_of_nonneg _ (by omega), Int.fmod_eq_emod_of_nonneg _ (by omega), Int.emod_def, Int.emod_def, Int.mul_ediv_mul_of_pos_left _ _ hk, Int.sub_mul]
    grind
  unfold rne
  rw [h1, h2]
  have e1 : 2 * (n.fmod u * k) = (2 * n.fmod u) * k := by grind
  have e2 : (u * k < 2 * (n.fmod u * k)) = (u < 2 * n.fmod u) := by
    rw [e1]; exact propext ⟨fun h => Int.lt_of_mul_lt_mul_right h (by omega), fun h => Int.mul_lt_mul_of_pos_right h hk⟩
  have e3 : (2 * (n.fmod u * k) = u * k) = (2 * n.fmod u = u) := by
    rw [e1]; exact propext ⟨fun h => Int.eq_of_mul_eq_mul_right (by omega) h, fun h => by rw [h]⟩
  simp only [e2, e3]
-- packing
theorem pack_eq {sg e f : Int} (h0 : 0 ≤ sg) (h1 : 0 ≤ e) (h2 : e < 2048) (h3 : 0 ≤ f) (h4 : f < 4503599627370496) : packF sg e f = sg * 9223372036854775808 + e * 4503599627370496 + f := by
  unfold packF
  have a1 : Builtin.bitOr (sg * 2 ^ 63) (e * 2 ^ 52) = sg * 2 ^ 63 + e * 2 ^ 52 := bitOr_shl sg (e * 2 ^ 52) 63 h0 (by omega) (by omega)
  have a2 : sg * 2 ^ 63 + e * 2 ^ 52 = (sg * 2048 + e) * 2 ^ 52 := by omega
  rw [a1, a2, bitOr_shl (sg * 2048 + e) f 52 (by omega) h3 (by omega)]
  omega
theorem asm_eq {sg W p : Int} (h0 : 0 ≤ sg) (h1 : 4503599627370496 ≤ W) (h2 : W ≤ 9007199254740992) (h3 : -1074 ≤ p) (h4 : p ≤ 970) : asmF sg W p = sg * 9223372036854775808 + (p + 1074) * 4503599627370496 + W := by
  have e : (4503599627370496 : Int) * 2 ^ Int.toNat 1 = 9007199254740992 := by decide
  unfold asmF
  rw [e]
  split
  · rw [if_neg (by omega), pack_eq h0 (by omega) (by omega) (by omega) (by omega)]; omega
  · rw [if_neg (by omega), if_neg (by omega), pack_eq h0 (by omega) (by omega) (by omega) (by omega)]; omega
-- bits
theorem bits_lo {X : Int} (h : 0 < X) : 0 < bitsN X ∧ (2 : Int) ^ (bitsN X - 1) ≤ X := by
  have h0 : 0 < bitsN X := by
    rcases Nat.eq_zero_or_pos (bitsN X) with e | e
    · have := (bits_iff (n := X) (k := 0) (by omega)).mp (by omega)
      simp at this; omega
    · exact e
  refine ⟨h0, ?_⟩
  rcases Int.lt_or_le X (2 ^ (bitsN X - 1)) with h1 | h1
  · have := bits_lt (n := X) (by omega) h1
    omega
  · exact h1
theorem bits_hi {X : Int} (h : 0 < X) : X < 2 ^ bitsN X := (bits_iff (by omega)).mp (Nat.le_refl _)
theorem bits_eq {X : Int} {w : Nat} (lo : (2 : Int) ^ w ≤ X) (hi : X < 2 ^ (w + 1)) : bitsN X = w + 1 := by
  have hp := p2_pos w
  have h1 := bits_lt (n := X) (by omega) hi
  rcases Nat.lt_or_ge (bitsN X) (w + 1) with h | h
  · have := (bits_iff (n := X) (k := w) (by omega)).mp (by omega)
    omega
  · omega
theorem bits_mulp {X : Int} (h : 0 < X) (k : Nat) : bitsN (X * 2 ^ k) = bitsN X + k := by
  obtain ⟨h0, h1⟩ := bits_lo h
  have h2 := bits_hi h
  have hk := p2_pos k
  have e : bitsN X = (bitsN X - 1) + 1 := by omega
  have := bits_eq (X := X * 2 ^ k) (w := bitsN X - 1 + k) (by rw [p2_add]; exact Int.mul_le_mul_of_nonneg_right h1 (by omega))
    (by rw [show bitsN X - 1 + k + 1 = bitsN X + k by omega, p2_add]; exact Int.mul_lt_mul_of_pos_right h2 hk)
  omega
theorem bits_p2 (k : Nat) : bitsN (1 * 2 ^ k) = k + 1 := by
  rw [bits_mulp (by omega)]
  have : bitsN 1 = 1 := by decide
  omega
def RForm (X P top bottom : Int) : Prop := (0 ≤ P ∧ top = X * 2 ^ P.toNat ∧ bottom = 1) ∨ (P < 0 ∧ top = X ∧ bottom = 1 * 2 ^ (-P).toNat)
theorem qn_form {X P top bottom : Int} (h : RForm X P top bottom) (p : Int) : ∃ α β : Nat, qnF top p = X * 2 ^ α ∧ qdF bottom p = 2 ^ β ∧ (β : Int) - α = p - P := by
  unfold qnF qdF
  rcases h with ⟨hP, rfl, rfl⟩ | ⟨hP, rfl, rfl⟩
  · by_cases hp : 0 ≤ p
    · refine ⟨P.toNat, p.toNat, ?_, ?_, by omega⟩
      · rw [if_pos hp]
      · rw [if_pos hp, Int.one_mul]
    · refine ⟨P.toNat + (-p).toNat, 0, ?_, ?_, by omega⟩
      · rw [if_neg hp, p2_add, Int.mul_assoc]
      · rw [if_neg hp]; rfl
  · by_cases hp : 0 ≤ p
    · refine ⟨0, (-P).toNat + p.toNat, ?_, ?_, by omega⟩
      · rw [if_pos hp]; simp
      · rw [if_pos hp, p2_add, Int.one_mul]
    · refine ⟨(-p).toNat, (-P).toNat, ?_, ?_, by omega⟩
      · rw [if_neg hp]
      · rw [if_neg hp, Int.one_mul]
theorem rr_eq {sg top bottom X P : Int} {w : Nat} (hX : 0 < X) (hw : bitsN X = w) (hf : RForm X P top bottom) (he : -1073 ≤ P + w - 53) :
    ∃ α β : Nat, (β : Int) - α = w - 53 ∧ rrF sg top bottom = asmF sg (rne (X * 2 ^ α) (2 ^ β)) (P + w - 53) := by
  obtain ⟨hw0, hlo⟩ := bits_lo hX
  rw [hw] at hw0 hlo
  have hwid : widthF top - widthF bottom = P + w - 1 ∧ 0 < top := by
    rcases hf with ⟨hP, rfl, rfl⟩ | ⟨hP, rfl, rfl⟩
    · have hp := Int.mul_pos hX (p2_pos P.toNat)
      rw [width_bits (by omega), width_bits (by omega), bits_mulp hX, hw]
      have : bitsN 1 = 1 := by decide
      exact ⟨by omega, hp⟩
    · have hp := p2_pos (-P).toNat
      rw [width_bits (by omega), width_bits (by omega), bits_p2, hw]
      exact ⟨by omega, hX⟩
  have hp0 : p0F top bottom = P + w - 53 - 1 := by
    show (if -1074 > widthF top - widthF bottom - 53 then -1074 else widthF top - widthF bottom - 53) = _
    rw [hwid.1]; split <;> omega
  obtain ⟨α₀, β₀, hn₀, hd₀, hs₀⟩ := qn_form hf (P + w - 53 - 1)
  obtain ⟨α, β, hn, hd, hs⟩ := qn_form hf (P + w - 53)
  refine ⟨α, β, by omega, ?_⟩
  have e2 : (4503599627370496 : Int) * 2 ^ Int.toNat 1 = 2 ^ 53 := by decide
  have htest : (4503599627370496 : Int) * 2 ^ Int.toNat 1 ≤ quoF top bottom (p0F top bottom) := by
    show _ ≤ (qnF top (p0F top bottom)).fdiv (qdF bottom (p0F top bottom))
    rw [hp0, hn₀, hd₀, e2, Int.fdiv_eq_ediv_of_nonneg _ (by have := p2_pos β₀; omega)]
    refine Int.le_ediv_of_mul_le (p2_pos _) ?_
    rw [← p2_add, show 53 + β₀ = (w - 1) + α₀ by omega, p2_add]
    exact Int.mul_le_mul_of_nonneg_right hlo (by have := p2_pos α₀; omega)
  have htop := hwid.2
  unfold rrF
  rw [if_neg (by omega), if_pos htest]
  show rndF sg ((qnF top (p0F top bottom + 1)).fdiv (qdF bottom (p0F top bottom + 1))) ((qnF top (p0F top bottom + 1)).fmod (qdF bottom (p0F top bottom + 1))) (qdF bottom (p0F top bottom + 1)) (p0F top bottom + 1) = _
  rw [rnd_rne, hp0, show P + w - 53 - 1 + 1 = P + w - 53 by omega, hn, hd]
-- rounding to 53 bits
theorem rne_range {X : Int} {w : Nat} (hX : 0 < X) (hw : bitsN X = w) {α β : Nat} (h : (β : Int) - α = w - 53) : 4503599627370496 ≤ rne (X * 2 ^ α) (2 ^ β) ∧ rne (X * 2 ^ α) (2 ^ β) ≤ 9007199254740992 := by
  obtain ⟨hw0, hlo⟩ := bits_lo hX
  have hhi := bits_hi hX
  rw [hw] at hw0 hlo hhi
  have hb := p2_pos β
  have ha := p2_pos α
  constructor
  · have h1 : (2 : Int) ^ 52 * 2 ^ β ≤ X * 2 ^ α := by
      rw [← p2_add, show 52 + β = (w - 1) + α by omega, p2_add]
      exact Int.mul_le_mul_of_nonneg_right hlo (by omega)
    have := rne_mono hb h1
    rw [rne_exact hb] at this
    exact this
  · have h1 : X * 2 ^ α ≤ (2 : Int) ^ 53 * 2 ^ β := by
      rw [← p2_add, show 53 + β = w + α by omega, p2_add]
      exact Int.mul_le_mul_of_nonneg_right (by omega) (by omega)
    have := rne_mono hb h1
    rw [rne_exact hb] at this
    exact this
theorem rs_eq {sg X P : Int} {w : Nat} (h0 : 0 ≤ sg) (hX : 0 < X) (hw : bitsN X = w) (h53 : 53 ≤ w) (he : -1073 ≤ P + w - 53) (he2 : P + w ≤ 1023) :
    rsF sg X P = sg * 9223372036854775808 + (P + w - 53 + 1074) * 4503599627370496 + rne X (2 ^ (w - 53)) ∧ 4503599627370496 ≤ rne X (2 ^ (w - 53)) ∧ rne X (2 ^ (w - 53)) ≤ 9007199254740992 := by
  have hr := rne_range hX hw (α := 0) (β := w - 53) (by omega)
  rw [show X * 2 ^ 0 = X by simp] at hr
  refine ⟨?_, hr⟩
  have hwid : widthF X = w := by rw [width_bits (by omega), hw]
  have hf : ∀ (top bottom : Int), RForm X P top bottom → rrF sg top bottom = sg * 9223372036854775808 + (P + w - 53 + 1074) * 4503599627370496 + rne X (2 ^ (w - 53)) := by
    intro top bottom hf
    obtain ⟨α, β, hs, h1⟩ := rr_eq (sg := sg) hX hw hf he
    have e : rne (X * 2 ^ α) (2 ^ β) = rne X (2 ^ (w - 53)) := by
      rw [show β = (w - 53) + α by omega, p2_add]
      exact rne_scale (p2_pos _) (p2_pos _)
    rw [h1, e]
    exact asm_eq h0 hr.1 hr.2 (by omega) (by omega)
  unfold rsF
  rw [if_neg (by omega), hwid, if_neg (by omega), if_neg (by omega)]
  by_cases hP : 0 ≤ P
  · rw [if_pos hP]; exact hf _ _ (Or.inl ⟨hP, rfl, rfl⟩)
  · rw [if_neg hP]; exact hf _ _ (Or.inr ⟨by omega, rfl, rfl⟩)
-- a normal double, by its sign, power and mantissa
structure Dbl (s e m x : Int) : Prop where
  s0 : 0 ≤ s
  s1 : s ≤ 1
  e0 : -1074 ≤ e
  e1 : e ≤ 971
  m0 : 4503599627370496 ≤ m
  m1 : m < 9007199254740992
  eq : x = s * 9223372036854775808 + (e + 1074) * 4503599627370496 + m
section
variable {s e m x : Int} (D : Dbl s e m x)
include D
theorem Dbl.range : 0 ≤ x ∧ x < 18446744073709551616 := by obtain ⟨h1, h2, h3, h4, h5, h6, h7⟩ := D; omega
theorem Dbl.sgn : sgnF x = s := by
  obtain ⟨h1, h2, h3, h4, h5, h6, h7⟩ := D
  have h : sgnF x = x / 2 ^ 63 := fdivp x 63
  have e2 : (2 : Int) ^ 63 = 9223372036854775808 := by decide
  rw [h, e2]; omega
theorem Dbl.exp : x / 4503599627370496 % 2048 = e + 1075 := by obtain ⟨h1, h2, h3, h4, h5, h6, h7⟩ := D; omega
theorem Dbl.mant : mantF x = m := by
  have h := D.exp
  obtain ⟨h1, h2, h3, h4, h5, h6, h7⟩ := D
  rw [mant_eq, if_neg (by omega)]; omega
theorem Dbl.pow : powF x = e := by
  have h := D.exp
  obtain ⟨h1, h2, h3, h4, h5, h6, h7⟩ := D
  unfold powF
  rw [exp_eq, h, if_neg (by omega)]; omega
theorem Dbl.low : x % 9223372036854775808 = (e + 1074) * 4503599627370496 + m := by obtain ⟨h1, h2, h3, h4, h5, h6, h7⟩ := D; omega
theorem Dbl.nan : isNanF x = false := by
  have h := D.low
  obtain ⟨h1, h2, h3, h4, h5, h6, h7⟩ := D
  unfold isNanF
  rw [and63, h, decide_eq_false]; omega
theorem Dbl.inf : isInfF x = false := by
  have h := D.low
  obtain ⟨h1, h2, h3, h4, h5, h6, h7⟩ := D
  unfold isInfF
  rw [and63, h, beq_eq_false_iff_ne]; omega
theorem Dbl.zero : isZeroF x = false := by
  have h := D.low
  obtain ⟨h1, h2, h3, h4, h5, h6, h7⟩ := D
  unfold isZeroF
  rw [and63, h, beq_eq_false_iff_ne]; omega
theorem Dbl.neg (h0 : s = 0) : isNegF x = false := by
  have h := D.sgn
  unfold sgnF at h
  unfold isNegF
  rw [h, h0]; rfl
theorem Dbl.abs : absF x = (e + 1074) * 4503599627370496 + m := by
  have h := D.low
  unfold absF signedF
  rw [and63, h, bitOr_and]
  have e0 : (0 : Int) * 2 ^ 63 = 0 := by omega
  rw [e0, bitAnd_zero]; omega
end
theorem xor_eq {a b : Int} (h : a = 0 ∨ a = 1) (h2 : b = 0 ∨ b = 1) : Builtin.bitXor a b = (a + b) % 2 := by
  rcases h with rfl | rfl <;> rcases h2 with rfl | rfl <;> decide
theorem Dbl.s01 {s e m x : Int} (D : Dbl s e m x) : s = 0 ∨ s = 1 := by have := D.s0; have := D.s1; omega
-- the product by a power of two
theorem mul_p2 {s e m x f y : Int} (D : Dbl s e m x) (D2 : Dbl 0 f 4503599627370496 y) (h1 : -1074 ≤ e + f + 51) (h2 : e + f + 52 ≤ 970) : Dbl s (e + f + 52) m (mulF x y) := by
  have hx : Builtin.bitXor (sgnF x) (sgnF y) = s := by
    rw [D.sgn, D2.sgn, xor_eq D.s01 (Or.inl rfl)]
    have := D.s0; have := D.s1; omega
  have hv : mulF x y = rsF s (m * 2 ^ 52) (e + f) := by
    show rsF (Builtin.bitXor (sgnF x) (sgnF y)) (mantF x * mantF y) (powF x + powF y) = _
    rw [hx, D.mant, D2.mant, D.pow, D2.pow]; rfl
  have hm0 := D.m0
  have hm1 := D.m1
  have hb : bitsN m = 53 := bits_eq (w := 52) (by omega) (by omega)
  have hw : bitsN (m * 2 ^ 52) = 105 := by rw [bits_mulp (by omega), hb]
  have hX : 0 < m * 2 ^ 52 := Int.mul_pos (by omega) (p2_pos 52)
  have := (rs_eq (sg := s) (P := e + f) D.s0 hX hw (by omega) (by omega) (by omega)).1
  rw [show 105 - 53 = 52 from rfl, rne_exact (p2_pos 52)] at this
  refine ⟨D.s0, D.s1, by omega, by omega, hm0, hm1, ?_⟩
  rw [hv, this]; omega
-- whole numbers
theorem from_dbl {n : Int} (h0 : n ≠ 0) (h1 : -67108864 < n) (h2 : n < 67108864) :
    ∃ (w : Nat) (k : Int), 0 < w ∧ w ≤ 26 ∧ 0 < k ∧ k < 67108864 ∧ Dbl (if n < 0 then 1 else 0) ((w : Int) - 53) (k * 2 ^ (53 - w)) (fromF n) := by
  have hk : ∃ k : Int, (if n < 0 then -n else n) = k ∧ 0 < k ∧ k < 67108864 := ⟨_, rfl, by split <;> omega, by split <;> omega⟩
  obtain ⟨k, hk, hk0, hk1⟩ := hk
  obtain ⟨hw0, hlo⟩ := bits_lo hk0
  have hhi := bits_hi hk0
  have hw26 : bitsN k ≤ 26 := bits_lt (by omega) (by omega)
  have hs : (if n < 0 then (1 : Int) else 0) = 0 ∨ (if n < 0 then (1 : Int) else 0) = 1 := by split <;> omega
  refine ⟨bitsN k, k, hw0, hw26, hk0, hk1, ?_⟩
  generalize hw : bitsN k = w at *
  obtain ⟨α, β, hs2, h⟩ := rr_eq (sg := (if n < 0 then 1 else 0)) (P := 0) (top := k) (bottom := 1) hk0 hw (Or.inl ⟨by omega, by simp, rfl⟩) (by omega)
  have e : rne (k * 2 ^ α) (2 ^ β) = k * 2 ^ (53 - w) := by
    rw [show α = (53 - w) + β by omega, p2_add, ← Int.mul_assoc]
    exact rne_exact (p2_pos β)
  have hr := rne_range hk0 hw hs2
  rw [e] at hr
  have hlt : k * 2 ^ (53 - w) < 9007199254740992 := by
    have h1 := Int.mul_lt_mul_of_pos_right hhi (p2_pos (53 - w))
    rw [← p2_add, show w + (53 - w) = 53 by omega] at h1
    exact h1
  refine ⟨by omega, by omega, by omega, by omega, hr.1, hlt, ?_⟩
  unfold fromF
  rw [hk, h, e, asm_eq (by omega) hr.1 hr.2 (by omega) (by omega)]
  omega
theorem from_zero : fromF 0 = 0 := by unfold fromF; rfl
-- the whole root
theorem isq_int {S : Int} (h : 0 ≤ S) : 0 ≤ isqF S ∧ isqF S * isqF S ≤ S ∧ S < (isqF S + 1) * (isqF S + 1) := by
  have h1 := isq_lo S.toNat
  have h2 := isq_hi S.toNat
  have e : (S.toNat : Int) = S := Int.toNat_of_nonneg h
  unfold isqF
  refine ⟨Int.natCast_nonneg _, ?_, ?_⟩
  · have := Int.ofNat_le.mpr h1
    rw [Int.natCast_mul, e] at this
    exact this
  · have := Int.ofNat_lt.mpr h2
    rw [Int.natCast_mul, Int.natCast_add, e] at this
    exact this
theorem sq_le {a b : Int} (h0 : 0 ≤ a) (h : a ≤ b) : a * a ≤ b * b := Int.mul_le_mul h h h0 (by omega)
theorem sq_lt_of {a b : Int} (h0 : 0 ≤ b) (h : a * a < b * b) : a < b := by
  rcases Int.lt_or_le a b with h1 | h1
  · exact h1
  · have := sq_le h0 h1
    omega
theorem isq_is {S r : Int} (h0 : 0 ≤ r) (h1 : r * r ≤ S) (h2 : S < (r + 1) * (r + 1)) : isqF S = r := by
  have hS : 0 ≤ S := by have := Int.mul_nonneg h0 h0; omega
  obtain ⟨a0, a1, a2⟩ := isq_int hS
  have b1 := sq_lt_of (a := isqF S) (b := r + 1) (by omega) (by omega)
  have b2 := sq_lt_of (a := r) (b := isqF S + 1) (by omega) (by omega)
  omega
theorem isq_mono {S S' : Int} (h0 : 0 ≤ S) (h : S ≤ S') : isqF S ≤ isqF S' := by
  obtain ⟨a0, a1, a2⟩ := isq_int h0
  obtain ⟨b0, b1, b2⟩ := isq_int (S := S') (by omega)
  have := sq_lt_of (a := isqF S) (b := isqF S' + 1) (by omega) (by omega)
  omega
theorem two_mono {S S' : Int} (h0 : 0 ≤ S) (h : S ≤ S') : twoF S ≤ twoF S' := by
  have h1 := isq_mono h0 h
  unfold twoF
  rcases Int.lt_or_eq_of_le h1 with h2 | h2
  · (repeat' split) <;> omega
  · rw [h2]
    (repeat' split) <;> omega
theorem two_cases {S : Int} (h0 : 0 ≤ S) : (twoF S = 2 * isqF S + 1 ∧ isqF S * isqF S < S) ∨ (twoF S = 2 * isqF S ∧ isqF S * isqF S = S) := by
  obtain ⟨a0, a1, a2⟩ := isq_int h0
  unfold twoF
  split
  · exact Or.inl ⟨rfl, by assumption⟩
  · exact Or.inr ⟨by omega, by omega⟩
def bigM (M : Int) : Int := M * 5192296858534827628530496329220096
theorem two_range {M : Int} (h0 : 4503599627370496 ≤ M) (h1 : M < 18014398509481984) : 9671406556917033397649408 ≤ twoF (bigM M) ∧ twoF (bigM M) < 19342813113834066795298816 := by
  have hS0 : 0 ≤ bigM M := by unfold bigM; omega
  obtain ⟨a0, a1, a2⟩ := isq_int hS0
  have b1 := sq_lt_of (a := 4835703278458516698824704) (b := isqF (bigM M) + 1) (by omega) (by unfold bigM at *; omega)
  have b2 := sq_lt_of (a := isqF (bigM M)) (b := 9671406556917033397649408) (by omega) (by unfold bigM at *; omega)
  unfold twoF
  split <;> omega
noncomputable def rootM (M : Int) : Int := rne (twoF (bigM M)) (2 ^ 31)
theorem rootM_mono {M M' : Int} (h0 : 0 ≤ M) (h : M ≤ M') : rootM M ≤ rootM M' :=
  rne_mono (p2_pos 31) (two_mono (by unfold bigM; omega) (by unfold bigM; omega))
theorem rootM_range {M : Int} (h0 : 4503599627370496 ≤ M) (h1 : M < 18014398509481984) : 4503599627370496 ≤ rootM M ∧ rootM M ≤ 9007199254740992 := by
  have h := two_range h0 h1
  have hb := rne_bounds (n := twoF (bigM M)) (p2_pos 31)
  unfold rootM
  have e : (2 : Int) ^ 31 = 2147483648 := by decide
  rw [e] at hb ⊢
  omega
theorem mid_low {M : Int} (h0 : 4503599627370496 ≤ M) (h1 : M < 18014398509481984) : (2 * rootM M - 1) * (2 * rootM M - 1) ≤ M * 18014398509481984 := by
  have hr := rootM_range h0 h1
  have hS0 : 0 ≤ bigM M := by unfold bigM; omega
  obtain ⟨a0, a1, a2⟩ := isq_int hS0
  have hb := (rne_bounds (n := twoF (bigM M)) (p2_pos 31)).1
  have hc := two_cases hS0
  have e : (2 : Int) ^ 31 = 2147483648 := by decide
  rw [e] at hb
  change 2147483648 * (2 * rne (twoF (bigM M)) 2147483648) - 2147483648 ≤ _ at hb
  have hW : rootM M = rne (twoF (bigM M)) 2147483648 := by unfold rootM; rw [e]
  rw [← hW] at hb
  have hle : 536870912 * (2 * rootM M - 1) ≤ isqF (bigM M) := by omega
  have hsq := sq_le (by omega) hle
  have e2 : 536870912 * (2 * rootM M - 1) * (536870912 * (2 * rootM M - 1)) = 288230376151711744 * ((2 * rootM M - 1) * (2 * rootM M - 1)) := by grind
  unfold bigM at *
  omega
theorem mid_high {M : Int} (h0 : 4503599627370496 ≤ M) (h1 : M < 18014398509481984) : M * 18014398509481984 ≤ (2 * rootM M + 1) * (2 * rootM M + 1) := by
  have hr := rootM_range h0 h1
  have hS0 : 0 ≤ bigM M := by unfold bigM; omega
  obtain ⟨a0, a1, a2⟩ := isq_int hS0
  have hb := (rne_bounds (n := twoF (bigM M)) (p2_pos 31)).2
  have hc := two_cases hS0
  have e : (2 : Int) ^ 31 = 2147483648 := by decide
  rw [e] at hb
  have hW : rootM M = rne (twoF (bigM M)) 2147483648 := by unfold rootM; rw [e]
  rw [← hW] at hb
  have e2 : 536870912 * (2 * rootM M + 1) * (536870912 * (2 * rootM M + 1)) = 288230376151711744 * ((2 * rootM M + 1) * (2 * rootM M + 1)) := by grind
  rcases hc with ⟨hc1, hc2⟩ | ⟨hc1, hc2⟩
  · have hle : isqF (bigM M) + 1 ≤ 536870912 * (2 * rootM M + 1) := by omega
    have hsq := sq_le (by omega) hle
    unfold bigM at *
    omega
  · have hle : isqF (bigM M) ≤ 536870912 * (2 * rootM M + 1) := by omega
    have hsq := sq_le (by omega) hle
    unfold bigM at *
    omega
theorem rootM_exact {M k : Int} (h0 : 0 ≤ k) (h : M * 4503599627370496 = k * k) : rootM M = k := by
  have e1 : bigM M = (k * 1073741824) * (k * 1073741824) := by
    have : (k * 1073741824) * (k * 1073741824) = (k * k) * 1152921504606846976 := by grind
    rw [this, ← h]; unfold bigM; omega
  have hr : isqF (bigM M) = k * 1073741824 := by
    refine isq_is (by omega) (by omega) ?_
    rw [e1]
    have : (k * 1073741824 + 1) * (k * 1073741824 + 1) = k * 1073741824 * (k * 1073741824) + 2 * (k * 1073741824) + 1 := by grind
    omega
  have ht : twoF (bigM M) = k * 2 ^ 31 := by
    unfold twoF
    rw [hr, if_neg (by omega)]
    have e : (2 : Int) ^ 31 = 2147483648 := by decide
    rw [e]; omega
  unfold rootM
  rw [ht, rne_exact (p2_pos 31)]
abbrev manE (e m : Int) : Int := m * (1 + e % 2)
theorem manE_range {e m : Int} (h0 : 4503599627370496 ≤ m) (h1 : m < 9007199254740992) : 4503599627370496 ≤ manE e m ∧ manE e m < 18014398509481984 := by
  unfold manE
  have : e % 2 = 0 ∨ e % 2 = 1 := by omega
  rcases this with h | h <;> rw [h] <;> omega
theorem sqrt_eq {e m x : Int} (D : Dbl 0 e m x) : sqrtF x = (e / 2 + 1048) * 4503599627370496 + rootM (manE e m) := by
  have hr := manE_range (e := e) D.m0 D.m1
  have h2 := two_range hr.1 hr.2
  have hb : bitsN (twoF (bigM (manE e m))) = 84 := bits_eq (w := 83) (by omega) (by omega)
  have he0 := D.e0
  have he1 := D.e1
  have hbig : bigF x = bigM (manE e m) ∧ evF x = e / 2 - 57 := by
    have e1 : (2 : Int) ^ Int.toNat (2 * 56) = 5192296858534827628530496329220096 := by decide
    have e2 : (2 : Int) ^ Int.toNat 1 = 2 := by decide
    unfold bigF evF bigM
    rw [D.pow, D.mant, e1, e2, Int.fmod_eq_emod_of_nonneg _ (by omega), Int.fdiv_eq_ediv_of_nonneg _ (by omega), Int.fdiv_eq_ediv_of_nonneg _ (by omega)]
    unfold manE
    have : e % 2 = 0 ∨ e % 2 = 1 := by omega
    rcases this with h | h
    · rw [h, if_pos rfl, if_pos rfl]; omega
    · rw [h, if_neg (by omega), if_neg (by omega)]; omega
  have h3 := (rs_eq (sg := 0) (P := e / 2 - 57) (by omega) (by omega) hb (by omega) (by omega) (by omega)).1
  unfold sqrtF
  rw [if_neg (by rw [D.zero]; simp), hbig.1, hbig.2, h3]
  show _ = _ + rne (twoF (bigM (manE e m))) (2 ^ (84 - 53))
  omega
end Mine
-- SqMath2
namespace Mine
@[irreducible] def numA (c0 c1 : Int) : Int := fromF (c0.fmod (2 ^ Int.toNat 26) * (1 - 2 * c1.fmod 2))
@[irreducible] def numB (c0 c1 c2 : Int) : Int := mulF (numA c0 c1) ((623 + c2.fmod 801) * 2 ^ Int.toNat 52)
@[irreducible] def numS (c0 c1 c2 : Int) : Int := mulF (numB c0 c1 c2) (numB c0 c1 c2)
@[irreducible] def numR (c0 c1 c2 : Int) : Int := absF (numB c0 c1 c2)
@[irreducible] def dblD (c : Int) : Int := ldF c
@[irreducible] noncomputable def rootD (c : Int) : Int := sqrtF (dblD c)
@[irreducible] def fourD (c : Int) : Int := mulF (dblD c) 4616189618054758400
@[irreducible] noncomputable def twoD (c : Int) : Int := mulF (rootD c) 4611686018427387904
-- the two doubles
theorem ld_dbl (c : Int) : ∃ e m : Int, -1052 ≤ e ∧ e ≤ 947 ∧ Dbl 0 e m (dblD c) := by
  have e1 : (2 : Int) ^ Int.toNat 52 = 4503599627370496 := by decide
  have hd : dblD c = (23 + c * 37 % 2000) * 4503599627370496 + c * 2783377641436327 % 4503599627370496 := by
    unfold dblD ldF
    rw [e1, Int.fmod_eq_emod_of_nonneg _ (by omega), Int.fmod_eq_emod_of_nonneg _ (by omega)]
  refine ⟨c * 37 % 2000 - 1052, 4503599627370496 + c * 2783377641436327 % 4503599627370496, by omega, by omega, ?_⟩
  refine ⟨by omega, by omega, by omega, by omega, by omega, by omega, ?_⟩
  rw [hd]; omega
theorem near_mid {q V y : Int} (h0 : -1000 ≤ q) (h1 : q ≤ 900) (hV0 : 4503599627370496 ≤ V) (hV1 : V < 9007199254740992) (hy : y = (q + 1074) * 4503599627370496 + V) : Dbl 0 q V y := ⟨by omega, by omega, by omega, by omega, hV0, hV1, by omega⟩
theorem near_top {q V y : Int} (h0 : -1000 ≤ q) (h1 : q ≤ 900) (hV0 : 9007199254740992 ≤ V) (hV1 : V ≤ 9007199254740993) (hy : y = (q + 1074) * 4503599627370496 + V) : Dbl 0 (q + 1) (V - 4503599627370496) y := ⟨by omega, by omega, by omega, by omega, by omega, by omega, by omega⟩
theorem near_low {q y : Int} (h0 : -1000 ≤ q) (h1 : q ≤ 900) (hy : y = (q + 1074) * 4503599627370496 + 4503599627370495) : Dbl 0 (q - 1) 9007199254740991 y := ⟨by omega, by omega, by omega, by omega, by omega, by omega, by omega⟩
structure Root (c e m q W : Int) : Prop where
  e0 : -1052 ≤ e
  e1 : e ≤ 947
  d : Dbl 0 e m (dblD c)
  hq : q = e / 2 - 26
  hW : W = rootM (manE e m)
  w0 : 4503599627370496 ≤ W
  w1 : W ≤ 9007199254740992
  eq : rootD c = (q + 1074) * 4503599627370496 + W
theorem root_of (c : Int) : ∃ e m q W : Int, Root c e m q W := by
  obtain ⟨e, m, h0, h1, D⟩ := ld_dbl c
  have hr := manE_range (e := e) D.m0 D.m1
  have hw := rootM_range hr.1 hr.2
  refine ⟨e, m, e / 2 - 26, rootM (manE e m), h0, h1, D, rfl, rfl, hw.1, hw.2, ?_⟩
  unfold rootD
  rw [sqrt_eq D]; omega
theorem root_dbl (c : Int) : ∃ q V : Int, -600 ≤ q ∧ q ≤ 600 ∧ Dbl 0 q V (rootD c) := by
  obtain ⟨e, m, q, W, h⟩ := root_of c
  have h1 := h.e0; have h2 := h.e1; have h3 := h.hq; have h4 := h.w0; have h5 := h.w1
  by_cases hW : W < 9007199254740992
  · exact ⟨q, W, by omega, by omega, near_mid (by omega) (by omega) h4 hW h.eq⟩
  · exact ⟨q + 1, W - 4503599627370496, by omega, by omega, near_top (by omega) (by omega) (by omega) (by omega) h.eq⟩
theorem root_sub (c : Int) : ∃ q V : Int, Dbl 0 q V (rootD c - 1) := by
  obtain ⟨e, m, q, W, h⟩ := root_of c
  have h1 := h.e0; have h2 := h.e1; have h3 := h.hq; have h4 := h.w0; have h5 := h.w1; have h6 := h.eq
  by_cases hW : W = 4503599627370496
  · exact ⟨_, _, near_low (q := q) (by omega) (by omega) (by omega)⟩
  · exact ⟨_, _, near_mid (q := q) (V := W - 1) (by omega) (by omega) (by omega) (by omega) (by omega)⟩
theorem root_add (c : Int) : ∃ q V : Int, Dbl 0 q V (rootD c + 1) := by
  obtain ⟨e, m, q, W, h⟩ := root_of c
  have h1 := h.e0; have h2 := h.e1; have h3 := h.hq; have h4 := h.w0; have h5 := h.w1; have h6 := h.eq
  by_cases hW : W + 1 < 9007199254740992
  · exact ⟨_, _, near_mid (q := q) (V := W + 1) (by omega) (by omega) (by omega) (by omega) (by omega)⟩
  · exact ⟨_, _, near_top (q := q) (V := W + 1) (by omega) (by omega) (by omega) (by omega) (by omega)⟩
-- values
theorem val_of {e m x : Int} (D : Dbl 0 e m x) (N : Nat) (h : 0 ≤ e + N) : topF x * 2 ^ N = m * 2 ^ (e + N).toNat * botF x ∧ 0 < botF x := by
  unfold topF botF
  rw [D.pow, D.mant]
  by_cases he : 0 ≤ e
  · rw [if_pos he, if_pos he]
    refine ⟨?_, by omega⟩
    rw [show (e + N).toNat = e.toNat + N by omega, p2_add]; grind
  · rw [if_neg he, if_neg he]
    have hp := p2_pos (-e).toNat
    refine ⟨?_, by omega⟩
    have : (2 : Int) ^ N = 2 ^ (e + N).toNat * 2 ^ (-e).toNat := by rw [← p2_add]; congr 1; omega
    rw [this]; grind
theorem pow_two (x : Int) : x ^ Int.toNat 2 = x * x := by show x ^ 2 = x * x; grind
theorem mid_scale {a u b p t s K A B C : Int} (h1 : a * K = A * u) (h2 : b * K = B * p) (h3 : t * (K * K) = C * s) :
    (K * K) * ((a * p + b * u) ^ Int.toNat 2 * s) = ((A + B) * (A + B)) * (u * p * (u * p) * s) ∧ (K * K) * (t * (2 * u * p) ^ Int.toNat 2) = 4 * C * (u * p * (u * p) * s) := by
  rw [pow_two, pow_two]
  have e1 : K * (a * p + b * u) = (A + B) * (u * p) := by grind
  constructor
  · have : (K * K) * ((a * p + b * u) * (a * p + b * u) * s) = (K * (a * p + b * u)) * (K * (a * p + b * u)) * s := by grind
    rw [this, e1]; grind
  · have : (K * K) * (t * (2 * u * p * (2 * u * p))) = (t * (K * K)) * (4 * (u * p * (u * p))) := by grind
    rw [this, h3]; grind
theorem mid_le {a u b p t s K A B C : Int} (hK : 0 < K) (hu : 0 < u) (hp : 0 < p) (hs : 0 < s) (h1 : a * K = A * u) (h2 : b * K = B * p) (h3 : t * (K * K) = C * s) (h : (A + B) * (A + B) ≤ 4 * C) :
    (a * p + b * u) ^ Int.toNat 2 * s ≤ t * (2 * u * p) ^ Int.toNat 2 := by
  obtain ⟨e1, e2⟩ := mid_scale h1 h2 h3
  have hup := Int.mul_pos hu hp
  have hw : 0 ≤ u * p * (u * p) * s := Int.mul_nonneg (Int.mul_nonneg (by omega) (by omega)) (by omega)
  have := Int.mul_le_mul_of_nonneg_right h hw
  rw [← e1, ← e2] at this
  exact Int.le_of_mul_le_mul_left this (Int.mul_pos hK hK)
theorem mid_ge {a u b p t s K A B C : Int} (hK : 0 < K) (hu : 0 < u) (hp : 0 < p) (hs : 0 < s) (h1 : a * K = A * u) (h2 : b * K = B * p) (h3 : t * (K * K) = C * s) (h : 4 * C ≤ (A + B) * (A + B)) :
    t * (2 * u * p) ^ Int.toNat 2 ≤ (a * p + b * u) ^ Int.toNat 2 * s := by
  obtain ⟨e1, e2⟩ := mid_scale h1 h2 h3
  have hup := Int.mul_pos hu hp
  have hw : 0 ≤ u * p * (u * p) * s := Int.mul_nonneg (Int.mul_nonneg (by omega) (by omega)) (by omega)
  have := Int.mul_le_mul_of_nonneg_right h hw
  rw [← e1, ← e2] at this
  exact Int.le_of_mul_le_mul_left this (Int.mul_pos hK hK)
theorem K_pos : (0 : Int) < 2 ^ 2000 := p2_pos 2000
theorem one_val {c e m q W : Int} (h : Root c e m q W) : topF (dblD c) * (2 ^ 2000 * 2 ^ 2000) = manE e m * 4503599627370496 * ((2 : Int) ^ (q + 2000).toNat * 2 ^ (q + 2000).toNat) * botF (dblD c) ∧ 0 < botF (dblD c) := by
  have h1 := h.e0; have h2 := h.e1; have h3 := h.hq
  have hv := val_of h.d 4000 (by omega)
  refine ⟨?_, hv.2⟩
  rw [← p2_add, show 2000 + 2000 = 4000 from rfl, hv.1]
  congr 1
  have hY : (e + (4000 : Nat)).toNat = (if e % 2 = 0 then 0 else 1) + 52 + ((q + 2000).toNat + (q + 2000).toNat) := by split <;> omega
  rw [hY, p2_add, p2_add, p2_add]
  unfold manE
  have e52 : (2 : Int) ^ 52 = 4503599627370496 := by decide
  have : e % 2 = 0 ∨ e % 2 = 1 := by omega
  rcases this with h | h
  · rw [h, if_pos rfl, e52]; simp; grind
  · rw [h, if_neg (by omega), e52]; simp; grind
theorem root_val {c e m q W : Int} (h : Root c e m q W) : topF (rootD c) * 2 ^ 2000 = W * 2 ^ (q + 2000).toNat * botF (rootD c) ∧ 0 < botF (rootD c) := by
  have h1 := h.e0; have h2 := h.e1; have h3 := h.hq; have h4 := h.w0; have h5 := h.w1
  by_cases hW : W < 9007199254740992
  · exact val_of (near_mid (by omega) (by omega) h4 hW h.eq) 2000 (by omega)
  · have hv := val_of (near_top (by omega) (by omega) (by omega) (by omega) h.eq) 2000 (by omega)
    refine ⟨?_, hv.2⟩
    rw [hv.1, show (q + 1 + (2000 : Nat)).toNat = 1 + (q + 2000).toNat by omega, p2_add]
    have : W = 9007199254740992 := by omega
    rw [this]
    congr 1
    have e1 : (2 : Int) ^ 1 = 2 := by decide
    rw [e1]; grind
theorem low_fact {c : Int} (_h : 0 ≤ c) : ¬ topF (dblD c) * (2 * botF (rootD c) * botF (rootD c - 1)) ^ Int.toNat 2 < (topF (rootD c) * botF (rootD c - 1) + topF (rootD c - 1) * botF (rootD c)) ^ Int.toNat 2 * botF (dblD c) := by
  obtain ⟨e, m, q, W, h⟩ := root_of c
  have h1 := h.e0; have h2 := h.e1; have h3 := h.hq; have h4 := h.w0; have h5 := h.w1; have h6 := h.eq
  have hr := manE_range (e := e) h.d.m0 h.d.m1
  have hml := mid_low hr.1 hr.2
  rw [← h.hW] at hml
  have hv1 := one_val h
  have hv2 := root_val h
  apply Int.not_lt.mpr
  by_cases hW : W = 4503599627370496
  · have hv3 := val_of (near_low (q := q) (y := rootD c - 1) (by omega) (by omega) (by omega)) 2000 (by omega)
    refine mid_le K_pos hv2.2 hv3.2 hv1.2 hv2.1 hv3.1 hv1.1 ?_
    have hZ : (q + 2000).toNat = 1 + (q - 1 + (2000 : Nat)).toNat := by omega
    rw [hZ, p2_add, hW]
    have hp := p2_pos (q - 1 + (2000 : Nat)).toNat
    generalize (2 : Int) ^ (q - 1 + (2000 : Nat)).toNat = Z at *
    have e1 : (2 : Int) ^ 1 = 2 := by decide
    rw [e1]
    have hZZ := Int.mul_pos hp hp
    have e2 : (4503599627370496 * (2 * Z) + 9007199254740991 * Z) * (4503599627370496 * (2 * Z) + 9007199254740991 * Z) = 18014398509481983 * 18014398509481983 * (Z * Z) := by grind
    have e3 : 4 * (manE e m * 4503599627370496 * (2 * Z * (2 * Z))) = (manE e m * 72057594037927936) * (Z * Z) := by grind
    rw [e2, e3]
    exact Int.mul_le_mul_of_nonneg_right (by omega) (by omega)
  · have hv3 := val_of (near_mid (q := q) (V := W - 1) (y := rootD c - 1) (by omega) (by omega) (by omega) (by omega) (by omega)) 2000 (by omega)
    refine mid_le K_pos hv2.2 hv3.2 hv1.2 hv2.1 hv3.1 hv1.1 ?_
    rw [show (q + (2000 : Nat)).toNat = (q + 2000).toNat from rfl]
    have hp := p2_pos (q + 2000).toNat
    generalize (2 : Int) ^ (q + 2000).toNat = Y at *
    have hYY := Int.mul_pos hp hp
    have e2 : (W * Y + (W - 1) * Y) * (W * Y + (W - 1) * Y) = (2 * W - 1) * (2 * W - 1) * (Y * Y) := by grind
    have e3 : 4 * (manE e m * 4503599627370496 * (Y * Y)) = (manE e m * 18014398509481984) * (Y * Y) := by grind
    rw [e2, e3]
    exact Int.mul_le_mul_of_nonneg_right hml (by omega)
theorem high_fact {c : Int} (_h : 0 ≤ c) : ¬ (topF (rootD c) * botF (rootD c + 1) + topF (rootD c + 1) * botF (rootD c)) ^ Int.toNat 2 * botF (dblD c) < topF (dblD c) * (2 * botF (rootD c) * botF (rootD c + 1)) ^ Int.toNat 2 := by
  obtain ⟨e, m, q, W, h⟩ := root_of c
  have h1 := h.e0; have h2 := h.e1; have h3 := h.hq; have h4 := h.w0; have h5 := h.w1; have h6 := h.eq
  have hr := manE_range (e := e) h.d.m0 h.d.m1
  have hmh := mid_high hr.1 hr.2
  rw [← h.hW] at hmh
  have hv1 := one_val h
  have hv2 := root_val h
  apply Int.not_lt.mpr
  have hv3 : ∃ V : Int, W + 1 ≤ V ∧ topF (rootD c + 1) * 2 ^ 2000 = V * 2 ^ (q + 2000).toNat * botF (rootD c + 1) ∧ 0 < botF (rootD c + 1) := by
    by_cases hW : W + 1 < 9007199254740992
    · exact ⟨W + 1, by omega, val_of (near_mid (q := q) (V := W + 1) (by omega) (by omega) (by omega) (by omega) (by omega)) 2000 (by omega)⟩
    · have hv := val_of (near_top (q := q) (V := W + 1) (y := rootD c + 1) (by omega) (by omega) (by omega) (by omega) (by omega)) 2000 (by omega)
      refine ⟨2 * (W + 1 - 4503599627370496), by omega, ?_, hv.2⟩
      rw [hv.1, show (q + 1 + (2000 : Nat)).toNat = 1 + (q + 2000).toNat by omega, p2_add]
      congr 1
      have e1 : (2 : Int) ^ 1 = 2 := by decide
      rw [e1]; grind
  obtain ⟨V, hV, hv3⟩ := hv3
  refine mid_ge K_pos hv2.2 hv3.2 hv1.2 hv2.1 hv3.1 hv1.1 ?_
  have hp := p2_pos (q + 2000).toNat
  generalize (2 : Int) ^ (q + 2000).toNat = Y at *
  have hYY := Int.mul_pos hp hp
  have e2 : (W * Y + V * Y) * (W * Y + V * Y) = (W + V) * (W + V) * (Y * Y) := by grind
  have e3 : 4 * (manE e m * 4503599627370496 * (Y * Y)) = (manE e m * 18014398509481984) * (Y * Y) := by grind
  rw [e2, e3]
  have h7 := sq_le (a := 2 * W + 1) (b := W + V) (by omega) (by omega)
  exact Int.mul_le_mul_of_nonneg_right (by omega) (by omega)
theorem sqrt_mono {e m x e' m' x' : Int} (D : Dbl 0 e m x) (D' : Dbl 0 e' m' x') (h : x ≤ x') : sqrtF x ≤ sqrtF x' := by
  have hr := manE_range (e := e) D.m0 D.m1
  have hr' := manE_range (e := e') D'.m0 D'.m1
  have hw := rootM_range hr.1 hr.2
  have hw' := rootM_range hr'.1 hr'.2
  rw [sqrt_eq D, sqrt_eq D']
  have a0 := D.m0; have a1 := D.m1; have a2 := D.eq; have b0 := D'.m0; have b1 := D'.m1; have b2 := D'.eq
  by_cases hq : e / 2 = e' / 2
  · have hm : manE e m ≤ manE e' m' := by
      unfold manE
      have h1 : e % 2 = 0 ∨ e % 2 = 1 := by omega
      have h2 : e' % 2 = 0 ∨ e' % 2 = 1 := by omega
      rcases h1 with h1 | h1 <;> rcases h2 with h2 | h2 <;> rw [h1, h2] <;> omega
    have := rootM_mono (by omega) hm
    omega
  · omega
theorem cmp_fact {a b : Int} (_h : 0 ≤ a) (_h2 : 0 ≤ b) : ¬ cmpF (dblD a) (dblD b) * cmpF (rootD a) (rootD b) < 0 := by
  obtain ⟨e, m, _, _, D⟩ := ld_dbl a
  obtain ⟨e', m', _, _, D'⟩ := ld_dbl b
  have h1 : dblD a ≤ dblD b → rootD a ≤ rootD b := fun h => by unfold rootD; exact sqrt_mono D D' h
  have h2 : dblD b ≤ dblD a → rootD b ≤ rootD a := fun h => by unfold rootD; exact sqrt_mono D' D h
  unfold cmpF
  (repeat' split) <;> omega
theorem shl_fact (x : Int) : (Builtin.Int.intBits (623 + x.fmod 801) : Int) + 52 ≤ 2 ^ 27 := by
  refine shl_ok (m := 1000) ?_ (by omega) (by omega)
  refine bits_mono (intBits_add_le (m := 10) (n := 10) (by decide) ?_) (by decide)
  rw [Int.fmod_eq_emod_of_nonneg _ (by omega)]
  exact bits_lt (by omega) (by omega)
end Mine
-- SqMath3
namespace Mine
-- zero
theorem mul_zero_dbl {f y : Int} (D : Dbl 0 f 4503599627370496 y) : mulF 0 y = 0 := by
  show rsF (Builtin.bitXor (sgnF 0) (sgnF y)) (mantF 0 * mantF y) (powF 0 + powF y) = 0
  rw [D.sgn, show sgnF 0 = 0 by decide, show mantF 0 = 0 by decide, show Builtin.bitXor 0 0 = 0 by decide]
  unfold rsF
  rw [if_pos (by omega)]; omega
theorem mul_zero_zero : mulF 0 0 = 0 := by
  show rsF (Builtin.bitXor (sgnF 0) (sgnF 0)) (mantF 0 * mantF 0) (powF 0 + powF 0) = 0
  rw [show sgnF 0 = 0 by decide, show mantF 0 = 0 by decide, show Builtin.bitXor 0 0 = 0 by decide]
  unfold rsF
  rw [if_pos (by omega)]; omega
theorem abs_zero : absF 0 = 0 := by decide
theorem sqrt_zero : sqrtF 0 = 0 := by unfold sqrtF; rw [if_pos (by decide)]
theorem n0_range (c0 c1 : Int) : -67108864 < c0.fmod (2 ^ Int.toNat 26) * (1 - 2 * c1.fmod 2) ∧ c0.fmod (2 ^ Int.toNat 26) * (1 - 2 * c1.fmod 2) < 67108864 := by
  have e : (2 : Int) ^ Int.toNat 26 = 67108864 := by decide
  rw [e, Int.fmod_eq_emod_of_nonneg _ (by omega), Int.fmod_eq_emod_of_nonneg _ (by omega)]
  have : c1 % 2 = 0 ∨ c1 % 2 = 1 := by omega
  rcases this with h | h <;> rw [h] <;> omega
theorem eb_dbl (c2 : Int) : ∃ f : Int, -452 ≤ f ∧ f ≤ 348 ∧ Dbl 0 f 4503599627370496 ((623 + c2.fmod 801) * 2 ^ Int.toNat 52) := by
  have e : (2 : Int) ^ Int.toNat 52 = 4503599627370496 := by decide
  rw [e, Int.fmod_eq_emod_of_nonneg _ (by omega)]
  exact ⟨c2 % 801 - 452, by omega, by omega, by omega, by omega, by omega, by omega, by omega, by omega, by omega⟩
/-- the square of a short number, and its root -/
theorem square_root {s e m x : Int} {k : Int} {w : Nat} (D : Dbl s e m x) (hw : w ≤ 26) (hk : m = k * 2 ^ (53 - w)) (h0 : -500 ≤ e) (h1 : e ≤ 400) : ∃ es ms : Int, Dbl 0 es ms (mulF x x) ∧ sqrtF (mulF x x) = absF x := by
  have m0 := D.m0
  have m1 := D.m1
  have hX : 0 < m * m := Int.mul_pos (by omega) (by omega)
  have hb : bitsN m = 53 := bits_eq (w := 52) (by omega) (by omega)
  have hxor : Builtin.bitXor (sgnF x) (sgnF x) = 0 := by
    rw [D.sgn, xor_eq D.s01 D.s01]; omega
  have hv : mulF x x = rsF 0 (m * m) (e + e) := by
    show rsF (Builtin.bitXor (sgnF x) (sgnF x)) (mantF x * mantF x) (powF x + powF x) = _
    rw [hxor, D.mant, D.pow]
  have hdiv : ∃ j : Int, m * m = j * 9007199254740992 := by
    refine ⟨k * k * 2 ^ (53 - w + (53 - w) - 53), ?_⟩
    have e53 : (9007199254740992 : Int) = 2 ^ 53 := by decide
    rw [hk, e53, Int.mul_assoc (k * k), ← p2_add, show 53 - w + (53 - w) - 53 + 53 = (53 - w) + (53 - w) by omega, p2_add]
    grind
  obtain ⟨j, hj⟩ := hdiv
  have lo := Int.mul_le_mul m0 m0 (by omega) (by omega)
  have hi := Int.mul_le_mul (show m ≤ 9007199254740991 by omega) (show m ≤ 9007199254740991 by omega) (by omega) (by omega)
  have hs0 := D.s0
  have habs := D.abs
  have fin : ∀ (es ms : Int), Dbl 0 es ms (mulF x x) → es / 2 = e + 26 → manE es ms * 4503599627370496 = m * m → sqrtF (mulF x x) = absF x := by
    intro es ms DS h1 h2
    rw [sqrt_eq DS, h1, rootM_exact (by omega) h2, habs]; omega
  by_cases hc : m * m < 40564819207303340847894502572032
  · have hbb : bitsN (m * m) = 105 := bits_eq (w := 104) (by rw [show (2 : Int) ^ 104 = 20282409603651670423947251286016 by decide]; omega) (by rw [show (2 : Int) ^ (104 + 1) = 40564819207303340847894502572032 by decide]; omega)
    have hr := (rs_eq (sg := 0) (P := e + e) (by omega) hX hbb (by omega) (by omega) (by omega)).1
    have e2 : rne (m * m) (2 ^ (105 - 53)) = 2 * j := by
      rw [show m * m = (2 * j) * 2 ^ 52 by rw [hj, show (2 : Int) ^ 52 = 4503599627370496 by decide]; omega]
      exact rne_exact (p2_pos 52)
    rw [e2] at hr
    have DS : Dbl 0 (e + e + 52) (2 * j) (mulF x x) := ⟨by omega, by omega, by omega, by omega, by omega, by omega, by rw [hv, hr]; omega⟩
    refine ⟨_, _, DS, fin _ _ DS (by omega) ?_⟩
    unfold manE
    rw [show (e + e + 52) % 2 = 0 by omega]; omega
  · have hbb : bitsN (m * m) = 106 := bits_eq (w := 105) (by rw [show (2 : Int) ^ 105 = 40564819207303340847894502572032 by decide]; omega) (by rw [show (2 : Int) ^ (105 + 1) = 81129638414606681695789005144064 by decide]; omega)
    have hr := (rs_eq (sg := 0) (P := e + e) (by omega) hX hbb (by omega) (by omega) (by omega)).1
    have e2 : rne (m * m) (2 ^ (106 - 53)) = j := by
      rw [show m * m = j * 2 ^ 53 by rw [hj, show (2 : Int) ^ 53 = 9007199254740992 by decide]]
      exact rne_exact (p2_pos 53)
    rw [e2] at hr
    have DS : Dbl 0 (e + e + 53) j (mulF x x) := ⟨by omega, by omega, by omega, by omega, by omega, by omega, by rw [hv, hr]; omega⟩
    refine ⟨_, _, DS, fin _ _ DS (by omega) ?_⟩
    unfold manE
    rw [show (e + e + 53) % 2 = 1 by omega]; omega
theorem nums (c0 c1 c2 : Int) : (numA c0 c1 = 0 ∧ numB c0 c1 c2 = 0 ∧ numS c0 c1 c2 = 0 ∧ numR c0 c1 c2 = 0) ∨
    ∃ s ea m eb es ms : Int, Dbl s ea m (numA c0 c1) ∧ Dbl s eb m (numB c0 c1 c2) ∧ Dbl 0 es ms (numS c0 c1 c2) ∧ sqrtF (numS c0 c1 c2) = numR c0 c1 c2 := by
  obtain ⟨f, hf0, hf1, DE⟩ := eb_dbl c2
  obtain ⟨hn0, hn1⟩ := n0_range c0 c1
  by_cases hz : c0.fmod (2 ^ Int.toNat 26) * (1 - 2 * c1.fmod 2) = 0
  · left
    have hA : numA c0 c1 = 0 := by unfold numA; rw [hz]; exact from_zero
    have hB : numB c0 c1 c2 = 0 := by unfold numB; rw [hA]; exact mul_zero_dbl DE
    have hS : numS c0 c1 c2 = 0 := by unfold numS; rw [hB]; exact mul_zero_zero
    have hR : numR c0 c1 c2 = 0 := by unfold numR; rw [hB]; exact abs_zero
    exact ⟨hA, hB, hS, hR⟩
  · right
    obtain ⟨w, k, hw0, hw1, hk0, hk1, DA⟩ := from_dbl hz hn0 hn1
    have hA : numA c0 c1 = fromF (c0.fmod (2 ^ Int.toNat 26) * (1 - 2 * c1.fmod 2)) := by unfold numA; rfl
    rw [← hA] at DA
    have DB := mul_p2 DA DE (by omega) (by omega)
    have hB : numB c0 c1 c2 = mulF (numA c0 c1) ((623 + c2.fmod 801) * 2 ^ Int.toNat 52) := by unfold numB; rfl
    rw [← hB] at DB
    obtain ⟨es, ms, DS, hr⟩ := square_root DB hw1 rfl (by omega) (by omega)
    have hS : numS c0 c1 c2 = mulF (numB c0 c1 c2) (numB c0 c1 c2) := by unfold numS; rfl
    have hR : numR c0 c1 c2 = absF (numB c0 c1 c2) := by unfold numR; rfl
    rw [← hS] at DS hr
    rw [← hR] at hr
    exact ⟨_, _, _, _, _, _, DA, DB, DS, hr⟩
-- four times
theorem four_dbl : Dbl 0 (-50) 4503599627370496 4616189618054758400 := ⟨by omega, by omega, by omega, by omega, by omega, by omega, by omega⟩
theorem two_dbl : Dbl 0 (-51) 4503599627370496 4611686018427387904 := ⟨by omega, by omega, by omega, by omega, by omega, by omega, by omega⟩
theorem fourD_dbl (c : Int) : ∃ e m : Int, Dbl 0 e m (fourD c) ∧ sqrtF (fourD c) = twoD c := by
  obtain ⟨e, m, h0, h1, D⟩ := ld_dbl c
  obtain ⟨q, V, hq0, hq1, DR⟩ := root_dbl c
  have D4 := mul_p2 D four_dbl (by omega) (by omega)
  have D2 := mul_p2 DR two_dbl (by omega) (by omega)
  have e4 : fourD c = mulF (dblD c) 4616189618054758400 := by unfold fourD; rfl
  have e2 : twoD c = mulF (rootD c) 4611686018427387904 := by unfold twoD; rfl
  rw [← e4] at D4
  rw [← e2] at D2
  refine ⟨_, _, D4, ?_⟩
  have hR : rootD c = sqrtF (dblD c) := by unfold rootD; rfl
  have h2 := D2.eq
  have h3 := DR.eq
  rw [hR, sqrt_eq D] at h3
  rw [sqrt_eq D4, h2]
  have hm : manE (e + -50 + 52) m = manE e m := by unfold manE; rw [show (e + -50 + 52) % 2 = e % 2 by omega]
  rw [hm]
  omega
end Mine
-- SqVals
namespace Mine
theorem cA (c0 c1 : Int) (t : Tok) : SqC 112 4 [.int (c0.fmod (2 ^ Int.toNat 26) * (1 - 2 * c1.fmod 2)) t] (True) (fun t => .int (numA c0 c1) t) := by
  dsimp only [SqC]; intro w loose mean mg mb dp un gd cn cs a ccd cl outer A₀ base h₀ L m news s Q E B F X N T hk hp hd hu hret
  have hn := n0_range c0 c1
  have hb : bitsN (c0.fmod (2 ^ Int.toNat 26) * (1 - 2 * c1.fmod 2)) ≤ 1000 := bits_mono (m := 26) (intBits_le_iff.mpr (by omega)) (by omega)
  have hv : fromF (c0.fmod (2 ^ Int.toNat 26) * (1 - 2 * c1.fmod 2)) = numA c0 c1 := by unfold numA; rfl
  exact use1 (from_int_K _ t) B F X N T hk hb hd hu (by rw [hv]; exact hret)
theorem cB (c0 c1 c2 : Int) (t u : Tok) : SqC 140 5 [.int (numA c0 c1) t, .int ((623 + c2.fmod 801) * 2 ^ Int.toNat 52) u] (0 ≤ c0 ∧ 0 ≤ c1 ∧ 0 ≤ c2) (fun t => .int (numB c0 c1 c2) t) := by
  dsimp only [SqC]; intro w loose mean mg mb dp un gd cn cs a ccd cl outer A₀ base h₀ L m news s Q E B F X N T hk hp hd hu hret
  obtain ⟨f, hf0, hf1, DE⟩ := eb_dbl c2
  have hv : mulF (numA c0 c1) ((623 + c2.fmod 801) * 2 ^ Int.toNat 52) = numB c0 c1 c2 := by unfold numB; rfl
  have hpre : 0 ≤ numA c0 c1 ∧ numA c0 c1 < 18446744073709551616 ∧ isNanF (numA c0 c1) = false ∧ isInfF (numA c0 c1) = false := by
    rcases nums c0 c1 c2 with ⟨h, _⟩ | ⟨s, ea, m, eb, es, ms, DA, _⟩
    · rw [h]; decide
    · exact ⟨DA.range.1, DA.range.2, DA.nan, DA.inf⟩
  exact use1 (mul_K _ _ t u) B F X N T hk ⟨hpre.1, hpre.2.1, DE.range.1, DE.range.2, hpre.2.2.1, DE.nan, hpre.2.2.2, DE.inf⟩ hd hu (by rw [hv]; exact hret)
theorem cS (c0 c1 c2 : Int) (t u : Tok) : SqC 140 5 [.int (numB c0 c1 c2) t, .int (numB c0 c1 c2) u] (0 ≤ c0 ∧ 0 ≤ c1 ∧ 0 ≤ c2) (fun t => .int (numS c0 c1 c2) t) := by
  dsimp only [SqC]; intro w loose mean mg mb dp un gd cn cs a ccd cl outer A₀ base h₀ L m news s Q E B F X N T hk hp hd hu hret
  have hv : mulF (numB c0 c1 c2) (numB c0 c1 c2) = numS c0 c1 c2 := by unfold numS; rfl
  have hpre : 0 ≤ numB c0 c1 c2 ∧ numB c0 c1 c2 < 18446744073709551616 ∧ isNanF (numB c0 c1 c2) = false ∧ isInfF (numB c0 c1 c2) = false := by
    rcases nums c0 c1 c2 with ⟨_, h, _⟩ | ⟨s, ea, m, eb, es, ms, _, DB, _⟩
    · rw [h]; decide
    · exact ⟨DB.range.1, DB.range.2, DB.nan, DB.inf⟩
  exact use1 (mul_K _ _ t u) B F X N T hk ⟨hpre.1, hpre.2.1, hpre.1, hpre.2.1, hpre.2.2.1, hpre.2.2.1, hpre.2.2.2, hpre.2.2.2⟩ hd hu (by rw [hv]; exact hret)
theorem cR (c0 c1 c2 : Int) (t : Tok) : SqC 126 5 [.int (numS c0 c1 c2) t] (0 ≤ c0 ∧ 0 ≤ c1 ∧ 0 ≤ c2) (fun t => .int (numR c0 c1 c2) t) := by
  dsimp only [SqC]; intro w loose mean mg mb dp un gd cn cs a ccd cl outer A₀ base h₀ L m news s Q E B F X N T hk hp hd hu hret
  have hpre : (isNanF (numS c0 c1 c2) = false ∧ isNegF (numS c0 c1 c2) = false ∧ isInfF (numS c0 c1 c2) = false ∧ (isZeroF (numS c0 c1 c2) = false → 0 < mantF (numS c0 c1 c2))) ∧ sqrtF (numS c0 c1 c2) = numR c0 c1 c2 := by
    rcases nums c0 c1 c2 with ⟨_, _, h, h2⟩ | ⟨s, ea, m, eb, es, ms, _, _, DS, h2⟩
    · rw [h, h2]; exact ⟨by decide, sqrt_zero⟩
    · exact ⟨⟨DS.nan, DS.neg rfl, DS.inf, fun _ => by rw [DS.mant]; have := DS.m0; omega⟩, h2⟩
  exact use1 (sqrt_K _ t) B F X N T hk hpre.1 hd hu (by rw [hpre.2]; exact hret)
theorem cAbs (c0 c1 c2 : Int) (t : Tok) : SqC 133 2 [.int (numB c0 c1 c2) t] (0 ≤ c0 ∧ 0 ≤ c1 ∧ 0 ≤ c2) (fun t => .int (numR c0 c1 c2) t) := by
  dsimp only [SqC]; intro w loose mean mg mb dp un gd cn cs a ccd cl outer A₀ base h₀ L m news s Q E B F X N T hk hp hd hu hret
  have hv : absF (numB c0 c1 c2) = numR c0 c1 c2 := by unfold numR; rfl
  have hpre : isNanF (numB c0 c1 c2) = false := by
    rcases nums c0 c1 c2 with ⟨_, h, _⟩ | ⟨s, ea, m, eb, es, ms, _, DB, _⟩
    · rw [h]; decide
    · exact DB.nan
  exact use1 (absolute_K _ t) B F X N T hk hpre hd hu (by rw [hv]; exact hret)
theorem cRoot (c : Int) (t : Tok) : SqC 126 5 [.int (dblD c) t] (0 ≤ c) (fun t => .int (rootD c) t) := by
  dsimp only [SqC]; intro w loose mean mg mb dp un gd cn cs a ccd cl outer A₀ base h₀ L m news s Q E B F X N T hk hp hd hu hret
  obtain ⟨e, n, _, _, D⟩ := ld_dbl c
  have hv : sqrtF (dblD c) = rootD c := by unfold rootD; rfl
  exact use1 (sqrt_K _ t) B F X N T hk ⟨D.nan, D.neg rfl, D.inf, fun _ => by rw [D.mant]; have := D.m0; omega⟩ hd hu (by rw [hv]; exact hret)
theorem cEx0 (c : Int) (t : Tok) : SqC2 77 2 [.int (dblD c) t] (0 ≤ c) (topF (dblD c)) (botF (dblD c)) := by
  dsimp only [SqC2]; intro w loose mean mg mb dp un gd cn cs a ccd cl outer A₀ base h₀ L m news s Q E B F X N T hk hp hd hu hret
  obtain ⟨e, n, _, _, D⟩ := ld_dbl c
  exact use2 (exact_K _ t) B F X N T hk D.sgn hd hu hret
theorem cEx1 (c : Int) (t : Tok) : SqC2 77 2 [.int (rootD c) t] (0 ≤ c) (topF (rootD c)) (botF (rootD c)) := by
  dsimp only [SqC2]; intro w loose mean mg mb dp un gd cn cs a ccd cl outer A₀ base h₀ L m news s Q E B F X N T hk hp hd hu hret
  obtain ⟨e, n, _, _, D⟩ := root_dbl c
  exact use2 (exact_K _ t) B F X N T hk D.sgn hd hu hret
theorem cEx2 (c : Int) (t : Tok) : SqC2 77 2 [.int (rootD c - 1) t] (0 ≤ c) (topF (rootD c - 1)) (botF (rootD c - 1)) := by
  dsimp only [SqC2]; intro w loose mean mg mb dp un gd cn cs a ccd cl outer A₀ base h₀ L m news s Q E B F X N T hk hp hd hu hret
  obtain ⟨e, n, D⟩ := root_sub c
  exact use2 (exact_K _ t) B F X N T hk D.sgn hd hu hret
theorem cEx3 (c : Int) (t : Tok) : SqC2 77 2 [.int (rootD c + 1) t] (0 ≤ c) (topF (rootD c + 1)) (botF (rootD c + 1)) := by
  dsimp only [SqC2]; intro w loose mean mg mb dp un gd cn cs a ccd cl outer A₀ base h₀ L m news s Q E B F X N T hk hp hd hu hret
  obtain ⟨e, n, D⟩ := root_add c
  exact use2 (exact_K _ t) B F X N T hk D.sgn hd hu hret
theorem cCmp1 (x y : Int) (t u : Tok) : SqC 154 3 [.int (dblD x) t, .int (dblD y) u] (0 ≤ x ∧ 0 ≤ y) (fun t => .int (cmpF (dblD x) (dblD y)) t) := by
  dsimp only [SqC]; intro w loose mean mg mb dp un gd cn cs a ccd cl outer A₀ base h₀ L m news s Q E B F X N T hk hp hd hu hret
  obtain ⟨e, n, _, _, D⟩ := ld_dbl x
  obtain ⟨e', n', _, _, D'⟩ := ld_dbl y
  exact use1 (compare_K _ _ t u) B F X N T hk ⟨D.nan, D'.nan, D.neg rfl, D'.neg rfl⟩ hd hu hret
theorem cCmp2 (x y : Int) (t u : Tok) : SqC 154 3 [.int (rootD x) t, .int (rootD y) u] (0 ≤ x ∧ 0 ≤ y) (fun t => .int (cmpF (rootD x) (rootD y)) t) := by
  dsimp only [SqC]; intro w loose mean mg mb dp un gd cn cs a ccd cl outer A₀ base h₀ L m news s Q E B F X N T hk hp hd hu hret
  obtain ⟨e, n, _, _, D⟩ := root_dbl x
  obtain ⟨e', n', _, _, D'⟩ := root_dbl y
  exact use1 (compare_K _ _ t u) B F X N T hk ⟨D.nan, D'.nan, D.neg rfl, D'.neg rfl⟩ hd hu hret
theorem cFour (c : Int) (t u : Tok) : SqC 140 5 [.int (dblD c) t, .int 4616189618054758400 u] (0 ≤ c) (fun t => .int (fourD c) t) := by
  dsimp only [SqC]; intro w loose mean mg mb dp un gd cn cs a ccd cl outer A₀ base h₀ L m news s Q E B F X N T hk hp hd hu hret
  obtain ⟨e, n, _, _, D⟩ := ld_dbl c
  have D2 := four_dbl
  have hv : mulF (dblD c) 4616189618054758400 = fourD c := by unfold fourD; rfl
  exact use1 (mul_K _ _ t u) B F X N T hk ⟨D.range.1, D.range.2, D2.range.1, D2.range.2, D.nan, D2.nan, D.inf, D2.inf⟩ hd hu (by rw [hv]; exact hret)
theorem cSqFour (c : Int) (t : Tok) : SqC 126 5 [.int (fourD c) t] (0 ≤ c) (fun t => .int (twoD c) t) := by
  dsimp only [SqC]; intro w loose mean mg mb dp un gd cn cs a ccd cl outer A₀ base h₀ L m news s Q E B F X N T hk hp hd hu hret
  obtain ⟨e, n, D, hv⟩ := fourD_dbl c
  exact use1 (sqrt_K _ t) B F X N T hk ⟨D.nan, D.neg rfl, D.inf, fun _ => by rw [D.mant]; have := D.m0; omega⟩ hd hu (by rw [hv]; exact hret)
theorem cTwo (c : Int) (t u : Tok) : SqC 140 5 [.int (rootD c) t, .int 4611686018427387904 u] (0 ≤ c) (fun t => .int (twoD c) t) := by
  dsimp only [SqC]; intro w loose mean mg mb dp un gd cn cs a ccd cl outer A₀ base h₀ L m news s Q E B F X N T hk hp hd hu hret
  obtain ⟨e, n, _, _, D⟩ := root_dbl c
  have D2 := two_dbl
  have hv : mulF (rootD c) 4611686018427387904 = twoD c := by unfold twoD; rfl
  exact use1 (mul_K _ _ t u) B F X N T hk ⟨D.range.1, D.range.2, D2.range.1, D2.range.2, D.nan, D2.nan, D.inf, D2.inf⟩ hd hu (by rw [hv]; exact hret)
theorem cLd (c : Int) (t : Tok) : SqC 161 1 [.int c t] (True) (fun t => .int (dblD c) t) := by
  dsimp only [SqC]; intro w loose mean mg mb dp un gd cn cs a ccd cl outer A₀ base h₀ L m news s Q E B F X N T hk hp hd hu hret
  have hv : ldF c = dblD c := by unfold dblD; rfl
  exact use1 (law_double_K _ t) B F X N T hk trivial hd hu (by rw [hv]; exact hret)
end Mine
-- the law
namespace Mine
def SqStop (P : Prop) : Prop := P
theorem SqStop.out {P : Prop} (h : SqStop P) : P := h
structure SqMark : Prop where
theorem top_bits (n : Int) : Builtin.Int.intBits (topF n) ≤ 1100 := by
  have hm := mant_bounds n
  have hw := pow_bounds n
  have hb : bitsN (mantF n) ≤ 53 := bits_lt hm.1 (by omega)
  unfold topF
  split
  · exact bits_mono (bits_shl hb _) (by omega)
  · exact bits_mono hb (by omega)
theorem bot_bits (n : Int) : Builtin.Int.intBits (botF n) ≤ 1100 := by
  have hw := pow_bounds n
  unfold botF
  split
  · decide
  · exact bits_mono (bits_shl (a := 1) (m := 1) (by decide) _) (by omega)
theorem cmp_bits (a b : Int) : Builtin.Int.intBits (cmpF a b) ≤ 1 := by unfold cmpF; (repeat' split) <;> decide
theorem sq_bits {x : Int} {m : Nat} (h : Builtin.Int.intBits x ≤ m) : Builtin.Int.intBits (x ^ Int.toNat 2) ≤ m * 2 + 1 := intBits_pow_le h 2
theorem pow2_ok {x : Int} {m : Nat} (h : Builtin.Int.intBits x ≤ m) (h2 : m ≤ 1000000) : (Builtin.Int.intBits x : Int) * 2 ≤ 2 ^ 27 := by omega
theorem cells3 (ns : List Int) : ∃ c0 c1 c2 : Int, 0 ≤ c0 ∧ 0 ≤ c1 ∧ 0 ≤ c2 ∧ List.map (fun k' : Int => if k' < 0 then -k' else k') (List.take 3 ns) ++ List.drop (((List.take 3 ns).length : Nat) : Int).toNat [1234567, 5, 9] = [c0, c1, c2] := by
  have ha : ∀ k : Int, 0 ≤ (if k < 0 then -k else k) := fun k => by split <;> omega
  match ns with
  | [] => exact ⟨1234567, 5, 9, by omega, by omega, by omega, rfl⟩
  | [a] => exact ⟨_, 5, 9, ha a, by omega, by omega, rfl⟩
  | [a, b] => exact ⟨_, _, 9, ha a, ha b, by omega, rfl⟩
  | a :: b :: c :: r => exact ⟨_, _, _, ha a, ha b, ha c, rfl⟩
theorem ints3 {ws : List Value} {a b c : Int} (h : IntsAre ws [a, b, c]) : ∃ t u v, ws = [.int a t, .int b u, .int c v] := by
  cases h with | cons _ _ h => cases h with | cons _ _ h => cases h with | cons _ _ h => cases h; exact ⟨_, _, _, rfl⟩
theorem cells3' (ns : List Int) : ∃ cs : List Int, cs.length = 3 ∧ 0 ≤ cs.getD (Int.toNat 0) 0 ∧ 0 ≤ cs.getD (Int.toNat 1) 0 ∧ 0 ≤ cs.getD (Int.toNat 2) 0 ∧ List.map (fun k' : Int => if k' < 0 then -k' else k') (List.take 3 ns) ++ List.drop (((List.take 3 ns).length : Nat) : Int).toNat [1234567, 5, 9] = cs := by
  obtain ⟨c0, c1, c2, h0, h1, h2, e⟩ := cells3 ns
  exact ⟨[c0, c1, c2], rfl, h0, h1, h2, e⟩
section
variable {prog : Program} {w : World} {A : Around} {s : Shared} {Q E : Value → Shared → Prop} {a b : Int} {t u : Tok}
theorem gt_no (h : ¬ b < a) (hQ : Q (.bool false) s) : wpAny (model prog w) A (compareOp .Gt (.int a t) (.int b u)) Q E s := gt_int (by rw [decide_eq_false h]; exact hQ)
theorem lt_no (h : ¬ a < b) (hQ : Q (.bool false) s) : wpAny (model prog w) A (compareOp .Lt (.int a t) (.int b u)) Q E s := lt_int (by rw [decide_eq_false h]; exact hQ)
theorem ne_self (hQ : Q (.bool false) s) : wpAny (model prog w) A (compareOp .NotEq (.int a t) (.int a u)) Q E s := ne_int (by rw [show (a != a) = false by simp]; exact hQ)
theorem eq_self (hQ : Q (.bool true) s) : wpAny (model prog w) A (compareOp .Eq (.int a t) (.int a u)) Q E s := eq_int (by rw [show (a == a) = true by simp]; exact hQ)
end
end Mine
open Mine
local macro_rules | `(tactic| walk_at "execs cons") => `(tactic| ((fail_if_success (with_reducible rename SqMark => q9)); (with_reducible show wpAny _ _ (execs (Stmt.Assign [Expr.Name (Str.ofString "number") _] _ _ :: _) _) _ _ _); refine SqStop.out ?_))
local macro_rules | `(tactic| bits_by_make) => `(tactic| first | with_reducible exact top_bits _ | with_reducible exact bot_bits _ | with_reducible exact cmp_bits _ _ | ((with_reducible apply sq_bits); bits_by_make))
local macro_rules | `(tactic| walk_at "binaryOp Pow int int") => `(tactic| (k_here; (with_reducible refine pow_int ?kb1 ?kb2 ?_); (case kb1 => decide); (case kb2 => first | decide | (refine' pow2_ok ?kb3 ?kb4; (case kb3 => bits_by_make); (case kb4 => decide)))))
local macro_rules | `(tactic| walk_at "call ref") => `(tactic| (k_here; (with_reducible show wpAny _ _ (call (Value.ref 112) _) _ _ _); k_dflt (refine' use1 (cA _ _ _) ?k1 ?k2 ?k3 ?k4 ?k5 ?kK ?kp ?kd ?ku ?_; (case k1 => k_asm); (case k2 => k_asm); (case k3 => k_asm); (case k4 => k_asm); (case k5 => k_asm); (case kK => first | exact rfl | assumption); (case kp => trivial); (case kd => ktr_room); (case ku => ktr_units)); intro t9 h9 tk9 F9 N9; (try k_sweep); (try dsimp only); (try k_fold)))
local macro_rules | `(tactic| walk_at "call ref") => `(tactic| (k_here; (with_reducible show wpAny _ _ (call (Value.ref 140) _) _ _ _); k_dflt (refine' use1 (cB _ _ _ _ _) ?k1 ?k2 ?k3 ?k4 ?k5 ?kK ?kp ?kd ?ku ?_; (case k1 => k_asm); (case k2 => k_asm); (case k3 => k_asm); (case k4 => k_asm); (case k5 => k_asm); (case kK => first | exact rfl | assumption); (case kp => exact ⟨by with_reducible assumption, by with_reducible assumption, by with_reducible assumption⟩); (case kd => ktr_room); (case ku => ktr_units)); intro t9 h9 tk9 F9 N9; (try k_sweep); (try dsimp only); (try k_fold)))
local macro_rules | `(tactic| walk_at "call ref") => `(tactic| (k_here; (with_reducible show wpAny _ _ (call (Value.ref 140) _) _ _ _); k_dflt (refine' use1 (cS _ _ _ _ _) ?k1 ?k2 ?k3 ?k4 ?k5 ?kK ?kp ?kd ?ku ?_; (case k1 => k_asm); (case k2 => k_asm); (case k3 => k_asm); (case k4 => k_asm); (case k5 => k_asm); (case kK => first | exact rfl | assumption); (case kp => exact ⟨by with_reducible assumption, by with_reducible assumption, by with_reducible assumption⟩); (case kd => ktr_room); (case ku => ktr_units)); intro t9 h9 tk9 F9 N9; (try k_sweep); (try dsimp only); (try k_fold)))
local macro_rules | `(tactic| walk_at "call ref") => `(tactic| (k_here; (with_reducible show wpAny _ _ (call (Value.ref 126) _) _ _ _); k_dflt (refine' use1 (cR _ _ _ _) ?k1 ?k2 ?k3 ?k4 ?k5 ?kK ?kp ?kd ?ku ?_; (case k1 => k_asm); (case k2 => k_asm); (case k3 => k_asm); (case k4 => k_asm); (case k5 => k_asm); (case kK => first | exact rfl | assumption); (case kp => exact ⟨by with_reducible assumption, by with_reducible assumption, by with_reducible assumption⟩); (case kd => ktr_room); (case ku => ktr_units)); intro t9 h9 tk9 F9 N9; (try k_sweep); (try dsimp only); (try k_fold)))
local macro_rules | `(tactic| walk_at "call ref") => `(tactic| (k_here; (with_reducible show wpAny _ _ (call (Value.ref 133) _) _ _ _); k_dflt (refine' use1 (cAbs _ _ _ _) ?k1 ?k2 ?k3 ?k4 ?k5 ?kK ?kp ?kd ?ku ?_; (case k1 => k_asm); (case k2 => k_asm); (case k3 => k_asm); (case k4 => k_asm); (case k5 => k_asm); (case kK => first | exact rfl | assumption); (case kp => exact ⟨by with_reducible assumption, by with_reducible assumption, by with_reducible assumption⟩); (case kd => ktr_room); (case ku => ktr_units)); intro t9 h9 tk9 F9 N9; (try k_sweep); (try dsimp only); (try k_fold)))
local macro_rules | `(tactic| walk_at "call ref") => `(tactic| (k_here; (with_reducible show wpAny _ _ (call (Value.ref 126) _) _ _ _); k_dflt (refine' use1 (cRoot _ _) ?k1 ?k2 ?k3 ?k4 ?k5 ?kK ?kp ?kd ?ku ?_; (case k1 => k_asm); (case k2 => k_asm); (case k3 => k_asm); (case k4 => k_asm); (case k5 => k_asm); (case kK => first | exact rfl | assumption); (case kp => with_reducible assumption); (case kd => ktr_room); (case ku => ktr_units)); intro t9 h9 tk9 F9 N9; (try k_sweep); (try dsimp only); (try k_fold)))
local macro_rules | `(tactic| walk_at "call ref") => `(tactic| (k_here; (with_reducible show wpAny _ _ (call (Value.ref 77) _) _ _ _); k_dflt (refine' use2 (cEx0 _ _) ?k1 ?k2 ?k3 ?k4 ?k5 ?kK ?kp ?kd ?ku ?_; (case k1 => k_asm); (case k2 => k_asm); (case k3 => k_asm); (case k4 => k_asm); (case k5 => k_asm); (case kK => first | exact rfl | assumption); (case kp => with_reducible assumption); (case kd => ktr_room); (case ku => ktr_units)); intro d9 t9 u9 c9 h9 tk9 F9 N9; (try k_sweep); (try dsimp only); (try k_fold)))
local macro_rules | `(tactic| walk_at "call ref") => `(tactic| (k_here; (with_reducible show wpAny _ _ (call (Value.ref 77) _) _ _ _); k_dflt (refine' use2 (cEx1 _ _) ?k1 ?k2 ?k3 ?k4 ?k5 ?kK ?kp ?kd ?ku ?_; (case k1 => k_asm); (case k2 => k_asm); (case k3 => k_asm); (case k4 => k_asm); (case k5 => k_asm); (case kK => first | exact rfl | assumption); (case kp => with_reducible assumption); (case kd => ktr_room); (case ku => ktr_units)); intro d9 t9 u9 c9 h9 tk9 F9 N9; (try k_sweep); (try dsimp only); (try k_fold)))
local macro_rules | `(tactic| walk_at "call ref") => `(tactic| (k_here; (with_reducible show wpAny _ _ (call (Value.ref 77) _) _ _ _); k_dflt (refine' use2 (cEx2 _ _) ?k1 ?k2 ?k3 ?k4 ?k5 ?kK ?kp ?kd ?ku ?_; (case k1 => k_asm); (case k2 => k_asm); (case k3 => k_asm); (case k4 => k_asm); (case k5 => k_asm); (case kK => first | exact rfl | assumption); (case kp => with_reducible assumption); (case kd => ktr_room); (case ku => ktr_units)); intro d9 t9 u9 c9 h9 tk9 F9 N9; (try k_sweep); (try dsimp only); (try k_fold)))
local macro_rules | `(tactic| walk_at "call ref") => `(tactic| (k_here; (with_reducible show wpAny _ _ (call (Value.ref 77) _) _ _ _); k_dflt (refine' use2 (cEx3 _ _) ?k1 ?k2 ?k3 ?k4 ?k5 ?kK ?kp ?kd ?ku ?_; (case k1 => k_asm); (case k2 => k_asm); (case k3 => k_asm); (case k4 => k_asm); (case k5 => k_asm); (case kK => first | exact rfl | assumption); (case kp => with_reducible assumption); (case kd => ktr_room); (case ku => ktr_units)); intro d9 t9 u9 c9 h9 tk9 F9 N9; (try k_sweep); (try dsimp only); (try k_fold)))
local macro_rules | `(tactic| walk_at "call ref") => `(tactic| (k_here; (with_reducible show wpAny _ _ (call (Value.ref 154) _) _ _ _); k_dflt (refine' use1 (cCmp1 _ _ _ _) ?k1 ?k2 ?k3 ?k4 ?k5 ?kK ?kp ?kd ?ku ?_; (case k1 => k_asm); (case k2 => k_asm); (case k3 => k_asm); (case k4 => k_asm); (case k5 => k_asm); (case kK => first | exact rfl | assumption); (case kp => exact ⟨by with_reducible assumption, by with_reducible assumption⟩); (case kd => ktr_room); (case ku => ktr_units)); intro t9 h9 tk9 F9 N9; (try k_sweep); (try dsimp only); (try k_fold)))
local macro_rules | `(tactic| walk_at "call ref") => `(tactic| (k_here; (with_reducible show wpAny _ _ (call (Value.ref 154) _) _ _ _); k_dflt (refine' use1 (cCmp2 _ _ _ _) ?k1 ?k2 ?k3 ?k4 ?k5 ?kK ?kp ?kd ?ku ?_; (case k1 => k_asm); (case k2 => k_asm); (case k3 => k_asm); (case k4 => k_asm); (case k5 => k_asm); (case kK => first | exact rfl | assumption); (case kp => exact ⟨by with_reducible assumption, by with_reducible assumption⟩); (case kd => ktr_room); (case ku => ktr_units)); intro t9 h9 tk9 F9 N9; (try k_sweep); (try dsimp only); (try k_fold)))
local macro_rules | `(tactic| walk_at "call ref") => `(tactic| (k_here; (with_reducible show wpAny _ _ (call (Value.ref 140) _) _ _ _); k_dflt (refine' use1 (cFour _ _ _) ?k1 ?k2 ?k3 ?k4 ?k5 ?kK ?kp ?kd ?ku ?_; (case k1 => k_asm); (case k2 => k_asm); (case k3 => k_asm); (case k4 => k_asm); (case k5 => k_asm); (case kK => first | exact rfl | assumption); (case kp => with_reducible assumption); (case kd => ktr_room); (case ku => ktr_units)); intro t9 h9 tk9 F9 N9; (try k_sweep); (try dsimp only); (try k_fold)))
local macro_rules | `(tactic| walk_at "call ref") => `(tactic| (k_here; (with_reducible show wpAny _ _ (call (Value.ref 126) _) _ _ _); k_dflt (refine' use1 (cSqFour _ _) ?k1 ?k2 ?k3 ?k4 ?k5 ?kK ?kp ?kd ?ku ?_; (case k1 => k_asm); (case k2 => k_asm); (case k3 => k_asm); (case k4 => k_asm); (case k5 => k_asm); (case kK => first | exact rfl | assumption); (case kp => with_reducible assumption); (case kd => ktr_room); (case ku => ktr_units)); intro t9 h9 tk9 F9 N9; (try k_sweep); (try dsimp only); (try k_fold)))
local macro_rules | `(tactic| walk_at "call ref") => `(tactic| (k_here; (with_reducible show wpAny _ _ (call (Value.ref 140) _) _ _ _); k_dflt (refine' use1 (cTwo _ _ _) ?k1 ?k2 ?k3 ?k4 ?k5 ?kK ?kp ?kd ?ku ?_; (case k1 => k_asm); (case k2 => k_asm); (case k3 => k_asm); (case k4 => k_asm); (case k5 => k_asm); (case kK => first | exact rfl | assumption); (case kp => with_reducible assumption); (case kd => ktr_room); (case ku => ktr_units)); intro t9 h9 tk9 F9 N9; (try k_sweep); (try dsimp only); (try k_fold)))
local macro_rules | `(tactic| walk_at "call ref") => `(tactic| (k_here; (with_reducible show wpAny _ _ (call (Value.ref 161) _) _ _ _); k_dflt (refine' use1 (cLd _ _) ?k1 ?k2 ?k3 ?k4 ?k5 ?kK ?kp ?kd ?ku ?_; (case k1 => k_asm); (case k2 => k_asm); (case k3 => k_asm); (case k4 => k_asm); (case k5 => k_asm); (case kK => first | exact rfl | assumption); (case kp => trivial); (case kd => ktr_room); (case ku => ktr_units)); intro t9 h9 tk9 F9 N9; (try k_sweep); (try dsimp only); (try k_fold)))
local macro_rules | `(tactic| walk_at "compareOp Gt int int") => `(tactic| (k_here; (with_reducible refine gt_no (low_fact ?kf) ?_); (case kf => with_reducible assumption)))
local macro_rules | `(tactic| walk_at "compareOp Lt int int") => `(tactic| (k_here; first | ((with_reducible refine lt_no (high_fact ?kf) ?_); (case kf => with_reducible assumption)) | ((with_reducible refine lt_no (cmp_fact ?kf ?kg) ?_); (case kf => with_reducible assumption); (case kg => with_reducible assumption))))
local macro_rules | `(tactic| walk_at "compareOp NotEq int int") => `(tactic| (k_here; with_reducible refine ne_self ?_))
local macro_rules | `(tactic| walk_at "compareOp Eq int int") => `(tactic| (k_here; with_reducible refine eq_self ?_))
local macro_rules | `(tactic| walk_at "execs nil") => `(tactic| refine wpAny_execs_nil ?_)
local macro_rules | `(tactic| walk_at "binaryOp LShift int int") => `(tactic| (k_here; (with_reducible refine lshift_int ?kbn ?kbs ?_); (case kbn => omega); (case kbs => with_reducible assumption)))
theorem PySem.Challenge.cw_sa0361_01_holds : PySem.Challenge.rw_sa0361_01.Holds := by
  refine sq_hd ?_
  k_with_none
  k_go0
  all_goals try k_fold
  k_steps
  (rename IntsAre _ (List.map _ _ ++ List.drop _ _) => sqI)
  obtain ⟨cs, hlen, hc0, hc1, hc2, he⟩ := cells3' (by assumption)
  have sqI2 := he ▸ sqI
  clear he sqI
  have sqM := SqMark.mk
  have hshl := shl_fact (cs.getD (Int.toNat 2) 0)
  unfold SqStop
  k_steps
