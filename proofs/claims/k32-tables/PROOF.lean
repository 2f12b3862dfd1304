import PyProof.Rows.All
import Wide.All
import OpenK.AllK
import Wide.FinOn
import HandS.GenList
import HandS.Words
import HandS.ForMost
import HandS.Star
import HandS.Property
import HandS.IsInst
import HandS.Wide
import HandS.WideBits
import HandS.WordsExc
import PySem.Challenge.RW_howmanyeach_k32_whole_tables_far_away
set_option Elab.async false
set_option linter.all false
set_option maxRecDepth 100000
set_option maxHeartbeats 4000000
/-! Plain arithmetic of a table with a near rows, b far rows, e pairs: D = e / a, E = e % a. -/
namespace K32
/-- min as the interpreter takes it -/
def mn (i j : Int) : Int := if j < i then j else i
/-- the number of the first pair of a near row -/
def S (D E i : Int) : Int := i * D + mn i E
/-- the near row of a pair's number -/
def NR (D E n : Int) : Int := if n < E * (D + 1) then n / (D + 1) else E + (n - E * (D + 1)) / D
/-- partners of a near row -/
def dg (D E i : Int) : Int := D + (if i < E then 1 else 0)
/-- partners of a far row, as the law counts them -/
def fd (b e j : Int) : Int := if j < e then (e - j + b - 1) / b else 0
theorem mn_le_left (i j : Int) : mn i j ≤ i := by unfold mn; split <;> omega
theorem mn_le_right (i j : Int) : mn i j ≤ j := by unfold mn; split <;> omega
theorem S_succ (D E i : Int) : S D E (i + 1) = S D E i + dg D E i := by
  unfold S dg mn
  have e : (i + 1) * D = i * D + D := by rw [Int.add_mul, Int.one_mul]
  rw [e]
  generalize i * D = x
  repeat' split
  all_goals omega
theorem S_mono {D E i j : Int} (hD : 0 ≤ D) (h : i ≤ j) : S D E i ≤ S D E j := by
  have e : i * D ≤ j * D := Int.mul_le_mul_of_nonneg_right h hD
  unfold S mn
  generalize i * D = x at *
  generalize j * D = y at *
  repeat' split
  all_goals omega
theorem S_nonneg {D E i : Int} (hD : 0 ≤ D) (hE : 0 ≤ E) (h : 0 ≤ i) : 0 ≤ S D E i := by
  have e : 0 ≤ i * D := Int.mul_nonneg h hD
  unfold S mn
  generalize i * D = x at *
  split <;> omega
/-- the table's numbers -/
structure Tb (a b e D E : Int) : Prop where
  ha : 0 < a
  hb : 0 < b
  he : 0 ≤ e
  hle : e ≤ a * b
  hD : D = e / a
  hE : E = e % a
section
variable {a b e D E : Int} (t : Tb a b e D E)
include t
theorem Tb.D0 : 0 ≤ D := by rw [t.hD]; exact Int.ediv_nonneg t.he (Int.le_of_lt t.ha)
theorem Tb.E0 : 0 ≤ E := by rw [t.hE]; exact Int.emod_nonneg _ (by have := t.ha; omega)
theorem Tb.Ea : E < a := by rw [t.hE]; exact Int.emod_lt_of_pos _ t.ha
theorem Tb.sum : e = a * D + E := by rw [t.hD, t.hE]; exact (Int.mul_ediv_add_emod e a).symm
theorem Tb.S_a : S D E a = e := by
  have h := t.sum
  have h2 := t.Ea
  unfold S mn
  rw [if_pos h2, h, Int.mul_comm a D]
theorem Tb.De : D ≤ e := by
  have h := t.sum
  have h1 : 1 * D ≤ a * D := Int.mul_le_mul_of_nonneg_right (by have := t.ha; omega) t.D0
  have := t.E0
  omega
theorem Tb.S_le {i : Int} (h : i ≤ a) : S D E i ≤ e := by
  have := S_mono (E := E) t.D0 h
  rw [t.S_a] at this
  exact this
theorem Tb.NR_ok {n : Int} (h0 : 0 ≤ n) (h1 : n < e) : 0 ≤ NR D E n ∧ NR D E n < a ∧ S D E (NR D E n) ≤ n ∧ n < S D E (NR D E n + 1) := by
  have hD := t.D0
  have hE := t.E0
  have key : 0 ≤ NR D E n ∧ S D E (NR D E n) ≤ n ∧ n < S D E (NR D E n + 1) := by
    unfold NR
    split
    · rename_i hlt
      have hp : 0 < D + 1 := by omega
      have q0 : 0 ≤ n / (D + 1) := Int.ediv_nonneg h0 (by omega)
      have q1 : n / (D + 1) * (D + 1) ≤ n := Int.ediv_mul_le n (by omega)
      have q2 : n < (n / (D + 1) + 1) * (D + 1) := Int.lt_ediv_add_one_mul_self n hp
      generalize n / (D + 1) = r at *
      have hr : r < E := by
        refine Int.lt_of_not_ge fun hge => ?_
        have := Int.mul_le_mul_of_nonneg_right hge (show 0 ≤ D + 1 by omega)
        omega
      have e1 : r * (D + 1) = r * D + r := by rw [Int.mul_add, Int.mul_one]
      have e2 : (r + 1) * (D + 1) = (r + 1) * D + (r + 1) := by rw [Int.mul_add, Int.mul_one]
      refine ⟨q0, ?_, ?_⟩
      · unfold S mn
        rw [if_neg (by omega)]
        omega
      · unfold S mn
        rw [if_neg (by omega)]
        omega
    · rename_i hge
      have hDp : 0 < D := by
        refine Int.lt_of_not_ge fun hle => ?_
        have hz : D = 0 := by omega
        have hs := t.sum
        rw [hz, Int.mul_zero, Int.zero_add] at hs
        rw [hz, Int.zero_add, Int.mul_one] at hge
        omega
      have m0 : 0 ≤ n - E * (D + 1) := by omega
      have q0 : 0 ≤ (n - E * (D + 1)) / D := Int.ediv_nonneg m0 (by omega)
      have q1 : (n - E * (D + 1)) / D * D ≤ n - E * (D + 1) := Int.ediv_mul_le _ (by omega)
      have q2 : n - E * (D + 1) < ((n - E * (D + 1)) / D + 1) * D := Int.lt_ediv_add_one_mul_self _ hDp
      have e1 : E * (D + 1) = E * D + E := by rw [Int.mul_add, Int.mul_one]
      generalize (n - E * (D + 1)) / D = q at *
      have e2 : (E + q) * D = E * D + q * D := Int.add_mul ..
      have e3 : (q + 1) * D = q * D + D := by rw [Int.add_mul, Int.one_mul]
      have e4 : (E + q + 1) * D = E * D + q * D + D := by rw [Int.add_mul, Int.one_mul, e2]
      refine ⟨by omega, ?_, ?_⟩
      · unfold S mn
        split <;> omega
      · unfold S mn
        rw [e4]
        split <;> omega
  refine ⟨key.1, ?_, key.2⟩
  refine Int.lt_of_not_ge fun hge => ?_
  have := S_mono (E := E) hD hge
  rw [t.S_a] at this
  omega
theorem Tb.uniq {n r r' : Int} (h1 : S D E r ≤ n) (h2 : n < S D E (r + 1)) (h3 : S D E r' ≤ n) (h4 : n < S D E (r' + 1)) : r = r' := by
  have hD := t.D0
  rcases Int.lt_trichotomy r r' with h | h | h
  · have := S_mono (E := E) hD (show r + 1 ≤ r' by omega)
    omega
  · exact h
  · have := S_mono (E := E) hD (show r' + 1 ≤ r by omega)
    omega
theorem Tb.dg0 (i : Int) : 0 ≤ dg D E i := by
  have := t.D0
  unfold dg
  split <;> omega
/-- no near row has more partners than there are far rows -/
theorem Tb.dg_le {i : Int} (h0 : 0 ≤ i) : dg D E i ≤ b := by
  have hs := t.sum
  have hle := t.hle
  have ha := t.ha
  have hE0 := t.E0
  have hD : D ≤ b := by
    refine Int.le_of_not_gt fun hgt => ?_
    have h1 := Int.mul_le_mul_of_nonneg_left (show b + 1 ≤ D by omega) (show 0 ≤ a by omega)
    rw [Int.mul_add, Int.mul_one] at h1
    omega
  unfold dg
  split
  · rename_i hlt
    refine Int.le_of_not_gt fun hgt => ?_
    have hb : D = b := by omega
    rw [hb] at hs
    omega
  · omega
/-- the place of a number's far row behind its near row's first number -/
theorem Tb.place {n i : Int} (h0 : 0 ≤ i) (h1 : S D E i ≤ n) (h2 : n < S D E (i + 1)) : (n % b - S D E i) % b = n - S D E i := by
  have hb := t.hb
  have hd := t.dg_le h0
  rw [S_succ] at h2
  rw [Int.emod_sub_emod]
  exact Int.emod_eq_of_lt (by omega) (by omega)
theorem Tb.emod_lt (x : Int) : 0 ≤ x % b ∧ x % b < b := ⟨Int.emod_nonneg _ (by have := t.hb; omega), Int.emod_lt_of_pos _ t.hb⟩
/-- the law's count of a far row's partners is the program's -/
theorem Tb.fd_eq {j : Int} (h0 : 0 ≤ j) (h1 : j < b) : fd b e j = e / b + (if j < e % b then 1 else 0) := by
  have hb := t.hb
  have he := t.he
  have hm := t.emod_lt e
  have hs : b * (e / b) + e % b = e := Int.mul_ediv_add_emod e b
  have q0 : 0 ≤ e / b := Int.ediv_nonneg he (by omega)
  unfold fd
  generalize hq : e / b = q at *
  generalize hr : e % b = r at *
  split
  · rename_i hlt
    split
    · rename_i hjr
      have e1 : e - j + b - 1 = (r - j - 1) + b * (q + 1) := by rw [Int.mul_add, Int.mul_one]; omega
      rw [e1, Int.add_mul_ediv_left _ _ (by omega), Int.ediv_eq_zero_of_lt (by omega) (by omega)]
      omega
    · rename_i hjr
      have e1 : e - j + b - 1 = (r - j + b - 1) + b * q := by omega
      rw [e1, Int.add_mul_ediv_left _ _ (by omega), Int.ediv_eq_zero_of_lt (by omega) (by omega)]
      omega
  · rename_i hge
    rw [if_neg (by
      intro hjr
      have : 0 ≤ b * q := Int.mul_nonneg (by omega) q0
      omega)]
    have hz : q = 0 := by
      refine Int.le_antisymm (Int.le_of_not_gt fun hgt => ?_) q0
      have := Int.mul_le_mul_of_nonneg_left (show 1 ≤ q by omega) (show 0 ≤ b by omega)
      omega
    omega
theorem Tb.fd0 {j : Int} : 0 ≤ fd b e j := by
  have hb := t.hb
  unfold fd
  split
  · exact Int.ediv_nonneg (by omega) (by omega)
  · omega
/-- the k-th number of a far row -/
theorem Tb.fd_num {j k : Int} (h0 : 0 ≤ j) (h1 : j < b) (k0 : 0 ≤ k) : k < fd b e j ↔ j + k * b < e := by
  have hb := t.hb
  have hbk : 0 ≤ k * b := Int.mul_nonneg k0 (by omega)
  unfold fd
  split
  · rename_i hlt
    rw [Int.lt_iff_add_one_le, Int.le_ediv_iff_mul_le hb, Int.add_mul, Int.one_mul]
    omega
  · omega
theorem Tb.fd_pos {j : Int} (h0 : 0 ≤ j) (h1 : j < b) : 0 < fd b e j ↔ j < e := by
  have := t.fd_num h0 h1 (Int.le_refl 0)
  rw [Int.zero_mul, Int.add_zero] at this
  exact this
/-- a number by its far row and its place there -/
theorem Tb.num (n : Int) : n % b + n / b * b = n := by
  rw [Int.mul_comm]
  exact Int.emod_add_mul_ediv n b
end
end K32

/-! A generator that is asked for its first item alone, and then left: for x in g: return x. -/
namespace K32G
open PySem PySem.Spec PyProof.Rows GenW L2

/-- the promise: the arguments, the heap, what is wanted of the first item (none: it ends without one) -/
abbrev SpF := List V → Hp → (Option V → Hp → Prop) → Prop
def FinR (P : Program) (w : World) (outer : List Env) (H : Hp) (s : Shared) (Q : Option V → Hp → Prop) (s1 : Shared) : Prop :=
  ∃ H', s1.os = s.os ∧ AllBare s1.gens ∧ Un (frs outer) [] H H' s.heap s1.heap ∧ HOk P w H' s1.heap ∧ Q none H'
def FstY (P : Program) (w : World) (outer : List Env) (H : Hp) (s : Shared) (Q : Option V → Hp → Prop) (v : Value) (s1 : Shared) : Prop :=
  ∃ x H', RelV x v ∧ s1.os = s.os ∧ AllBare s1.gens ∧ Un (frs outer) [] H H' s.heap s1.heap ∧ HOk P w H' s1.heap ∧ Q (some x) H'
def R1 (P : Program) (w : World) (outer : List Env) (H : Hp) (s : Shared) (Q : Option V → Hp → Prop) : GenEnd := fun n s₀ r s1 =>
  ((r = .ok (.ret .none) ∨ r = .ok .next) ∧ FinR P w outer H s Q s1) ∨ ∃ e, r = .error e ∧ False
def Y1 (P : Program) (w : World) (outer : List Env) (H : Hp) (s : Shared) (Q : Option V → Hp → Prop) : Protocol := fun n s₀ v s1 kap => FstY P w outer H s Q v s1
/-- what a call of the generator def gives -/
def GMade1 (P : Program) (w : World) (k : Nat) (outer : List Env) (H : Hp) (s : Shared) (Q : Option V → Hp → Prop) (u : Value) (s' : Shared) : Prop :=
  ∃ (a : Addr) (g : Nat) (c : Code), u = .ref a ∧ s'.heap.IsGen a g ∧ s'.gens[g]? = some (.fresh c) ∧ s'.os = s.os ∧ AllBare s'.gens ∧ s'.heap.NoLimit ∧ (∀ b o, s.heap.get? b = some o → s'.heap.get? b = some o) ∧
    ∀ (A : Around) (s2 : Shared), Room k A → A.frames = some outer → (∀ b o, s'.heap.get? b = some o → s2.heap.get? b = some o) → s2.os = s.os → AllBare s2.gens →
      Seg (model P w) A (R1 P w outer H s Q) (Y1 P w outer H s Q) 1 s2 c ((model P w).den c) [] s2
structure GFn1 (P : Program) (w : World) (K : PySem.W.Frag) (mg : Str → Option Value) (base : Heap) (k : Nat) (f : Addr) (fd : FuncData) (ps : List Str) (sp : SpF) : Prop where
  len : ∀ vs H Q, sp vs H Q → vs.length = ps.length
  run : ∀ (A : Around) (outer : List Env) (s : Shared) (H : Hp) (args : Args) (us : List Value) (vs : List V) (Q : Option V → Hp → Prop), Room k A → Env0 P w K mg base A outer s H → BindsTo s fd args (ps.zip us) → Vals vs us → sp vs H Q →
    codeAny (model P w) A (.call (.ref f) args) (fun r s' => match r with | .ok (.ret u) => GMade1 P w k outer H s Q u s' | _ => False) s

/-! ### the body: two statements, then a while that yields at once -/
def tFirst (t1 t2 : TS) (tc : TT) (te : TE) : L2.St → Hp → (Option V → Hp → Prop) → Prop := fun σ H Q =>
  t1 { nx := fun σ1 H1 => t2 { nx := fun σ2 H2 => tc σ2 H2 fun b H3 => if b = true then te σ2 H3 fun x H4 => Q (some x) H4 else Q none H3, rt := fun _ _ => False } σ1 H1, rt := fun _ _ => False } σ H
theorem seg_first {X : Cx} {A : Around} {c : Code} {R : GenEnd} {Y : Protocol} {s₀ s : Shared} {σ : L2.St} {H : Hp} {K : Flow → Sem PySem.Fin} {J : Value → Sem PySem.Fin}
    {st1 st2 : Stmt} {test e : Expr} {rest : List Stmt} {yp ypos wpos : Pos} {t1 t2 : TS} {tc : TT} {te : TE} {Q : Option V → Hp → Prop}
    (ov : A.over c [] = X.A) (h1 : PS X.nox st1 t1) (h2 : PS X.nox st2 t2) (hc : PT X.nox test tc) (he : PE X.nox e te)
    (hK : ∀ s', (∃ σ H, Inv X.nox [] σ H s' ∧ Q none H) → Seg (model X.prog X.w) A R Y 1 s₀ c (K .next) [] s')
    (hY : ∀ v s0 s' kap, (∃ x σ H, Inv X.nox [] σ H s' ∧ RelV x v ∧ Q (some x) H) → Y 0 s0 v s' kap)
    (hco : X.env.scope.isCoroutine = false) (I : Inv X.nox [] σ H s) (ht : tFirst t1 t2 tc te σ H Q) :
    Seg (model X.prog X.w) A R Y 1 s₀ c ((execs [st1, st2, .While test (.Expr (.Yield (some e) yp) ypos :: rest) [] wpos] X.env).wrap K J id id) [] s := by
  have hint : interactive X.env = false := I.quiet
  refine seg_execs_cons ?_
  refine seg_wrap ?_
  rw [ov]
  refine wpAny_mono (h1.run [] s σ H _ I ht) (fun f s1 hs => ?_) fun x s' hx => (show False from hx).elim
  cases f with
  | brk => obtain ⟨_, _, _, q⟩ := hs; exact (show False from q).elim
  | cont => obtain ⟨_, _, _, q⟩ := hs; exact (show False from q).elim
  | ret u => obtain ⟨_, _, _, _, _, q⟩ := hs; exact (show False from q).elim
  | next =>
    obtain ⟨σ1, H1, I1, q1⟩ := hs
    refine seg_execs_cons ?_
    refine seg_wrap ?_
    rw [ov]
    refine wpAny_mono (h2.run [] s1 σ1 H1 _ I1 q1) (fun f s2 hs => ?_) fun x s' hx => (show False from hx).elim
    cases f with
    | brk => obtain ⟨_, _, _, q⟩ := hs; exact (show False from q).elim
    | cont => obtain ⟨_, _, _, q⟩ := hs; exact (show False from q).elim
    | ret u => obtain ⟨_, _, _, _, _, q⟩ := hs; exact (show False from q).elim
    | next =>
      obtain ⟨σ2, H2, I2, q2⟩ := hs
      refine seg_execs_cons ?_
      refine seg_While fun p => ?_
      refine seg_whileLoop ?_
      rw [over_loop rfl rfl, ov]
      refine wpAny_mono (hc.run [] s2 σ2 H2 _ I2 q2) (fun b s3 hb => ?_) fun x s' hx => (show False from hx).elim
      obtain ⟨H3, I3, q3⟩ := hb
      cases b with
      | true =>
        rw [if_pos rfl]
        rw [if_pos rfl] at q3
        refine seg_execs_cons ?_
        refine seg_Expr_Yield (n := 0) (by rfl) rfl (by rfl) ?_ hco hint
        rw [over_loop rfl rfl, ov]
        refine wpAny_mono (he.run [] s3 σ2 H3 _ I3 q3) (fun v s4 hv => ?_) fun x s' hx => (show False from hx).elim
        obtain ⟨x, H4, I4, rv, q4⟩ := hv
        intro kap _
        exact hY v _ s4 kap ⟨x, σ2, H4, I4, rv, q4⟩
      | false =>
        rw [if_neg Bool.false_ne_true]
        rw [if_neg Bool.false_ne_true] at q3
        refine seg_execs_nil ?_
        refine seg_leaf (.ok .next) ?_
        exact hK s3 ⟨σ2, H3, I3, q3⟩
end K32G

namespace K32G
open PySem PySem.Spec PyProof.Rows
open GenW L2

/-- the body of such a def: two statements, then a while that yields at once -/
abbrev body1 (st1 st2 : Stmt) (test e : Expr) (rest : List Stmt) (yp ypos wpos : Pos) : List Stmt := [st1, st2, .While test (.Expr (.Yield (some e) yp) ypos :: rest) [] wpos]
/-- THE RULE: a generator def of that shape, its first item -/
theorem gfn1_of {P : Program} {w : World} {K : PySem.W.Frag} {mg : Str → Option Value} {base : Heap} {k : Nat} {f : Addr} {name qual : Str} {params : Arguments} {scope : Scope} {dV kV doc pm cdv ct oc : Value} {an od : Option Addr}
    {osl : Array (Option Value)} {N ps : List Str} {sp : SpF} {st1 st2 : Stmt} {test e : Expr} {rest : List Stmt} {yp ypos wpos : Pos}
    (lk : K.lookup f = some ⟨oc, od, .func (PySem.W.fnOf name qual params (body1 st1 st2 test e rest yp ypos wpos) scope dV kV doc pm an cdv ct), osl⟩) (hcd : PySem.W.codeIn K cdv qual = true) (S : GScope N ps scope)
    (len : ∀ vs H Q, sp vs H Q → vs.length = ps.length)
    (hbody : ∀ (A : Around) (outer : List Env) (s : Shared) (H : Hp) (vs : List V) (Q : Option V → Hp → Prop), Room k (A.deeper (envOfC qual scope s.heap.objs.size f cdv)) → sp vs H Q →
      ∃ t1 t2 tc te, PS (gcxOf P w K mg base N qual scope f cdv A outer s H E0 []).nox st1 t1 ∧ PS (gcxOf P w K mg base N qual scope f cdv A outer s H E0 []).nox st2 t2 ∧ PT (gcxOf P w K mg base N qual scope f cdv A outer s H E0 []).nox test tc ∧
        PE (gcxOf P w K mg base N qual scope f cdv A outer s H E0 []).nox e te ∧ tFirst t1 t2 tc te (start N vs) H Q) :
    GFn1 P w K mg base (k + 1) f (PySem.W.fnOf name qual params (body1 st1 st2 test e rest yp ypos wpos) scope dV kV doc pm an cdv ct) ps sp := by
  refine ⟨len, fun Ar outs st Hh ar us vs want room en hbnd rel hsp => ?_⟩
  -- what stands of the module at the call
  have still : ∀ b o, base.get? b = some o → st.heap.get? b = some o := fun b o q => (en.bs b o q).1
  have mod_in := en.mod.kin.keeps still
  refine codeAny_call_generator room.depth (mod_in _ _ lk) rfl S.co S.gen rfl (PySem.W.codeRec_of mod_in hcd)
    (hbnd _ _ _ _ (wpAny_newFunctionEnv_cells S.kind (fun y hy => (S.par y.1 (List.of_mem_zip (show (y.1, y.2) ∈ ps.zip us from hy)).1).imp id fun q => ⟨q, PySem.W.cellsFrom_some _ _ _ (.inl q)⟩) fun env he s1 call => ?_))
  subst he
  have keep1 := call.toInCall.keep
  have quiet1 : s1.heap.NoLimit := (en.mod.nolimit.keeps still).keeps keep1
  refine ⟨quiet1, ?_⟩
  -- the state behind the frame's making: the same world, the same generators
  have same1 : s1.os = st.os ∧ s1.gens = st.gens := by
    obtain ⟨_, _, q, _⟩ := call.done
    rw [q]
    exact ⟨rfl, rfl⟩
  -- the generator's object is any with its number
  suffices all : ∀ (go : Obj) (tk2 : Nat), (∃ nm qn, go.cls = .type "generator" ∧ go.data = .fields #[.int s1.gens.size 0, nm, qn] ∧ go.slots = #[]) → (s1.heap.push go).get? s1.heap.objs.size = some go →
      GMade1 P w (k + 1) outs Hh st want (.ref s1.heap.objs.size) { s1 with gens := s1.gens.push (.fresh (.func (body1 st1 st2 test e rest yp ypos wpos) (envOfC qual scope st.heap.objs.size f cdv))), toks := tk2, heap := s1.heap.push go } from
    all _ _ ⟨_, _, rfl, rfl, rfl⟩ (Heap.get?_push_size _ rfl)
  rintro go tk2 ⟨nm, qn, g1, g2, g3⟩ there
  refine ⟨s1.heap.objs.size, s1.gens.size, _, rfl, ⟨go, nm, qn, there, g1, g2, g3⟩, Array.getElem?_push_size .., same1.1, AllBare.push (same1.2.symm ▸ en.bare) rfl, quiet1.keeps (fun b o q => Heap.get?_push_of_some _ q), fun b o q => Heap.get?_push_of_some _ (keep1 b o q), ?_⟩
  -- it is woken
  intro Aw s2 roomW frW keep2 osW bareW
  obtain ⟨t1, t2, tc, te, q1, q2, q3, q4, told⟩ := hbody Aw outs st Hh vs want (roomW.deeper _) hsp
  have J1 : Inv (gcxOf P w K mg base N qual scope f cdv Aw outs st Hh E0 []) [] (start N vs) Hh s1 := inv_startG S roomW.hd ⟨frW, en.mod, en.bs, en.bsz, en.funs, en.frf, en.hok, en.bare⟩ (len _ _ _ hsp) rel call
  have keepW : ∀ b o, s1.heap.get? b = some o → s2.heap.get? b = some o := fun b o q => keep2 b o (Heap.get?_push_of_some go q)
  have J2 := J1.call' (ch := []) (s' := s2) (osW.trans same1.1.symm) (Un.kept keepW) (J1.hok.kept keepW) bareW (fun b q => absurd q List.not_mem_nil)
  refine seg_func (seg_first (X := gcxOf P w K mg base N qual scope f cdv Aw outs st Hh E0 []) over_func q1 q2 q3 q4 (fun s' hs => ?_) (fun v s0 s' kap hs => ?_) S.co (J2.wish _) told)
  · obtain ⟨σ', H', J, hQ⟩ := hs
    exact seg_end (.ok (.ret .none)) (.inl ⟨.inl rfl, H', J.os, J.bare, J.base, J.hok, hQ⟩)
  · obtain ⟨x, σ', H', J, rv, hQ⟩ := hs
    exact ⟨x, H', rv, J.os, J.bare, J.base, J.hok, hQ⟩

/-- an expression whose value is a generator that has not begun: what it will hand out first -/
abbrev TGen1 := L2.St → Hp → (Option V → Hp → Prop) → Prop
structure PGen1 (X : Cx) (k : Nat) (e : Expr) (tg : TGen1) : Prop where
  run : ∀ (pins : List (Addr × Obj)) (s : Shared) (σ : L2.St) (H : Hp) (cont : Option V → Hp → Prop), Inv X pins σ H s → tg σ H cont → wpAny (model X.prog X.w) X.A (eval e X.env)
    (fun u s' => ∃ H1 sc, Inv X pins σ H1 sc ∧ GMade1 X.prog X.w k X.stack H1 sc cont u s') X.xe s
section
variable {X : Cx} {k : Nat} {f C : Addr} {fd : FuncData} {ps : List Str} {sp : SpF} {m : Str} {pos pos' apos : Pos} {o : Expr} {ta : TE}
theorem run_gfn1 {pins : List (Addr × Obj)} {σ : L2.St} {H : Hp} {s : Shared} {us : List Value} {vs : List V} {cont : Option V → Hp → Prop} {E1 : Value → Shared → Prop} (F : GFn1 X.prog X.w X.K X.mg X.base k f fd ps sp) (hr : Room k X.A) (hb : Binds X.K fd ps [])
    (I : Inv X pins σ H s) (r : Vals vs us) (h : sp vs H cont) :
    wpAny (model X.prog X.w) X.A (call (.ref f) us) (fun u s' => ∃ H1 sc, Inv X pins σ H1 sc ∧ GMade1 X.prog X.w k X.stack H1 sc cont u s') E1 s := by
  have many : us.length = ps.length := r.length.symm.trans (F.len _ _ _ h)
  have bnd := hb s us I.kIn (by rw [List.append_nil]; exact many)
  rw [List.append_nil] at bnd
  refine wpAny_call (codeAny_mono (F.run X.A X.stack s H ⟨us, []⟩ us vs cont hr I.env0 bnd r h) fun res s' hq => ?_)
  match res, hq with
  | .ok (.ret u), hq => exact ⟨H, s, I, hq⟩
/-- the first item of o.m(e, ..), m a generator method of C -/
def tMethG1 (C : Addr) (m : Str) (sp : SpF) (ta : TE) (t : TA) : TGen1 := fun σ H cont => ta σ H fun x H1 => ∃ a dx fs, x = .ref a ∧ H1 a = some (.ins C dx fs) ∧ fs.lookup m = none ∧ t σ H1 fun vs H2 => sp (x :: vs) H2 cont
theorem pgen1_meth {pl : Sem Bool} {e : Expr} {es : List Expr} {t : TA} (he : PE X o ta) (c : Cls X.K C) (hm : Meth X.K C m f) (F : GFn1 X.prog X.w X.K X.mg X.base k f fd ps sp) (hr : Room k X.A) (hb : Binds X.K fd ps []) (ha : PA X (e :: es) t)
    (h1 : starEach (e :: es) X.env = (false, eval e X.env) :: starEach es X.env := by rfl) (h2 : (backTo pos' (starEach es X.env)).any (·.1) = false := by rfl)
    (h3 : eval (.Call (.Attribute o m apos) (e :: es) [] pos') X.env = (eval o X.env >>= fun ov => standAt apos.atName >>= fun _ => holding [ov] (getMethod ov m pl) >>= fun q => callWith pos' q.1 q.2 (backTo pos' (starEach (e :: es) X.env)) (backToKw pos' (keywordEach [] X.env))) := by rfl) :
    PGen1 X k (.Call (.Attribute o m apos) (e :: es) [] pos') (tMethG1 C m sp ta t) := ⟨fun pins s σ H cont I told =>
  PySem.W.methodCall_KW (pl := pl) (thn (he.run pins s σ H _ I told) fun u s1 ⟨x, H1, I1, rx, a, dx, fs, ex, ea, l, q⟩ => by
    subst ex
    cases rx
    exact getmeth_ok I1 ea c hm l (PySem.W.callWith_K (first := [.ref a]) (h₀ := X.base) I.ok.mod.kin hm.kp
      (thn (ha.run pos' pins s1 σ H1 _ I1 q) fun us s2 ⟨vs, H2, I2, r, q2⟩ => ⟨I2.kIn, run_gfn1 (us := .ref a :: us) (vs := .ref a :: vs) F hr hb I2 (.cons rfl r) q2⟩) h1 h2)) h3⟩

/-- for x in g: body, the body returning at the first item -/
def tFor1 (i : Nat) (tg : TGen1) (tb : TS) : TS := fun D σ H => tg σ H fun o H1 => match o with
  | some v => tb { D with nx := fun _ _ => False, ct := fun _ _ => False, bk := D.nx } (σ.set i (some v)) H1
  | none => D.nx σ H1
theorem ps_for1 {i : Nat} {x : Str} {px pos : Pos} {iter : Expr} {body : List Stmt} {tg : TGen1} {tb : TS} (hp : PassesOwn (model X.prog X.w) X.A X.env X.xe) (hc : X.calm = true) (hi : PGen1 X k iter tg) (hr : Room (k + 1) X.A)
    (hN : X.N.Nodup) (hx : X.N[i]? = some x) (hl : Loc X.env.scope x) (hb : PSs X body tb) (hf : X.fn x = true ∨ X.env.scope.names.lookup x = some .local := by first | exact .inl rfl | exact .inr rfl | assumption)
    (hs : ∀ x, foldedSetIterable iter X.env x = pure x := by intro _; rfl) : PS X (.For (.Name x px) iter body [] pos) (tFor1 i tg tb) := by
  refine ⟨fun pins s σ H D I told => ?_⟩
  refine wpAny_For (thn (hi.run pins s σ H _ I told) fun v s1 made => ?_) hs
  obtain ⟨H1, sc, I1, a, g, c, rfl, hg, hgs, hos, hba, hlim, hkp, wake⟩ := made
  refine wpAny_pyIter_gen hg (codeAny_forLoop_any (fun n s' => s' = s1) ?_ 0 rfl)
  rintro n s2 rfl
  have hgo : GenState.Goes (model X.prog X.w) X.A.in1 (R1 X.prog X.w X.stack H1 sc _) (Y1 X.prog X.w X.stack H1 sc _) 1 (.fresh c) (.send .none) (s2.setGen g .running) :=
    ⟨rfl, wake X.A.in1 (s2.setGen g .running) hr.in1 I1.ok.frames (fun b o q => q) hos (allBare_setGen hba rfl)⟩
  refine wpAny_passesOwn hp (next_genG (F := fun _ _ s' => FinR X.prog X.w X.stack H1 sc _ s') (Er := fun _ _ => False) (I.ok.hd hc) hlim hr.depth hg hgs hgo (fun v s3 gs' hbare hv => ?_) (fun s3 hp' h' hk => ?_) fun e s3 he => he.elim)
  · obtain ⟨x0, H2, rv, os2, ba2, un2, hok2, hq⟩ := hv
    have I2 : Inv X pins σ H2 (s3.setGen g gs') := I1.call' (ch := []) os2 un2 hok2 (allBare_setGen ba2 hbare) fun b q => absurd q List.not_mem_nil
    show wpAny _ _ (letOwnedTupleGo (.Name x px) (.ref a) v) _ _ _
    unfold letOwnedTupleGo
    refine wpAny_pure ?_
    refine wpAny_assign_Name (store_ok I2 hN hx hl rv (fun s4 I4 => wpAny_passesOwn hp (thn (hb.run pins s4 _ H2 _ I4 hq) fun fl s5 q5 => ?_)) hf)
    cases fl with
    | next => obtain ⟨_, _, _, no⟩ := q5; exact (show False from no).elim
    | cont => obtain ⟨_, _, _, no⟩ := q5; exact (show False from no).elim
    | brk => exact q5
    | ret u => exact q5
  · obtain ⟨H2, os2, ba2, un2, hok2, hq⟩ := hp'
    exact wpAny_execs_nil ⟨σ, H2, I1.call' (ch := []) (s' := { s3.setGen g .finished with heap := h' }) os2 (un2.trans (Un.kept hk)) (hok2.kept hk) (allBare_setGen ba2 rfl) (fun b q => absurd q List.not_mem_nil), hq⟩
end
end K32G

/-! in, not in by an own __contains__; == by an own __eq__, both answers. -/
namespace K32O
open PySem PySem.Spec PyProof.Rows L2
def rInO (C : Addr) (sp : Sp) (E : XK) (neg : Bool) : R2 := fun x y H Q => ∃ p dx fs, y = .ref p ∧ H p = some (.ins C dx fs) ∧ sp [.ref p, x] H (fun v H' => ∃ b, v = .bl b ∧ Q (.bl (if neg then !b else b)) H') E
def rEqO (C : Addr) (sp : Sp) (E : XK) : R2 := fun x y H Q => ∃ a b dx dy fs gs, x = .ref a ∧ y = .ref b ∧ H a = some (.ins C dx fs) ∧ H b = some (.ins C dy gs) ∧ sp [.ref a, .ref b] H (fun v H' => ∃ k, v = .bl k ∧ Q (.bl k) H') E
section
variable {X : Cx} {CX : CXT} {k : Nat} {C f : Addr} {fd : FuncData} {ps : List Str} {sp : Sp} {E : XK}
theorem op_inO (F : FnOk X.prog X.w X.K X.mg X.base CX k f fd ps sp) (hs : PySem.W.findIn X.K (.ref C) "__contains__" = some (some (.ref f))) (hf : PySem.W.isFn X.K (.ref f) = true) (hr : Room k X.A) (hb : Binds X.K fd ps []) (hx : Passes CX X E) :
    OpR X (compareOp .In) (rInO C sp E false) := by
  intro pins s σ H x y v u Q I rx ry h
  obtain ⟨p, dx, fs, rfl, hp, q⟩ := h
  cases ry
  obtain ⟨mA, J, _⟩ := ins_get I.hok hp
  obtain ⟨od, J, _⟩ := J.look
  obtain ⟨m, hF⟩ := I.fr
  refine PySem.W.in_K hF I.ok.mod.kin J hs hf ?_
  refine thn (run_fn (us := [.ref p, v]) (vs := [.ref p, x]) F hr hb .nil hx I (.cons rfl (.cons rx .nil)) q) fun w s' ⟨z, H', I', rz, b, ez, q'⟩ => ?_
  subst ez
  cases rz
  exact wpAny_truthy_bool ⟨.bl b, H', I', rfl, q'⟩
theorem op_notinO (F : FnOk X.prog X.w X.K X.mg X.base CX k f fd ps sp) (hs : PySem.W.findIn X.K (.ref C) "__contains__" = some (some (.ref f))) (hf : PySem.W.isFn X.K (.ref f) = true) (hr : Room k X.A) (hb : Binds X.K fd ps []) (hx : Passes CX X E) :
    OpR X (compareOp .NotIn) (rInO C sp E true) := by
  intro pins s σ H x y v u Q I rx ry h
  obtain ⟨p, dx, fs, rfl, hp, q⟩ := h
  cases ry
  obtain ⟨mA, J, _⟩ := ins_get I.hok hp
  obtain ⟨od, J, _⟩ := J.look
  obtain ⟨m, hF⟩ := I.fr
  refine PySem.W.notIn_K hF I.ok.mod.kin J hs hf ?_
  refine thn (run_fn (us := [.ref p, v]) (vs := [.ref p, x]) F hr hb .nil hx I (.cons rfl (.cons rx .nil)) q) fun w s' ⟨z, H', I', rz, b, ez, q'⟩ => ?_
  subst ez
  cases rz
  exact wpAny_truthy_bool ⟨.bl (!b), H', I', rfl, q'⟩
theorem op_eqO (F : FnOk X.prog X.w X.K X.mg X.base CX k f fd ps sp) (hs : PySem.W.findIn X.K (.ref C) "__eq__" = some (some (.ref f))) (hf : PySem.W.isFn X.K (.ref f) = true) (hr : Room k X.A) (hb : Binds X.K fd ps []) (hx : Passes CX X E) :
    OpR X (compareOp .Eq) (rEqO C sp E) := by
  intro pins s σ H x y v u Q I rx ry h
  obtain ⟨a, b, dx, dy, fs, gs, rfl, rfl, ha, hb', q⟩ := h
  cases rx
  cases ry
  obtain ⟨mA, J, _⟩ := ins_get I.hok ha
  obtain ⟨mB, J', _⟩ := ins_get I.hok hb'
  obtain ⟨od, J, _⟩ := J.look
  obtain ⟨od', J', _⟩ := J'.look
  obtain ⟨m, hF⟩ := I.fr
  refine PySem.W.cmp_K (op := .Eq) (tb := .ref C) hr.units0 hF I.ok.mod.kin J J'.type (by simp [PySem.W.notFirst]) hs hf ?_
  refine thn (run_fn (us := [.ref a, .ref b]) (vs := [.ref a, .ref b]) F hr hb .nil hx I (.cons rfl (.cons rfl .nil)) q) fun w s' ⟨z, H', I', rz, b, ez, q'⟩ => ?_
  subst ez
  cases rz
  exact ⟨.bl b, H', I', rfl, q'⟩
end
end K32O

/-! The text by places, the facts of the top, the data, the promises. -/
namespace K32
open PySem L2 K32G K32O
def top (i : Nat) : Stmt := PySem.Challenge.pw_howmanyeach_k32_whole_tables_far_away.main.body.getD i (.Pass ⟨0, 0, 0, 0⟩)
def mth (j : Nat) : Stmt := inClass (top 16) j
/-- such a def is there -/
def DefK (K : PySem.W.Frag) (x qual : Str) (st : Stmt) (f : Addr) : Prop := ∃ fd, Fun K x qual st f fd
structure GDef (K : PySem.W.Frag) (mg : Str → Option Value) (x : Str) (st : Stmt) (f : Addr) : Prop where
  df : DefK K x x st f
  mg : mg x = some (.ref f)
structure MDef (K : PySem.W.Frag) (C : Addr) (x qual : Str) (st : Stmt) (f : Addr) : Prop where
  df : DefK K x qual st f
  me : Meth K C x f
structure PDef (K : PySem.W.Frag) (C : Addr) (x qual : Str) (st : Stmt) (p g : Addr) : Prop where
  df : DefK K x qual st g
  pr : PropOf K C x p g
structure AD where
  (tb isI isC isE wC isU : Addr)
  (ini siz wan fst nrw deg par nat nof dgr ptn eac cal con eqq : Addr)
  (gNe gFa gTo pNe pFa pTo : Addr)
  (pot drw pic ahe fou fip fdg nur ror szi tot tar law : Addr)
structure Facts (K : PySem.W.Frag) (mg : Str → Option Value) (d : AD) : Prop where
  cl : Cls K d.tb
  nNe : NoAttr K d.tb "own_near"
  nFa : NoAttr K d.tb "own_far"
  nTo : NoAttr K d.tb "own_total"
  nMa : NoAttr K d.tb "own_many"
  nMo : NoAttr K d.tb "own_more"
  mkT : Mk K d.tb d.ini
  mgT : mg "Table" = some (.ref d.tb)
  ca : StX.CallO K d.tb d.cal
  ha : PySem.W.findIn K (.ref d.tb) "__class__" = some (some (.builtin "object.__class__"))
  hn : PySem.W.specialIn K (.builtin "object.__class__") "__get__" = some (some (.builtin "getset_descriptor.__get__"))
  htk : PySem.W.takesIn K (.builtin "object.__class__") = some true
  hm : PySem.W.mroIn K d.tb (.type "object") = some true
  isI : GDef K mg "is_integer" (top 10) d.isI
  isC : GDef K mg "is_count" (top 11) d.isC
  isE : GDef K mg "is_end" (top 12) d.isE
  wC : GDef K mg "want_count" (top 13) d.wC
  isU : GDef K mg "is_count_under" (top 15) d.isU
  ini : DefK K "__init__" "Table.__init__" (mth 0) d.ini
  pNe : PDef K d.tb "near" "Table.near" (mth 1) d.pNe d.gNe
  pFa : PDef K d.tb "far" "Table.far" (mth 2) d.pFa d.gFa
  pTo : PDef K d.tb "total" "Table.total" (mth 3) d.pTo d.gTo
  siz : MDef K d.tb "size_at" "Table.size_at" (mth 4) d.siz
  wan : MDef K d.tb "want_row" "Table.want_row" (mth 5) d.wan
  fst : MDef K d.tb "first_number" "Table.first_number" (mth 6) d.fst
  nrw : MDef K d.tb "near_row" "Table.near_row" (mth 7) d.nrw
  deg : MDef K d.tb "degree_at" "Table.degree_at" (mth 8) d.deg
  par : MDef K d.tb "partner_at" "Table.partner_at" (mth 9) d.par
  nat : MDef K d.tb "number_at" "Table.number_at" (mth 10) d.nat
  nof : MDef K d.tb "number_of" "Table.number_of" (mth 11) d.nof
  dgr : MDef K d.tb "degree" "Table.degree" (mth 12) d.dgr
  ptn : MDef K d.tb "partner" "Table.partner" (mth 13) d.ptn
  eac : MDef K d.tb "each_partner" "Table.each_partner" (mth 14) d.eac
  cal : MDef K d.tb "__call__" "Table.__call__" (mth 15) d.cal
  con : MDef K d.tb "__contains__" "Table.__contains__" (mth 16) d.con
  eqq : MDef K d.tb "__eq__" "Table.__eq__" (mth 17) d.eqq
  pot : GDef K mg "_law_pot_of" (top 18) d.pot
  drw : GDef K mg "_law_draw" (top 19) d.drw
  pic : GDef K mg "_law_pick" (top 20) d.pic
  ahe : GDef K mg "_law_ahead" (top 21) d.ahe
  fou : GDef K mg "_law_found_row" (top 22) d.fou
  fip : GDef K mg "_law_first_partner" (top 23) d.fip
  fdg : GDef K mg "_law_far_degree" (top 24) d.fdg
  nur : GDef K mg "_law_number_right" (top 25) d.nur
  ror : GDef K mg "_law_rows_right" (top 26) d.ror
  szi : GDef K mg "_law_sizes_in" (top 27) d.szi
  tot : GDef K mg "_law_total_in" (top 28) d.tot
  tar : GDef K mg "_law_table_right" (top 29) d.tar
  law : GDef K mg "law" (top 30) d.law
  near : ∃ t, mg "NEAR" = some (.str "near" t)
  far : ∃ t, mg "FAR" = some (.str "far" t)
  bIsi : mg "isinstance" = none
  bInt : mg "int" = none
  bBool : mg "bool" = none
  bStr : mg "str" = none
  bTup : mg "tuple" = none
  bLen : mg "len" = none
  bMin : mg "min" = none
  bMax : mg "max" = none
  bAbs : mg "abs" = none
  bDiv : mg "divmod" = none
  bList : mg "list" = none
  bRange : mg "range" = none
  bAll : mg "all" = none
/-! ### the data -/
/-- the attributes of a table -/
def fl (a b e D E : Int) : List (Str × V) := putF "own_more" (.int E) (putF "own_many" (.int D) (putF "own_total" (.int e) (putF "own_far" (.int b) (putF "own_near" (.int a) []))))
def own : List Str := ["own_near", "own_far", "own_total", "own_many", "own_more"]
theorem fl_eq (a b e D E : Int) : fl a b e D E = ([(("own_near" : Str), V.int a), (("own_far" : Str), V.int b), (("own_total" : Str), V.int e), (("own_many" : Str), V.int D), (("own_more" : Str), V.int E)] : List (Str × V)) := by
  have k1 : ¬ (("own_near" : Str) = "own_far") := by decide +kernel
  have k2 : ¬ (("own_near" : Str) = "own_total") := by decide +kernel
  have k3 : ¬ (("own_near" : Str) = "own_many") := by decide +kernel
  have k4 : ¬ (("own_near" : Str) = "own_more") := by decide +kernel
  have k5 : ¬ (("own_far" : Str) = "own_total") := by decide +kernel
  have k6 : ¬ (("own_far" : Str) = "own_many") := by decide +kernel
  have k7 : ¬ (("own_far" : Str) = "own_more") := by decide +kernel
  have k8 : ¬ (("own_total" : Str) = "own_many") := by decide +kernel
  have k9 : ¬ (("own_total" : Str) = "own_more") := by decide +kernel
  have k10 : ¬ (("own_many" : Str) = "own_more") := by decide +kernel
  unfold fl
  simp only [putF, if_neg k1, if_neg k2, if_neg k3, if_neg k4, if_neg k5, if_neg k6, if_neg k7, if_neg k8, if_neg k9, if_neg k10]
section
variable {a b e D E : Int}
theorem fl_near : (fl a b e D E).lookup ("own_near" : Str) = some (V.int a) := by
  unfold fl
  rw [lookup_putF, if_neg (by decide +kernel), lookup_putF, if_neg (by decide +kernel), lookup_putF, if_neg (by decide +kernel), lookup_putF, if_neg (by decide +kernel), lookup_putF, if_pos rfl]
theorem fl_far : (fl a b e D E).lookup ("own_far" : Str) = some (V.int b) := by
  unfold fl
  rw [lookup_putF, if_neg (by decide +kernel), lookup_putF, if_neg (by decide +kernel), lookup_putF, if_neg (by decide +kernel), lookup_putF, if_pos rfl]
theorem fl_total : (fl a b e D E).lookup ("own_total" : Str) = some (V.int e) := by
  unfold fl
  rw [lookup_putF, if_neg (by decide +kernel), lookup_putF, if_neg (by decide +kernel), lookup_putF, if_pos rfl]
theorem fl_many : (fl a b e D E).lookup ("own_many" : Str) = some (V.int D) := by
  unfold fl
  rw [lookup_putF, if_neg (by decide +kernel), lookup_putF, if_pos rfl]
theorem fl_more : (fl a b e D E).lookup ("own_more" : Str) = some (V.int E) := by
  unfold fl
  rw [lookup_putF, if_pos rfl]
theorem fl_no {m : Str} (h : own.contains m = false) : (fl a b e D E).lookup m = none := by
  have h' : ∀ x ∈ own, ¬ m = x := fun x hx q => by
    rw [q] at h
    have : own.contains x = true := List.contains_iff_mem.mpr hx
    rw [this] at h
    cases h
  unfold fl
  rw [lookup_putF, if_neg (h' _ (by simp [own])), lookup_putF, if_neg (h' _ (by simp [own])), lookup_putF, if_neg (h' _ (by simp [own])), lookup_putF, if_neg (h' _ (by simp [own])), lookup_putF, if_neg (h' _ (by simp [own]))]
  rfl
end
/-- a table stands at p -/
def Bd (C : Addr) (H : Hp) (p : Addr) (a b e D E : Int) : Prop := ∃ dx, H p = some (.ins C dx (fl a b e D E))
theorem Bd.same {C : Addr} {H H' : Hp} {p : Addr} {a b e D E : Int} (h : Bd C H p a b e D E) (s : Same H H') : Bd C H' p a b e D E := let ⟨dx, q⟩ := h; ⟨dx, s _ _ q⟩
/-- the numbers of a table, not too great -/
structure Tz (a b e D E : Int) : Prop where
  t : Tb a b e D E
  za : a < 2 ^ 210
  zb : b < 2 ^ 210
  ze : e < 2 ^ 210
theorem abs_lt {x : Int} {n : Nat} (h0 : 0 ≤ x) (h : x < 2 ^ n) : x.natAbs < 2 ^ n := by
  have e : ((x.natAbs : Nat) : Int) = x := Int.natAbs_of_nonneg h0
  have h2 : ((x.natAbs : Nat) : Int) < ((2 ^ n : Nat) : Int) := by
    rw [e, Int.natCast_pow]
    exact h
  exact Int.ofNat_lt.mp h2
theorem pow_le {m n : Nat} (h : m ≤ n) : (2 : Int) ^ m ≤ 2 ^ n := by
  have h1 : (2 : Nat) ^ m ≤ 2 ^ n := Nat.pow_le_pow_right (by decide) h
  have h2 : ((2 ^ m : Nat) : Int) ≤ ((2 ^ n : Nat) : Int) := Int.ofNat_le.mpr h1
  rw [Int.natCast_pow, Int.natCast_pow] at h2
  exact h2
/-- a product of two numbers below 2 ^ 500 -/
theorem zmul {x y : Int} (h0 : 0 ≤ x) (h1 : x < 2 ^ 500) (k0 : 0 ≤ y) (k1 : y < 2 ^ 500) : CMulW x y := wide_mul (abs_lt h0 h1) (abs_lt k0 k1) (by decide) (by decide) (by decide)
theorem zdiv {x y : Int} (k0 : 0 < y) (k1 : y < 2 ^ 500) : CDivW x y := wide_div k0 (abs_lt (Int.le_of_lt k0) k1) (by decide) (by decide)
theorem big {x : Int} (h : x < 2 ^ 210) : x < 2 ^ 500 := Int.lt_of_lt_of_le h (pow_le (by decide))
/-- which end -/
def sd : Bool → Str
  | true => "near"
  | false => "far"
def sz (t : Bool) (a b : Int) : Int := if t then a else b
/-- partners of a row of an end -/
def gd (t : Bool) (b e D E i : Int) : Int := if t then dg D E i else fd b e i
/-- the partner at a place -/
def pt (t : Bool) (b D E i k : Int) : Int := if t then (S D E i + k) % b else NR D E (i + k * b)
/-- the number of the pair of two rows -/
def due (b D E i j : Int) : V := if (j - S D E i) % b < dg D E i then .int (S D E i + (j - S D E i) % b) else .non
end K32

namespace K32
open PySem L2
theorem facts_mk {K : PySem.W.Frag} {h : Heap} {mg : Str → Option Value} (X : K.In h) (G : h.Ns mainGlobals mg) {C fisI fisC fisE fwC fisU fpot fdrw fpic fahe ffou ffip ffdg fnur fror fszi ftot ftar flaw fini fsiz fwan ffst fnrw fdeg fpar fnat fnof fdgr fptn feac fcal fcon feqq pNe fgNe pFa fgFa pTo fgTo : Addr}
    {odisI anisI : Option Addr} {slisI : Array (Option Value)} {ocisI kVisI dcisI pmisI cdisI ctisI : Value} {odisC anisC : Option Addr} {slisC : Array (Option Value)} {ocisC kVisC dcisC pmisC cdisC ctisC : Value} {odisE anisE : Option Addr} {slisE : Array (Option Value)} {ocisE kVisE dcisE pmisE cdisE ctisE : Value} {odwC anwC : Option Addr} {slwC : Array (Option Value)} {ocwC kVwC dcwC pmwC cdwC ctwC : Value} {odisU anisU : Option Addr} {slisU : Array (Option Value)} {ocisU kVisU dcisU pmisU cdisU ctisU : Value} {odpot anpot : Option Addr} {slpot : Array (Option Value)} {ocpot kVpot dcpot pmpot cdpot ctpot : Value} {oddrw andrw : Option Addr} {sldrw : Array (Option Value)} {ocdrw kVdrw dcdrw pmdrw cddrw ctdrw : Value} {odpic anpic : Option Addr} {slpic : Array (Option Value)} {ocpic kVpic dcpic pmpic cdpic ctpic : Value} {odahe anahe : Option Addr} {slahe : Array (Option Value)} {ocahe kVahe dcahe pmahe cdahe ctahe : Value} {odfou anfou : Option Addr} {slfou : Array (Option Value)} {ocfou kVfou dcfou pmfou cdfou ctfou : Value} {odfip anfip : Option Addr} {slfip : Array (Option Value)} {ocfip kVfip dcfip pmfip cdfip ctfip : Value} {odfdg anfdg : Option Addr} {slfdg : Array (Option Value)} {ocfdg kVfdg dcfdg pmfdg cdfdg ctfdg : Value} {odnur annur : Option Addr} {slnur : Array (Option Value)} {ocnur kVnur dcnur pmnur cdnur ctnur : Value} {odror anror : Option Addr} {slror : Array (Option Value)} {ocror kVror dcror pmror cdror ctror : Value} {odszi anszi : Option Addr} {slszi : Array (Option Value)} {ocszi kVszi dcszi pmszi cdszi ctszi : Value} {odtot antot : Option Addr} {sltot : Array (Option Value)} {octot kVtot dctot pmtot cdtot cttot : Value} {odtar antar : Option Addr} {sltar : Array (Option Value)} {octar kVtar dctar pmtar cdtar cttar : Value} {odlaw anlaw : Option Addr} {sllaw : Array (Option Value)} {oclaw kVlaw dclaw pmlaw cdlaw ctlaw : Value} {odini anini : Option Addr} {slini : Array (Option Value)} {ocini kVini dcini pmini cdini ctini : Value} {odsiz ansiz : Option Addr} {slsiz : Array (Option Value)} {ocsiz kVsiz dcsiz pmsiz cdsiz ctsiz : Value} {odwan anwan : Option Addr} {slwan : Array (Option Value)} {ocwan kVwan dcwan pmwan cdwan ctwan : Value} {odfst anfst : Option Addr} {slfst : Array (Option Value)} {ocfst kVfst dcfst pmfst cdfst ctfst : Value} {odnrw annrw : Option Addr} {slnrw : Array (Option Value)} {ocnrw kVnrw dcnrw pmnrw cdnrw ctnrw : Value} {oddeg andeg : Option Addr} {sldeg : Array (Option Value)} {ocdeg kVdeg dcdeg pmdeg cddeg ctdeg : Value} {odpar anpar : Option Addr} {slpar : Array (Option Value)} {ocpar kVpar dcpar pmpar cdpar ctpar : Value} {odnat annat : Option Addr} {slnat : Array (Option Value)} {ocnat kVnat dcnat pmnat cdnat ctnat : Value} {odnof annof : Option Addr} {slnof : Array (Option Value)} {ocnof kVnof dcnof pmnof cdnof ctnof : Value} {oddgr andgr : Option Addr} {sldgr : Array (Option Value)} {ocdgr kVdgr dcdgr pmdgr cddgr ctdgr : Value} {odptn anptn : Option Addr} {slptn : Array (Option Value)} {ocptn kVptn dcptn pmptn cdptn ctptn : Value} {odeac aneac : Option Addr} {sleac : Array (Option Value)} {oceac kVeac dceac pmeac cdeac cteac : Value} {odcal ancal : Option Addr} {slcal : Array (Option Value)} {occal kVcal dccal pmcal cdcal ctcal : Value} {odcon ancon : Option Addr} {slcon : Array (Option Value)} {occon kVcon dccon pmcon cdcon ctcon : Value} {odeqq aneqq : Option Addr} {sleqq : Array (Option Value)} {oceqq kVeqq dceqq pmeqq cdeqq cteqq : Value} {rNe : List Value} {odgNe angNe : Option Addr} {slgNe : Array (Option Value)} {ocgNe kVgNe dcgNe pmgNe cdgNe ctgNe : Value} {rFa : List Value} {odgFa angFa : Option Addr} {slgFa : Array (Option Value)} {ocgFa kVgFa dcgFa pmgFa cdgFa ctgFa : Value} {rTo : List Value} {odgTo angTo : Option Addr} {slgTo : Array (Option Value)} {ocgTo kVgTo dcgTo pmgTo cdgTo ctgTo : Value} {tNear tFar : Tok}
    (aC : PySem.W.nsIn K mainGlobals "Table" = some (some (.ref C)))
    (aisI : PySem.W.nsIn K mainGlobals "is_integer" = some (some (.ref fisI)))
    (lisI : K.lookup fisI = some ⟨ocisI, odisI, .func (PySem.W.fnOf "is_integer" "is_integer" (defArgs (top 10)) (defBody (top 10)) (defScope (top 10)) .none kVisI dcisI pmisI anisI cdisI ctisI), slisI⟩)
    (cisI : PySem.W.codeIn K cdisI "is_integer" = true)
    (kisI : PySem.W.keepIn K (.ref fisI) = true)
    (aisC : PySem.W.nsIn K mainGlobals "is_count" = some (some (.ref fisC)))
    (lisC : K.lookup fisC = some ⟨ocisC, odisC, .func (PySem.W.fnOf "is_count" "is_count" (defArgs (top 11)) (defBody (top 11)) (defScope (top 11)) .none kVisC dcisC pmisC anisC cdisC ctisC), slisC⟩)
    (cisC : PySem.W.codeIn K cdisC "is_count" = true)
    (kisC : PySem.W.keepIn K (.ref fisC) = true)
    (aisE : PySem.W.nsIn K mainGlobals "is_end" = some (some (.ref fisE)))
    (lisE : K.lookup fisE = some ⟨ocisE, odisE, .func (PySem.W.fnOf "is_end" "is_end" (defArgs (top 12)) (defBody (top 12)) (defScope (top 12)) .none kVisE dcisE pmisE anisE cdisE ctisE), slisE⟩)
    (cisE : PySem.W.codeIn K cdisE "is_end" = true)
    (kisE : PySem.W.keepIn K (.ref fisE) = true)
    (awC : PySem.W.nsIn K mainGlobals "want_count" = some (some (.ref fwC)))
    (lwC : K.lookup fwC = some ⟨ocwC, odwC, .func (PySem.W.fnOf "want_count" "want_count" (defArgs (top 13)) (defBody (top 13)) (defScope (top 13)) .none kVwC dcwC pmwC anwC cdwC ctwC), slwC⟩)
    (cwC : PySem.W.codeIn K cdwC "want_count" = true)
    (kwC : PySem.W.keepIn K (.ref fwC) = true)
    (aisU : PySem.W.nsIn K mainGlobals "is_count_under" = some (some (.ref fisU)))
    (lisU : K.lookup fisU = some ⟨ocisU, odisU, .func (PySem.W.fnOf "is_count_under" "is_count_under" (defArgs (top 15)) (defBody (top 15)) (defScope (top 15)) .none kVisU dcisU pmisU anisU cdisU ctisU), slisU⟩)
    (cisU : PySem.W.codeIn K cdisU "is_count_under" = true)
    (kisU : PySem.W.keepIn K (.ref fisU) = true)
    (apot : PySem.W.nsIn K mainGlobals "_law_pot_of" = some (some (.ref fpot)))
    (lpot : K.lookup fpot = some ⟨ocpot, odpot, .func (PySem.W.fnOf "_law_pot_of" "_law_pot_of" (defArgs (top 18)) (defBody (top 18)) (defScope (top 18)) .none kVpot dcpot pmpot anpot cdpot ctpot), slpot⟩)
    (cpot : PySem.W.codeIn K cdpot "_law_pot_of" = true)
    (kpot : PySem.W.keepIn K (.ref fpot) = true)
    (adrw : PySem.W.nsIn K mainGlobals "_law_draw" = some (some (.ref fdrw)))
    (ldrw : K.lookup fdrw = some ⟨ocdrw, oddrw, .func (PySem.W.fnOf "_law_draw" "_law_draw" (defArgs (top 19)) (defBody (top 19)) (defScope (top 19)) .none kVdrw dcdrw pmdrw andrw cddrw ctdrw), sldrw⟩)
    (cdrw : PySem.W.codeIn K cddrw "_law_draw" = true)
    (kdrw : PySem.W.keepIn K (.ref fdrw) = true)
    (apic : PySem.W.nsIn K mainGlobals "_law_pick" = some (some (.ref fpic)))
    (lpic : K.lookup fpic = some ⟨ocpic, odpic, .func (PySem.W.fnOf "_law_pick" "_law_pick" (defArgs (top 20)) (defBody (top 20)) (defScope (top 20)) .none kVpic dcpic pmpic anpic cdpic ctpic), slpic⟩)
    (cpic : PySem.W.codeIn K cdpic "_law_pick" = true)
    (kpic : PySem.W.keepIn K (.ref fpic) = true)
    (aahe : PySem.W.nsIn K mainGlobals "_law_ahead" = some (some (.ref fahe)))
    (lahe : K.lookup fahe = some ⟨ocahe, odahe, .func (PySem.W.fnOf "_law_ahead" "_law_ahead" (defArgs (top 21)) (defBody (top 21)) (defScope (top 21)) .none kVahe dcahe pmahe anahe cdahe ctahe), slahe⟩)
    (cahe : PySem.W.codeIn K cdahe "_law_ahead" = true)
    (kahe : PySem.W.keepIn K (.ref fahe) = true)
    (afou : PySem.W.nsIn K mainGlobals "_law_found_row" = some (some (.ref ffou)))
    (lfou : K.lookup ffou = some ⟨ocfou, odfou, .func (PySem.W.fnOf "_law_found_row" "_law_found_row" (defArgs (top 22)) (defBody (top 22)) (defScope (top 22)) .none kVfou dcfou pmfou anfou cdfou ctfou), slfou⟩)
    (cfou : PySem.W.codeIn K cdfou "_law_found_row" = true)
    (kfou : PySem.W.keepIn K (.ref ffou) = true)
    (afip : PySem.W.nsIn K mainGlobals "_law_first_partner" = some (some (.ref ffip)))
    (lfip : K.lookup ffip = some ⟨ocfip, odfip, .func (PySem.W.fnOf "_law_first_partner" "_law_first_partner" (defArgs (top 23)) (defBody (top 23)) (defScope (top 23)) .none kVfip dcfip pmfip anfip cdfip ctfip), slfip⟩)
    (cfip : PySem.W.codeIn K cdfip "_law_first_partner" = true)
    (kfip : PySem.W.keepIn K (.ref ffip) = true)
    (afdg : PySem.W.nsIn K mainGlobals "_law_far_degree" = some (some (.ref ffdg)))
    (lfdg : K.lookup ffdg = some ⟨ocfdg, odfdg, .func (PySem.W.fnOf "_law_far_degree" "_law_far_degree" (defArgs (top 24)) (defBody (top 24)) (defScope (top 24)) .none kVfdg dcfdg pmfdg anfdg cdfdg ctfdg), slfdg⟩)
    (cfdg : PySem.W.codeIn K cdfdg "_law_far_degree" = true)
    (kfdg : PySem.W.keepIn K (.ref ffdg) = true)
    (anur : PySem.W.nsIn K mainGlobals "_law_number_right" = some (some (.ref fnur)))
    (lnur : K.lookup fnur = some ⟨ocnur, odnur, .func (PySem.W.fnOf "_law_number_right" "_law_number_right" (defArgs (top 25)) (defBody (top 25)) (defScope (top 25)) .none kVnur dcnur pmnur annur cdnur ctnur), slnur⟩)
    (cnur : PySem.W.codeIn K cdnur "_law_number_right" = true)
    (knur : PySem.W.keepIn K (.ref fnur) = true)
    (aror : PySem.W.nsIn K mainGlobals "_law_rows_right" = some (some (.ref fror)))
    (lror : K.lookup fror = some ⟨ocror, odror, .func (PySem.W.fnOf "_law_rows_right" "_law_rows_right" (defArgs (top 26)) (defBody (top 26)) (defScope (top 26)) .none kVror dcror pmror anror cdror ctror), slror⟩)
    (cror : PySem.W.codeIn K cdror "_law_rows_right" = true)
    (kror : PySem.W.keepIn K (.ref fror) = true)
    (aszi : PySem.W.nsIn K mainGlobals "_law_sizes_in" = some (some (.ref fszi)))
    (lszi : K.lookup fszi = some ⟨ocszi, odszi, .func (PySem.W.fnOf "_law_sizes_in" "_law_sizes_in" (defArgs (top 27)) (defBody (top 27)) (defScope (top 27)) .none kVszi dcszi pmszi anszi cdszi ctszi), slszi⟩)
    (cszi : PySem.W.codeIn K cdszi "_law_sizes_in" = true)
    (kszi : PySem.W.keepIn K (.ref fszi) = true)
    (atot : PySem.W.nsIn K mainGlobals "_law_total_in" = some (some (.ref ftot)))
    (ltot : K.lookup ftot = some ⟨octot, odtot, .func (PySem.W.fnOf "_law_total_in" "_law_total_in" (defArgs (top 28)) (defBody (top 28)) (defScope (top 28)) .none kVtot dctot pmtot antot cdtot cttot), sltot⟩)
    (ctot : PySem.W.codeIn K cdtot "_law_total_in" = true)
    (ktot : PySem.W.keepIn K (.ref ftot) = true)
    (atar : PySem.W.nsIn K mainGlobals "_law_table_right" = some (some (.ref ftar)))
    (ltar : K.lookup ftar = some ⟨octar, odtar, .func (PySem.W.fnOf "_law_table_right" "_law_table_right" (defArgs (top 29)) (defBody (top 29)) (defScope (top 29)) .none kVtar dctar pmtar antar cdtar cttar), sltar⟩)
    (ctar : PySem.W.codeIn K cdtar "_law_table_right" = true)
    (ktar : PySem.W.keepIn K (.ref ftar) = true)
    (alaw : PySem.W.nsIn K mainGlobals "law" = some (some (.ref flaw)))
    (llaw : K.lookup flaw = some ⟨oclaw, odlaw, .func (PySem.W.fnOf "law" "law" (defArgs (top 30)) (defBody (top 30)) (defScope (top 30)) .none kVlaw dclaw pmlaw anlaw cdlaw ctlaw), sllaw⟩)
    (claw : PySem.W.codeIn K cdlaw "law" = true)
    (klaw : PySem.W.keepIn K (.ref flaw) = true)
    (aini : PySem.W.findIn K (.ref C) "__init__" = some (some (.ref fini)))
    (iini : PySem.W.isFn K (.ref fini) = true)
    (lini : K.lookup fini = some ⟨ocini, odini, .func (PySem.W.fnOf "__init__" "Table.__init__" (defArgs (mth 0)) (defBody (mth 0)) (defScope (mth 0)) .none kVini dcini pmini anini cdini ctini), slini⟩)
    (cini : PySem.W.codeIn K cdini "Table.__init__" = true)
    (kini : PySem.W.keepIn K (.ref fini) = true)
    (asiz : PySem.W.findIn K (.ref C) "size_at" = some (some (.ref fsiz)))
    (isiz : PySem.W.isFn K (.ref fsiz) = true)
    (lsiz : K.lookup fsiz = some ⟨ocsiz, odsiz, .func (PySem.W.fnOf "size_at" "Table.size_at" (defArgs (mth 4)) (defBody (mth 4)) (defScope (mth 4)) .none kVsiz dcsiz pmsiz ansiz cdsiz ctsiz), slsiz⟩)
    (csiz : PySem.W.codeIn K cdsiz "Table.size_at" = true)
    (ksiz : PySem.W.keepIn K (.ref fsiz) = true)
    (awan : PySem.W.findIn K (.ref C) "want_row" = some (some (.ref fwan)))
    (iwan : PySem.W.isFn K (.ref fwan) = true)
    (lwan : K.lookup fwan = some ⟨ocwan, odwan, .func (PySem.W.fnOf "want_row" "Table.want_row" (defArgs (mth 5)) (defBody (mth 5)) (defScope (mth 5)) .none kVwan dcwan pmwan anwan cdwan ctwan), slwan⟩)
    (cwan : PySem.W.codeIn K cdwan "Table.want_row" = true)
    (kwan : PySem.W.keepIn K (.ref fwan) = true)
    (afst : PySem.W.findIn K (.ref C) "first_number" = some (some (.ref ffst)))
    (ifst : PySem.W.isFn K (.ref ffst) = true)
    (lfst : K.lookup ffst = some ⟨ocfst, odfst, .func (PySem.W.fnOf "first_number" "Table.first_number" (defArgs (mth 6)) (defBody (mth 6)) (defScope (mth 6)) .none kVfst dcfst pmfst anfst cdfst ctfst), slfst⟩)
    (cfst : PySem.W.codeIn K cdfst "Table.first_number" = true)
    (kfst : PySem.W.keepIn K (.ref ffst) = true)
    (anrw : PySem.W.findIn K (.ref C) "near_row" = some (some (.ref fnrw)))
    (inrw : PySem.W.isFn K (.ref fnrw) = true)
    (lnrw : K.lookup fnrw = some ⟨ocnrw, odnrw, .func (PySem.W.fnOf "near_row" "Table.near_row" (defArgs (mth 7)) (defBody (mth 7)) (defScope (mth 7)) .none kVnrw dcnrw pmnrw annrw cdnrw ctnrw), slnrw⟩)
    (cnrw : PySem.W.codeIn K cdnrw "Table.near_row" = true)
    (knrw : PySem.W.keepIn K (.ref fnrw) = true)
    (adeg : PySem.W.findIn K (.ref C) "degree_at" = some (some (.ref fdeg)))
    (ideg : PySem.W.isFn K (.ref fdeg) = true)
    (ldeg : K.lookup fdeg = some ⟨ocdeg, oddeg, .func (PySem.W.fnOf "degree_at" "Table.degree_at" (defArgs (mth 8)) (defBody (mth 8)) (defScope (mth 8)) .none kVdeg dcdeg pmdeg andeg cddeg ctdeg), sldeg⟩)
    (cdeg : PySem.W.codeIn K cddeg "Table.degree_at" = true)
    (kdeg : PySem.W.keepIn K (.ref fdeg) = true)
    (apar : PySem.W.findIn K (.ref C) "partner_at" = some (some (.ref fpar)))
    (ipar : PySem.W.isFn K (.ref fpar) = true)
    (lpar : K.lookup fpar = some ⟨ocpar, odpar, .func (PySem.W.fnOf "partner_at" "Table.partner_at" (defArgs (mth 9)) (defBody (mth 9)) (defScope (mth 9)) .none kVpar dcpar pmpar anpar cdpar ctpar), slpar⟩)
    (cpar : PySem.W.codeIn K cdpar "Table.partner_at" = true)
    (kpar : PySem.W.keepIn K (.ref fpar) = true)
    (anat : PySem.W.findIn K (.ref C) "number_at" = some (some (.ref fnat)))
    (inat : PySem.W.isFn K (.ref fnat) = true)
    (lnat : K.lookup fnat = some ⟨ocnat, odnat, .func (PySem.W.fnOf "number_at" "Table.number_at" (defArgs (mth 10)) (defBody (mth 10)) (defScope (mth 10)) .none kVnat dcnat pmnat annat cdnat ctnat), slnat⟩)
    (cnat : PySem.W.codeIn K cdnat "Table.number_at" = true)
    (knat : PySem.W.keepIn K (.ref fnat) = true)
    (anof : PySem.W.findIn K (.ref C) "number_of" = some (some (.ref fnof)))
    (inof : PySem.W.isFn K (.ref fnof) = true)
    (lnof : K.lookup fnof = some ⟨ocnof, odnof, .func (PySem.W.fnOf "number_of" "Table.number_of" (defArgs (mth 11)) (defBody (mth 11)) (defScope (mth 11)) .none kVnof dcnof pmnof annof cdnof ctnof), slnof⟩)
    (cnof : PySem.W.codeIn K cdnof "Table.number_of" = true)
    (knof : PySem.W.keepIn K (.ref fnof) = true)
    (adgr : PySem.W.findIn K (.ref C) "degree" = some (some (.ref fdgr)))
    (idgr : PySem.W.isFn K (.ref fdgr) = true)
    (ldgr : K.lookup fdgr = some ⟨ocdgr, oddgr, .func (PySem.W.fnOf "degree" "Table.degree" (defArgs (mth 12)) (defBody (mth 12)) (defScope (mth 12)) .none kVdgr dcdgr pmdgr andgr cddgr ctdgr), sldgr⟩)
    (cdgr : PySem.W.codeIn K cddgr "Table.degree" = true)
    (kdgr : PySem.W.keepIn K (.ref fdgr) = true)
    (aptn : PySem.W.findIn K (.ref C) "partner" = some (some (.ref fptn)))
    (iptn : PySem.W.isFn K (.ref fptn) = true)
    (lptn : K.lookup fptn = some ⟨ocptn, odptn, .func (PySem.W.fnOf "partner" "Table.partner" (defArgs (mth 13)) (defBody (mth 13)) (defScope (mth 13)) .none kVptn dcptn pmptn anptn cdptn ctptn), slptn⟩)
    (cptn : PySem.W.codeIn K cdptn "Table.partner" = true)
    (kptn : PySem.W.keepIn K (.ref fptn) = true)
    (aeac : PySem.W.findIn K (.ref C) "each_partner" = some (some (.ref feac)))
    (ieac : PySem.W.isFn K (.ref feac) = true)
    (leac : K.lookup feac = some ⟨oceac, odeac, .func (PySem.W.fnOf "each_partner" "Table.each_partner" (defArgs (mth 14)) (defBody (mth 14)) (defScope (mth 14)) .none kVeac dceac pmeac aneac cdeac cteac), sleac⟩)
    (ceac : PySem.W.codeIn K cdeac "Table.each_partner" = true)
    (keac : PySem.W.keepIn K (.ref feac) = true)
    (acal : PySem.W.findIn K (.ref C) "__call__" = some (some (.ref fcal)))
    (ical : PySem.W.isFn K (.ref fcal) = true)
    (lcal : K.lookup fcal = some ⟨occal, odcal, .func (PySem.W.fnOf "__call__" "Table.__call__" (defArgs (mth 15)) (defBody (mth 15)) (defScope (mth 15)) .none kVcal dccal pmcal ancal cdcal ctcal), slcal⟩)
    (ccal : PySem.W.codeIn K cdcal "Table.__call__" = true)
    (kcal : PySem.W.keepIn K (.ref fcal) = true)
    (acon : PySem.W.findIn K (.ref C) "__contains__" = some (some (.ref fcon)))
    (icon : PySem.W.isFn K (.ref fcon) = true)
    (lcon : K.lookup fcon = some ⟨occon, odcon, .func (PySem.W.fnOf "__contains__" "Table.__contains__" (defArgs (mth 16)) (defBody (mth 16)) (defScope (mth 16)) .none kVcon dccon pmcon ancon cdcon ctcon), slcon⟩)
    (ccon : PySem.W.codeIn K cdcon "Table.__contains__" = true)
    (kcon : PySem.W.keepIn K (.ref fcon) = true)
    (aeqq : PySem.W.findIn K (.ref C) "__eq__" = some (some (.ref feqq)))
    (ieqq : PySem.W.isFn K (.ref feqq) = true)
    (leqq : K.lookup feqq = some ⟨oceqq, odeqq, .func (PySem.W.fnOf "__eq__" "Table.__eq__" (defArgs (mth 17)) (defBody (mth 17)) (defScope (mth 17)) .none kVeqq dceqq pmeqq aneqq cdeqq cteqq), sleqq⟩)
    (ceqq : PySem.W.codeIn K cdeqq "Table.__eq__" = true)
    (keqq : PySem.W.keepIn K (.ref feqq) = true)
    (aNe : PySem.W.findIn K (.ref C) "near" = some (some (.ref pNe)))
    (gNe : PySem.W.specialIn K (.ref pNe) "__get__" = some (some (.builtin "property.__get__")))
    (tNe : PySem.W.takesIn K (.ref pNe) = some true)
    (qNe : PySem.W.recIn K pNe "property" = some (.ref fgNe :: rNe))
    (lgNe : K.lookup fgNe = some ⟨ocgNe, odgNe, .func (PySem.W.fnOf "near" "Table.near" (defArgs (mth 1)) (defBody (mth 1)) (defScope (mth 1)) .none kVgNe dcgNe pmgNe angNe cdgNe ctgNe), slgNe⟩)
    (cgNe : PySem.W.codeIn K cdgNe "Table.near" = true)
    (kgNe : PySem.W.keepIn K (.ref fgNe) = true)
    (aFa : PySem.W.findIn K (.ref C) "far" = some (some (.ref pFa)))
    (gFa : PySem.W.specialIn K (.ref pFa) "__get__" = some (some (.builtin "property.__get__")))
    (tFa : PySem.W.takesIn K (.ref pFa) = some true)
    (qFa : PySem.W.recIn K pFa "property" = some (.ref fgFa :: rFa))
    (lgFa : K.lookup fgFa = some ⟨ocgFa, odgFa, .func (PySem.W.fnOf "far" "Table.far" (defArgs (mth 2)) (defBody (mth 2)) (defScope (mth 2)) .none kVgFa dcgFa pmgFa angFa cdgFa ctgFa), slgFa⟩)
    (cgFa : PySem.W.codeIn K cdgFa "Table.far" = true)
    (kgFa : PySem.W.keepIn K (.ref fgFa) = true)
    (aTo : PySem.W.findIn K (.ref C) "total" = some (some (.ref pTo)))
    (gTo : PySem.W.specialIn K (.ref pTo) "__get__" = some (some (.builtin "property.__get__")))
    (tTo : PySem.W.takesIn K (.ref pTo) = some true)
    (qTo : PySem.W.recIn K pTo "property" = some (.ref fgTo :: rTo))
    (lgTo : K.lookup fgTo = some ⟨ocgTo, odgTo, .func (PySem.W.fnOf "total" "Table.total" (defArgs (mth 3)) (defBody (mth 3)) (defScope (mth 3)) .none kVgTo dcgTo pmgTo angTo cdgTo ctgTo), slgTo⟩)
    (cgTo : PySem.W.codeIn K cdgTo "Table.total" = true)
    (kgTo : PySem.W.keepIn K (.ref fgTo) = true)
    (nNe : PySem.W.findIn K (.ref C) "own_near" = some none)
    (nFa : PySem.W.findIn K (.ref C) "own_far" = some none)
    (nTo : PySem.W.findIn K (.ref C) "own_total" = some none)
    (nMa : PySem.W.findIn K (.ref C) "own_many" = some none)
    (nMo : PySem.W.findIn K (.ref C) "own_more" = some none)
    (bIsi : PySem.W.nsIn K mainGlobals "isinstance" = some none)
    (bInt : PySem.W.nsIn K mainGlobals "int" = some none)
    (bBool : PySem.W.nsIn K mainGlobals "bool" = some none)
    (bStr : PySem.W.nsIn K mainGlobals "str" = some none)
    (bTup : PySem.W.nsIn K mainGlobals "tuple" = some none)
    (bLen : PySem.W.nsIn K mainGlobals "len" = some none)
    (bMin : PySem.W.nsIn K mainGlobals "min" = some none)
    (bMax : PySem.W.nsIn K mainGlobals "max" = some none)
    (bAbs : PySem.W.nsIn K mainGlobals "abs" = some none)
    (bDiv : PySem.W.nsIn K mainGlobals "divmod" = some none)
    (bList : PySem.W.nsIn K mainGlobals "list" = some none)
    (bRange : PySem.W.nsIn K mainGlobals "range" = some none)
    (bAll : PySem.W.nsIn K mainGlobals "all" = some none)
    (aNear : PySem.W.nsIn K mainGlobals "NEAR" = some (some (.str "near" tNear)))
    (aFar : PySem.W.nsIn K mainGlobals "FAR" = some (some (.str "far" tFar)))
    (pg : PySem.W.plainGet K C Str.empty = true)
    (hd : PySem.W.hasDictIn K C = true)
    (po : PySem.W.plainOver K C = true)
    (sa : PySem.W.findIn K (.ref C) "__setattr__" = some (some (.builtin "object.__setattr__")))
    (mk : PySem.W.makesIn K C = true)
    (kc : PySem.W.keepIn K (.ref C) = true)
    (ha : PySem.W.findIn K (.ref C) "__class__" = some (some (.builtin "object.__class__")))
    (hn : PySem.W.specialIn K (.builtin "object.__class__") "__get__" = some (some (.builtin "getset_descriptor.__get__")))
    (htk : PySem.W.takesIn K (.builtin "object.__class__") = some true)
    (hm : PySem.W.mroIn K C (.type "object") = some true)
    (fi : PySem.W.fnIn K fcal = true) :
    ∃ ad, Facts K mg ad := ⟨⟨C, fisI, fisC, fisE, fwC, fisU, fini, fsiz, fwan, ffst, fnrw, fdeg, fpar, fnat, fnof, fdgr, fptn, feac, fcal, fcon, feqq, fgNe, fgFa, fgTo, pNe, pFa, pTo, fpot, fdrw, fpic, fahe, ffou, ffip, ffdg, fnur, fror, fszi, ftot, ftar, flaw⟩, {
  cl := ⟨pg, hd, po, sa⟩
  nNe := nNe
  nFa := nFa
  nTo := nTo
  nMa := nMa
  nMo := nMo
  mkT := ⟨mk, aini, iini, kc⟩
  mgT := PySem.W.mg_of X G aC
  ca := ⟨acal, ical, fi⟩
  ha := ha
  hn := hn
  htk := htk
  hm := hm
  isI := ⟨⟨_, fun_mk lisI cisI kisI⟩, PySem.W.mg_of X G aisI⟩
  isC := ⟨⟨_, fun_mk lisC cisC kisC⟩, PySem.W.mg_of X G aisC⟩
  isE := ⟨⟨_, fun_mk lisE cisE kisE⟩, PySem.W.mg_of X G aisE⟩
  wC := ⟨⟨_, fun_mk lwC cwC kwC⟩, PySem.W.mg_of X G awC⟩
  isU := ⟨⟨_, fun_mk lisU cisU kisU⟩, PySem.W.mg_of X G aisU⟩
  pot := ⟨⟨_, fun_mk lpot cpot kpot⟩, PySem.W.mg_of X G apot⟩
  drw := ⟨⟨_, fun_mk ldrw cdrw kdrw⟩, PySem.W.mg_of X G adrw⟩
  pic := ⟨⟨_, fun_mk lpic cpic kpic⟩, PySem.W.mg_of X G apic⟩
  ahe := ⟨⟨_, fun_mk lahe cahe kahe⟩, PySem.W.mg_of X G aahe⟩
  fou := ⟨⟨_, fun_mk lfou cfou kfou⟩, PySem.W.mg_of X G afou⟩
  fip := ⟨⟨_, fun_mk lfip cfip kfip⟩, PySem.W.mg_of X G afip⟩
  fdg := ⟨⟨_, fun_mk lfdg cfdg kfdg⟩, PySem.W.mg_of X G afdg⟩
  nur := ⟨⟨_, fun_mk lnur cnur knur⟩, PySem.W.mg_of X G anur⟩
  ror := ⟨⟨_, fun_mk lror cror kror⟩, PySem.W.mg_of X G aror⟩
  szi := ⟨⟨_, fun_mk lszi cszi kszi⟩, PySem.W.mg_of X G aszi⟩
  tot := ⟨⟨_, fun_mk ltot ctot ktot⟩, PySem.W.mg_of X G atot⟩
  tar := ⟨⟨_, fun_mk ltar ctar ktar⟩, PySem.W.mg_of X G atar⟩
  law := ⟨⟨_, fun_mk llaw claw klaw⟩, PySem.W.mg_of X G alaw⟩
  ini := ⟨_, fun_mk lini cini kini⟩
  pNe := ⟨⟨_, fun_mk lgNe cgNe kgNe⟩, ⟨aNe, gNe, tNe, ⟨_, qNe⟩⟩⟩
  pFa := ⟨⟨_, fun_mk lgFa cgFa kgFa⟩, ⟨aFa, gFa, tFa, ⟨_, qFa⟩⟩⟩
  pTo := ⟨⟨_, fun_mk lgTo cgTo kgTo⟩, ⟨aTo, gTo, tTo, ⟨_, qTo⟩⟩⟩
  siz := ⟨⟨_, fun_mk lsiz csiz ksiz⟩, ⟨asiz, isiz, ksiz⟩⟩
  wan := ⟨⟨_, fun_mk lwan cwan kwan⟩, ⟨awan, iwan, kwan⟩⟩
  fst := ⟨⟨_, fun_mk lfst cfst kfst⟩, ⟨afst, ifst, kfst⟩⟩
  nrw := ⟨⟨_, fun_mk lnrw cnrw knrw⟩, ⟨anrw, inrw, knrw⟩⟩
  deg := ⟨⟨_, fun_mk ldeg cdeg kdeg⟩, ⟨adeg, ideg, kdeg⟩⟩
  par := ⟨⟨_, fun_mk lpar cpar kpar⟩, ⟨apar, ipar, kpar⟩⟩
  nat := ⟨⟨_, fun_mk lnat cnat knat⟩, ⟨anat, inat, knat⟩⟩
  nof := ⟨⟨_, fun_mk lnof cnof knof⟩, ⟨anof, inof, knof⟩⟩
  dgr := ⟨⟨_, fun_mk ldgr cdgr kdgr⟩, ⟨adgr, idgr, kdgr⟩⟩
  ptn := ⟨⟨_, fun_mk lptn cptn kptn⟩, ⟨aptn, iptn, kptn⟩⟩
  eac := ⟨⟨_, fun_mk leac ceac keac⟩, ⟨aeac, ieac, keac⟩⟩
  cal := ⟨⟨_, fun_mk lcal ccal kcal⟩, ⟨acal, ical, kcal⟩⟩
  con := ⟨⟨_, fun_mk lcon ccon kcon⟩, ⟨acon, icon, kcon⟩⟩
  eqq := ⟨⟨_, fun_mk leqq ceqq keqq⟩, ⟨aeqq, ieqq, keqq⟩⟩
  near := ⟨_, PySem.W.mg_of X G aNear⟩
  far := ⟨_, PySem.W.mg_of X G aFar⟩
  bIsi := PySem.W.mg_none_of X G bIsi
  bInt := PySem.W.mg_none_of X G bInt
  bBool := PySem.W.mg_none_of X G bBool
  bStr := PySem.W.mg_none_of X G bStr
  bTup := PySem.W.mg_none_of X G bTup
  bLen := PySem.W.mg_none_of X G bLen
  bMin := PySem.W.mg_none_of X G bMin
  bMax := PySem.W.mg_none_of X G bMax
  bAbs := PySem.W.mg_none_of X G bAbs
  bDiv := PySem.W.mg_none_of X G bDiv
  bList := PySem.W.mg_none_of X G bList
  bRange := PySem.W.mg_none_of X G bRange
  bAll := PySem.W.mg_none_of X G bAll
  }⟩
end K32

namespace K32
open PySem L2 K32G K32O
def Ok (P : Program) (w : World) (K : PySem.W.Frag) (mg : Str → Option Value) (base : Heap) (k : Nat) (f : Addr) (ps : List Str) (sp : Sp) : Prop :=
  ∃ fd, FnOk P w K mg base CX0 k f fd ps sp ∧ Binds K fd ps [] ∧ PySem.W.keepIn K (.ref f) = true
def spIsI : Sp := fun vs H Q _ => ∃ i, vs = [.int i] ∧ Q (.bl true) H
def spIsC : Sp := fun vs H Q _ => ∃ i, vs = [.int i] ∧ Q (.bl (decide (0 ≤ i))) H
def spIsE : Sp := fun vs H Q _ => ∃ t, vs = [.str (sd t)] ∧ ∀ H', Same H H' → Q (.bl true) H'
def spWant : Sp := fun vs H Q _ => ∃ i, vs = [.int i] ∧ 0 ≤ i ∧ Q .non H
def spIsU : Sp := fun vs H Q _ => ∃ i l, vs = [.int i, .int l] ∧ Q (.bl (decide (0 ≤ i ∧ i < l))) H
section
variable {P : Program} {w : World} {K : PySem.W.Frag} {mg : Str → Option Value} {base : Heap} {d : AD}
theorem scIsI : FnScope ["value"] ["value"] (defScope (top 10)) := ⟨rfl, rfl, rfl, by decide +kernel, rfl, by decide +kernel, by decide +kernel⟩
theorem ok_isI (T : Facts K mg d) : Ok P w K mg base 1 d.isI ["value"] spIsI := by
  obtain ⟨fd, F⟩ := T.isI.df
  refine ⟨fd, F.ok scIsI (fun vs H Q E h => ?_) (fun cdv A outer s H vs Q E hr h => ?_), F.binds fun _ _ _ _ _ _ us hl => match us, hl with | [_], _ => rfl, F.kp⟩
  · obtain ⟨i, rfl, _⟩ := h
    rfl
  · obtain ⟨i, rfl, k⟩ := h
    refine ⟨_, pss_one (ps_ret (pe_and (pe_callB call_isi (by rfl) T.bIsi (by decide +kernel) (pa_cons (pv 0) (pa_cons (pe_bltn (v := .ty "int") (by rfl) T.bInt (by decide +kernel) rfl) pa_nil)))
      (pe_one (pe_not (pe_callB call_isi (by rfl) T.bIsi (by decide +kernel) (pa_cons (pv 0) (pa_cons (pe_bltn (v := .ty "bool") (by rfl) T.bBool (by decide +kernel) rfl) pa_nil))))))), ?_⟩
    refine ⟨_, rfl, _, _, _, _, _, rfl, ClsV.ty _, .base (.int i), kit_ty (r := true) (by decide +kernel), true, rfl, iteT ?_⟩
    exact ⟨_, rfl, _, _, _, _, _, rfl, ClsV.ty _, .base (.int i), kit_ty (r := false) (by decide +kernel), false, rfl, k⟩
theorem scIsC : FnScope ["value"] ["value"] (defScope (top 11)) := ⟨rfl, rfl, rfl, by decide +kernel, rfl, by decide +kernel, by decide +kernel⟩
theorem ok_isC (T : Facts K mg d) : Ok P w K mg base 2 d.isC ["value"] spIsC := by
  obtain ⟨fd, F⟩ := T.isC.df
  obtain ⟨_, GI, bI, kI⟩ := ok_isI (P := P) (w := w) (base := base) T
  refine ⟨fd, F.ok scIsC (fun vs H Q E h => ?_) (fun cdv A outer s H vs Q E hr h => ?_), F.binds fun _ _ _ _ _ _ us hl => match us, hl with | [_], _ => rfl, F.kp⟩
  · obtain ⟨i, rfl, _⟩ := h
    rfl
  · obtain ⟨i, rfl, k⟩ := h
    refine ⟨_, pss_one (ps_ret (pe_and (pe_call GI hr (by rfl) T.isI.mg kI bI .nil pass0 (pa_cons (pv 0) pa_nil)) (pe_one (pe_cmpR op_ge (pv 0) pe_int (nomark _))))), ?_⟩
    exact ⟨_, rfl, i, rfl, true, rfl, iteT ⟨_, rfl, _, _, rfl, rfl, k⟩⟩
theorem scIsE : FnScope ["value"] ["value"] (defScope (top 12)) := ⟨rfl, rfl, rfl, by decide +kernel, rfl, by decide +kernel, by decide +kernel⟩
theorem ok_isE (T : Facts K mg d) : Ok P w K mg base 1 d.isE ["value"] spIsE := by
  obtain ⟨fd, F⟩ := T.isE.df
  obtain ⟨tn, hn⟩ := T.near
  obtain ⟨tf, hf⟩ := T.far
  refine ⟨fd, F.ok scIsE (fun vs H Q E h => ?_) (fun cdv A outer s H vs Q E hr h => ?_), F.binds fun _ _ _ _ _ _ us hl => match us, hl with | [_], _ => rfl, F.kp⟩
  · obtain ⟨i, rfl, _⟩ := h
    rfl
  · obtain ⟨t, rfl, k⟩ := h
    refine ⟨_, pss_one (ps_ret (pe_and (pe_callB call_isi (by rfl) T.bIsi (by decide +kernel) (pa_cons (pv 0) (pa_cons (pe_bltn (v := .ty "str") (by rfl) T.bStr (by decide +kernel) rfl) pa_nil)))
      (pe_one (pe_cmpR op_in_seq (pv 0) (pe_tup (pa_cons (pe_glob (v := .str "near") (by rfl) hn ⟨_, rfl⟩) (pa_cons (pe_glob (v := .str "far") (by rfl) hf ⟨_, rfl⟩) pa_nil))) (by rfl))))), ?_⟩
    refine ⟨_, rfl, _, _, _, _, _, rfl, ClsV.ty _, .base (.str _), kit_ty (r := true) (by decide +kernel), true, rfl, iteT ?_⟩
    refine ⟨_, rfl, (by show 2 ≤ sizeLine; decide), fun p hp => ?_⟩
    refine ⟨p, _, rfl, .inr (SqT.of upd_same), by cases t <;> rfl, by rfl, ?_⟩
    have e : inV (V.str (sd t)) [V.str "near", V.str "far"] = true := by cases t <;> decide +kernel
    show Q (V.bl (inV (V.str (sd t)) [V.str "near", V.str "far"])) _
    rw [e]
    exact k _ fun b o z => by rw [upd_ne (ne_of_none z hp)]; exact z
theorem scWC : FnScope ["value"] ["value"] (defScope (top 13)) := ⟨rfl, rfl, rfl, by decide +kernel, rfl, by decide +kernel, by decide +kernel⟩
theorem ok_wC (T : Facts K mg d) : Ok P w K mg base 3 d.wC ["value"] spWant := by
  obtain ⟨fd, F⟩ := T.wC.df
  obtain ⟨_, GC, bC, kC⟩ := ok_isC (P := P) (w := w) (base := base) T
  refine ⟨fd, F.ok scWC (fun vs H Q E h => ?_) (fun cdv A outer s H vs Q E hr h => ?_), F.binds fun _ _ _ _ _ _ us hl => match us, hl with | [_], _ => rfl, F.kp⟩
  · obtain ⟨i, rfl, _⟩ := h
    rfl
  · obtain ⟨i, rfl, h0, k⟩ := h
    refine ⟨_, pss_one (ps_if (pt_not (pt_val (pe_call GC hr (by rfl) T.isC.mg kC bC .nil pass0 (pa_cons (pv 0) pa_nil)))) (pss_one ps_never) pss_nil), ?_⟩
    refine ⟨_, rfl, i, rfl, _, rfl, ?_⟩
    rw [decide_eq_true h0]
    exact iteF k
theorem scIsU : FnScope ["value", "limit"] ["value", "limit"] (defScope (top 15)) := ⟨rfl, rfl, rfl, by decide +kernel, rfl, by decide +kernel, by decide +kernel⟩
theorem ok_isU (T : Facts K mg d) : Ok P w K mg base 3 d.isU ["value", "limit"] spIsU := by
  obtain ⟨fd, F⟩ := T.isU.df
  obtain ⟨_, GC, bC, kC⟩ := ok_isC (P := P) (w := w) (base := base) T
  refine ⟨fd, F.ok scIsU (fun vs H Q E h => ?_) (fun cdv A outer s H vs Q E hr h => ?_), F.binds fun _ _ _ _ _ _ us hl => match us, hl with | [_, _], _ => rfl, F.kp⟩
  · obtain ⟨i, l, rfl, _⟩ := h
    rfl
  · obtain ⟨i, l, rfl, k⟩ := h
    refine ⟨_, pss_one (ps_ret (pe_and (pe_call GC hr (by rfl) T.isC.mg kC bC .nil pass0 (pa_cons (pv 0) pa_nil)) (pe_one (pe_cmpR op_lt (pv 0) (pv 1) (nomark _))))), ?_⟩
    refine ⟨_, rfl, i, rfl, _, rfl, ?_⟩
    by_cases h0 : 0 ≤ i
    · rw [decide_eq_true h0]
      refine iteT ⟨_, rfl, _, rfl, _, _, rfl, rfl, ?_⟩
      have e : decide (0 ≤ i ∧ i < l) = decide (i < l) := by simp [h0]
      rw [e] at k
      exact k
    · rw [decide_eq_false h0]
      have e : decide (0 ≤ i ∧ i < l) = false := by simp [h0]
      rw [e] at k
      exact iteF k
end
end K32

namespace K32
open PySem L2 K32G K32O
/-- e.f as a target among several -/
def gFld (K : PySem.W.Frag) (ta : TE) (f : Str) : TG := fun v σ H Q => ta σ H fun x H2 => ∃ a C dx fs, x = .ref a ∧ H2 a = some (.ins C dx fs) ∧ Cls K C ∧ NoAttr K C f ∧ fs.length < 1000 ∧ Q σ (upd H2 a (.ins C dx (putF f v fs)))
theorem pg_fld {X : Cx} {o : Expr} {f : Str} {pos : Pos} {ta : TE} (ha : PE X o ta) : PG X (.Attribute o f pos) (gFld X.K ta f) := by
  refine ⟨fun pins s σ H v u Q I r h => ?_⟩
  refine PySem.W.kas_attr (thn (ha.run pins s σ H _ I h) fun ov s1 ⟨x, H1, I1, rx, a, C, dx, fs, ex, ea, c, n, l, q⟩ => ?_)
  subst ex
  obtain rfl : ov = Value.ref a := rx
  exact setattr_ok I1 ea c n l r fun s3 I3 => ⟨σ, _, I3, q⟩
def spIni (C : Addr) : Sp := fun vs H Q _ => ∃ p dx a b e D E, vs = [.ref p, .int a, .int b, .int e] ∧ H p = some (.ins C dx []) ∧ Tz a b e D E ∧
  ∀ H', H' p = some (.ins C dx (fl a b e D E)) → (∀ c o, c ≠ p → H c = some o → H' c = some o) → Q .non H'
def spSiz (C : Addr) : Sp := fun vs H Q _ => ∃ p a b e D E t, vs = [.ref p, .str (sd t)] ∧ Bd C H p a b e D E ∧ ∀ H', Same H H' → Q (.int (sz t a b)) H'
def spWan (C : Addr) : Sp := fun vs H Q _ => ∃ p a b e D E t i, vs = [.ref p, .str (sd t), .int i] ∧ Bd C H p a b e D E ∧ 0 ≤ i ∧ i < sz t a b ∧ ∀ H', Same H H' → Q .non H'
def spFst (C : Addr) : Sp := fun vs H Q _ => ∃ p a b e D E i, vs = [.ref p, .int i] ∧ Bd C H p a b e D E ∧ Tz a b e D E ∧ 0 ≤ i ∧ i ≤ a ∧ Q (.int (S D E i)) H
def spNrw (C : Addr) : Sp := fun vs H Q _ => ∃ p a b e D E n, vs = [.ref p, .int n] ∧ Bd C H p a b e D E ∧ Tz a b e D E ∧ 0 ≤ n ∧ n < e ∧ Q (.int (NR D E n)) H
def spDeg (C : Addr) : Sp := fun vs H Q _ => ∃ p a b e D E t i, vs = [.ref p, .str (sd t), .int i] ∧ Bd C H p a b e D E ∧ Tz a b e D E ∧ 0 ≤ i ∧ i < sz t a b ∧ Q (.int (gd t b e D E i)) H
def spPar (C : Addr) : Sp := fun vs H Q _ => ∃ p a b e D E t i k, vs = [.ref p, .str (sd t), .int i, .int k] ∧ Bd C H p a b e D E ∧ Tz a b e D E ∧ 0 ≤ i ∧ i < sz t a b ∧ 0 ≤ k ∧ k < gd t b e D E i ∧ Q (.int (pt t b D E i k)) H
def spNat (C : Addr) : Sp := fun vs H Q _ => ∃ p a b e D E i j, vs = [.ref p, .int i, .int j] ∧ Bd C H p a b e D E ∧ Tz a b e D E ∧ 0 ≤ i ∧ i < a ∧ Q (due b D E i j) H
theorem int_dec {c : Prop} [Decidable c] : (if decide c = true then (1 : Int) else 0) = if c then 1 else 0 := by
  by_cases h : c
  · rw [decide_eq_true h, if_pos rfl, if_pos h]
  · rw [decide_eq_false h, if_neg Bool.false_ne_true, if_neg h]
section
variable {P : Program} {w : World} {K : PySem.W.Frag} {mg : Str → Option Value} {base : Heap} {d : AD}
theorem scIni : FnScope ["self", "near", "far", "total"] ["self", "near", "far", "total"] (defScope (mth 0)) := ⟨rfl, rfl, rfl, by decide +kernel, rfl, by decide +kernel, by decide +kernel⟩
theorem ok_ini (T : Facts K mg d) : Ok P w K mg base 4 d.ini ["self", "near", "far", "total"] (spIni d.tb) := by
  obtain ⟨fd, F⟩ := T.ini
  obtain ⟨_, GW, bW, kW⟩ := ok_wC (P := P) (w := w) (base := base) T
  obtain ⟨_, GC, bC, kC⟩ := ok_isC (P := P) (w := w) (base := base) T
  refine ⟨fd, F.ok scIni (fun vs H Q E h => ?_) (fun cdv A outer s H vs Q E hr h => ?_), F.binds fun _ _ _ _ _ _ us hl => match us, hl with | [_, _, _, _], _ => rfl, F.kp⟩
  · obtain ⟨p, dx, a, b, e, D, E', rfl, _⟩ := h
    rfl
  · obtain ⟨p, dx, a, b, e, D, E', rfl, hp, z, k⟩ := h
    have hr2 : Room 2 _ := hr.mono (by decide)
    obtain ⟨t, za, zb, ze⟩ := z
    have ha := t.ha
    have hb := t.hb
    have he := t.he
    have hle := t.hle
    refine ⟨_, pss_cons (ps_expr (pe_call GW hr (by rfl) T.wC.mg kW bW .nil pass0 (pa_cons (pv 1) pa_nil)))
      (pss_cons (ps_expr (pe_call GW hr (by rfl) T.wC.mg kW bW .nil pass0 (pa_cons (pv 2) pa_nil)))
      (pss_cons (ps_if (PW.pt (pw_or (pt_not (pt_val (pe_call GC hr2 (by rfl) T.isC.mg kC bC .nil pass0 (pa_cons (pv 3) pa_nil)))) (pw_or1 (pt_cmpR op_gt (pv 3) (pe_op op_mulW (pv 1) (pv 2)) (nomark _))))) (pss_one ps_never) pss_nil)
      (pss_cons (ps_asg (pe_tup (pa_cons (pv 1) (pa_cons (pv 2) (pa_cons (pv 3) pa_nil)))) (pg_tup rfl (pgs_cons (pg_fld (pv 0)) (pgs_cons (pg_fld (pv 0)) (pgs_cons (pg_fld (pv 0)) pgs_nil)))))
      (pss_cons (ps_fld (pv 0) (pe_ifExp (pt_cmpR op_gt (pv 1) pe_int (nomark _)) (pe_op op_fdivW (pv 3) (pv 1)) pe_int) rfl)
      (pss_one (ps_fld (pv 0) (pe_op op_sub (pv 3) (pe_op op_mulW (pe_fld (pv 0) rfl) (pv 1))) rfl)))))), ?_⟩
    -- want_count(near), want_count(far)
    refine ⟨_, rfl, a, rfl, Int.le_of_lt ha, _, rfl, b, rfl, Int.le_of_lt hb, ?_⟩
    -- the total
    refine ⟨_, rfl, e, rfl, _, rfl, ?_⟩
    rw [decide_eq_true he]
    refine iteF ⟨_, rfl, _, rfl, _, rfl, _, _, rfl, rfl, zmul (Int.le_of_lt ha) (big za) (Int.le_of_lt hb) (big zb), _, _, rfl, rfl, _, rfl, ?_⟩
    rw [decide_eq_false (by omega)]
    refine iteF ?_
    -- the three attributes
    refine ⟨_, rfl, _, rfl, _, rfl, (by show 3 ≤ sizeLine; decide), fun q hq => ?_⟩
    have npq : p ≠ q := ne_of_none hp hq
    refine ⟨q, _, rfl, SqT.of upd_same, rfl, _, _, rfl, _, rfl, p, d.tb, dx, [], rfl, by rw [upd_ne npq]; exact hp, T.cl, T.nNe, (by show 0 < 1000; decide), ?_⟩
    refine ⟨_, _, rfl, _, rfl, p, d.tb, dx, _, rfl, upd_same, T.cl, T.nFa, (by show 1 < 1000; decide), ?_⟩
    refine ⟨_, _, rfl, _, rfl, p, d.tb, dx, _, rfl, upd_same, T.cl, T.nTo, Nat.lt_of_le_of_lt (Nat.le_trans (length_putF _ _ _) (Nat.succ_le_succ (length_putF _ _ _))) (by show 0 + 1 + 1 < 1000; decide), rfl, ?_⟩
    -- own_many
    refine ⟨_, rfl, _, _, rfl, rfl, _, rfl, ?_⟩
    rw [decide_eq_true ha]
    refine iteT ⟨_, rfl, _, rfl, _, _, rfl, rfl, zdiv ha (big za), _, rfl, p, d.tb, dx, _, rfl, upd_same, T.cl, T.nMa, Nat.lt_of_le_of_lt (Nat.le_trans (length_putF _ _ _) (Nat.succ_le_succ (Nat.le_trans (length_putF _ _ _) (Nat.succ_le_succ (length_putF _ _ _))))) (by show 0 + 1 + 1 + 1 < 1000; decide), ?_⟩
    -- own_more
    have hD0 : 0 ≤ e / a := by rw [← t.hD]; exact t.D0
    have hDe : e / a ≤ e := by rw [← t.hD]; exact t.De
    refine ⟨_, rfl, _, rfl, p, d.tb, dx, _, _, rfl, upd_same, T.cl, T.nMa, by rw [lookup_putF, if_pos rfl], _, rfl, _, _, rfl, rfl, zmul hD0 (big (Int.lt_of_le_of_lt hDe ze)) (Int.le_of_lt ha) (big za), _, _, rfl, rfl, ?_⟩
    refine ⟨_, rfl, p, d.tb, dx, _, rfl, upd_same, T.cl, T.nMo, Nat.lt_of_le_of_lt (Nat.le_trans (length_putF _ _ _) (Nat.succ_le_succ (Nat.le_trans (length_putF _ _ _) (Nat.succ_le_succ (Nat.le_trans (length_putF _ _ _) (Nat.succ_le_succ (length_putF _ _ _))))))) (by show 0 + 1 + 1 + 1 + 1 < 1000; decide), ?_⟩
    have eE : e - e / a * a = E' := by rw [t.hE, Int.emod_def, Int.mul_comm]
    refine k _ ?_ fun c o hc hh => ?_
    · rw [upd_same, ← eE, t.hD]
      rfl
    · rw [upd_ne hc, upd_ne hc, upd_ne hc, upd_ne hc, upd_ne hc, upd_ne (ne_of_none hh hq)]
      exact hh
theorem scSiz : FnScope ["self", "end"] ["self", "end"] (defScope (mth 4)) := ⟨rfl, rfl, rfl, by decide +kernel, rfl, by decide +kernel, by decide +kernel⟩
theorem ok_siz (T : Facts K mg d) : Ok P w K mg base 2 d.siz ["self", "end"] (spSiz d.tb) := by
  obtain ⟨fd, F⟩ := T.siz.df
  obtain ⟨_, GE, bE, kE⟩ := ok_isE (P := P) (w := w) (base := base) T
  refine ⟨fd, F.ok scSiz (fun vs H Q E h => ?_) (fun cdv A outer s H vs Q E hr h => ?_), F.binds fun _ _ _ _ _ _ us hl => match us, hl with | [_, _], _ => rfl, F.kp⟩
  · obtain ⟨p, a, b, e, D, E', t, rfl, _⟩ := h
    rfl
  · obtain ⟨p, a, b, e, D, E', t, rfl, hB, k⟩ := h
    refine ⟨_, pss_cons (ps_if (pt_not (pt_val (pe_call GE hr (by rfl) T.isE.mg kE bE .nil pass0 (pa_cons (pv 1) pa_nil)))) (pss_one ps_never) pss_nil)
      (pss_one (ps_ret (pe_ifExp (pt_cmpR op_eq (pv 1) pe_str (nomark _)) (pe_fld (pv 0) rfl) (pe_fld (pv 0) rfl)))), ?_⟩
    refine ⟨_, rfl, t, rfl, fun H1 s1 => ⟨true, rfl, iteF ?_⟩⟩
    obtain ⟨dx, h1⟩ := hB.same s1
    refine ⟨_, rfl, by cases t <;> rfl, _, rfl, ?_⟩
    cases t
    · rw [show decide (V.str (sd false) = V.str "near") = false by decide +kernel]
      exact iteF ⟨_, rfl, p, d.tb, dx, _, _, rfl, h1, T.cl, T.nFa, fl_far, k H1 s1⟩
    · rw [show decide (V.str (sd true) = V.str "near") = true by decide +kernel]
      exact iteT ⟨_, rfl, p, d.tb, dx, _, _, rfl, h1, T.cl, T.nNe, fl_near, k H1 s1⟩
theorem scWan : FnScope ["self", "end", "row"] ["self", "end", "row"] (defScope (mth 5)) := ⟨rfl, rfl, rfl, by decide +kernel, rfl, by decide +kernel, by decide +kernel⟩
theorem ok_wan (T : Facts K mg d) : Ok P w K mg base 4 d.wan ["self", "end", "row"] (spWan d.tb) := by
  obtain ⟨fd, F⟩ := T.wan.df
  obtain ⟨_, GS, bS, kS⟩ := ok_siz (P := P) (w := w) (base := base) T
  obtain ⟨_, GU, bU, kU⟩ := ok_isU (P := P) (w := w) (base := base) T
  refine ⟨fd, F.ok scWan (fun vs H Q E h => ?_) (fun cdv A outer s H vs Q E hr h => ?_), F.binds fun _ _ _ _ _ _ us hl => match us, hl with | [_, _, _], _ => rfl, F.kp⟩
  · obtain ⟨p, a, b, e, D, E', t, i, rfl, _⟩ := h
    rfl
  · obtain ⟨p, a, b, e, D, E', t, i, rfl, hB, h0, h1, k⟩ := h
    have hr2 : Room 2 _ := hr.mono (by decide)
    refine ⟨_, pss_one (ps_if (pt_not (pt_val (pe_call GU hr (by rfl) T.isU.mg kU bU .nil pass0 (pa_cons (pv 2) (pa_cons (pe_meth (pv 0) T.cl T.siz.me GS hr2 bS .nil pass0 (pa_cons (pv 1) pa_nil)) pa_nil))))) (pss_one ps_never) pss_nil), ?_⟩
    obtain ⟨dx, hp⟩ := id hB
    refine ⟨_, rfl, _, rfl, p, dx, _, rfl, hp, fl_no (by decide +kernel), _, rfl, p, a, b, e, D, E', t, rfl, hB, fun H1 s1 => ?_⟩
    refine ⟨i, sz t a b, rfl, _, rfl, ?_⟩
    rw [decide_eq_true ⟨h0, h1⟩]
    exact iteF (k H1 s1)
theorem scFst : FnScope ["self", "row"] ["self", "row"] (defScope (mth 6)) := ⟨rfl, rfl, rfl, by decide +kernel, rfl, by decide +kernel, by decide +kernel⟩
theorem ok_fst (T : Facts K mg d) : Ok P w K mg base 1 d.fst ["self", "row"] (spFst d.tb) := by
  obtain ⟨fd, F⟩ := T.fst.df
  refine ⟨fd, F.ok scFst (fun vs H Q E h => ?_) (fun cdv A outer s H vs Q E hr h => ?_), F.binds fun _ _ _ _ _ _ us hl => match us, hl with | [_, _], _ => rfl, F.kp⟩
  · obtain ⟨p, a, b, e, D, E', i, rfl, _⟩ := h
    rfl
  · obtain ⟨p, a, b, e, D, E', i, rfl, ⟨dx, hp⟩, z, h0, h1, k⟩ := h
    refine ⟨_, pss_one (ps_ret (pe_op op_add (pe_op op_mulW (pv 1) (pe_fld (pv 0) rfl)) (pe_callB (call_min2 rfl) (by rfl) T.bMin (by decide +kernel) (pa_cons (pv 1) (pa_cons (pe_fld (pv 0) rfl) pa_nil))))), ?_⟩
    refine ⟨_, rfl, _, rfl, p, d.tb, dx, _, _, rfl, hp, T.cl, T.nMa, fl_many, _, _, rfl, rfl, zmul h0 (big (Int.lt_of_le_of_lt h1 z.za)) z.t.D0 (big (Int.lt_of_le_of_lt z.t.De z.ze)), ?_⟩
    exact ⟨_, rfl, _, rfl, p, d.tb, dx, _, _, rfl, hp, T.cl, T.nMo, fl_more, _, _, rfl, _, _, rfl, rfl, k⟩
theorem scNrw : FnScope ["self", "number", "ahead"] ["self", "number"] (defScope (mth 7)) := ⟨rfl, rfl, rfl, by decide +kernel, rfl, by decide +kernel, by decide +kernel⟩
theorem ok_nrw (T : Facts K mg d) : Ok P w K mg base 1 d.nrw ["self", "number"] (spNrw d.tb) := by
  obtain ⟨fd, F⟩ := T.nrw.df
  refine ⟨fd, F.ok scNrw (fun vs H Q E h => ?_) (fun cdv A outer s H vs Q E hr h => ?_), F.binds fun _ _ _ _ _ _ us hl => match us, hl with | [_, _], _ => rfl, F.kp⟩
  · obtain ⟨p, a, b, e, D, E', n, rfl, _⟩ := h
    rfl
  · obtain ⟨p, a, b, e, D, E', n, rfl, ⟨dx, hp⟩, z, h0, h1, k⟩ := h
    have hD := z.t.D0
    have hE := z.t.E0
    have hDb : D < 2 ^ 210 := Int.lt_of_le_of_lt z.t.De z.ze
    have hEb : E' < 2 ^ 210 := Int.lt_trans z.t.Ea z.za
    have hD1 : D + 1 < 2 ^ 500 := Int.lt_of_le_of_lt (show D + 1 ≤ 2 ^ 210 by omega) (by decide +kernel)
    refine ⟨_, pss_cons (ps_set (i := 2) scNrw.nd rfl (Or.inl rfl) (pe_op op_mulW (pe_fld (pv 0) rfl) (pe_op op_add (pe_fld (pv 0) rfl) pe_int)))
      (pss_cons (ps_if (pt_cmpR op_lt (pv 1) (pv 2) (nomark _)) (pss_one (ps_ret (pe_op op_fdivW (pv 1) (pe_op op_add (pe_fld (pv 0) rfl) pe_int)))) pss_nil)
      (pss_one (ps_ret (pe_op op_add (pe_fld (pv 0) rfl) (pe_op op_fdivW (pe_op op_sub (pv 1) (pv 2)) (pe_fld (pv 0) rfl)))))), ?_⟩
    refine ⟨_, rfl, p, d.tb, dx, _, _, rfl, hp, T.cl, T.nMo, fl_more, _, rfl, p, d.tb, dx, _, _, rfl, hp, T.cl, T.nMa, fl_many, _, _, rfl, rfl, _, _, rfl, rfl, zmul hE (big hEb) (show 0 ≤ D + 1 by omega) hD1, ?_⟩
    refine ⟨_, rfl, _, rfl, _, _, rfl, rfl, _, rfl, ?_⟩
    by_cases hlt : n < E' * (D + 1)
    · rw [decide_eq_true hlt]
      refine iteT ⟨_, rfl, _, rfl, p, d.tb, dx, _, _, rfl, hp, T.cl, T.nMa, fl_many, _, _, rfl, rfl, _, _, rfl, rfl, zdiv (show 0 < D + 1 by omega) hD1, ?_⟩
      have e1 : NR D E' n = n / (D + 1) := by unfold NR; rw [if_pos hlt]
      rw [e1] at k
      exact k
    · rw [decide_eq_false hlt]
      have hDp : 0 < D := by
        refine Int.lt_of_not_ge fun hle => ?_
        have hz : D = 0 := by omega
        have hs := z.t.sum
        rw [hz, Int.mul_zero, Int.zero_add] at hs
        rw [hz, Int.zero_add, Int.mul_one] at hlt
        omega
      refine iteF ⟨_, rfl, p, d.tb, dx, _, _, rfl, hp, T.cl, T.nMo, fl_more, _, rfl, _, rfl, _, _, rfl, rfl, _, rfl, p, d.tb, dx, _, _, rfl, hp, T.cl, T.nMa, fl_many, _, _, rfl, rfl, zdiv hDp (big hDb), _, _, rfl, rfl, ?_⟩
      have e1 : NR D E' n = E' + (n - E' * (D + 1)) / D := by unfold NR; rw [if_neg hlt]
      rw [e1] at k
      exact k
theorem scDeg : FnScope ["self", "end", "row"] ["self", "end", "row"] (defScope (mth 8)) := ⟨rfl, rfl, rfl, by decide +kernel, rfl, by decide +kernel, by decide +kernel⟩
theorem ok_deg (T : Facts K mg d) : Ok P w K mg base 1 d.deg ["self", "end", "row"] (spDeg d.tb) := by
  obtain ⟨fd, F⟩ := T.deg.df
  refine ⟨fd, F.ok scDeg (fun vs H Q E h => ?_) (fun cdv A outer s H vs Q E hr h => ?_), F.binds fun _ _ _ _ _ _ us hl => match us, hl with | [_, _, _], _ => rfl, F.kp⟩
  · obtain ⟨p, a, b, e, D, E', t, i, rfl, _⟩ := h
    rfl
  · obtain ⟨p, a, b, e, D, E', t, i, rfl, ⟨dx, hp⟩, z, h0, h1, k⟩ := h
    refine ⟨_, pss_cons (ps_if (pt_cmpR op_eq (pv 1) pe_str (nomark _)) (pss_one (ps_ret (pe_op op_add (pe_fld (pv 0) rfl) (pe_callTy call_int1 (by rfl) T.bInt (by decide +kernel) (pa_cons (pe_cmpR op_lt (pv 2) (pe_fld (pv 0) rfl) (nomark _)) pa_nil))))) pss_nil)
      (pss_one (ps_ret (pe_op op_add (pe_op op_fdivW (pe_fld (pv 0) rfl) (pe_fld (pv 0) rfl)) (pe_callTy call_int1 (by rfl) T.bInt (by decide +kernel) (pa_cons (pe_cmpR op_lt (pv 2) (pe_op op_mod (pe_fld (pv 0) rfl) (pe_fld (pv 0) rfl)) (nomark _)) pa_nil))))), ?_⟩
    refine ⟨_, rfl, by cases t <;> rfl, _, rfl, ?_⟩
    cases t
    · rw [show decide (V.str (sd false) = V.str "near") = false by decide +kernel]
      refine iteF ⟨_, rfl, p, d.tb, dx, _, _, rfl, hp, T.cl, T.nTo, fl_total, _, rfl, p, d.tb, dx, _, _, rfl, hp, T.cl, T.nFa, fl_far, _, _, rfl, rfl, zdiv z.t.hb (big z.zb), ?_⟩
      refine ⟨_, rfl, _, rfl, p, d.tb, dx, _, _, rfl, hp, T.cl, T.nTo, fl_total, _, rfl, p, d.tb, dx, _, _, rfl, hp, T.cl, T.nFa, fl_far, _, _, rfl, rfl, z.t.hb, _, _, rfl, rfl, .inr ⟨_, rfl, _, _, rfl, rfl, ?_⟩⟩
      have e1 : gd false b e D E' i = e / b + (if decide (i < e % b) = true then 1 else 0) := by
        rw [int_dec]
        exact z.t.fd_eq h0 h1
      rw [e1] at k
      exact k
    · rw [show decide (V.str (sd true) = V.str "near") = true by decide +kernel]
      refine iteT ⟨_, rfl, p, d.tb, dx, _, _, rfl, hp, T.cl, T.nMa, fl_many, _, rfl, _, rfl, p, d.tb, dx, _, _, rfl, hp, T.cl, T.nMo, fl_more, _, _, rfl, rfl, .inr ⟨_, rfl, _, _, rfl, rfl, ?_⟩⟩
      have e1 : gd true b e D E' i = D + (if decide (i < E') = true then 1 else 0) := by
        rw [int_dec]
        rfl
      rw [e1] at k
      exact k
theorem scPar : FnScope ["self", "end", "row", "place"] ["self", "end", "row", "place"] (defScope (mth 9)) := ⟨rfl, rfl, rfl, by decide +kernel, rfl, by decide +kernel, by decide +kernel⟩
theorem ok_par (T : Facts K mg d) : Ok P w K mg base 2 d.par ["self", "end", "row", "place"] (spPar d.tb) := by
  obtain ⟨fd, F⟩ := T.par.df
  obtain ⟨_, GF, bF, kF⟩ := ok_fst (P := P) (w := w) (base := base) T
  obtain ⟨_, GN, bN, kN⟩ := ok_nrw (P := P) (w := w) (base := base) T
  refine ⟨fd, F.ok scPar (fun vs H Q E h => ?_) (fun cdv A outer s H vs Q E hr h => ?_), F.binds fun _ _ _ _ _ _ us hl => match us, hl with | [_, _, _, _], _ => rfl, F.kp⟩
  · obtain ⟨p, a, b, e, D, E', t, i, j, rfl, _⟩ := h
    rfl
  · obtain ⟨p, a, b, e, D, E', t, i, j, rfl, hB, z, h0, h1, j0, j1, k⟩ := h
    obtain ⟨dx, hp⟩ := id hB
    refine ⟨_, pss_cons (ps_if (pt_cmpR op_eq (pv 1) pe_str (nomark _)) (pss_one (ps_ret (pe_op op_mod (pe_op op_add (pe_meth (pv 0) T.cl T.fst.me GF hr bF .nil pass0 (pa_cons (pv 2) pa_nil)) (pv 3)) (pe_fld (pv 0) rfl)))) pss_nil)
      (pss_one (ps_ret (pe_meth (pv 0) T.cl T.nrw.me GN hr bN .nil pass0 (pa_cons (pe_op op_add (pv 2) (pe_op op_mulW (pv 3) (pe_fld (pv 0) rfl))) pa_nil)))), ?_⟩
    refine ⟨_, rfl, by cases t <;> rfl, _, rfl, ?_⟩
    cases t
    · rw [show decide (V.str (sd false) = V.str "near") = false by decide +kernel]
      have hn := (z.t.fd_num h0 h1 j0).mp j1
      have jb0 : 0 ≤ j * b := Int.mul_nonneg j0 (Int.le_of_lt z.t.hb)
      have jle : j ≤ j * b := by
        have := Int.mul_le_mul_of_nonneg_left (show 1 ≤ b from z.t.hb) j0
        omega
      have jz : j < 2 ^ 500 := by
        have := big z.ze
        omega
      refine iteF ⟨_, rfl, p, dx, _, rfl, hp, fl_no (by decide +kernel), _, rfl, _, rfl, _, rfl, p, d.tb, dx, _, _, rfl, hp, T.cl, T.nFa, fl_far, _, _, rfl, rfl, zmul j0 jz (Int.le_of_lt z.t.hb) (big z.zb), _, _, rfl, rfl, ?_⟩
      exact ⟨p, a, b, e, D, E', _, rfl, hB, z, by show 0 ≤ i + j * b; omega, hn, k⟩
    · rw [show decide (V.str (sd true) = V.str "near") = true by decide +kernel]
      refine iteT ⟨_, rfl, p, dx, _, rfl, hp, fl_no (by decide +kernel), _, rfl, p, a, b, e, D, E', i, rfl, hB, z, h0, Int.le_of_lt h1, ?_⟩
      exact ⟨_, rfl, _, _, rfl, rfl, _, rfl, p, d.tb, dx, _, _, rfl, hp, T.cl, T.nFa, fl_far, _, _, rfl, rfl, z.t.hb, k⟩
theorem scNat : FnScope ["self", "near", "far", "first", "place"] ["self", "near", "far"] (defScope (mth 10)) := ⟨rfl, rfl, rfl, by decide +kernel, rfl, by decide +kernel, by decide +kernel⟩
theorem ok_nat (T : Facts K mg d) : Ok P w K mg base 2 d.nat ["self", "near", "far"] (spNat d.tb) := by
  obtain ⟨fd, F⟩ := T.nat.df
  obtain ⟨_, GF, bF, kF⟩ := ok_fst (P := P) (w := w) (base := base) T
  obtain ⟨_, GD, bD, kD⟩ := ok_deg (P := P) (w := w) (base := base) T
  refine ⟨fd, F.ok scNat (fun vs H Q E h => ?_) (fun cdv A outer s H vs Q E hr h => ?_), F.binds fun _ _ _ _ _ _ us hl => match us, hl with | [_, _, _], _ => rfl, F.kp⟩
  · obtain ⟨p, a, b, e, D, E', i, j, rfl, _⟩ := h
    rfl
  · obtain ⟨p, a, b, e, D, E', i, j, rfl, hB, z, h0, h1, k⟩ := h
    obtain ⟨dx, hp⟩ := id hB
    refine ⟨_, pss_cons (ps_set (i := 3) scNat.nd rfl (Or.inl rfl) (pe_meth (pv 0) T.cl T.fst.me GF hr bF .nil pass0 (pa_cons (pv 1) pa_nil)))
      (pss_cons (ps_set (i := 4) scNat.nd rfl (Or.inl rfl) (pe_op op_mod (pe_op op_sub (pv 2) (pv 3)) (pe_fld (pv 0) rfl)))
      (pss_one (ps_ret (pe_ifExp (pt_cmpR op_lt (pv 4) (pe_meth (pv 0) T.cl T.deg.me GD hr bD .nil pass0 (pa_cons pe_str (pa_cons (pv 1) pa_nil))) (nomark _)) (pe_op op_add (pv 3) (pv 4)) pe_non)))), ?_⟩
    refine ⟨_, rfl, p, dx, _, rfl, hp, fl_no (by decide +kernel), _, rfl, p, a, b, e, D, E', i, rfl, hB, z, h0, Int.le_of_lt h1, ?_⟩
    refine ⟨_, rfl, _, rfl, _, _, rfl, rfl, _, rfl, p, d.tb, dx, _, _, rfl, hp, T.cl, T.nFa, fl_far, _, _, rfl, rfl, z.t.hb, ?_⟩
    refine ⟨_, rfl, _, rfl, p, dx, _, rfl, hp, fl_no (by decide +kernel), _, rfl, p, a, b, e, D, E', true, i, rfl, hB, z, h0, h1, ?_⟩
    refine ⟨_, _, rfl, rfl, _, rfl, ?_⟩
    by_cases hlt : (j - S D E' i) % b < dg D E' i
    · rw [show decide ((j - S D E' i) % b < gd true b e D E' i) = true from decide_eq_true hlt]
      have e1 : due b D E' i j = .int (S D E' i + (j - S D E' i) % b) := by unfold due; rw [if_pos hlt]
      rw [e1] at k
      exact iteT ⟨_, rfl, _, rfl, _, _, rfl, rfl, k⟩
    · rw [show decide ((j - S D E' i) % b < gd true b e D E' i) = false from decide_eq_false hlt]
      have e1 : due b D E' i j = .non := by unfold due; rw [if_neg hlt]
      rw [e1] at k
      exact iteF k
end
end K32

namespace K32
open PySem L2 K32G K32O
def spNof (C : Addr) : Sp := fun vs H Q _ => ∃ p a b e D E i j, vs = [.ref p, .int i, .int j] ∧ Bd C H p a b e D E ∧ Tz a b e D E ∧ 0 ≤ i ∧ i < a ∧ 0 ≤ j ∧ j < b ∧ ∀ H', Same H H' → Q (due b D E i j) H'
def spDgr (C : Addr) : Sp := fun vs H Q _ => ∃ p a b e D E t i, vs = [.ref p, .str (sd t), .int i] ∧ Bd C H p a b e D E ∧ Tz a b e D E ∧ 0 ≤ i ∧ i < sz t a b ∧ ∀ H', Same H H' → Q (.int (gd t b e D E i)) H'
def spPtn (C : Addr) : Sp := fun vs H Q _ => ∃ p a b e D E t i k, vs = [.ref p, .str (sd t), .int i, .int k] ∧ Bd C H p a b e D E ∧ Tz a b e D E ∧ 0 ≤ i ∧ i < sz t a b ∧ 0 ≤ k ∧ k < gd t b e D E i ∧ ∀ H', Same H H' → Q (.int (pt t b D E i k)) H'
def spCal (C : Addr) : Sp := fun vs H Q _ => ∃ p a b e D E n, vs = [.ref p, .int n] ∧ Bd C H p a b e D E ∧ Tz a b e D E ∧ 0 ≤ n ∧ n < e ∧ ∀ q H', Same H H' → H' q = some (.tup [.int (NR D E n), .int (n % b)]) → Q (.ref q) H'
def spCon (C : Addr) : Sp := fun vs H Q _ => ∃ p q a b e D E x y, vs = [.ref p, .ref q] ∧ Bd C H p a b e D E ∧ Tz a b e D E ∧ H q = some (.tup [.int x, .int y]) ∧
  Q (.bl (decide ((0 ≤ x ∧ x < a) ∧ (0 ≤ y ∧ y < b) ∧ (y - S D E x) % b < dg D E x))) H
def spEqq (C : Addr) : Sp := fun vs H Q _ => ∃ p q a b e D E a' b' e' D' E', vs = [.ref p, .ref q] ∧ Bd C H p a b e D E ∧ Bd C H q a' b' e' D' E' ∧ ∀ H', Same H H' → Q (.bl (decide (a = a' ∧ b = b' ∧ e = e'))) H'
def spNe (C : Addr) : Sp := fun vs H Q _ => ∃ p a b e D E, vs = [.ref p] ∧ Bd C H p a b e D E ∧ Q (.int a) H
def spFa (C : Addr) : Sp := fun vs H Q _ => ∃ p a b e D E, vs = [.ref p] ∧ Bd C H p a b e D E ∧ Q (.int b) H
def spTo (C : Addr) : Sp := fun vs H Q _ => ∃ p a b e D E, vs = [.ref p] ∧ Bd C H p a b e D E ∧ Q (.int e) H
/-- the partners of a row, all -/
def prts (t : Bool) (b e D E i : Int) : List V := (List.range (gd t b e D E i).toNat).map fun (k : Nat) => V.int (pt t b D E i (k : Int))
def spEac (C : Addr) : SpG := fun vs H Q _ => ∃ p a b e D E t i, vs = [.ref p, .str (sd t), .int i] ∧ Bd C H p a b e D E ∧ Tz a b e D E ∧ 0 ≤ i ∧ i < sz t a b ∧ gd t b e D E i ≤ 1000 ∧ ∀ H', Same H H' → Q (prts t b e D E i) H'
/-- its first partner -/
def fprt (t : Bool) (b e D E i : Int) : Option V := if 0 < gd t b e D E i then some (.int (pt t b D E i 0)) else none
def spEac1 (C : Addr) : SpF := fun vs H Q => ∃ p a b e D E t i, vs = [.ref p, .str (sd t), .int i] ∧ Bd C H p a b e D E ∧ Tz a b e D E ∧ 0 ≤ i ∧ i < sz t a b ∧ ∀ H', Same H H' → Q (fprt t b e D E i) H'
theorem gd0 {t : Bool} {a b e D E i : Int} (z : Tz a b e D E) : 0 ≤ gd t b e D E i := by
  cases t
  · exact z.t.fd0
  · exact z.t.dg0 i
section
variable {P : Program} {w : World} {K : PySem.W.Frag} {mg : Str → Option Value} {base : Heap} {d : AD}
theorem scNof : FnScope ["self", "near", "far"] ["self", "near", "far"] (defScope (mth 11)) := ⟨rfl, rfl, rfl, by decide +kernel, rfl, by decide +kernel, by decide +kernel⟩
theorem ok_nof (T : Facts K mg d) : Ok P w K mg base 5 d.nof ["self", "near", "far"] (spNof d.tb) := by
  obtain ⟨fd, F⟩ := T.nof.df
  obtain ⟨_, GW, bW, kW⟩ := ok_wan (P := P) (w := w) (base := base) T
  obtain ⟨_, GN, bN, kN⟩ := ok_nat (P := P) (w := w) (base := base) T
  refine ⟨fd, F.ok scNof (fun vs H Q E h => ?_) (fun cdv A outer s H vs Q E hr h => ?_), F.binds fun _ _ _ _ _ _ us hl => match us, hl with | [_, _, _], _ => rfl, F.kp⟩
  · obtain ⟨p, a, b, e, D, E', i, j, rfl, _⟩ := h
    rfl
  · obtain ⟨p, a, b, e, D, E', i, j, rfl, hB, z, h0, h1, j0, j1, k⟩ := h
    have hr2 : Room 2 _ := hr.mono (by decide)
    refine ⟨_, pss_cons (ps_expr (pe_meth (pv 0) T.cl T.wan.me GW hr bW .nil pass0 (pa_cons pe_str (pa_cons (pv 1) pa_nil))))
      (pss_cons (ps_expr (pe_meth (pv 0) T.cl T.wan.me GW hr bW .nil pass0 (pa_cons pe_str (pa_cons (pv 2) pa_nil))))
      (pss_one (ps_ret (pe_meth (pv 0) T.cl T.nat.me GN hr2 bN .nil pass0 (pa_cons (pv 1) (pa_cons (pv 2) pa_nil)))))), ?_⟩
    obtain ⟨dx, hp⟩ := id hB
    refine ⟨_, rfl, p, dx, _, rfl, hp, fl_no (by decide +kernel), _, rfl, p, a, b, e, D, E', true, i, rfl, hB, h0, h1, fun H1 s1 => ?_⟩
    have hB1 := hB.same s1
    refine ⟨_, rfl, p, dx, _, rfl, s1 _ _ hp, fl_no (by decide +kernel), _, rfl, p, a, b, e, D, E', false, j, rfl, hB1, j0, j1, fun H2 s2 => ?_⟩
    exact ⟨_, rfl, p, dx, _, rfl, s2 _ _ (s1 _ _ hp), fl_no (by decide +kernel), _, rfl, _, rfl, p, a, b, e, D, E', i, j, rfl, hB1.same s2, z, h0, h1, k H2 (s1.trans s2)⟩
theorem scDgr : FnScope ["self", "end", "row"] ["self", "end", "row"] (defScope (mth 12)) := ⟨rfl, rfl, rfl, by decide +kernel, rfl, by decide +kernel, by decide +kernel⟩
theorem ok_dgr (T : Facts K mg d) : Ok P w K mg base 5 d.dgr ["self", "end", "row"] (spDgr d.tb) := by
  obtain ⟨fd, F⟩ := T.dgr.df
  obtain ⟨_, GW, bW, kW⟩ := ok_wan (P := P) (w := w) (base := base) T
  obtain ⟨_, GD, bD, kD⟩ := ok_deg (P := P) (w := w) (base := base) T
  refine ⟨fd, F.ok scDgr (fun vs H Q E h => ?_) (fun cdv A outer s H vs Q E hr h => ?_), F.binds fun _ _ _ _ _ _ us hl => match us, hl with | [_, _, _], _ => rfl, F.kp⟩
  · obtain ⟨p, a, b, e, D, E', t, i, rfl, _⟩ := h
    rfl
  · obtain ⟨p, a, b, e, D, E', t, i, rfl, hB, z, h0, h1, k⟩ := h
    have hr1 : Room 1 _ := hr.mono (by decide)
    refine ⟨_, pss_cons (ps_expr (pe_meth (pv 0) T.cl T.wan.me GW hr bW .nil pass0 (pa_cons (pv 1) (pa_cons (pv 2) pa_nil))))
      (pss_one (ps_ret (pe_meth (pv 0) T.cl T.deg.me GD hr1 bD .nil pass0 (pa_cons (pv 1) (pa_cons (pv 2) pa_nil))))), ?_⟩
    obtain ⟨dx, hp⟩ := id hB
    refine ⟨_, rfl, p, dx, _, rfl, hp, fl_no (by decide +kernel), _, rfl, _, rfl, p, a, b, e, D, E', t, i, rfl, hB, h0, h1, fun H1 s1 => ?_⟩
    exact ⟨_, rfl, p, dx, _, rfl, s1 _ _ hp, fl_no (by decide +kernel), _, rfl, _, rfl, p, a, b, e, D, E', t, i, rfl, hB.same s1, z, h0, h1, k H1 s1⟩
theorem scPtn : FnScope ["self", "end", "row", "place"] ["self", "end", "row", "place"] (defScope (mth 13)) := ⟨rfl, rfl, rfl, by decide +kernel, rfl, by decide +kernel, by decide +kernel⟩
theorem ok_ptn (T : Facts K mg d) : Ok P w K mg base 5 d.ptn ["self", "end", "row", "place"] (spPtn d.tb) := by
  obtain ⟨fd, F⟩ := T.ptn.df
  obtain ⟨_, GW, bW, kW⟩ := ok_wan (P := P) (w := w) (base := base) T
  obtain ⟨_, GD, bD, kD⟩ := ok_deg (P := P) (w := w) (base := base) T
  obtain ⟨_, GU, bU, kU⟩ := ok_isU (P := P) (w := w) (base := base) T
  obtain ⟨_, GP, bP, kP⟩ := ok_par (P := P) (w := w) (base := base) T
  refine ⟨fd, F.ok scPtn (fun vs H Q E h => ?_) (fun cdv A outer s H vs Q E hr h => ?_), F.binds fun _ _ _ _ _ _ us hl => match us, hl with | [_, _, _, _], _ => rfl, F.kp⟩
  · obtain ⟨p, a, b, e, D, E', t, i, j, rfl, _⟩ := h
    rfl
  · obtain ⟨p, a, b, e, D, E', t, i, j, rfl, hB, z, h0, h1, j0, j1, k⟩ := h
    have hr1 : Room 1 _ := hr.mono (by decide)
    have hr2 : Room 2 _ := hr.mono (by decide)
    have hr3 : Room 3 _ := hr.mono (by decide)
    refine ⟨_, pss_cons (ps_expr (pe_meth (pv 0) T.cl T.wan.me GW hr bW .nil pass0 (pa_cons (pv 1) (pa_cons (pv 2) pa_nil))))
      (pss_cons (ps_if (pt_not (pt_val (pe_call GU hr3 (by rfl) T.isU.mg kU bU .nil pass0 (pa_cons (pv 3) (pa_cons (pe_meth (pv 0) T.cl T.deg.me GD hr1 bD .nil pass0 (pa_cons (pv 1) (pa_cons (pv 2) pa_nil))) pa_nil))))) (pss_one ps_never) pss_nil)
      (pss_one (ps_ret (pe_meth (pv 0) T.cl T.par.me GP hr2 bP .nil pass0 (pa_cons (pv 1) (pa_cons (pv 2) (pa_cons (pv 3) pa_nil))))))), ?_⟩
    obtain ⟨dx, hp⟩ := id hB
    refine ⟨_, rfl, p, dx, _, rfl, hp, fl_no (by decide +kernel), _, rfl, _, rfl, p, a, b, e, D, E', t, i, rfl, hB, h0, h1, fun H1 s1 => ?_⟩
    refine ⟨_, rfl, _, rfl, p, dx, _, rfl, s1 _ _ hp, fl_no (by decide +kernel), _, rfl, _, rfl, p, a, b, e, D, E', t, i, rfl, hB.same s1, z, h0, h1, ?_⟩
    refine ⟨j, _, rfl, _, rfl, ?_⟩
    rw [decide_eq_true ⟨j0, j1⟩]
    refine iteF ?_
    exact ⟨_, rfl, p, dx, _, rfl, s1 _ _ hp, fl_no (by decide +kernel), _, rfl, _, rfl, _, rfl, p, a, b, e, D, E', t, i, j, rfl, hB.same s1, z, h0, h1, j0, j1, k H1 s1⟩
theorem scCal : FnScope ["self", "number"] ["self", "number"] (defScope (mth 15)) := ⟨rfl, rfl, rfl, by decide +kernel, rfl, by decide +kernel, by decide +kernel⟩
theorem ok_cal (T : Facts K mg d) : Ok P w K mg base 4 d.cal ["self", "number"] (spCal d.tb) := by
  obtain ⟨fd, F⟩ := T.cal.df
  obtain ⟨_, GN, bN, kN⟩ := ok_nrw (P := P) (w := w) (base := base) T
  obtain ⟨_, GU, bU, kU⟩ := ok_isU (P := P) (w := w) (base := base) T
  refine ⟨fd, F.ok scCal (fun vs H Q E h => ?_) (fun cdv A outer s H vs Q E hr h => ?_), F.binds fun _ _ _ _ _ _ us hl => match us, hl with | [_, _], _ => rfl, F.kp⟩
  · obtain ⟨p, a, b, e, D, E', n, rfl, _⟩ := h
    rfl
  · obtain ⟨p, a, b, e, D, E', n, rfl, hB, z, h0, h1, k⟩ := h
    have hr1 : Room 1 _ := hr.mono (by decide)
    refine ⟨_, pss_cons (ps_if (pt_not (pt_val (pe_call GU hr (by rfl) T.isU.mg kU bU .nil pass0 (pa_cons (pv 1) (pa_cons (pe_fld (pv 0) rfl) pa_nil))))) (pss_one ps_never) pss_nil)
      (pss_one (ps_ret (pe_tup (pa_cons (pe_meth (pv 0) T.cl T.nrw.me GN hr1 bN .nil pass0 (pa_cons (pv 1) pa_nil)) (pa_cons (pe_op op_mod (pv 1) (pe_fld (pv 0) rfl)) pa_nil))))), ?_⟩
    obtain ⟨dx, hp⟩ := id hB
    refine ⟨_, rfl, _, rfl, p, d.tb, dx, _, _, rfl, hp, T.cl, T.nTo, fl_total, n, e, rfl, _, rfl, ?_⟩
    rw [decide_eq_true ⟨h0, h1⟩]
    refine iteF ?_
    refine ⟨_, rfl, p, dx, _, rfl, hp, fl_no (by decide +kernel), _, rfl, p, a, b, e, D, E', n, rfl, hB, z, h0, h1, ?_⟩
    refine ⟨_, rfl, _, rfl, p, d.tb, dx, _, _, rfl, hp, T.cl, T.nFa, fl_far, _, _, rfl, rfl, z.t.hb, (by show 2 ≤ sizeLine; decide), fun q hq => ?_⟩
    exact k q _ (fun c o hh => by rw [upd_ne (ne_of_none hh hq)]; exact hh) upd_same
theorem scCon : FnScope ["self", "value", "near", "far", "first"] ["self", "value"] (defScope (mth 16)) := ⟨rfl, rfl, rfl, by decide +kernel, rfl, by decide +kernel, by decide +kernel⟩
theorem ok_con (T : Facts K mg d) : Ok P w K mg base 4 d.con ["self", "value"] (spCon d.tb) := by
  obtain ⟨fd, F⟩ := T.con.df
  obtain ⟨_, GU, bU, kU⟩ := ok_isU (P := P) (w := w) (base := base) T
  refine ⟨fd, F.ok scCon (fun vs H Q E h => ?_) (fun cdv A outer s H vs Q E hr h => ?_), F.binds fun _ _ _ _ _ _ us hl => match us, hl with | [_, _], _ => rfl, F.kp⟩
  · obtain ⟨p, q, a, b, e, D, E', x, y, rfl, _⟩ := h
    rfl
  · obtain ⟨p, q, a, b, e, D, E', x, y, rfl, ⟨dx, hp⟩, z, hq, k⟩ := h
    refine ⟨_, pss_cons (ps_if (PW.pt (pw_or (pt_not (pt_val (pe_callB call_isi (by rfl) T.bIsi (by decide +kernel) (pa_cons (pv 1) (pa_cons (pe_bltn (v := .ty "tuple") (by rfl) T.bTup (by decide +kernel) rfl) pa_nil)))))
          (pw_or1 (pt_cmpR op_ne (pe_callB call_len_seq (by rfl) T.bLen PySem.boot_len (pa_cons (pv 1) pa_nil)) pe_int (nomark _))))) (pss_one (ps_ret pe_bl)) pss_nil)
      (pss_cons (ps_asg (pv 1) (pg_tup rfl (pgs_cons (pg_name (i := 2) scCon.nd rfl (.inl rfl)) (pgs_cons (pg_name (i := 3) scCon.nd rfl (.inl rfl)) pgs_nil))))
      (pss_cons (ps_if (PW.pt (pw_or (pt_not (pt_val (pe_call GU hr (by rfl) T.isU.mg kU bU .nil pass0 (pa_cons (pv 2) (pa_cons (pe_fld (pv 0) rfl) pa_nil)))))
          (pw_or1 (pt_not (pt_val (pe_call GU hr (by rfl) T.isU.mg kU bU .nil pass0 (pa_cons (pv 3) (pa_cons (pe_fld (pv 0) rfl) pa_nil)))))))) (pss_one (ps_ret pe_bl)) pss_nil)
      (pss_cons (ps_set (i := 4) scCon.nd rfl (Or.inl rfl) (pe_op op_add (pe_op op_mulW (pv 2) (pe_fld (pv 0) rfl)) (pe_callB (call_min2 rfl) (by rfl) T.bMin (by decide +kernel) (pa_cons (pv 2) (pa_cons (pe_fld (pv 0) rfl) pa_nil)))))
      (pss_one (ps_ret (pe_cmpR op_lt (pe_op op_mod (pe_op op_sub (pv 3) (pv 4)) (pe_fld (pv 0) rfl))
        (pe_op op_add (pe_fld (pv 0) rfl) (pe_callTy call_int1 (by rfl) T.bInt (by decide +kernel) (pa_cons (pe_cmpR op_lt (pv 2) (pe_fld (pv 0) rfl) (nomark _)) pa_nil))) (nomark _))))))), ?_⟩
    -- a tuple of two
    refine ⟨_, rfl, _, _, _, _, _, rfl, ClsV.ty _, .base (.tup hq), kit_ty (r := true) (by decide +kernel), true, rfl, iteF ?_⟩
    refine ⟨_, rfl, q, _, rfl, .inr (SqT.of hq), rfl, _, rfl, ?_⟩
    rw [show (!decide (V.int (([V.int x, V.int y] : List V).length : Nat) = V.int 2)) = false by simp]
    refine iteF ?_
    refine ⟨_, rfl, q, _, rfl, SqT.of hq, rfl, _, _, rfl, _, _, rfl, rfl, ?_⟩
    -- rows of both ends
    refine ⟨_, rfl, _, rfl, p, d.tb, dx, _, _, rfl, hp, T.cl, T.nNe, fl_near, x, a, rfl, _, rfl, ?_⟩
    by_cases hx : 0 ≤ x ∧ x < a
    · rw [decide_eq_true hx]
      refine iteF ⟨_, rfl, _, rfl, p, d.tb, dx, _, _, rfl, hp, T.cl, T.nFa, fl_far, y, b, rfl, _, rfl, ?_⟩
      by_cases hy : 0 ≤ y ∧ y < b
      · rw [decide_eq_true hy]
        refine iteF ?_
        refine ⟨_, rfl, _, rfl, p, d.tb, dx, _, _, rfl, hp, T.cl, T.nMa, fl_many, _, _, rfl, rfl, zmul hx.1 (big (Int.lt_trans hx.2 z.za)) z.t.D0 (big (Int.lt_of_le_of_lt z.t.De z.ze)), ?_⟩
        refine ⟨_, rfl, _, rfl, p, d.tb, dx, _, _, rfl, hp, T.cl, T.nMo, fl_more, _, _, rfl, _, _, rfl, rfl, ?_⟩
        refine ⟨_, rfl, _, rfl, _, _, rfl, rfl, _, rfl, p, d.tb, dx, _, _, rfl, hp, T.cl, T.nFa, fl_far, _, _, rfl, rfl, z.t.hb, ?_⟩
        refine ⟨_, rfl, p, d.tb, dx, _, _, rfl, hp, T.cl, T.nMa, fl_many, _, rfl, _, rfl, p, d.tb, dx, _, _, rfl, hp, T.cl, T.nMo, fl_more, _, _, rfl, rfl, .inr ⟨_, rfl, _, _, rfl, rfl, _, _, rfl, rfl, ?_⟩⟩
        have e1 : decide ((0 ≤ x ∧ x < a) ∧ (0 ≤ y ∧ y < b) ∧ (y - S D E' x) % b < dg D E' x) = decide ((y - S D E' x) % b < D + (if decide (x < E') = true then 1 else 0)) := by
          rw [int_dec]
          simp only [hx, hy, dg, true_and, and_self]
        rw [e1] at k
        exact k
      · rw [decide_eq_false hy]
        have e1 : decide ((0 ≤ x ∧ x < a) ∧ (0 ≤ y ∧ y < b) ∧ (y - S D E' x) % b < dg D E' x) = false := decide_eq_false fun q => hy q.2.1
        rw [e1] at k
        exact iteT k
    · rw [decide_eq_false hx]
      have e1 : decide ((0 ≤ x ∧ x < a) ∧ (0 ≤ y ∧ y < b) ∧ (y - S D E' x) % b < dg D E' x) = false := decide_eq_false fun q => hx q.1
      rw [e1] at k
      exact iteT (iteT k)
end
end K32

namespace K32
open PySem L2 K32G K32O
theorem eqv3 (a b e a' b' e' : Int) : PyData.eqv (.tuple [.int a, .int b, .int e]) (.tuple [.int a', .int b', .int e']) = decide (a = a' ∧ b = b' ∧ e = e') := by
  rw [Bool.eq_iff_iff]
  simp [PyData.eqv, PyData.eqvAll]
section
variable {P : Program} {w : World} {K : PySem.W.Frag} {mg : Str → Option Value} {base : Heap} {d : AD}
theorem scEqq : FnScope ["self", "other"] ["self", "other"] (defScope (mth 17)) := ⟨rfl, rfl, rfl, by decide +kernel, rfl, by decide +kernel, by decide +kernel⟩
theorem ok_eqq (T : Facts K mg d) : Ok P w K mg base 1 d.eqq ["self", "other"] (spEqq d.tb) := by
  obtain ⟨fd, F⟩ := T.eqq.df
  refine ⟨fd, F.ok scEqq (fun vs H Q E h => ?_) (fun cdv A outer s H vs Q E hr h => ?_), F.binds fun _ _ _ _ _ _ us hl => match us, hl with | [_, _], _ => rfl, F.kp⟩
  · obtain ⟨p, q, a, b, e, D, E', a', b', e', D', E'', rfl, _⟩ := h
    rfl
  · obtain ⟨p, q, a, b, e, D, E', a', b', e', D', E'', rfl, ⟨dx, hp⟩, ⟨dy, hq⟩, k⟩ := h
    refine ⟨_, pss_cons (ps_if (pt_not (pt_val (pe_callB call_isi (by rfl) T.bIsi (by decide +kernel) (pa_cons (pv 1) (pa_cons (pe_glob (v := .ref d.tb) (by rfl) T.mgT rfl) pa_nil))))) (pss_one (ps_ret pe_bl)) pss_nil)
      (pss_one (ps_ret (pe_cmpR (op_eqD hr.units) (pe_tup (pa_cons (pe_fld (pv 0) rfl) (pa_cons (pe_fld (pv 0) rfl) (pa_cons (pe_fld (pv 0) rfl) pa_nil)))) (pe_tup (pa_cons (pe_fld (pv 1) rfl) (pa_cons (pe_fld (pv 1) rfl) (pa_cons (pe_fld (pv 1) rfl) pa_nil)))) (nomark _)))), ?_⟩
    refine ⟨_, rfl, _, _, _, _, _, rfl, ClsV.own _, .base (.ins hq T.cl T.ha T.hn T.htk T.hm), (by unfold PySem.W.kitOne; rw [if_pos (beq_self_eq_true _)]), true, rfl, iteF ?_⟩
    refine ⟨_, rfl, p, d.tb, dx, _, _, rfl, hp, T.cl, T.nNe, fl_near, _, rfl, p, d.tb, dx, _, _, rfl, hp, T.cl, T.nFa, fl_far, _, rfl, p, d.tb, dx, _, _, rfl, hp, T.cl, T.nTo, fl_total, (by show 3 ≤ sizeLine; decide), fun x hx => ?_⟩
    have hq1 : ∀ o, (upd H x o) q = some (.ins d.tb dy (fl a' b' e' D' E'')) := fun o => by rw [upd_ne (ne_of_none hq hx)]; exact hq
    refine ⟨_, rfl, q, d.tb, dy, _, _, rfl, hq1 _, T.cl, T.nNe, fl_near, _, rfl, q, d.tb, dy, _, _, rfl, hq1 _, T.cl, T.nFa, fl_far, _, rfl, q, d.tb, dy, _, _, rfl, hq1 _, T.cl, T.nTo, fl_total, (by show 3 ≤ sizeLine; decide), fun y hy => ?_⟩
    have nxy : x ≠ y := fun z => by
      rw [← z, upd_same] at hy
      cases hy
    have hx2 : ∀ o u, (upd (upd H x u) y o) x = some u := fun o u => by rw [upd_ne nxy, upd_same]
    refine ⟨.tuple [.int a, .int b, .int e], .tuple [.int a', .int b', .int e'], .tup (SqT.of (hx2 _ _)) (.cons (.int _) (.cons (.int _) (.cons (.int _) .nil))), .tup (SqT.of upd_same) (.cons (.int _) (.cons (.int _) (.cons (.int _) .nil))), by rfl, by rfl, ?_⟩
    rw [eqv3]
    refine k _ fun c o hc => ?_
    have hy0 : H y = none := by
      rw [upd_ne nxy.symm] at hy
      exact hy
    rw [upd_ne (ne_of_none hc hy0), upd_ne (ne_of_none hc hx)]
    exact hc
theorem scNe : FnScope ["self"] ["self"] (defScope (mth 1)) := ⟨rfl, rfl, rfl, by decide +kernel, rfl, by decide +kernel, by decide +kernel⟩
theorem ok_gNe (T : Facts K mg d) : Ok P w K mg base 1 d.gNe ["self"] (spNe d.tb) := by
  obtain ⟨fd, F⟩ := T.pNe.df
  refine ⟨fd, F.ok scNe (fun vs H Q E h => ?_) (fun cdv A outer s H vs Q E hr h => ?_), F.binds fun _ _ _ _ _ _ us hl => match us, hl with | [_], _ => rfl, F.kp⟩
  · obtain ⟨p, a, b, e, D, E', rfl, _⟩ := h
    rfl
  · obtain ⟨p, a, b, e, D, E', rfl, ⟨dx, hp⟩, k⟩ := h
    exact ⟨_, pss_one (ps_ret (pe_fld (pv 0) rfl)), _, rfl, p, d.tb, dx, _, _, rfl, hp, T.cl, T.nNe, fl_near, k⟩
theorem scFa : FnScope ["self"] ["self"] (defScope (mth 2)) := ⟨rfl, rfl, rfl, by decide +kernel, rfl, by decide +kernel, by decide +kernel⟩
theorem ok_gFa (T : Facts K mg d) : Ok P w K mg base 1 d.gFa ["self"] (spFa d.tb) := by
  obtain ⟨fd, F⟩ := T.pFa.df
  refine ⟨fd, F.ok scFa (fun vs H Q E h => ?_) (fun cdv A outer s H vs Q E hr h => ?_), F.binds fun _ _ _ _ _ _ us hl => match us, hl with | [_], _ => rfl, F.kp⟩
  · obtain ⟨p, a, b, e, D, E', rfl, _⟩ := h
    rfl
  · obtain ⟨p, a, b, e, D, E', rfl, ⟨dx, hp⟩, k⟩ := h
    exact ⟨_, pss_one (ps_ret (pe_fld (pv 0) rfl)), _, rfl, p, d.tb, dx, _, _, rfl, hp, T.cl, T.nFa, fl_far, k⟩
theorem scTo : FnScope ["self"] ["self"] (defScope (mth 3)) := ⟨rfl, rfl, rfl, by decide +kernel, rfl, by decide +kernel, by decide +kernel⟩
theorem ok_gTo (T : Facts K mg d) : Ok P w K mg base 1 d.gTo ["self"] (spTo d.tb) := by
  obtain ⟨fd, F⟩ := T.pTo.df
  refine ⟨fd, F.ok scTo (fun vs H Q E h => ?_) (fun cdv A outer s H vs Q E hr h => ?_), F.binds fun _ _ _ _ _ _ us hl => match us, hl with | [_], _ => rfl, F.kp⟩
  · obtain ⟨p, a, b, e, D, E', rfl, _⟩ := h
    rfl
  · obtain ⟨p, a, b, e, D, E', rfl, ⟨dx, hp⟩, k⟩ := h
    exact ⟨_, pss_one (ps_ret (pe_fld (pv 0) rfl)), _, rfl, p, d.tb, dx, _, _, rfl, hp, T.cl, T.nTo, fl_total, k⟩
/-! ### the generator: all of a row's partners, the first one -/
theorem gsEac : GScope ["self", "end", "row", "place"] ["self", "end", "row"] (defScope (mth 14)) := ⟨rfl, rfl, rfl, by decide +kernel, rfl, by decide +kernel, by decide +kernel⟩
theorem ok_eac (T : Facts K mg d) : ∃ fd, GFn P w K mg base 5 d.eac fd ["self", "end", "row"] (spEac d.tb) ∧ Binds K fd ["self", "end", "row"] [] := by
  obtain ⟨fd, F⟩ := T.eac.df
  obtain ⟨_, GW, bW, kW⟩ := ok_wan (P := P) (w := w) (base := base) T
  obtain ⟨_, GD, bD, kD⟩ := ok_deg (P := P) (w := w) (base := base) T
  obtain ⟨_, GP, bP, kP⟩ := ok_par (P := P) (w := w) (base := base) T
  have bE := F.binds (ps := ["self", "end", "row"]) fun _ _ _ _ _ _ us hl => match us, hl with | [_, _, _], _ => rfl
  obtain ⟨oc, od, kV, doc, pm, an, cdv, ct, osl, rfl, lk, hcd⟩ := F.ex
  refine ⟨_, gfn_of lk hcd gsEac (fun vs H Q E h => ?_) (fun A outer s H vs Q E pn hr h => ?_), bE⟩
  · obtain ⟨p, a, b, e, D, E', t, i, rfl, _⟩ := h
    rfl
  · obtain ⟨p, a, b, e, D, E', t, i, rfl, hB, z, h0, h1, hn, k⟩ := h
    have hr1 : Room 1 _ := hr.mono (by decide)
    have hr2 : Room 2 _ := hr.mono (by decide)
    refine ⟨_, gss_cons (gs_ps (ps_expr (pe_meth (pv 0) T.cl T.wan.me GW hr bW .nil pass0 (pa_cons (pv 1) (pa_cons (pv 2) pa_nil)))))
      (gss_cons (gs_ps (ps_set (i := 3) gsEac.nd rfl (Or.inl rfl) pe_int))
      (gss_cons (gs_while owns_gcx (pt_cmpR op_lt (pv 3) (pe_meth (pv 0) T.cl T.deg.me GD hr1 bD .nil pass0 (pa_cons (pv 1) (pa_cons (pv 2) pa_nil))) (nomark _))
        (gss_cons (gs_yield (pe_meth (pv 0) T.cl T.par.me GP hr2 bP .nil pass0 (pa_cons (pv 1) (pa_cons (pv 2) (pa_cons (pv 3) pa_nil)))))
        (gss_cons (gs_ps (ps_aug (i := 3) gsEac.nd rfl (Or.inl rfl) pe_int ip_add)) gss_nil))) gss_nil)), ?_⟩
    obtain ⟨dx, hp⟩ := id hB
    refine ⟨_, rfl, p, dx, _, rfl, hp, fl_no (by decide +kernel), _, rfl, _, rfl, p, a, b, e, D, E', t, i, rfl, hB, h0, h1, fun H1 s1 => ?_⟩
    have hB1 := hB.same s1
    have hp1 := s1 _ _ hp
    have g0 : 0 ≤ gd t b e D E' i := gd0 z
    obtain ⟨n, en⟩ := Int.eq_ofNat_of_zero_le g0
    refine ⟨fun m ys σ H' => ∃ j : Nat, m = n - j ∧ j ≤ n ∧ H1 = H' ∧ ys = (List.range j).map (fun (k : Nat) => V.int (pt t b D E' i (k : Int))) ∧ σ = [some (.ref p), some (.str (sd t)), some (.int i), some (.int (j : Int))], ⟨n, 0, rfl, Nat.zero_le _, rfl, rfl, rfl⟩, ?_⟩
    rintro m ys σ H' ⟨j, rfl, hj, rfl, rfl, rfl⟩
    refine ⟨_, rfl, _, rfl, p, dx, _, rfl, hp1, fl_no (by decide +kernel), _, rfl, _, rfl, p, a, b, e, D, E', t, i, rfl, hB1, z, h0, h1, ?_⟩
    refine ⟨_, _, rfl, rfl, _, rfl, ?_⟩
    rw [en]
    by_cases hlt : j < n
    · rw [decide_eq_true (show (j : Int) < (n : Int) by omega)]
      refine iteT ⟨fun ys σ H' => H1 = H' ∧ ys = (List.range (j + 1)).map (fun (k : Nat) => V.int (pt t b D E' i (k : Int))) ∧ σ = [some (.ref p), some (.str (sd t)), some (.int i), some (.int ((j + 1 : Nat) : Int))], fun ys' σ' H' q => ⟨n - (j + 1), by omega, j + 1, rfl, hlt, q.1, q.2.1, q.2.2⟩, ?_⟩
      refine ⟨by rw [List.length_map, List.length_range]; exact small1000 (by omega), ?_⟩
      refine ⟨_, rfl, p, dx, _, rfl, hp1, fl_no (by decide +kernel), _, rfl, _, rfl, _, rfl, p, a, b, e, D, E', t, i, _, rfl, hB1, z, h0, h1, Int.natCast_nonneg _, by omega, ?_⟩
      refine ⟨_, rfl, _, _, rfl, rfl, rfl, ?_, rfl⟩
      rw [List.range_succ, List.map_append]
      rfl
    · rw [decide_eq_false (show ¬ (j : Int) < (n : Int) by omega)]
      refine iteF ?_
      have ej : j = n := by omega
      subst ej
      have e1 : prts t b e D E' i = (List.range j).map (fun (k : Nat) => V.int (pt t b D E' i (k : Int))) := by
        unfold prts
        rw [en]
        rfl
      have q := k H1 s1
      rw [e1] at q
      exact q
theorem ok_eac1 (T : Facts K mg d) : ∃ fd, GFn1 P w K mg base 5 d.eac fd ["self", "end", "row"] (spEac1 d.tb) ∧ Binds K fd ["self", "end", "row"] [] := by
  obtain ⟨fd, F⟩ := T.eac.df
  obtain ⟨_, GW, bW, kW⟩ := ok_wan (P := P) (w := w) (base := base) T
  obtain ⟨_, GD, bD, kD⟩ := ok_deg (P := P) (w := w) (base := base) T
  obtain ⟨_, GP, bP, kP⟩ := ok_par (P := P) (w := w) (base := base) T
  have bE := F.binds (ps := ["self", "end", "row"]) fun _ _ _ _ _ _ us hl => match us, hl with | [_, _, _], _ => rfl
  obtain ⟨oc, od, kV, doc, pm, an, cdv, ct, osl, rfl, lk, hcd⟩ := F.ex
  refine ⟨_, gfn1_of lk hcd gsEac (fun vs H Q h => ?_) (fun A outer s H vs Q hr h => ?_), bE⟩
  · obtain ⟨p, a, b, e, D, E', t, i, rfl, _⟩ := h
    rfl
  · obtain ⟨p, a, b, e, D, E', t, i, rfl, hB, z, h0, h1, k⟩ := h
    have hr1 : Room 1 _ := hr.mono (by decide)
    have hr2 : Room 2 _ := hr.mono (by decide)
    refine ⟨_, _, _, _, ps_expr (pe_meth (pv 0) T.cl T.wan.me GW hr bW .nil pass0 (pa_cons (pv 1) (pa_cons (pv 2) pa_nil))), ps_set (i := 3) gsEac.nd rfl (Or.inl rfl) pe_int,
      pt_cmpR op_lt (pv 3) (pe_meth (pv 0) T.cl T.deg.me GD hr1 bD .nil pass0 (pa_cons (pv 1) (pa_cons (pv 2) pa_nil))) (nomark _),
      pe_meth (pv 0) T.cl T.par.me GP hr2 bP .nil pass0 (pa_cons (pv 1) (pa_cons (pv 2) (pa_cons (pv 3) pa_nil))), ?_⟩
    obtain ⟨dx, hp⟩ := id hB
    refine ⟨_, rfl, p, dx, _, rfl, hp, fl_no (by decide +kernel), _, rfl, _, rfl, p, a, b, e, D, E', t, i, rfl, hB, h0, h1, fun H1 s1 => ?_⟩
    have hB1 := hB.same s1
    have hp1 := s1 _ _ hp
    refine ⟨_, rfl, _, rfl, p, dx, _, rfl, hp1, fl_no (by decide +kernel), _, rfl, _, rfl, p, a, b, e, D, E', t, i, rfl, hB1, z, h0, h1, ?_⟩
    refine ⟨_, _, rfl, rfl, _, rfl, ?_⟩
    have q := k H1 s1
    unfold fprt at q
    by_cases hlt : 0 < gd t b e D E' i
    · rw [decide_eq_true hlt]
      rw [if_pos hlt] at q
      exact iteT ⟨_, rfl, p, dx, _, rfl, hp1, fl_no (by decide +kernel), _, rfl, _, rfl, _, rfl, p, a, b, e, D, E', t, i, 0, rfl, hB1, z, h0, h1, Int.le_refl _, hlt, q⟩
    · rw [decide_eq_false hlt]
      rw [if_neg hlt] at q
      exact iteF q
end
end K32

namespace K32
open PySem L2 K32G K32O
/-- the pot of a cell: its own digits, the mixed number -/
def PotAt (H : Hp) (q : Addr) : Prop := ∃ x y : Int, H q = some (.lst [.int x, .int y]) ∧ 0 ≤ x ∧ 0 ≤ y ∧ y < 2 ^ 32
/-- all that was tracked is as it was, but q -/
def But (q : Addr) (H H' : Hp) : Prop := ∀ b o, b ≠ q → H b = some o → H' b = some o
theorem But.trans {q : Addr} {H H1 H2 : Hp} (a : But q H H1) (b : But q H1 H2) : But q H H2 := fun c o n h => b c o n (a c o n h)
theorem But.same {q : Addr} {H H1 H2 : Hp} (a : But q H H1) (b : Same H1 H2) : But q H H2 := fun c o n h => b c o (a c o n h)
theorem But.refl (q : Addr) (H : Hp) : But q H H := fun _ _ _ h => h
theorem Same.but {q : Addr} {H H1 : Hp} (a : Same H H1) : But q H H1 := fun c o _ h => a c o h
theorem Same.upd {H : Hp} {p : Addr} {o : HO} (h : H p = none) : Same H (upd H p o) := fun c u e => by rw [upd_ne (ne_of_none e h)]; exact e
theorem PotAt.same {H H' : Hp} {q : Addr} (h : PotAt H q) (s : Same H H') : PotAt H' q := let ⟨x, y, e, r⟩ := h; ⟨x, y, s _ _ e, r⟩
def spPot (K : PySem.W.Frag) : Sp := fun vs H Q _ => ∃ (a : Addr) (ns : List Int) (k : Nat), vs = [.ref a, .int (k : Int)] ∧ SqL K H a (ns.map V.int) ∧ k ≤ 3 ∧ ∀ q H', H q = none → PotAt H' q → Same H H' → Q (.ref q) H'
def spDrw : Sp := fun vs H Q _ => ∃ q m, vs = [.ref q, .int m] ∧ PotAt H q ∧ 0 < m ∧ m < 2 ^ 500 ∧ ∀ r H', 0 ≤ r → r < m → PotAt H' q → But q H H' → Q (.int r) H'
def spPic : Sp := fun vs H Q _ => ∃ (q l : Addr) (xs : List Int), vs = [.ref q, .ref l] ∧ PotAt H q ∧ H l = some (.lst (xs.map V.int)) ∧ l ≠ q ∧ 0 < xs.length ∧ xs.length ≤ 1000 ∧ ∀ v H', v ∈ xs → PotAt H' q → But q H H' → Q (.int v) H'
def spAhe : Sp := fun vs H Q _ => ∃ a b e D E i, vs = [.int a, .int e, .int i] ∧ Tz a b e D E ∧ 0 ≤ i ∧ i ≤ a ∧ Q (.int (S D E i)) H
def spFou : Sp := fun vs H Q _ => ∃ a b e D E n, vs = [.int a, .int e, .int n] ∧ Tz a b e D E ∧ 0 ≤ n ∧ n < e ∧ Q (.int (NR D E n)) H
def spFip (C : Addr) : Sp := fun vs H Q _ => ∃ p a b e D E t i, vs = [.ref p, .str (sd t), .int i] ∧ Bd C H p a b e D E ∧ Tz a b e D E ∧ 0 ≤ i ∧ i < sz t a b ∧ ∀ H', Same H H' → Q ((fprt t b e D E i).getD .non) H'
def spFdg : Sp := fun vs H Q _ => ∃ a b e D E j, vs = [.int b, .int e, .int j] ∧ Tz a b e D E ∧ Q (.int (fd b e j)) H
theorem map_ints_get {ns : List Int} {k : Nat} (h : k < ns.length) : (ns.map V.int)[k]? = some (.int ns[k]) := by
  rw [List.getElem?_map, List.getElem?_eq_getElem h]
  rfl
section
variable {P : Program} {w : World} {K : PySem.W.Frag} {mg : Str → Option Value} {base : Heap} {d : AD}
theorem scPot : FnScope ["_law_script", "_law_k", "_law_cell"] ["_law_script", "_law_k"] (defScope (top 18)) := ⟨rfl, rfl, rfl, by decide +kernel, rfl, by decide +kernel, by decide +kernel⟩
theorem ok_pot (T : Facts K mg d) : Ok P w K mg base 1 d.pot ["_law_script", "_law_k"] (spPot K) := by
  obtain ⟨fd, F⟩ := T.pot.df
  refine ⟨fd, F.ok scPot (fun vs H Q E h => ?_) (fun cdv A outer s H vs Q E hr h => ?_), F.binds fun _ _ _ _ _ _ us hl => match us, hl with | [_, _], _ => rfl, F.kp⟩
  · obtain ⟨a, ns, j, rfl, _⟩ := h
    rfl
  · obtain ⟨a, ns, j, rfl, hS, hj, k⟩ := h
    refine ⟨_, pss_cons (ps_set (i := 2) scPot.nd rfl (Or.inl rfl) (pe_ifExp (pt_cmpR op_lt (pv 1) (pe_callB call_len_seq (by rfl) T.bLen PySem.boot_len (pa_cons (pv 0) pa_nil)) (nomark _)) (pe_ix ix_list (pv 0) (pv 1) (fun _ _ => rfl)) (pe_op op_add (pe_op op_mul pe_int (pv 1)) pe_int)))
      (pss_one (ps_ret (pe_lst (pa_cons (pe_callB (call_max2 rfl) (by rfl) T.bMax (by decide +kernel) (pa_cons pe_int (pa_cons (pe_op op_sub (pe_callB call_abs (by rfl) T.bAbs (by decide +kernel) (pa_cons (pv 2) pa_nil)) (pe_op op_pow pe_int pe_int)) pa_nil)))
        (pa_cons (pe_op op_add (pe_op op_mod (pe_callTy call_int1 (by rfl) T.bInt (by decide +kernel) (pa_cons (pe_op op_add (pe_op op_add (pe_op op_mul (pe_op op_mod (pe_callTy call_int1 (by rfl) T.bInt (by decide +kernel) (pa_cons (pe_callB call_abs (by rfl) T.bAbs (by decide +kernel) (pa_cons (pv 2) pa_nil)) pa_nil)) pe_int) pe_int) (pe_op op_mul pe_int (pv 1))) pe_int) pa_nil)) pe_int) pe_int) pa_nil))))), ?_⟩
    -- the cell
    refine ⟨_, rfl, _, rfl, a, _, rfl, .inl hS, _, _, rfl, rfl, _, rfl, ?_⟩
    by_cases hk : (j : Int) < (((ns.map V.int).length : Nat) : Int)
    rw [decide_eq_true hk]
    have hk2 : j < ns.length := by rw [List.length_map] at hk; omega
    refine iteT ⟨_, rfl, _, rfl, a, _, _, _, rfl, rfl, hS, atI_nat (map_ints_get hk2), ?_⟩
    rotate_left
    rw [decide_eq_false hk]
    refine iteF ⟨_, rfl, _, _, rfl, rfl, .inl ⟨by decide, by decide⟩, _, _, rfl, rfl, ?_⟩
    all_goals
      refine ⟨_, rfl, _, rfl, _, _, rfl, rfl, ⟨by decide, by decide, by decide⟩, _, _, rfl, rfl, _, _, rfl, ?_⟩
      refine ⟨_, rfl, _, rfl, .inl ⟨_, rfl, _, _, rfl, rfl, (by show (0 : Int) < 2147483563; decide), _, _, rfl, rfl, .inr ⟨by decide, by decide⟩, _, rfl, _, _, rfl, rfl, .inl ⟨by decide, by decide⟩, _, _, rfl, rfl, _, _, rfl, rfl, .inl ⟨_, rfl, _, _, rfl, rfl, (by show (0 : Int) < 2147483629; decide), _, _, rfl, rfl, (by show 2 ≤ sizeLine; decide), fun q hq => ?_⟩⟩⟩
      refine k q _ hq ⟨_, _, upd_same, ?_, ?_, ?_⟩ (Same.upd hq)
      · split <;> omega
      · generalize (_ + 9 : Int) = z
        have h1 := Int.emod_nonneg z (show (2147483629 : Int) ≠ 0 by decide)
        omega
      · generalize (_ + 9 : Int) = z
        have h1 := Int.emod_lt_of_pos z (show (0 : Int) < 2147483629 by decide)
        have h2 : (2 : Int) ^ 32 = 4294967296 := by decide
        omega
theorem scDrw : FnScope ["_law_pot", "_law_some", "_law_digit"] ["_law_pot", "_law_some"] (defScope (top 19)) := ⟨rfl, rfl, rfl, by decide +kernel, rfl, by decide +kernel, by decide +kernel⟩
theorem ok_drw (T : Facts K mg d) : Ok P w K mg base 1 d.drw ["_law_pot", "_law_some"] spDrw := by
  obtain ⟨fd, F⟩ := T.drw.df
  refine ⟨fd, F.ok scDrw (fun vs H Q E h => ?_) (fun cdv A outer s H vs Q E hr h => ?_), F.binds fun _ _ _ _ _ _ us hl => match us, hl with | [_, _], _ => rfl, F.kp⟩
  · obtain ⟨q, m, rfl, _⟩ := h
    rfl
  · obtain ⟨q, m, rfl, ⟨x, y, hq, x0, y0, y1⟩, m0, m1, k⟩ := h
    refine ⟨_, pss_cons (ps_if (pt_cmpR op_gt (pe_ix ix_list (pv 0) pe_int (fun _ _ => rfl)) pe_int (nomark _))
        (pss_cons (ps_asg (pe_callB call_divmodW (by rfl) T.bDiv (by decide +kernel) (pa_cons (pe_ix ix_list (pv 0) pe_int (fun _ _ => rfl)) (pa_cons (pv 1) pa_nil)))
          (pg_tup rfl (pgs_cons (pg_sub (pv 0) pe_int set_list) (pgs_cons (pg_name (i := 2) scDrw.nd rfl (.inl rfl)) pgs_nil))))
        (pss_one (ps_ret (pv 2)))) pss_nil)
      (pss_cons (ps_asg (pe_op op_mod (pe_callTy call_int1 (by rfl) T.bInt (by decide +kernel) (pa_cons (pe_op op_add (pe_op op_mul (pe_ix ix_list (pv 0) pe_int (fun _ _ => rfl)) pe_int) pe_int) pa_nil)) pe_int) (pg_sub (pv 0) pe_int set_list))
      (pss_one (ps_ret (pe_op op_mod (pe_callTy call_int1 (by rfl) T.bInt (by decide +kernel) (pa_cons (pe_op op_fdiv (pe_op op_mod (pe_callTy call_int1 (by rfl) T.bInt (by decide +kernel) (pa_cons (pe_op op_mul (pe_ix ix_list (pv 0) pe_int (fun _ _ => rfl)) (pe_ix ix_list (pv 0) pe_int (fun _ _ => rfl))) pa_nil)) pe_int) pe_int) pa_nil)) (pv 1))))), ?_⟩
    refine ⟨_, rfl, q, _, _, _, rfl, rfl, SqL.of hq, atI_nat (j := 0) rfl, _, _, rfl, rfl, _, rfl, ?_⟩
    by_cases hx : 0 < x
    · rw [decide_eq_true hx]
      have hpy : CDivP x m := ⟨m0, PyProof.noPylong_of_log2 (zdiv (x := x) m0 m1).2⟩
      refine iteT ⟨_, rfl, q, _, _, _, rfl, rfl, SqL.of hq, atI_nat (j := 0) rfl, _, rfl, _, _, rfl, hpy, fun t ht => ?_⟩
      have nqt : q ≠ t := ne_of_none hq ht
      refine ⟨t, _, rfl, SqT.of upd_same, rfl, _, _, rfl, _, rfl, q, _, _, 0, rfl, rfl, by rw [upd_ne nqt]; exact hq, rfl, ?_⟩
      refine ⟨_, _, rfl, rfl, _, rfl, ?_⟩
      refine k _ _ (Int.emod_nonneg _ (by omega)) (Int.emod_lt_of_pos _ m0) ⟨_, _, upd_same, Int.ediv_nonneg x0 (by omega), y0, y1⟩ fun b o hb hh => ?_
      rw [upd_ne hb, upd_ne (ne_of_none hh ht)]
      exact hh
    · rw [decide_eq_false hx]
      have c1 : (2 : Int) ^ 64 = 18446744073709551616 := by decide
      have c2 : (2 : Int) ^ 32 = 4294967296 := by decide
      refine iteF ⟨_, rfl, q, _, _, _, rfl, rfl, SqL.of hq, atI_nat (j := 1) rfl, _, _, rfl, rfl, .inr ⟨by decide, by decide⟩, _, _, rfl, rfl, .inl ⟨_, rfl, _, _, rfl, rfl, (by show (0 : Int) < 2147483587; decide), ?_⟩⟩
      refine ⟨_, rfl, q, _, _, 1, rfl, rfl, hq, rfl, ?_⟩
      have w0 := Int.emod_nonneg (y * 44203 + 15511) (show (2147483587 : Int) ≠ 0 by decide)
      have w1 := Int.emod_lt_of_pos (y * 44203 + 15511) (show (0 : Int) < 2147483587 by decide)
      refine ⟨_, rfl, q, _, _, _, rfl, rfl, SqL.of upd_same, atI_nat (j := 1) rfl, _, rfl, q, _, _, _, rfl, rfl, SqL.of upd_same, atI_nat (j := 1) rfl, _, _, rfl, rfl, .inl ⟨by omega, by omega⟩,
        .inl ⟨_, rfl, _, _, rfl, rfl, (by show (0 : Int) < 2147483549; decide), _, _, rfl, rfl, ⟨by decide, by decide⟩, .inl ⟨_, rfl, _, rfl, _, _, rfl, rfl, m0, ?_⟩⟩⟩
      refine k _ _ (Int.emod_nonneg _ (by omega)) (Int.emod_lt_of_pos _ m0) ⟨_, _, upd_same, x0, w0, by omega⟩ fun b o hb hh => ?_
      rw [upd_ne hb]
      exact hh
theorem scPic : FnScope ["_law_pot", "_law_some"] ["_law_pot", "_law_some"] (defScope (top 20)) := ⟨rfl, rfl, rfl, by decide +kernel, rfl, by decide +kernel, by decide +kernel⟩
theorem ok_pic (T : Facts K mg d) : Ok P w K mg base 2 d.pic ["_law_pot", "_law_some"] spPic := by
  obtain ⟨fd, F⟩ := T.pic.df
  obtain ⟨_, GD, bD, kD⟩ := ok_drw (P := P) (w := w) (base := base) T
  refine ⟨fd, F.ok scPic (fun vs H Q E h => ?_) (fun cdv A outer s H vs Q E hr h => ?_), F.binds fun _ _ _ _ _ _ us hl => match us, hl with | [_, _], _ => rfl, F.kp⟩
  · obtain ⟨q, l, xs, rfl, _⟩ := h
    rfl
  · obtain ⟨q, l, xs, rfl, hq, hl, nlq, h0, h1, k⟩ := h
    refine ⟨_, pss_one (ps_ret (pe_ix ix_list (pv 1) (pe_call GD hr (by rfl) T.drw.mg kD bD .nil pass0 (pa_cons (pv 0) (pa_cons (pe_callB call_len_seq (by rfl) T.bLen PySem.boot_len (pa_cons (pv 1) pa_nil)) pa_nil))) (fun _ _ => rfl))), ?_⟩
    refine ⟨_, rfl, _, rfl, _, rfl, l, _, rfl, .inl (SqL.of hl), q, _, rfl, hq, ?_, ?_, fun r H1 r0 r1 p1 b1 => ?_⟩
    · rw [List.length_map]
      omega
    · rw [List.length_map]
      exact Int.lt_of_le_of_lt (show ((xs.length : Nat) : Int) ≤ 1000 by omega) (by decide +kernel)
    · rw [List.length_map] at r1
      obtain ⟨i, rfl⟩ := Int.eq_ofNat_of_zero_le r0
      have hi : i < xs.length := by omega
      refine ⟨l, _, _, _, rfl, rfl, SqL.of (b1 _ _ nlq hl), atI_nat (map_ints_get hi), ?_⟩
      exact k _ _ (List.getElem_mem hi) p1 b1
theorem scAhe : FnScope ["_law_a", "_law_e", "_law_i"] ["_law_a", "_law_e", "_law_i"] (defScope (top 21)) := ⟨rfl, rfl, rfl, by decide +kernel, rfl, by decide +kernel, by decide +kernel⟩
theorem ok_ahe (T : Facts K mg d) : Ok P w K mg base 1 d.ahe ["_law_a", "_law_e", "_law_i"] spAhe := by
  obtain ⟨fd, F⟩ := T.ahe.df
  refine ⟨fd, F.ok scAhe (fun vs H Q E h => ?_) (fun cdv A outer s H vs Q E hr h => ?_), F.binds fun _ _ _ _ _ _ us hl => match us, hl with | [_, _, _], _ => rfl, F.kp⟩
  · obtain ⟨a, b, e, D, E', i, rfl, _⟩ := h
    rfl
  · obtain ⟨a, b, e, D, E', i, rfl, z, h0, h1, k⟩ := h
    refine ⟨_, pss_one (ps_ret (pe_op op_add (pe_op op_mulW (pv 2) (pe_op op_fdivW (pv 1) (pv 0)))
      (pe_callB (call_min2 rfl) (by rfl) T.bMin (by decide +kernel) (pa_cons (pv 2) (pa_cons (pe_op op_mod (pe_callTy call_int1 (by rfl) T.bInt (by decide +kernel) (pa_cons (pv 1) pa_nil)) (pv 0)) pa_nil))))), ?_⟩
    have eD := z.t.hD
    have eE := z.t.hE
    subst eD eE
    refine ⟨_, rfl, _, rfl, _, rfl, _, _, rfl, rfl, zdiv z.t.ha (big z.za), _, _, rfl, rfl, zmul h0 (big (Int.lt_of_le_of_lt h1 z.za)) z.t.D0 (big (Int.lt_of_le_of_lt z.t.De z.ze)), ?_⟩
    exact ⟨_, rfl, _, rfl, .inl ⟨_, rfl, _, rfl, _, _, rfl, rfl, z.t.ha, _, _, rfl, _, _, rfl, rfl, k⟩⟩
theorem scFou : FnScope ["_law_a", "_law_e", "_law_n", "_law_low", "_law_high", "_law_middle"] ["_law_a", "_law_e", "_law_n"] (defScope (top 22)) := ⟨rfl, rfl, rfl, by decide +kernel, rfl, by decide +kernel, by decide +kernel⟩
theorem ok_fou (T : Facts K mg d) : Ok P w K mg base 2 d.fou ["_law_a", "_law_e", "_law_n"] spFou := by
  obtain ⟨fd, F⟩ := T.fou.df
  obtain ⟨_, GA, bA, kA⟩ := ok_ahe (P := P) (w := w) (base := base) T
  refine ⟨fd, F.ok scFou (fun vs H Q E h => ?_) (fun cdv A outer s H vs Q E hr h => ?_), F.binds fun _ _ _ _ _ _ us hl => match us, hl with | [_, _, _], _ => rfl, F.kp⟩
  · obtain ⟨a, b, e, D, E', n, rfl, _⟩ := h
    rfl
  · obtain ⟨a, b, e, D, E', n, rfl, z, h0, h1, k⟩ := h
    refine ⟨_, pss_cons (ps_par (i := 3) (j := 4) rfl scFou.nd rfl rfl (by decide) rfl rfl (pa_cons pe_int (pa_cons (pv 0) pa_nil)) (by rfl))
      (pss_cons (ps_while PassesOwn.never (pt_cmpR op_gt (pe_op op_sub (pv 4) (pv 3)) pe_int (nomark _))
        (pss_cons (ps_set (i := 5) scFou.nd rfl (Or.inl rfl) (pe_op op_fdiv (pe_op op_add (pv 3) (pv 4)) pe_int))
        (pss_one (ps_if (pt_cmpR op_le (pe_call GA hr (by rfl) T.ahe.mg kA bA .nil pass0 (pa_cons (pv 0) (pa_cons (pv 1) (pa_cons (pv 5) pa_nil)))) (pv 2) (nomark _))
          (pss_one (ps_set (i := 3) scFou.nd rfl (Or.inl rfl) (pv 5))) (pss_one (ps_set (i := 4) scFou.nd rfl (Or.inl rfl) (pv 5)))))))
      (pss_one (ps_ret (pv 3)))), ?_⟩
    have hD := z.t.D0
    have ha := z.t.ha
    refine ⟨_, rfl, _, _, rfl, ?_⟩
    refine ⟨fun m σ H' => ∃ (lo hi : Int) (v : Option V), m = (hi - lo).toNat ∧ 0 ≤ lo ∧ lo < hi ∧ hi ≤ a ∧ S D E' lo ≤ n ∧ n < S D E' hi ∧ H = H' ∧ σ = [some (.int a), some (.int e), some (.int n), some (.int lo), some (.int hi), v],
      ⟨_, 0, a, none, rfl, Int.le_refl _, ha, Int.le_refl _, ?_, ?_, rfl, rfl⟩, ?_⟩
    · have e0 : S D E' 0 = 0 := by
        have := z.t.E0
        unfold S mn
        rw [Int.zero_mul]
        split <;> omega
      rw [e0]
      exact h0
    · rw [z.t.S_a]
      exact h1
    · rintro m σ H' ⟨lo, hi, v, rfl, l0, l1, l2, s1, s2, rfl, rfl⟩
      refine ⟨_, rfl, _, rfl, _, _, rfl, rfl, _, _, rfl, rfl, _, rfl, ?_⟩
      by_cases hg : 1 < hi - lo
      · rw [decide_eq_true hg]
        refine iteT ⟨fun σ' H' => ∃ (lo' hi' : Int) (v' : Option V), (hi' - lo').toNat < (hi - lo).toNat ∧ 0 ≤ lo' ∧ lo' < hi' ∧ hi' ≤ a ∧ S D E' lo' ≤ n ∧ n < S D E' hi' ∧ H = H' ∧ σ' = [some (.int a), some (.int e), some (.int n), some (.int lo'), some (.int hi'), v'], fun σ' H' q => ?_, ?_⟩
        · obtain ⟨lo', hi', v', q1, q2, q3, q4, q5, q6, q7, q8⟩ := q
          exact ⟨_, q1, lo', hi', v', rfl, q2, q3, q4, q5, q6, q7, q8⟩
        · refine ⟨_, rfl, _, rfl, _, _, rfl, rfl, _, _, rfl, rfl, ⟨by decide, by decide⟩, ?_⟩
          have m1 : lo < (lo + hi) / 2 := by omega
          have m2 : (lo + hi) / 2 < hi := by omega
          refine ⟨_, rfl, _, rfl, _, rfl, a, b, e, D, E', (lo + hi) / 2, rfl, z, by omega, by omega, ?_⟩
          refine ⟨_, rfl, _, _, rfl, rfl, _, rfl, ?_⟩
          by_cases hs : S D E' ((lo + hi) / 2) ≤ n
          · rw [decide_eq_true hs]
            exact iteT ⟨_, rfl, (lo + hi) / 2, hi, _, by omega, by omega, m2, l2, hs, s2, rfl, rfl⟩
          · rw [decide_eq_false hs]
            exact iteF ⟨_, rfl, lo, (lo + hi) / 2, _, by omega, l0, m1, by omega, s1, by omega, rfl, rfl⟩
      · rw [decide_eq_false hg]
        have eh : hi = lo + 1 := by omega
        subst eh
        have en := z.t.NR_ok h0 h1
        have el : lo = NR D E' n := z.t.uniq s1 s2 en.2.2.1 en.2.2.2
        rw [← el] at k
        exact iteF ⟨_, rfl, k⟩
theorem scFip : FnScope ["_law_board", "_law_side", "_law_i", "_law_partner"] ["_law_board", "_law_side", "_law_i"] (defScope (top 23)) := ⟨rfl, rfl, rfl, by decide +kernel, rfl, by decide +kernel, by decide +kernel⟩
theorem ok_fip (T : Facts K mg d) : Ok P w K mg base 7 d.fip ["_law_board", "_law_side", "_law_i"] (spFip d.tb) := by
  obtain ⟨fd, F⟩ := T.fip.df
  obtain ⟨_, GE, bE⟩ := ok_eac1 (P := P) (w := w) (base := base) T
  refine ⟨fd, F.ok scFip (fun vs H Q E h => ?_) (fun cdv A outer s H vs Q E hr h => ?_), F.binds fun _ _ _ _ _ _ us hl => match us, hl with | [_, _, _], _ => rfl, F.kp⟩
  · obtain ⟨p, a, b, e, D, E', t, i, rfl, _⟩ := h
    rfl
  · obtain ⟨p, a, b, e, D, E', t, i, rfl, hB, z, h0, h1, k⟩ := h
    have hr5 : Room 5 _ := hr.mono (by decide)
    refine ⟨_, pss_cons (ps_for1 (i := 3) PassesOwn.never rfl (pgen1_meth (pv 0) T.cl T.eac.me GE hr5 bE (pa_cons (pv 1) (pa_cons (pv 2) pa_nil))) hr scFip.nd rfl (.inl rfl) (pss_one (ps_ret (pv 3))))
      (pss_one (ps_ret pe_non)), ?_⟩
    obtain ⟨dx, hp⟩ := id hB
    refine ⟨_, rfl, p, dx, _, rfl, hp, fl_no (by decide +kernel), _, rfl, _, rfl, p, a, b, e, D, E', t, i, rfl, hB, z, h0, h1, fun H1 s1 => ?_⟩
    have q := k H1 s1
    cases he : fprt t b e D E' i with
    | none =>
      rw [he] at q
      exact q
    | some v =>
      rw [he] at q
      exact ⟨v, rfl, q⟩
theorem scFdg : FnScope ["_law_b", "_law_e", "_law_j"] ["_law_b", "_law_e", "_law_j"] (defScope (top 24)) := ⟨rfl, rfl, rfl, by decide +kernel, rfl, by decide +kernel, by decide +kernel⟩
theorem ok_fdg (T : Facts K mg d) : Ok P w K mg base 1 d.fdg ["_law_b", "_law_e", "_law_j"] spFdg := by
  obtain ⟨fd, F⟩ := T.fdg.df
  refine ⟨fd, F.ok scFdg (fun vs H Q E h => ?_) (fun cdv A outer s H vs Q E hr h => ?_), F.binds fun _ _ _ _ _ _ us hl => match us, hl with | [_, _, _], _ => rfl, F.kp⟩
  · obtain ⟨a, b, e, D, E', j, rfl, _⟩ := h
    rfl
  · obtain ⟨a, b, e, D, E', j, rfl, z, k⟩ := h
    refine ⟨_, pss_one (ps_ret (pe_ifExp (pt_cmpR op_lt (pv 2) (pv 1) (nomark _)) (pe_op op_fdivW (pe_op op_sub (pe_op op_add (pe_op op_sub (pv 1) (pv 2)) (pv 0)) pe_int) (pv 0)) pe_int)), ?_⟩
    refine ⟨_, rfl, _, rfl, _, _, rfl, rfl, _, rfl, ?_⟩
    by_cases hj : j < e
    · have e1 : K32.fd b e j = (e - j + b - 1) / b := by unfold K32.fd; rw [if_pos hj]
      rw [e1] at k
      rw [decide_eq_true hj]
      exact iteT ⟨_, rfl, _, rfl, _, _, rfl, rfl, _, rfl, _, _, rfl, rfl, _, _, rfl, rfl, _, rfl, _, _, rfl, rfl, zdiv z.t.hb (big z.zb), k⟩
    · have e1 : K32.fd b e j = 0 := by unfold K32.fd; rw [if_neg hj]
      rw [e1] at k
      rw [decide_eq_false hj]
      exact iteF k
end
end K32

namespace K32
open PySem L2 K32G K32O
def spNur (C : Addr) : Sp := fun vs H Q _ => ∃ p a b e D E n, vs = [.ref p, .int a, .int b, .int e, .int n] ∧ Bd C H p a b e D E ∧ Tz a b e D E ∧ 0 ≤ n ∧ n < e ∧ ∀ H', Same H H' → Q (.bl true) H'
theorem eqv2 (a b a' b' : Int) : PyData.eqv (.tuple [.int a, .int b]) (.tuple [.int a', .int b']) = decide (a = a' ∧ b = b') := by
  rw [Bool.eq_iff_iff]
  simp [PyData.eqv, PyData.eqvAll]
theorem ne_self {x : V} : (!decide (x = x)) = false := by simp
theorem ne_of_eq' {x y : V} (h : x = y) : (!decide (x = y)) = false := by rw [decide_eq_true h]; rfl
section
variable {P : Program} {w : World} {K : PySem.W.Frag} {mg : Str → Option Value} {base : Heap} {d : AD}
theorem scNur : FnScope ["_law_board", "_law_a", "_law_b", "_law_e", "_law_n", "_law_i", "_law_j", "_law_first"] ["_law_board", "_law_a", "_law_b", "_law_e", "_law_n"] (defScope (top 25)) := ⟨rfl, rfl, rfl, by decide +kernel, rfl, by decide +kernel, by decide +kernel⟩
theorem ok_nur (T : Facts K mg d) : Ok P w K mg base 6 d.nur ["_law_board", "_law_a", "_law_b", "_law_e", "_law_n"] (spNur d.tb) := by
  obtain ⟨fd, F⟩ := T.nur.df
  obtain ⟨_, GF, bF, kF⟩ := ok_fou (P := P) (w := w) (base := base) T
  obtain ⟨_, GA, bA, kA⟩ := ok_ahe (P := P) (w := w) (base := base) T
  obtain ⟨_, GC, bC, kC⟩ := ok_cal (P := P) (w := w) (base := base) T
  obtain ⟨_, GN, bN, kN⟩ := ok_nof (P := P) (w := w) (base := base) T
  obtain ⟨_, GI, bI, kI⟩ := ok_con (P := P) (w := w) (base := base) T
  obtain ⟨_, GD, bD, kD⟩ := ok_dgr (P := P) (w := w) (base := base) T
  obtain ⟨_, GG, bG, kG⟩ := ok_fdg (P := P) (w := w) (base := base) T
  obtain ⟨_, GP, bP, kP⟩ := ok_ptn (P := P) (w := w) (base := base) T
  have RC : FnR P w K mg base CX0 4 d.cal (spCal d.tb) := (GC.raw bC .nil).imp fun vs H Q E h => by rw [List.append_nil]; exact h
  refine ⟨fd, F.ok scNur (fun vs H Q E h => ?_) (fun cdv A outer s H vs Q E hr h => ?_), F.binds fun _ _ _ _ _ _ us hl => match us, hl with | [_, _, _, _, _], _ => rfl, F.kp⟩
  · obtain ⟨p, a, b, e, D, E', n, rfl, _⟩ := h
    rfl
  · obtain ⟨p, a, b, e, D, E', n, rfl, hB, z, h0, h1, k⟩ := h
    have hr1 : Room 1 _ := hr.mono (by decide)
    have hr2 : Room 2 _ := hr.mono (by decide)
    have hr4 : Room 4 _ := hr.mono (by decide)
    refine ⟨_, pss_cons (ps_par (i := 5) (j := 6) rfl scNur.nd rfl rfl (by decide) rfl rfl (pa_cons (pe_call GF hr2 (by rfl) T.fou.mg kF bF .nil pass0 (pa_cons (pv 1) (pa_cons (pv 3) (pa_cons (pv 4) pa_nil)))) (pa_cons (pe_op op_mod (pe_callTy call_int1 (by rfl) T.bInt (by decide +kernel) (pa_cons (pv 4) pa_nil)) (pv 2)) pa_nil)) (by rfl))
      (pss_cons (ps_set (i := 7) scNur.nd rfl (Or.inl rfl) (pe_call GA hr1 (by rfl) T.ahe.mg kA bA .nil pass0 (pa_cons (pv 1) (pa_cons (pv 3) (pa_cons (pv 5) pa_nil)))))
      (pss_cons (ps_if (PW.pt (pw_or (pt_cmpR (op_neD hr.units) (StX.pe_callO (pv 0) T.ca RC hr4 pass0 (pa_cons (pv 4) pa_nil)) (pe_tup (pa_cons (pv 5) (pa_cons (pv 6) pa_nil))) (nomark _))
          (pw_or (pt_cmpR op_ne (pe_meth (pv 0) T.cl T.nof.me GN hr bN .nil pass0 (pa_cons (pv 5) (pa_cons (pv 6) pa_nil))) (pv 4) (nomark _))
          (pw_or1 (pt_cmpR (op_notinO GI T.con.me.at_ T.con.me.fn hr4 bI pass0) (pe_tup (pa_cons (pv 5) (pa_cons (pv 6) pa_nil))) (pv 0) (by rfl)))))) (pss_one (ps_ret pe_bl)) pss_nil)
      (pss_cons (ps_if (PW.pt (pw_or (pt_cmpR op_ne (pe_meth (pv 0) T.cl T.dgr.me GD hr bD .nil pass0 (pa_cons pe_str (pa_cons (pv 5) pa_nil))) (pe_op op_sub (pe_call GA hr1 (by rfl) T.ahe.mg kA bA .nil pass0 (pa_cons (pv 1) (pa_cons (pv 3) (pa_cons (pe_op op_add (pv 5) pe_int) pa_nil)))) (pv 7)) (nomark _))
          (pw_or1 (pt_cmpR op_ne (pe_meth (pv 0) T.cl T.dgr.me GD hr bD .nil pass0 (pa_cons pe_str (pa_cons (pv 6) pa_nil))) (pe_call GG hr1 (by rfl) T.fdg.mg kG bG .nil pass0 (pa_cons (pv 2) (pa_cons (pv 3) (pa_cons (pv 6) pa_nil)))) (nomark _))))) (pss_one (ps_ret pe_bl)) pss_nil)
      (pss_one (ps_ret (pe_and (pe_cmpR op_eq (pe_meth (pv 0) T.cl T.ptn.me GP hr bP .nil pass0 (pa_cons pe_str (pa_cons (pv 5) (pa_cons (pe_op op_sub (pv 4) (pv 7)) pa_nil)))) (pv 6) (nomark _))
        (pe_one (pe_cmpR op_eq (pe_meth (pv 0) T.cl T.ptn.me GP hr bP .nil pass0 (pa_cons pe_str (pa_cons (pv 6) (pa_cons (pe_op op_fdivW (pv 4) (pv 2)) pa_nil)))) (pv 5) (nomark _))))))))), ?_⟩
    obtain ⟨i0, i1, s1, s2⟩ := z.t.NR_ok h0 h1
    obtain ⟨j0, j1⟩ := z.t.emod_lt n
    have hpl := z.t.place i0 s1 s2
    rw [S_succ] at s2
    generalize hi : NR D E' n = i at *
    generalize hj : n % b = j at *
    obtain ⟨dx, hp⟩ := id hB
    -- i, j
    refine ⟨_, rfl, _, rfl, _, rfl, a, b, e, D, E', n, rfl, z, h0, h1, ?_⟩
    rw [hi]
    refine ⟨_, rfl, .inl ⟨_, rfl, _, rfl, _, _, rfl, rfl, z.t.hb, _, _, rfl, ?_⟩⟩
    dsimp only
    rw [hj]
    -- first
    refine ⟨_, rfl, _, rfl, _, rfl, a, b, e, D, E', i, rfl, z, i0, Int.le_of_lt i1, ?_⟩
    -- the pair of the number
    refine ⟨_, rfl, p, rfl, _, rfl, .inr ⟨dx, _, hp⟩, p, a, b, e, D, E', n, rfl, hB, z, h0, h1, fun q H1 u1 hq => ?_⟩
    rw [hi, hj] at hq
    refine ⟨_, rfl, _, rfl, (by show 2 ≤ sizeLine; decide), fun t ht => ?_⟩
    refine ⟨.tuple [.int i, .int j], .tuple [.int i, .int j], .tup (SqT.of (by rw [upd_ne (ne_of_none hq ht)]; exact hq)) (.cons (.int _) (.cons (.int _) .nil)), .tup (SqT.of upd_same) (.cons (.int _) (.cons (.int _) .nil)), by rfl, by rfl, _, rfl, ?_⟩
    rw [eqv2, decide_eq_true ⟨rfl, rfl⟩]
    refine iteF ?_
    have u2 := u1.trans (Same.upd (o := .tup [.int i, .int j]) ht)
    generalize upd H1 t (.tup [.int i, .int j]) = H2 at *
    -- its number
    refine ⟨_, rfl, p, dx, _, rfl, u2 _ _ hp, fl_no (by decide +kernel), _, rfl, _, rfl, p, a, b, e, D, E', i, j, rfl, hB.same u2, z, i0, i1, j0, j1, fun H3 u3 => ?_⟩
    have ed : due b D E' i j = .int n := by
      unfold due
      rw [hpl, if_pos (by omega)]
      congr 1
      omega
    rw [ed]
    refine ⟨_, rfl, rfl, _, rfl, ?_⟩
    rw [ne_self]
    refine iteF ?_
    have u4 := u2.trans u3
    -- it is in the table
    refine ⟨_, rfl, _, rfl, (by show 2 ≤ sizeLine; decide), fun t2 ht2 => ?_⟩
    have u5 := u4.trans (Same.upd (o := .tup [.int i, .int j]) ht2)
    refine ⟨_, rfl, p, dx, _, rfl, u5 _ _ hp, p, t2, a, b, e, D, E', i, j, rfl, hB.same u5, z, upd_same, _, rfl, _, rfl, ?_⟩
    rw [decide_eq_true ⟨⟨i0, i1⟩, ⟨j0, j1⟩, show (j - S D E' i) % b < dg D E' i by rw [hpl]; omega⟩]
    refine iteF ?_
    generalize upd H3 t2 (.tup [.int i, .int j]) = H4 at *
    -- degrees
    refine ⟨_, rfl, p, dx, _, rfl, u5 _ _ hp, fl_no (by decide +kernel), _, rfl, p, a, b, e, D, E', true, i, rfl, hB.same u5, z, i0, i1, fun H5 u6 => ?_⟩
    refine ⟨_, rfl, _, rfl, _, rfl, _, _, rfl, rfl, a, b, e, D, E', i + 1, rfl, z, by omega, by omega, _, rfl, _, _, rfl, rfl, rfl, _, rfl, ?_⟩
    rw [ne_of_eq' (show V.int (gd true b e D E' i) = V.int (S D E' (i + 1) - S D E' i) by rw [S_succ]; show V.int (dg D E' i) = _; congr 1; omega)]
    refine iteF ?_
    have u7 := u5.trans u6
    refine ⟨_, rfl, p, dx, _, rfl, u7 _ _ hp, fl_no (by decide +kernel), _, rfl, p, a, b, e, D, E', false, j, rfl, hB.same u7, z, j0, j1, fun H6 u8 => ?_⟩
    refine ⟨_, rfl, _, rfl, _, rfl, a, b, e, D, E', j, rfl, z, rfl, _, rfl, ?_⟩
    rw [ne_of_eq' (show V.int (gd false b e D E' j) = V.int (K32.fd b e j) from rfl)]
    refine iteF ?_
    have u9 := u7.trans u8
    -- partners
    refine ⟨_, rfl, p, dx, _, rfl, u9 _ _ hp, fl_no (by decide +kernel), _, rfl, _, rfl, _, rfl, _, _, rfl, rfl, p, a, b, e, D, E', true, i, n - S D E' i, rfl, hB.same u9, z, i0, i1, by omega, by show n - S D E' i < dg D E' i; omega, fun H7 u10 => ?_⟩
    refine ⟨_, rfl, rfl, _, rfl, ?_⟩
    have e1 : pt true b D E' i (n - S D E' i) = j := by
      show (S D E' i + (n - S D E' i)) % b = j
      rw [show S D E' i + (n - S D E' i) = n by omega]
      exact hj
    rw [e1, decide_eq_true rfl]
    refine iteT ?_
    have u11 := u9.trans u10
    have enum := z.t.num n
    rw [hj] at enum
    have kn : n / b < gd false b e D E' j := (z.t.fd_num j0 j1 (Int.ediv_nonneg h0 (Int.le_of_lt z.t.hb))).mpr (by rw [enum]; exact h1)
    refine ⟨_, rfl, p, dx, _, rfl, u11 _ _ hp, fl_no (by decide +kernel), _, rfl, _, rfl, _, rfl, _, _, rfl, rfl, zdiv z.t.hb (big z.zb), p, a, b, e, D, E', false, j, n / b, rfl, hB.same u11, z, j0, j1, Int.ediv_nonneg h0 (Int.le_of_lt z.t.hb), kn, fun H8 u12 => ?_⟩
    refine ⟨_, rfl, rfl, ?_⟩
    have e2 : pt false b D E' j (n / b) = i := by
      show NR D E' (j + n / b * b) = i
      rw [enum]
      exact hi
    rw [e2, decide_eq_true rfl]
    exact k _ (u11.trans u12)
end
end K32

namespace K32
open PySem L2 K32G K32O
/-- an expression, a statement, told by what holds behind it -/
def tJoin (t : TE) : TE := fun σ H Q => ∃ R : V → Hp → Prop, t σ H R ∧ ∀ v H', R v H' → Q v H'
theorem pe_join {X : Cx} {e : Expr} {t : TE} (h : PE X e t) : PE X e (tJoin t) := ⟨fun pins s σ H Q I hq => by
  obtain ⟨R, h1, h2⟩ := hq
  exact thn (h.run pins s σ H R I h1) fun u s1 ⟨v, H1, I1, r, q⟩ => ⟨v, H1, I1, r, h2 _ _ q⟩⟩
def sJoin (t : TS) : TS := fun D σ H => ∃ R : L2.St → Hp → Prop, t { D with nx := R } σ H ∧ ∀ σ' H', R σ' H' → D.nx σ' H'
theorem ps_join {X : Cx} {st : Stmt} {t : TS} (h : PS X st t) : PS X st (sJoin t) := ⟨fun pins s σ H D I hq => by
  obtain ⟨R, h1, h2⟩ := hq
  refine thn (h.run pins s σ H { D with nx := R } I h1) fun f s1 q => ?_
  cases f with
  | next =>
    obtain ⟨σ', H', I', q⟩ := q
    exact ⟨σ', H', I', h2 _ _ q⟩
  | ret v => exact q
  | brk => exact q
  | cont => exact q⟩
theorem ite_ne {x y : V} {A B : Prop} (h : x = y) (hb : B) : if (!decide (x = y)) = true then A else B := by
  rw [decide_eq_true h]
  exact iteF hb
theorem scal_due (b D E i j : Int) : scal (due b D E i j) (due b D E i j) = true := by unfold due; split <;> rfl
theorem scal_fp (t : Bool) (b e D E i : Int) : scal ((fprt t b e D E i).getD .non) ((fprt t b e D E i).getD .non) = true := by unfold fprt; split <;> rfl
theorem due_in {a b D E i j : Int} (i0 : 0 ≤ i) (i1 : i < a) (j0 : 0 ≤ j) (j1 : j < b) : decide ((0 ≤ i ∧ i < a) ∧ (0 ≤ j ∧ j < b) ∧ (j - S D E i) % b < dg D E i) = !decide (due b D E i j = V.non) := by
  unfold due
  by_cases h : (j - S D E i) % b < dg D E i
  · rw [decide_eq_true ⟨⟨i0, i1⟩, ⟨j0, j1⟩, h⟩, if_pos h]
    simp
  · rw [decide_eq_false (fun q => h q.2.2), if_neg h]
    simp
/-- the list that a comprehension has made so far -/
theorem grown {f : Nat → Int} {i : Nat} : ((List.range i).map f).map V.int ++ [V.int (f i)] = ((List.range (i + 1)).map f).map V.int := by
  rw [List.range_succ, List.map_append, List.map_append]
  rfl
def spRor (C : Addr) : Sp := fun vs H Q _ => ∃ p a b e D E i j, vs = [.ref p, .int a, .int b, .int e, .int i, .int j] ∧ Bd C H p a b e D E ∧ Tz a b e D E ∧ 0 ≤ i ∧ i < a ∧ 0 ≤ j ∧ j < b ∧ ∀ H', Same H H' → Q (.bl true) H'
theorem lay_ints : ∀ xs : List Int, PyData.canLayAll0 (xs.map PyData.int) = true
  | [] => rfl
  | x :: xs => by
    show (PyData.canLay0 (.int x) && PyData.canLayAll0 (xs.map PyData.int)) = true
    rw [lay_ints xs]
    rfl
theorem depth_ints : ∀ xs : List Int, PyData.depthAll (xs.map PyData.int) = 0
  | [] => rfl
  | x :: xs => by
    show max (PyData.depth (.int x)) (PyData.depthAll (xs.map PyData.int)) = 0
    rw [depth_ints xs]
    rfl
theorem shaped_ints (xs : List Int) : SeqAt.shaped (.list (xs.map PyData.int)) = true := by
  have h1 : PyData.canLay0 (.list (xs.map PyData.int)) = true := lay_ints xs
  have h2 : PyData.depth (.list (xs.map PyData.int)) = 1 := by
    show PyData.depthAll (xs.map PyData.int) + 1 = 1
    rw [depth_ints xs]
  unfold SeqAt.shaped
  rw [h1, h2]
  rfl
theorem dp_ints {K : PySem.W.Frag} {H : Hp} : ∀ xs : List Int, DpAll K H (xs.map V.int) (xs.map PyData.int)
  | [] => .nil
  | x :: xs => .cons (.int x) (dp_ints xs)
theorem eqv_ints (xs : List Int) : PyData.eqv (.list (xs.map PyData.int)) (.list (xs.map PyData.int)) = true := SeqAt.eqv_refl _ (lay_ints xs)
section
variable {P : Program} {w : World} {K : PySem.W.Frag} {mg : Str → Option Value} {base : Heap} {d : AD}
def nmRor : List Str := ["_law_board", "_law_a", "_law_b", "_law_e", "_law_i", "_law_j", "_law_first", "_law_d", "_law_place", "_law_due", "_law_few", "_law_rows", "_law_k"]
theorem scRor : FnScope nmRor ["_law_board", "_law_a", "_law_b", "_law_e", "_law_i", "_law_j"] (defScope (top 26)) := ⟨rfl, rfl, rfl, by decide +kernel, rfl, by decide +kernel, by decide +kernel⟩
theorem ok_ror (T : Facts K mg d) : Ok P w K mg base 9 d.ror ["_law_board", "_law_a", "_law_b", "_law_e", "_law_i", "_law_j"] (spRor d.tb) := by
  obtain ⟨fd, F⟩ := T.ror.df
  obtain ⟨_, GF, bF, kF⟩ := ok_fou (P := P) (w := w) (base := base) T
  obtain ⟨_, GA, bA, kA⟩ := ok_ahe (P := P) (w := w) (base := base) T
  obtain ⟨_, GN, bN, kN⟩ := ok_nof (P := P) (w := w) (base := base) T
  obtain ⟨_, GI, bI, kI⟩ := ok_con (P := P) (w := w) (base := base) T
  obtain ⟨_, GD, bD, kD⟩ := ok_dgr (P := P) (w := w) (base := base) T
  obtain ⟨_, GG, bG, kG⟩ := ok_fdg (P := P) (w := w) (base := base) T
  obtain ⟨_, GP, bP, kP⟩ := ok_fip (P := P) (w := w) (base := base) T
  obtain ⟨_, GE, bE⟩ := ok_eac (P := P) (w := w) (base := base) T
  refine ⟨fd, F.ok scRor (fun vs H Q E h => ?_) (fun cdv A outer s H vs Q E hr h => ?_), F.binds fun _ _ _ _ _ _ us hl => match us, hl with | [_, _, _, _, _, _], _ => rfl, F.kp⟩
  · obtain ⟨p, a, b, e, D, E', i, j, rfl, _⟩ := h
    rfl
  · obtain ⟨p, a, b, e, D, E', i, j, rfl, hB, z, i0, i1, j0, j1, k⟩ := h
    have hr1 : Room 1 _ := hr.mono (by decide)
    have hr2 : Room 2 _ := hr.mono (by decide)
    have hr4 : Room 4 _ := hr.mono (by decide)
    have hr5 : Room 5 _ := hr.mono (by decide)
    have hr7 : Room 7 _ := hr.mono (by decide)
    have hr8 : Room (5 + 3) _ := hr
    have ns : NoStop K E0 := fun _ _ _ h => h.elim
    refine ⟨_, pss_cons (ps_asg (pe_tup (pa_cons (pe_call GA hr1 (by rfl) T.ahe.mg kA bA .nil pass0 (pa_cons (pv 1) (pa_cons (pv 3) (pa_cons (pv 4) pa_nil))))
          (pa_cons (pe_op op_sub (pe_call GA hr1 (by rfl) T.ahe.mg kA bA .nil pass0 (pa_cons (pv 1) (pa_cons (pv 3) (pa_cons (pe_op op_add (pv 4) pe_int) pa_nil)))) (pe_call GA hr1 (by rfl) T.ahe.mg kA bA .nil pass0 (pa_cons (pv 1) (pa_cons (pv 3) (pa_cons (pv 4) pa_nil))))) pa_nil)))
          (pg_tup rfl (pgs_cons (pg_name (i := 6) scRor.nd rfl (.inr rfl)) (pgs_cons (pg_name (i := 7) scRor.nd rfl (.inl rfl)) pgs_nil))))
      (pss_cons (ps_set (i := 8) scRor.nd rfl (Or.inl rfl) (pe_op op_mod (pe_callTy call_int1 (by rfl) T.bInt (by decide +kernel) (pa_cons (pe_op op_sub (pv 5) (pv 6)) pa_nil)) (pv 2)))
      (pss_cons (ps_set (i := 9) scRor.nd rfl (Or.inl rfl) (pe_join (pe_ifExp (pt_cmpR op_lt (pv 8) (pv 7) (nomark _)) (pe_op op_add (pv 6) (pv 8)) pe_non)))
      (pss_cons (ps_if (PW.pt (pw_or (pt_cmpR op_ne (pe_meth (pv 0) T.cl T.nof.me GN hr5 bN .nil pass0 (pa_cons (pv 4) (pa_cons (pv 5) pa_nil))) (pv 9) (nomark _))
          (pw_or1 (pt_cmpR op_ne (pe_cmpR (op_inO GI T.con.me.at_ T.con.me.fn hr4 bI pass0) (pe_tup (pa_cons (pv 4) (pa_cons (pv 5) pa_nil))) (pv 0) (by rfl)) (pe_cmp (pc_notN (pv 9)) rfl) (nomark _))))) (pss_one (ps_ret pe_bl)) pss_nil)
      (pss_cons (ps_if (PW.pt (pw_or (pt_cmpR op_ne (pe_meth (pv 0) T.cl T.dgr.me GD hr5 bD .nil pass0 (pa_cons pe_str (pa_cons (pv 4) pa_nil))) (pv 7) (nomark _))
          (pw_or1 (pt_cmpR op_ne (pe_meth (pv 0) T.cl T.dgr.me GD hr5 bD .nil pass0 (pa_cons pe_str (pa_cons (pv 5) pa_nil))) (pe_call GG hr1 (by rfl) T.fdg.mg kG bG .nil pass0 (pa_cons (pv 2) (pa_cons (pv 3) (pa_cons (pv 5) pa_nil)))) (nomark _))))) (pss_one (ps_ret pe_bl)) pss_nil)
      (pss_cons (ps_if (pt_cmpR op_ne (pe_call GP hr7 (by rfl) T.fip.mg kP bP .nil pass0 (pa_cons (pv 0) (pa_cons pe_str (pa_cons (pv 4) pa_nil)))) (pe_join (pe_ifExp (pt_cmpR op_gt (pv 7) pe_int (nomark _)) (pe_op op_mod (pe_callTy call_int1 (by rfl) T.bInt (by decide +kernel) (pa_cons (pv 6) pa_nil)) (pv 2)) pe_non)) (nomark _)) (pss_one (ps_ret pe_bl)) pss_nil)
      (pss_cons (ps_if (pt_cmpR op_ne (pe_call GP hr7 (by rfl) T.fip.mg kP bP .nil pass0 (pa_cons (pv 0) (pa_cons pe_str (pa_cons (pv 5) pa_nil)))) (pe_join (pe_ifExp (pt_cmpR op_lt (pv 5) (pv 3) (nomark _)) (pe_call GF hr2 (by rfl) T.fou.mg kF bF .nil pass0 (pa_cons (pv 1) (pa_cons (pv 3) (pa_cons (pv 5) pa_nil)))) pe_non)) (nomark _)) (pss_one (ps_ret pe_bl)) pss_nil)
      (pss_cons (ps_join (ps_if (pt_cmpR op_le (pv 7) pe_int (nomark _)) (pss_one (ps_if (pt_cmpR (op_neD hr.units) (pe_listG (pgen_meth (pv 0) T.cl T.eac.me GE hr5 bE .nil (pa_cons pe_str (pa_cons (pv 4) pa_nil))) passL ns hr8 (by rfl) T.bList (by decide +kernel))
          (pe_lc (own := [("_law_k", 12)]) (g := gName 12) (tt := tYes) rfl scRor.nd (pi_range1 (by rfl) T.bRange (pa_cons (pv 7) pa_nil)) (blkOk_by (own := [("_law_k", 12)]) (N := nmRor) (sc := defScope (top 26)) (by decide +kernel)) (fun _ _ _ _ _ => pg_name (i := 12) scRor.nd rfl (Or.inl rfl)) (fun _ _ _ _ _ => pts_nil)
            (fun _ _ _ _ _ => pe_op op_mod (pe_callTy call_int1 (by rfl) T.bInt (by decide +kernel) (pa_cons (pe_op op_add (pv 6) (pv 12)) pa_nil)) (pv 2))) (nomark _)) (pss_one (ps_ret pe_bl)) pss_nil)) pss_nil))
      (pss_cons (ps_set (i := 10) scRor.nd rfl (Or.inl rfl) (pe_call GG hr1 (by rfl) T.fdg.mg kG bG .nil pass0 (pa_cons (pv 2) (pa_cons (pv 3) (pa_cons (pv 5) pa_nil)))))
      (pss_cons (ps_setLc (i := 11) (own := [("_law_k", 12)]) (g := gName 12) (tt := tYes) (by rfl) scRor.nd rfl rfl (sw_true rfl rfl rfl (by decide +kernel)) (pi_range1 (by rfl) T.bRange (pa_cons (pe_join (pe_ifExp (pt_cmpR op_le (pv 10) pe_int (nomark _)) (pv 10) pe_int)) pa_nil)) (blkOk_by (own := [("_law_k", 12)]) (N := nmRor) (sc := defScope (top 26)) (by decide +kernel)) (fun _ _ _ _ _ => pg_name (i := 12) scRor.nd rfl (Or.inl rfl)) (fun _ _ _ _ _ => pts_nil)
            (fun _ _ _ _ _ => pe_call GF hr2 (by rfl) T.fou.mg kF bF .nil pass0 (pa_cons (pv 1) (pa_cons (pv 3) (pa_cons (pe_op op_add (pv 5) (pe_op op_mul (pv 12) (pv 2))) pa_nil)))))
      (pss_one (ps_ret (pe_or (pe_cmpR op_gt (pv 10) pe_int (nomark _)) (pe_one (pe_cmpR (op_eqD hr.units) (pe_listG (pgen_meth (pv 0) T.cl T.eac.me GE hr5 bE .nil (pa_cons pe_str (pa_cons (pv 5) pa_nil))) passL ns hr8 (by rfl) T.bList (by decide +kernel)) (pv 11) (nomark _))))))))))))))), ?_⟩
    have eS := S_succ D E' i
    have b0 := Int.le_of_lt z.t.hb
    obtain ⟨dx, hp⟩ := id hB
    -- first, d
    refine ⟨_, rfl, _, rfl, _, rfl, a, b, e, D, E', i, rfl, z, i0, Int.le_of_lt i1, _, rfl, _, rfl, _, rfl, _, _, rfl, rfl, a, b, e, D, E', i + 1, rfl, z, by omega, by omega, _, rfl, _, rfl, _, rfl, a, b, e, D, E', i, rfl, z, i0, Int.le_of_lt i1, _, _, rfl, rfl, (by show 2 ≤ sizeLine; decide), fun t ht => ?_⟩
    refine ⟨t, _, rfl, SqT.of upd_same, rfl, _, _, rfl, _, _, rfl, rfl, ?_⟩
    dsimp only
    have ed : S D E' (i + 1) - S D E' i = dg D E' i := by omega
    rw [ed]
    have u1 := Same.upd (o := .tup [.int (S D E' i), .int (dg D E' i)]) ht
    generalize upd H t (.tup [.int (S D E' i), .int (dg D E' i)]) = H1 at *
    -- place, due
    refine ⟨_, rfl, _, rfl, _, _, rfl, rfl, .inl ⟨_, rfl, _, rfl, _, _, rfl, rfl, z.t.hb, ?_⟩⟩
    refine ⟨fun v H' => v = due b D E' i j ∧ H1 = H', ⟨_, rfl, _, rfl, _, _, rfl, rfl, _, rfl, ?_⟩, ?_⟩
    · by_cases hlt : (j - S D E' i) % b < dg D E' i
      · rw [show decide ((j - S D E' i) % b < dg D E' i) = true from decide_eq_true hlt]
        exact iteT ⟨_, rfl, _, rfl, _, _, rfl, rfl, by unfold due; rw [if_pos hlt], rfl⟩
      · rw [show decide ((j - S D E' i) % b < dg D E' i) = false from decide_eq_false hlt]
        exact iteF ⟨by unfold due; rw [if_neg hlt], rfl⟩
    rintro v H' ⟨rfl, rfl⟩
    -- its number, whether it is in
    refine ⟨_, rfl, p, dx, _, rfl, u1 _ _ hp, fl_no (by decide +kernel), _, rfl, _, rfl, p, a, b, e, D, E', i, j, rfl, hB.same u1, z, i0, i1, j0, j1, fun H2 u2 => ?_⟩
    refine ⟨_, rfl, scal_due _ _ _ _ _, _, rfl, ?_⟩
    rw [ne_self]
    refine iteF ?_
    have u3 := u1.trans u2
    refine ⟨_, rfl, _, rfl, (by show 2 ≤ sizeLine; decide), fun t2 ht2 => ?_⟩
    have u4 := u3.trans (Same.upd (o := .tup [.int i, .int j]) ht2)
    refine ⟨_, rfl, p, dx, _, rfl, u4 _ _ hp, p, t2, a, b, e, D, E', i, j, rfl, hB.same u4, z, upd_same, _, rfl, _, rfl, rfl, _, rfl, ?_⟩
    refine ite_ne (congrArg V.bl (due_in i0 i1 j0 j1)) ?_
    generalize upd H2 t2 (.tup [.int i, .int j]) = H3 at *
    -- degrees
    refine ⟨_, rfl, p, dx, _, rfl, u4 _ _ hp, fl_no (by decide +kernel), _, rfl, p, a, b, e, D, E', true, i, rfl, hB.same u4, z, i0, i1, fun H4 u5 => ?_⟩
    refine ⟨_, rfl, rfl, _, rfl, ?_⟩
    rw [ne_of_eq' (show V.int (gd true b e D E' i) = V.int (dg D E' i) from rfl)]
    refine iteF ?_
    have u6 := u4.trans u5
    refine ⟨_, rfl, p, dx, _, rfl, u6 _ _ hp, fl_no (by decide +kernel), _, rfl, p, a, b, e, D, E', false, j, rfl, hB.same u6, z, j0, j1, fun H5 u7 => ?_⟩
    refine ⟨_, rfl, _, rfl, _, rfl, a, b, e, D, E', j, rfl, z, rfl, _, rfl, ?_⟩
    rw [ne_of_eq' (show V.int (gd false b e D E' j) = V.int (K32.fd b e j) from rfl)]
    refine iteF ?_
    have u8 := u6.trans u7
    -- first partners
    refine ⟨_, rfl, _, rfl, p, a, b, e, D, E', true, i, rfl, hB.same u8, z, i0, i1, fun H6 u9 => ?_⟩
    refine ⟨fun v H' => v = (fprt true b e D E' i).getD .non ∧ H6 = H', ⟨_, rfl, _, _, rfl, rfl, _, rfl, ?_⟩, ?_⟩
    · by_cases hlt : 0 < dg D E' i
      · rw [decide_eq_true hlt]
        refine iteT ⟨_, rfl, .inl ⟨_, rfl, _, rfl, _, _, rfl, rfl, z.t.hb, ?_, rfl⟩⟩
        unfold fprt
        rw [if_pos (show 0 < gd true b e D E' i from hlt)]
        show V.int (S D E' i % b) = V.int ((S D E' i + 0) % b)
        rw [Int.add_zero]
      · rw [decide_eq_false hlt]
        refine iteF ⟨?_, rfl⟩
        unfold fprt
        rw [if_neg (show ¬ 0 < gd true b e D E' i from hlt)]
        rfl
    rintro v H' ⟨rfl, rfl⟩
    refine ⟨scal_fp _ _ _ _ _ _, _, rfl, ?_⟩
    rw [ne_self]
    refine iteF ?_
    have u10 := u8.trans u9
    refine ⟨_, rfl, _, rfl, p, a, b, e, D, E', false, j, rfl, hB.same u10, z, j0, j1, fun H7 u11 => ?_⟩
    refine ⟨fun v H' => v = (fprt false b e D E' j).getD .non ∧ H7 = H', ⟨_, rfl, _, rfl, _, _, rfl, rfl, _, rfl, ?_⟩, ?_⟩
    · by_cases hlt : j < e
      · rw [decide_eq_true hlt]
        refine iteT ⟨_, rfl, _, rfl, _, rfl, a, b, e, D, E', j, rfl, z, j0, hlt, ?_, rfl⟩
        unfold fprt
        rw [if_pos (show 0 < gd false b e D E' j from (z.t.fd_pos j0 j1).mpr hlt)]
        show V.int (NR D E' j) = V.int (NR D E' (j + 0 * b))
        rw [Int.zero_mul, Int.add_zero]
      · rw [decide_eq_false hlt]
        refine iteF ⟨?_, rfl⟩
        unfold fprt
        rw [if_neg (show ¬ 0 < gd false b e D E' j from fun q => hlt ((z.t.fd_pos j0 j1).mp q))]
        rfl
    rintro v H' ⟨rfl, rfl⟩
    refine ⟨scal_fp _ _ _ _ _ _, _, rfl, ?_⟩
    rw [ne_self]
    refine iteF ?_
    have u12 := u10.trans u11
    -- the near row's partners, if they are few
    refine ⟨fun σ' H' => Same H7 H' ∧ σ' = [some (.ref p), some (.int a), some (.int b), some (.int e), some (.int i), some (.int j), some (.int (S D E' i)), some (.int (dg D E' i)), some (.int ((j - S D E' i) % b)), some (due b D E' i j), none, none, none], ⟨_, rfl, _, _, rfl, rfl, _, rfl, ?_⟩, ?_⟩
    · by_cases hd : dg D E' i ≤ 30
      · rw [decide_eq_true hd]
        have d0 := z.t.dg0 i
        refine iteT ⟨_, rfl, p, dx, _, rfl, u12 _ _ hp, fl_no (by decide +kernel), _, rfl, p, a, b, e, D, E', true, i, rfl, hB.same u12, z, i0, i1, Int.le_trans hd (by decide), fun H8 u13 => fun l hl => ?_⟩
        have u14 : Same H7 (upd H8 l (.lst (prts true b e D E' i))) := u13.trans (Same.upd hl)
        have el : (upd H8 l (.lst (prts true b e D E' i))) l = some (.lst (((List.range (dg D E' i).toNat).map fun k : Nat => (S D E' i + (k : Int)) % b).map V.int)) := by
          rw [upd_same, List.map_map]
          rfl
        generalize upd H8 l (.lst (prts true b e D E' i)) = H9 at *
        have big62 : (30 : Int) < 2 ^ 62 := by decide
        refine ⟨_, rfl, _, rfl, by omega, by omega, fun L hL => ?_⟩
        refine lc_range (lo := 0) (n := (dg D E' i).toNat) (fun m H' => H' L = some (.lst (((List.range m).map fun k : Nat => (S D E' i + (k : Int)) % b).map V.int)) ∧ Same H9 H') ⟨upd_same, Same.upd hL⟩ (fun m H' hm ⟨h1, h2⟩ => ?_) (fun H' ⟨h1, h2⟩ => ?_)
        · refine ⟨rfl, ?_⟩
          unfold tYes
          refine iteT ?_
          refine ⟨_, rfl, _, rfl, _, _, rfl, rfl, .inl ⟨_, rfl, _, rfl, _, _, rfl, rfl, z.t.hb, _, h1, ?_, ?_, ?_⟩⟩
          · rw [List.length_map, List.length_map, List.length_range]
            exact small1000 (by omega)
          · rw [upd_same, ← grown]
            show some (HO.lst (_ ++ [V.int ((S D E' i + (0 + (m : Int))) % b)])) = _
            rw [Int.zero_add]
          · intro c o hc
            have nc : c ≠ L := ne_of_none hc hL
            rw [upd_ne nc]
            exact h2 c o hc
        · refine ⟨_, _, .lst (SqL.of (h2 _ _ el)) (dp_ints _), .lst (SqL.of h1) (dp_ints _), shaped_ints _, shaped_ints _, _, rfl, ?_⟩
          rw [eqv_ints]
          exact iteF ⟨u14.trans h2, rfl⟩
      · rw [decide_eq_false hd]
        exact iteF ⟨Same.refl _, rfl⟩
    rintro σ' H8 ⟨u13, rfl⟩
    have u14 := u12.trans u13
    -- the far row's partners
    refine ⟨_, rfl, _, rfl, _, rfl, a, b, e, D, E', j, rfl, z, ?_⟩
    have f0 := z.t.fd0 (j := j)
    generalize hf : K32.fd b e j = f at *
    have big62 : (30 : Int) < 2 ^ 62 := by decide
    refine ⟨fun v H' => v = .int (if f ≤ 30 then f else 0) ∧ H8 = H', ⟨_, rfl, _, _, rfl, rfl, _, rfl, ?_⟩, ?_⟩
    · by_cases h30 : f ≤ 30
      · rw [decide_eq_true h30]
        exact iteT ⟨_, rfl, by rw [if_pos h30], rfl⟩
      · rw [decide_eq_false h30]
        exact iteF ⟨by rw [if_neg h30], rfl⟩
    rintro v H' ⟨rfl, rfl⟩
    have m0 : 0 ≤ (if f ≤ 30 then f else 0) := by split <;> omega
    have m1 : (if f ≤ 30 then f else 0) ≤ 30 := by split <;> omega
    have m2 : (if f ≤ 30 then f else 0) ≤ f := by split <;> omega
    have m3 : f ≤ 30 → (if f ≤ 30 then f else 0) = f := fun h => if_pos h
    generalize (if f ≤ 30 then f else 0) = m at *
    refine ⟨_, rfl, by omega, by omega, fun L hL => ?_⟩
    refine lc_range (lo := 0) (n := m.toNat) (fun n H' => H' L = some (.lst (((List.range n).map fun k : Nat => NR D E' (j + (k : Int) * b)).map V.int)) ∧ Same H8 H') ⟨upd_same, Same.upd hL⟩ (fun n H' hn ⟨h1, h2⟩ => ?_) (fun H' ⟨h1, h2⟩ => ?_)
    · have hlt : j + (n : Int) * b < e := (z.t.fd_num j0 j1 (Int.natCast_nonneg n)).mp (by rw [hf]; omega)
      have hnb : 0 ≤ (n : Int) * b := Int.mul_nonneg (Int.natCast_nonneg n) b0
      have e0 : (0 : Int) + (n : Int) = (n : Int) := Int.zero_add _
      refine ⟨rfl, ?_⟩
      unfold tYes
      refine iteT ?_
      refine ⟨_, rfl, _, rfl, _, rfl, _, rfl, _, rfl, _, _, rfl, rfl, .inl ⟨by omega, by omega⟩, _, _, rfl, rfl, a, b, e, D, E', j + (0 + (n : Int)) * b, rfl, z, by rw [e0]; omega, by rw [e0]; exact hlt, _, h1, ?_, ?_, ?_⟩
      · rw [List.length_map, List.length_map, List.length_range]
        exact small1000 (by omega)
      · rw [upd_same, ← grown, e0]
      · intro c o hc
        have nc : c ≠ L := ne_of_none hc hL
        rw [upd_ne nc]
        exact h2 c o hc
    · have u15 := u14.trans h2
      refine ⟨_, rfl, _, _, rfl, rfl, _, rfl, ?_⟩
      by_cases h30 : 30 < f
      · rw [decide_eq_true h30]
        exact iteT (k _ u15)
      · rw [decide_eq_false h30]
        refine iteF ⟨_, rfl, p, dx, _, rfl, u15 _ _ hp, fl_no (by decide +kernel), _, rfl, p, a, b, e, D, E', false, j, rfl, hB.same u15, z, j0, j1, (by show K32.fd b e j ≤ 1000; omega), fun H9 u16 => fun l hl => ?_⟩
        have em : m = f := m3 (by omega)
        have el : prts false b e D E' j = ((List.range m.toNat).map fun k : Nat => NR D E' (j + (k : Int) * b)).map V.int := by
          unfold prts
          rw [List.map_map, show gd false b e D E' j = m by rw [em]; exact hf]
          rfl
        have nL : L ≠ l := ne_of_none (u16 _ _ h1) hl
        rw [el]
        refine ⟨_, rfl, _, _, .lst (SqL.of upd_same) (dp_ints _), .lst (SqL.of (by rw [upd_ne nL]; exact u16 _ _ h1)) (dp_ints _), shaped_ints _, shaped_ints _, ?_⟩
        rw [eqv_ints]
        exact k _ ((u15.trans u16).trans (Same.upd hl))
end
end K32

namespace K32
open PySem L2 K32G K32O
def spSzi : Sp := fun vs H Q _ => ∃ q, vs = [.ref q] ∧ PotAt H q ∧ ∀ t a b H', 0 < a → 0 < b → a ≤ 10 ^ 60 → b ≤ 10 ^ 60 → a * b ≤ 10 ^ 63 → PotAt H' q → But q H H' → H' t = some (.tup [.int a, .int b]) → Q (.ref t) H'
def spTot : Sp := fun vs H Q _ => ∃ q a b, vs = [.ref q, .int a, .int b] ∧ PotAt H q ∧ 0 < a ∧ 0 < b ∧ a < 2 ^ 210 ∧ b < 2 ^ 210 ∧ a * b < 2 ^ 210 ∧ ∀ e H', 0 ≤ e → e ≤ a * b → PotAt H' q → But q H H' → Q (.int e) H'
theorem atI_mem {xs : List Int} {z : Int} (h0 : 0 ≤ z) (h1 : z < ((xs.length : Nat) : Int)) : ∃ v, v ∈ xs ∧ atI (xs.map V.int) z = some (.int v) := by
  obtain ⟨k, rfl⟩ := Int.eq_ofNat_of_zero_le h0
  have hk : k < xs.length := by omega
  exact ⟨xs[k], List.getElem_mem hk, atI_nat (map_ints_get hk)⟩
theorem mul_le {a b x y : Int} (h : a ≤ x) (k : b ≤ y) (h0 : 0 ≤ b) (k0 : 0 ≤ x) : a * b ≤ x * y :=
  Int.le_trans (Int.mul_le_mul_of_nonneg_right h h0) (Int.mul_le_mul_of_nonneg_left k k0)
theorem ipos {x y : Int} (h : 0 ≤ x) (h2 : x < y) : 0 < 1 + x ∧ 1 + x ≤ y := ⟨by omega, by omega⟩
section
variable {P : Program} {w : World} {K : PySem.W.Frag} {mg : Str → Option Value} {base : Heap} {d : AD}
theorem scSzi : FnScope ["_law_pot", "_law_way"] ["_law_pot"] (defScope (top 27)) := ⟨rfl, rfl, rfl, by decide +kernel, rfl, by decide +kernel, by decide +kernel⟩
theorem ok_szi (T : Facts K mg d) : Ok P w K mg base 2 d.szi ["_law_pot"] spSzi := by
  obtain ⟨fd, F⟩ := T.szi.df
  obtain ⟨_, GD, bD, kD⟩ := ok_drw (P := P) (w := w) (base := base) T
  refine ⟨fd, F.ok scSzi (fun vs H Q E h => ?_) (fun cdv A outer s H vs Q E hr h => ?_), F.binds fun _ _ _ _ _ _ us hl => match us, hl with | [_], _ => rfl, F.kp⟩
  · obtain ⟨q, rfl, _⟩ := h
    rfl
  · obtain ⟨q, rfl, hq, k⟩ := h
    refine ⟨_, pss_cons (ps_set (i := 1) scSzi.nd rfl (Or.inl rfl) (pe_call GD hr (by rfl) T.drw.mg kD bD .nil pass0 (pa_cons (pv 0) (pa_cons pe_int pa_nil))))
      (pss_cons (ps_if (pt_cmpR op_eq (pv 1) pe_int (nomark _)) (pss_one (ps_ret (pe_tup (pa_cons (pe_op op_add pe_int (pe_call GD hr (by rfl) T.drw.mg kD bD .nil pass0 (pa_cons (pv 0) (pa_cons (pe_op op_pow pe_int pe_int) pa_nil)))) (pa_cons (pe_op op_add pe_int (pe_call GD hr (by rfl) T.drw.mg kD bD .nil pass0 (pa_cons (pv 0) (pa_cons pe_int pa_nil)))) pa_nil))))) pss_nil)
      (pss_cons (ps_if (pt_cmpR op_eq (pv 1) pe_int (nomark _)) (pss_one (ps_ret (pe_tup (pa_cons (pe_op op_add pe_int (pe_call GD hr (by rfl) T.drw.mg kD bD .nil pass0 (pa_cons (pv 0) (pa_cons pe_int pa_nil)))) (pa_cons (pe_op op_add pe_int (pe_call GD hr (by rfl) T.drw.mg kD bD .nil pass0 (pa_cons (pv 0) (pa_cons (pe_op op_pow pe_int pe_int) pa_nil)))) pa_nil))))) pss_nil)
      (pss_one (ps_ret (pe_tup (pa_cons (pe_op op_add pe_int (pe_call GD hr (by rfl) T.drw.mg kD bD .nil pass0 (pa_cons (pv 0) (pa_cons (pe_op op_pow pe_int pe_int) pa_nil))))
        (pa_cons (pe_op op_add pe_int (pe_call GD hr (by rfl) T.drw.mg kD bD .nil pass0 (pa_cons (pv 0) (pa_cons (pe_ix ix_list (pe_lst (pa_cons (pe_op op_pow pe_int pe_int) (pa_cons pe_int pa_nil))) (pe_op op_sub (pv 1) pe_int) (fun _ _ => rfl)) pa_nil)))) pa_nil))))))), ?_⟩
    refine ⟨_, rfl, q, _, rfl, hq, (by show (0 : Int) < 4; decide), (by show (4 : Int) < 2 ^ 500; decide +kernel), fun wy H1 w0 w1 p1 b1 => ?_⟩
    have fin : ∀ (x y mx my : Int) (H2 : Hp) (t : Addr), 0 ≤ x → x < mx → 0 ≤ y → y < my → mx ≤ 10 ^ 60 → my ≤ 10 ^ 60 → mx * my ≤ 10 ^ 63 → 0 ≤ mx → PotAt H2 q → But q H H2 → H2 t = none → Q (.ref t) (upd H2 t (.tup [.int (1 + x), .int (1 + y)])) := fun x y mx my H2 t x0 x1 y0 y1 m1 m2 m3 m4 p2 b2 ht => by
      obtain ⟨a0, a1⟩ := ipos x0 x1
      obtain ⟨c0, c1⟩ := ipos y0 y1
      exact k t (1 + x) (1 + y) _ a0 c0 (Int.le_trans a1 m1) (Int.le_trans c1 m2) (Int.le_trans (mul_le a1 c1 (Int.le_of_lt c0) m4) m3) (p2.same (Same.upd ht)) (b2.same (Same.upd ht)) upd_same
    have pw : (0 : Int) ≤ 60 ∧ (60 : Int) ≤ 1000000 ∧ (10 : Int).natAbs < 2 ^ 64 := ⟨by decide, by decide, by decide⟩
    have pw3 : (0 : Int) ≤ 30 ∧ (30 : Int) ≤ 1000000 ∧ (10 : Int).natAbs < 2 ^ 64 := ⟨by decide, by decide, by decide⟩
    refine ⟨_, rfl, rfl, _, rfl, ?_⟩
    by_cases h0 : wy = 0
    · rw [show decide (V.int wy = V.int 0) = true from decide_eq_true (by rw [h0])]
      refine iteT ⟨_, rfl, _, _, rfl, rfl, pw, q, _, rfl, p1, (by show (0 : Int) < 10 ^ (60 : Int).toNat; decide +kernel), (by show (10 : Int) ^ (60 : Int).toNat < 2 ^ 500; decide +kernel), fun x H2 x0 x1 p2 b2 => ?_⟩
      refine ⟨_, _, rfl, rfl, _, rfl, q, _, rfl, p2, (by show (0 : Int) < 1000; decide), (by show (1000 : Int) < 2 ^ 500; decide +kernel), fun y H3 y0 y1 p3 b3 => ?_⟩
      exact ⟨_, _, rfl, rfl, (by show 2 ≤ sizeLine; decide), fun t ht => fin x y _ _ H3 t x0 x1 y0 y1 (by decide +kernel) (by decide +kernel) (by decide +kernel) (by decide +kernel) p3 ((b1.trans b2).trans b3) ht⟩
    · rw [show decide (V.int wy = V.int 0) = false from decide_eq_false (fun q => h0 (V.int.inj q))]
      refine iteF ⟨_, rfl, rfl, _, rfl, ?_⟩
      by_cases h1 : wy = 1
      · rw [show decide (V.int wy = V.int 1) = true from decide_eq_true (by rw [h1])]
        refine iteT ⟨_, rfl, q, _, rfl, p1, (by show (0 : Int) < 1000; decide), (by show (1000 : Int) < 2 ^ 500; decide +kernel), fun x H2 x0 x1 p2 b2 => ?_⟩
        refine ⟨_, _, rfl, rfl, _, rfl, _, _, rfl, rfl, pw, q, _, rfl, p2, (by show (0 : Int) < 10 ^ (60 : Int).toNat; decide +kernel), (by show (10 : Int) ^ (60 : Int).toNat < 2 ^ 500; decide +kernel), fun y H3 y0 y1 p3 b3 => ?_⟩
        exact ⟨_, _, rfl, rfl, (by show 2 ≤ sizeLine; decide), fun t ht => fin x y _ _ H3 t x0 x1 y0 y1 (by decide +kernel) (by decide +kernel) (by decide +kernel) (by decide +kernel) p3 ((b1.trans b2).trans b3) ht⟩
      · rw [show decide (V.int wy = V.int 1) = false from decide_eq_false (fun q => h1 (V.int.inj q))]
        refine iteF ⟨_, rfl, _, _, rfl, rfl, pw3, q, _, rfl, p1, (by show (0 : Int) < 10 ^ (30 : Int).toNat; decide +kernel), (by show (10 : Int) ^ (30 : Int).toNat < 2 ^ 500; decide +kernel), fun x H2 x0 x1 p2 b2 => ?_⟩
        refine ⟨_, _, rfl, rfl, _, rfl, _, _, rfl, rfl, pw3, (by show 2 ≤ sizeLine; decide), fun l hl => ?_⟩
        have p2' := p2.same (Same.upd (o := .lst [V.int ((10 : Int) ^ (30 : Int).toNat), V.int 50]) hl)
        have hw : wy = 2 ∨ wy = 3 := by omega
        rcases hw with rfl | rfl
        · refine ⟨_, rfl, _, _, rfl, rfl, l, _, _, _, rfl, rfl, SqL.of upd_same, atI_nat (j := 0) rfl, q, _, rfl, p2', (by show (0 : Int) < 10 ^ (30 : Int).toNat; decide +kernel), (by show (10 : Int) ^ (30 : Int).toNat < 2 ^ 500; decide +kernel), fun y H3 y0 y1 p3 b3 => ?_⟩
          exact ⟨_, _, rfl, rfl, (by show 2 ≤ sizeLine; decide), fun t ht => fin x y _ _ H3 t x0 x1 y0 y1 (by decide +kernel) (by decide +kernel) (by decide +kernel) (by decide +kernel) p3 (((b1.trans b2).same (Same.upd hl)).trans b3) ht⟩
        · refine ⟨_, rfl, _, _, rfl, rfl, l, _, _, _, rfl, rfl, SqL.of upd_same, atI_nat (j := 1) rfl, q, _, rfl, p2', (by show (0 : Int) < 50; decide), (by show (50 : Int) < 2 ^ 500; decide +kernel), fun y H3 y0 y1 p3 b3 => ?_⟩
          exact ⟨_, _, rfl, rfl, (by show 2 ≤ sizeLine; decide), fun t ht => fin x y _ _ H3 t x0 x1 y0 y1 (by decide +kernel) (by decide +kernel) (by decide +kernel) (by decide +kernel) p3 (((b1.trans b2).same (Same.upd hl)).trans b3) ht⟩
theorem scTot : FnScope ["_law_pot", "_law_a", "_law_b", "_law_whole", "_law_some"] ["_law_pot", "_law_a", "_law_b"] (defScope (top 28)) := ⟨rfl, rfl, rfl, by decide +kernel, rfl, by decide +kernel, by decide +kernel⟩
theorem ok_tot (T : Facts K mg d) : Ok P w K mg base 3 d.tot ["_law_pot", "_law_a", "_law_b"] spTot := by
  obtain ⟨fd, F⟩ := T.tot.df
  obtain ⟨_, GD, bD, kD⟩ := ok_drw (P := P) (w := w) (base := base) T
  obtain ⟨_, GP, bP, kP⟩ := ok_pic (P := P) (w := w) (base := base) T
  refine ⟨fd, F.ok scTot (fun vs H Q E h => ?_) (fun cdv A outer s H vs Q E hr h => ?_), F.binds fun _ _ _ _ _ _ us hl => match us, hl with | [_, _, _], _ => rfl, F.kp⟩
  · obtain ⟨q, a, b, rfl, _⟩ := h
    rfl
  · obtain ⟨q, a, b, rfl, hq, a0, b0, za, zb, zab, k⟩ := h
    have hr1 : Room 1 _ := hr.mono (by decide)
    refine ⟨_, pss_cons (ps_set (i := 3) scTot.nd rfl (Or.inl rfl) (pe_op op_mulW (pe_join (pe_ix ix_list (pe_lst (pa_cons (pv 1) (pa_cons (pv 2) pa_nil))) (pe_call GD hr1 (by rfl) T.drw.mg kD bD .nil pass0 (pa_cons (pv 0) (pa_cons pe_int pa_nil))) (fun _ _ => rfl)))
        (pe_call GD hr1 (by rfl) T.drw.mg kD bD .nil pass0 (pa_cons (pv 0) (pa_cons (pe_op op_add (pe_callB (call_min2 rfl) (by rfl) T.bMin (by decide +kernel) (pa_cons (pv 1) (pa_cons (pv 2) pa_nil))) pe_int) pa_nil)))))
      (pss_cons (ps_set (i := 4) scTot.nd rfl (Or.inl rfl) (pe_lst (pa_cons (pe_call GD hr1 (by rfl) T.drw.mg kD bD .nil pass0 (pa_cons (pv 0) (pa_cons (pe_op op_add (pe_op op_mulW (pv 1) (pv 2)) pe_int) pa_nil)))
        (pa_cons (pe_call GD hr1 (by rfl) T.drw.mg kD bD .nil pass0 (pa_cons (pv 0) (pa_cons (pe_op op_add (pe_callB (call_min2 rfl) (by rfl) T.bMin (by decide +kernel) (pa_cons (pe_op op_mulW (pv 1) (pv 2)) (pa_cons pe_int pa_nil))) pe_int) pa_nil)))
        (pa_cons (pe_op op_mulW (pv 1) (pv 2)) (pa_cons (pv 3) (pa_cons (pe_op op_add (pv 3) pe_int) (pa_cons (pe_op op_sub (pv 3) pe_int) pa_nil))))))))
      (pss_one (ps_ret (pe_callB (call_max2 rfl) (by rfl) T.bMax (by decide +kernel) (pa_cons pe_int (pa_cons (pe_callB (call_min2 rfl) (by rfl) T.bMin (by decide +kernel) (pa_cons (pe_op op_mulW (pv 1) (pv 2)) (pa_cons (pe_call GP hr (by rfl) T.pic.mg kP bP .nil pass0 (pa_cons (pv 0) (pa_cons (pv 4) pa_nil))) pa_nil))) pa_nil)))))), ?_⟩
    have hab : 0 < a * b := Int.mul_pos a0 b0
    have mab : CMulW a b := zmul (Int.le_of_lt a0) (big za) (Int.le_of_lt b0) (big zb)
    have n210 : (2 : Int) ^ 210 + 1 < 2 ^ 500 := by decide +kernel
    -- whole
    refine ⟨fun v H' => ∃ x, v = .int x ∧ 0 < x ∧ x < 2 ^ 210 ∧ PotAt H' q ∧ But q H H', ⟨_, rfl, _, rfl, (by show 2 ≤ sizeLine; decide), fun l hl => ?_⟩, ?_⟩
    · refine ⟨_, rfl, q, _, rfl, hq.same (Same.upd hl), (by show (0 : Int) < 2; decide), (by show (2 : Int) < 2 ^ 500; decide +kernel), fun r H1 r0 r1 p1 b1 => ?_⟩
      have nlq : l ≠ q := fun z => by
        obtain ⟨_, _, e, _⟩ := hq
        rw [← z, hl] at e
        cases e
      obtain ⟨v, hv, ev⟩ := atI_mem (xs := [a, b]) r0 r1
      refine ⟨l, _, _, _, rfl, rfl, SqL.of (b1 _ _ nlq upd_same), ev, v, rfl, ?_, ?_, p1, ?_⟩
      · simp at hv
        rcases hv with rfl | rfl <;> assumption
      · simp at hv
        rcases hv with rfl | rfl <;> assumption
      · exact fun c o hc hh => b1 c o hc (Same.upd hl c o hh)
    rintro v H1 ⟨x, rfl, x0, x1, p1, b1⟩
    refine ⟨_, rfl, _, rfl, _, rfl, _, _, rfl, _, _, rfl, rfl, ?_⟩
    have m0 : 0 < (if b < a then b else a) := by split <;> assumption
    have m1 : (if b < a then b else a) < 2 ^ 210 := by split <;> assumption
    generalize (if b < a then b else a) = m at *
    refine ⟨q, _, rfl, p1, (by show 0 < m + 1; omega), (by show m + 1 < 2 ^ 500; omega), fun r H2 r0 r1 p2 b2 => ?_⟩
    have r2 : r < 2 ^ 500 := by
      have : r < m + 1 := r1
      omega
    refine ⟨_, _, rfl, rfl, zmul (Int.le_of_lt x0) (big x1) r0 r2, ?_⟩
    -- some
    refine ⟨_, rfl, _, rfl, _, rfl, _, _, rfl, rfl, mab, _, _, rfl, rfl, q, _, rfl, p2, (by show 0 < a * b + 1; omega), (by show a * b + 1 < 2 ^ 500; omega), fun r3 H3 _ _ p3 b3 => ?_⟩
    refine ⟨_, rfl, _, rfl, _, rfl, _, _, rfl, rfl, mab, _, _, rfl, _, _, rfl, rfl, q, _, rfl, p3, ?_, ?_, fun r4 H4 _ _ p4 b4 => ?_⟩
    · skip
      split <;> omega
    · skip
      split <;> omega
    refine ⟨_, rfl, _, rfl, _, _, rfl, rfl, mab, _, rfl, _, rfl, _, _, rfl, rfl, _, rfl, _, _, rfl, rfl, (by show 6 ≤ sizeLine; decide), fun l hl => ?_⟩
    have nlq : l ≠ q := fun z => by
      obtain ⟨_, _, e, _⟩ := p4
      rw [← z, hl] at e
      cases e
    refine ⟨_, rfl, _, rfl, _, _, rfl, rfl, mab, _, rfl, _, rfl, q, l, [_, _, _, _, _, _], rfl, p4.same (Same.upd hl), upd_same, nlq, (by show 0 < 6; decide), (by show 6 ≤ 1000; decide), fun v H5 _ p5 b5 => ?_⟩
    refine ⟨_, _, rfl, _, _, rfl, ?_⟩
    refine k _ _ ?_ ?_ p5 ((((b1.trans b2).trans b3).trans b4).trans fun c o hc hh => b5 c o hc (Same.upd hl c o hh))
    · skip
      split <;> omega
    · skip
      split
      · split <;> omega
      · omega
end
end K32

namespace K32
open PySem L2 K32G K32O
def spTar : Sp := fun vs H Q _ => ∃ q, vs = [.ref q] ∧ PotAt H q ∧ ∀ H', PotAt H' q → But q H H' → Q (.bl true) H'
theorem eqv3l (a b e : Int) : PyData.eqv (.list [.int a, .int b, .int e]) (.list [.int a, .int b, .int e]) = true := SeqAt.eqv_refl _ rfl
/-- a new table, all else kept -/
theorem Same.madeT {H H1 : Hp} {x dx C : Addr} (nx : H x = none) (nd : H dx = none) (k : ∀ c o, c ≠ x → (L2.upd (L2.upd H dx (.own x)) x (.ins C dx [])) c = some o → H1 c = some o) : Same H H1 := fun b o e =>
  k b o (ne_of_none e nx) (by rw [upd_ne (ne_of_none e nx), upd_ne (ne_of_none e nd)]; exact e)
theorem tz_of {a b e : Int} (a0 : 0 < a) (b0 : 0 < b) (e0 : 0 ≤ e) (h : e ≤ a * b) (za : a ≤ 10 ^ 60 + 1) (zb : b ≤ 10 ^ 60 + 1) (ze : e ≤ 10 ^ 63) : Tz a b e (e / a) (e % a) :=
  ⟨⟨a0, b0, e0, h, rfl, rfl⟩, Int.lt_of_le_of_lt za (by decide +kernel), Int.lt_of_le_of_lt zb (by decide +kernel), Int.lt_of_le_of_lt ze (by decide +kernel)⟩
theorem pot_ne {H : Hp} {q l : Addr} (h : PotAt H q) (hl : H l = none) : l ≠ q := fun z => by
  obtain ⟨_, _, e, _⟩ := h
  rw [← z, hl] at e
  cases e
theorem pot_ne_ins {H : Hp} {q p C dx : Addr} {fs : List (Str × V)} (h : PotAt H q) (hp : H p = some (.ins C dx fs)) : p ≠ q := fun z => by
  obtain ⟨_, _, e, _⟩ := h
  rw [← z, hp] at e
  cases e
section
variable {P : Program} {w : World} {K : PySem.W.Frag} {mg : Str → Option Value} {base : Heap} {d : AD}
def nmTar : List Str := ["_law_pot", "_law_a", "_law_b", "_law_e", "_law_board", "_law_turn", "_law_n", "_law_i", "_law_j"]
theorem scTar : FnScope nmTar ["_law_pot"] (defScope (top 29)) := ⟨rfl, rfl, rfl, by decide +kernel, rfl, by decide +kernel, by decide +kernel⟩
theorem ok_tar (T : Facts K mg d) : Ok P w K mg base 10 d.tar ["_law_pot"] spTar := by
  obtain ⟨fd, F⟩ := T.tar.df
  obtain ⟨_, GS, bS, kS⟩ := ok_szi (P := P) (w := w) (base := base) T
  obtain ⟨_, GO, bO, kO⟩ := ok_tot (P := P) (w := w) (base := base) T
  obtain ⟨_, GI, bI, kI⟩ := ok_ini (P := P) (w := w) (base := base) T
  obtain ⟨_, G1, b1, k1⟩ := ok_gNe (P := P) (w := w) (base := base) T
  obtain ⟨_, G2, b2, k2⟩ := ok_gFa (P := P) (w := w) (base := base) T
  obtain ⟨_, G3, b3, k3⟩ := ok_gTo (P := P) (w := w) (base := base) T
  obtain ⟨_, GE, bE, kE⟩ := ok_eqq (P := P) (w := w) (base := base) T
  obtain ⟨_, GD, bD, kD⟩ := ok_drw (P := P) (w := w) (base := base) T
  obtain ⟨_, GP, bP, kP⟩ := ok_pic (P := P) (w := w) (base := base) T
  obtain ⟨_, GN, bN, kN⟩ := ok_nur (P := P) (w := w) (base := base) T
  obtain ⟨_, GR, bR, kR⟩ := ok_ror (P := P) (w := w) (base := base) T
  obtain ⟨_, GC, bC, kC⟩ := ok_con (P := P) (w := w) (base := base) T
  refine ⟨fd, F.ok scTar (fun vs H Q E h => ?_) (fun cdv A outer s H vs Q E hr h => ?_), F.binds fun _ _ _ _ _ _ us hl => match us, hl with | [_], _ => rfl, F.kp⟩
  · obtain ⟨q, rfl, _⟩ := h
    rfl
  · obtain ⟨q, rfl, hq, k⟩ := h
    have hr1 : Room 1 _ := hr.mono (by decide)
    have hr2 : Room 2 _ := hr.mono (by decide)
    have hr3 : Room 3 _ := hr.mono (by decide)
    have hr4 : Room 4 _ := hr.mono (by decide)
    have hr5 : Room (4 + 1) _ := hr.mono (by decide)
    have hr6 : Room 6 _ := hr.mono (by decide)
    refine ⟨_, pss_cons (ps_asg (pe_call GS hr2 (by rfl) T.szi.mg kS bS .nil pass0 (pa_cons (pv 0) pa_nil)) (pg_tup rfl (pgs_cons (pg_name (i := 1) scTar.nd rfl (.inl rfl)) (pgs_cons (pg_name (i := 2) scTar.nd rfl (.inl rfl)) pgs_nil))))
      (pss_cons (ps_set (i := 3) scTar.nd rfl (Or.inl rfl) (pe_call GO hr3 (by rfl) T.tot.mg kO bO .nil pass0 (pa_cons (pv 0) (pa_cons (pv 1) (pa_cons (pv 2) pa_nil)))))
      (pss_cons (ps_set (i := 4) scTar.nd rfl (Or.inl rfl) (pe_make T.mkT GI hr5 (by rfl) T.mgT bI .nil pass0 (pa_cons (pv 1) (pa_cons (pv 2) (pa_cons (pv 3) pa_nil)))))
      (pss_cons (ps_if (PW.pt (pw_or (pt_cmpR (op_neD hr.units) (pe_lst (pa_cons (pe_prop (pv 4) T.cl T.pNe.pr G1 hr2 b1 .nil pass0 rfl) (pa_cons (pe_prop (pv 4) T.cl T.pFa.pr G2 hr2 b2 .nil pass0 rfl) (pa_cons (pe_prop (pv 4) T.cl T.pTo.pr G3 hr2 b3 .nil pass0 rfl) pa_nil)))) (pe_lst (pa_cons (pv 1) (pa_cons (pv 2) (pa_cons (pv 3) pa_nil)))) (nomark _))
          (pw_or1 (pt_not (pt_cmpR (op_eqO GE T.eqq.me.at_ T.eqq.me.fn hr1 bE pass0) (pv 4) (pe_make T.mkT GI hr5 (by rfl) T.mgT bI .nil pass0 (pa_cons (pv 1) (pa_cons (pv 2) (pa_cons (pv 3) pa_nil)))) (nomark _)))))) (pss_one (ps_ret pe_bl)) pss_nil)
      (pss_cons (ps_if (PW.pt (pw_or (pt_cmpR (op_eqO GE T.eqq.me.at_ T.eqq.me.fn hr1 bE pass0) (pv 4) (pe_make T.mkT GI hr5 (by rfl) T.mgT bI .nil pass0 (pa_cons (pv 1) (pa_cons (pe_op op_add (pv 2) pe_int) (pa_cons (pv 3) pa_nil)))) (nomark _))
          (pw_or1 (pt_cmpR (op_eqO GE T.eqq.me.at_ T.eqq.me.fn hr1 bE pass0) (pv 4) (pe_make T.mkT GI hr5 (by rfl) T.mgT bI .nil pass0 (pa_cons (pe_op op_add (pv 1) pe_int) (pa_cons (pv 2) (pa_cons (pv 3) pa_nil)))) (nomark _))))) (pss_one (ps_ret pe_bl)) pss_nil)
      (pss_cons (ps_for PassesOwn.never rfl (pi_range1 (by rfl) T.bRange (pa_cons pe_int pa_nil)) (pg_name (i := 5) scTar.nd rfl (Or.inl rfl))
        (pss_cons (ps_set (i := 6) scTar.nd rfl (Or.inl rfl) (pe_join (pe_ix ix_list (pe_lst (pa_cons pe_int (pa_cons (pe_callB (call_max2 rfl) (by rfl) T.bMax (by decide +kernel) (pa_cons pe_int (pa_cons (pe_op op_sub (pv 3) pe_int) pa_nil)))
            (pa_cons (pe_call GD hr1 (by rfl) T.drw.mg kD bD .nil pass0 (pa_cons (pv 0) (pa_cons (pe_callB (call_max2 rfl) (by rfl) T.bMax (by decide +kernel) (pa_cons pe_int (pa_cons (pv 3) pa_nil))) pa_nil)))
            (pa_cons (pe_call GD hr1 (by rfl) T.drw.mg kD bD .nil pass0 (pa_cons (pv 0) (pa_cons (pe_callB (call_max2 rfl) (by rfl) T.bMax (by decide +kernel) (pa_cons pe_int (pa_cons (pv 3) pa_nil))) pa_nil))) pa_nil))))) (pv 5) (fun _ _ => rfl))))
        (pss_cons (ps_join (ps_if (PW.pt (pw_and (pt_cmpR op_gt (pv 3) pe_int (nomark _)) (pw_and1 (pt_not (pt_val (pe_call GN hr6 (by rfl) T.nur.mg kN bN .nil pass0 (pa_cons (pv 4) (pa_cons (pv 1) (pa_cons (pv 2) (pa_cons (pv 3) (pa_cons (pv 6) pa_nil)))))))))))
            (pss_one (ps_ret pe_bl)) pss_nil))
        (pss_cons (ps_par (i := 7) (j := 8) rfl scTar.nd rfl rfl (by decide) rfl rfl (pa_cons (pe_call GP hr2 (by rfl) T.pic.mg kP bP .nil pass0 (pa_cons (pv 0) (pa_cons (pe_lst (pa_cons pe_int (pa_cons (pe_op op_sub (pv 1) pe_int) (pa_cons (pe_call GD hr1 (by rfl) T.drw.mg kD bD .nil pass0 (pa_cons (pv 0) (pa_cons (pv 1) pa_nil))) pa_nil)))) pa_nil)))
            (pa_cons (pe_call GP hr2 (by rfl) T.pic.mg kP bP .nil pass0 (pa_cons (pv 0) (pa_cons (pe_lst (pa_cons pe_int (pa_cons (pe_op op_sub (pv 2) pe_int) (pa_cons (pe_call GD hr1 (by rfl) T.drw.mg kD bD .nil pass0 (pa_cons (pv 0) (pa_cons (pv 2) pa_nil))) pa_nil)))) pa_nil))) pa_nil)) (by rfl))
        (pss_one (ps_if (pt_not (pt_val (pe_call GR hr (by rfl) T.ror.mg kR bR .nil pass0 (pa_cons (pv 4) (pa_cons (pv 1) (pa_cons (pv 2) (pa_cons (pv 3) (pa_cons (pv 7) (pa_cons (pv 8) pa_nil))))))))) (pss_one (ps_ret pe_bl)) pss_nil))))))
      (pss_one (ps_ret (pe_and (pe_cmpR (op_notinO GC T.con.me.at_ T.con.me.fn hr4 bC pass0) (pe_tup (pa_cons (pv 1) (pa_cons pe_int pa_nil))) (pv 4) (by rfl))
        (pe_and (pe_cmpR (op_notinO GC T.con.me.at_ T.con.me.fn hr4 bC pass0) (pe_tup (pa_cons pe_int (pa_cons (pv 2) pa_nil))) (pv 4) (by rfl))
        (pe_one (pe_cmpR (op_notinO GC T.con.me.at_ T.con.me.fn hr4 bC pass0) (pe_tup (pa_cons (pe_op op_sub (pv 1) pe_int) (pa_cons (pv 2) pa_nil))) (pv 4) (by rfl)))))))))))), ?_⟩
    -- sizes, total
    refine ⟨_, rfl, q, rfl, hq, fun t a b H1 a0 b0 za zb zab p1 c1 ht => ?_⟩
    refine ⟨t, _, rfl, SqT.of ht, rfl, _, _, rfl, _, _, rfl, rfl, ?_⟩
    have a210 : a < 2 ^ 210 := Int.lt_of_le_of_lt za (by decide +kernel)
    have b210 : b < 2 ^ 210 := Int.lt_of_le_of_lt zb (by decide +kernel)
    refine ⟨_, rfl, _, rfl, _, rfl, q, a, b, rfl, p1, a0, b0, a210, b210, Int.lt_of_le_of_lt zab (by decide +kernel), fun e H2 e0 e1 p2 c2 => ?_⟩
    have z := tz_of a0 b0 e0 e1 (Int.le_trans za (by decide +kernel)) (Int.le_trans zb (by decide +kernel)) (Int.le_trans e1 zab)
    have eb : e ≤ a * (b + 1) := by rw [Int.mul_add, Int.mul_one]; omega
    have ea : e ≤ (a + 1) * b := by rw [Int.add_mul, Int.one_mul]; omega
    have zB := tz_of (b := b + 1) a0 (by omega) e0 eb (Int.le_trans za (by decide +kernel)) (by omega) (Int.le_trans e1 zab)
    have zA := tz_of (a := a + 1) (by omega) b0 e0 ea (by omega) (Int.le_trans zb (by decide +kernel)) (Int.le_trans e1 zab)
    -- the table
    refine ⟨_, rfl, _, rfl, _, rfl, fun x dx nx nd ne => ⟨x, dx, a, b, e, e / a, e % a, rfl, upd_same, z, fun H3 h3 k3 => ⟨rfl, ?_⟩⟩⟩
    have u3 := Same.madeT nx nd k3
    have hB : Bd d.tb H3 x a b e (e / a) (e % a) := ⟨dx, h3⟩
    have p3 := p2.same u3
    have c3 := (c1.trans c2).same u3
    clear k3
    refine ⟨_, rfl, x, dx, _, rfl, h3, x, a, b, e, _, _, rfl, hB, _, rfl, x, dx, _, rfl, h3, x, a, b, e, _, _, rfl, hB, _, rfl, x, dx, _, rfl, h3, x, a, b, e, _, _, rfl, hB, (by show 3 ≤ sizeLine; decide), fun l hl => ?_⟩
    refine ⟨_, rfl, _, rfl, _, rfl, (by show 3 ≤ sizeLine; decide), fun l2 hl2 => ?_⟩
    have nl : l ≠ l2 := fun y => by
      rw [← y, upd_same] at hl2
      cases hl2
    refine ⟨.list [.int a, .int b, .int e], .list [.int a, .int b, .int e], .lst (SqL.of (by rw [upd_ne nl, upd_same])) (.cons (.int _) (.cons (.int _) (.cons (.int _) .nil))), .lst (SqL.of upd_same) (.cons (.int _) (.cons (.int _) (.cons (.int _) .nil))), by rfl, by rfl, _, rfl, ?_⟩
    rw [eqv3l]
    refine iteF ?_
    have u4 := (Same.upd (o := .lst [.int a, .int b, .int e]) hl).trans (Same.upd (o := .lst [.int a, .int b, .int e]) hl2)
    generalize upd (upd H3 l (.lst [.int a, .int b, .int e])) l2 (.lst [.int a, .int b, .int e]) = H4 at *
    refine ⟨_, rfl, _, rfl, _, rfl, _, rfl, fun y dy ny ndy ney => ⟨y, dy, a, b, e, e / a, e % a, rfl, upd_same, z, fun H5 h5 k5 => ⟨rfl, ?_⟩⟩⟩
    have u5 := u4.trans (Same.madeT ny ndy k5)
    refine ⟨x, y, dx, dy, _, _, rfl, rfl, u5 _ _ h3, h5, x, y, a, b, e, _, _, a, b, e, _, _, rfl, hB.same u5, ⟨dy, h5⟩, fun H6 u6 => ⟨_, rfl, _, rfl, ?_⟩⟩
    rw [decide_eq_true ⟨rfl, rfl, rfl⟩]
    refine iteF ?_
    have u7 := u5.trans u6
    clear h5 k5
    -- other tables
    refine ⟨_, rfl, _, rfl, _, rfl, _, _, rfl, rfl, _, rfl, fun y dy ny ndy ney => ⟨y, dy, a, b + 1, e, e / a, e % a, rfl, upd_same, zB, fun H8 h8 k8 => ⟨rfl, ?_⟩⟩⟩
    have u8 := u7.trans (Same.madeT ny ndy k8)
    refine ⟨x, y, dx, dy, _, _, rfl, rfl, u8 _ _ h3, h8, x, y, a, b, e, _, _, a, b + 1, e, _, _, rfl, hB.same u8, ⟨dy, h8⟩, fun H9 u9 => ⟨_, rfl, _, rfl, ?_⟩⟩
    rw [decide_eq_false (by omega)]
    refine iteF ?_
    have u10 := u8.trans u9
    clear h8 k8
    refine ⟨_, rfl, _, rfl, _, _, rfl, rfl, _, rfl, _, rfl, fun y dy ny ndy ney => ⟨y, dy, a + 1, b, e, e / (a + 1), e % (a + 1), rfl, upd_same, zA, fun H11 h11 k11 => ⟨rfl, ?_⟩⟩⟩
    have u11 := u10.trans (Same.madeT ny ndy k11)
    refine ⟨x, y, dx, dy, _, _, rfl, rfl, u11 _ _ h3, h11, x, y, a, b, e, _, _, a + 1, b, e, _, _, rfl, hB.same u11, ⟨dy, h11⟩, fun H12 u12 => ⟨_, rfl, _, rfl, ?_⟩⟩
    rw [decide_eq_false (by omega)]
    refine iteF ?_
    have u13 := u11.trans u12
    clear h11 k11
    have nxq : x ≠ q := pot_ne_ins p3 h3
    have big0 : (2 : Int) ^ 210 < 2 ^ 500 := by decide +kernel
    have e210 : e < 2 ^ 210 := z.ze
    -- four turns
    refine ⟨4, rfl, by decide, by decide, for_range (lo := 0) (n := 4) (fun i σ H' => ∃ (vt vn vi vj : Option V), σ = [some (.ref q), some (.int a), some (.int b), some (.int e), some (.ref x), vt, vn, vi, vj] ∧ PotAt H' q ∧ But q H3 H') ⟨none, none, none, none, rfl, p3.same u13, Same.but u13⟩ ?_ ?_⟩
    · rintro i σ H' hi ⟨vt, vn, vi, vj, rfl, pp, cc⟩
      refine ⟨fun v H'' => ∃ n, v = .int n ∧ 0 ≤ n ∧ (0 < e → n < e) ∧ PotAt H'' q ∧ But q H3 H'', ⟨_, rfl, _, _, rfl, rfl, _, _, rfl, _, rfl, _, rfl, _, _, rfl, q, _, rfl, pp, ?_, ?_, fun r Ha r0 r1 pa ca => ⟨_, rfl, _, rfl, _, _, rfl, q, _, rfl, pa, ?_, ?_, fun r' Hb r0' r1' pb cb => ⟨(by show 4 ≤ sizeLine; decide), fun l hl => ?_⟩⟩⟩, ?_⟩
      · split <;> omega
      · split <;> omega
      · split <;> omega
      · split <;> omega
      · obtain ⟨v, hv, ev⟩ := atI_mem (xs := [0, if e - 1 > 0 then e - 1 else 0, r, r']) (z := (0 : Int) + (i : Int)) (by omega) (by show (0 : Int) + (i : Int) < 4; omega)
        refine ⟨_, rfl, l, _, _, _, rfl, rfl, SqL.of upd_same, ev, v, rfl, ?_, ?_, pb.same (Same.upd hl), ((cc.trans ca).trans cb).same (Same.upd hl)⟩
        · simp only [List.mem_cons, List.not_mem_nil, or_false] at hv
          rcases hv with rfl | rfl | rfl | rfl
          · exact Int.le_refl _
          · split <;> omega
          · exact r0
          · exact r0'
        · intro he
          simp only [List.mem_cons, List.not_mem_nil, or_false] at hv
          rcases hv with rfl | rfl | rfl | rfl
          · exact he
          · split <;> omega
          · revert r1
            split <;> omega
          · revert r1'
            split <;> omega
      rintro v H'' ⟨n, rfl, n0, n1, pn, cn⟩
      have hxn := cn _ _ nxq h3
      refine ⟨fun σ' H' => PotAt H' q ∧ But q H3 H' ∧ σ' = [some (.ref q), some (.int a), some (.int b), some (.int e), some (.ref x), some (.int (0 + (i : Int))), some (.int n), vi, vj], ⟨_, rfl, _, _, rfl, rfl, _, rfl, ?_⟩, ?_⟩
      · by_cases he : 0 < e
        · rw [decide_eq_true he]
          exact iteT ⟨_, rfl, _, rfl, _, rfl, _, rfl, _, rfl, x, a, b, e, _, _, n, rfl, ⟨dx, hxn⟩, z, n0, n1 he, fun Hc uc => ⟨true, rfl, iteF ⟨pn.same uc, cn.same uc, rfl⟩⟩⟩
        · rw [decide_eq_false he]
          exact iteF (iteF ⟨pn, cn, rfl⟩)
      rintro σ' Hd ⟨pd, cd, rfl⟩
      -- two rows
      refine ⟨_, rfl, _, rfl, _, _, rfl, rfl, _, rfl, _, rfl, q, _, rfl, pd, a0, Int.lt_trans a210 big0, fun r He r0 r1 pe ce => ⟨(by show 3 ≤ sizeLine; decide), fun l hl => ⟨q, l, [0, a - 1, r], rfl, pe.same (Same.upd hl), upd_same, pot_ne pe hl, (by show 0 < 3; decide), (by show 3 ≤ 1000; decide), fun vi' Hf hvi pf cf => ?_⟩⟩⟩
      have cf' : But q H3 Hf := ((cd.trans ce).same (Same.upd hl)).trans cf
      have i0 : 0 ≤ vi' ∧ vi' < a := by
        simp only [List.mem_cons, List.not_mem_nil, or_false] at hvi
        rcases hvi with rfl | rfl | rfl
        · exact ⟨Int.le_refl _, a0⟩
        · exact ⟨by omega, by omega⟩
        · exact ⟨r0, r1⟩
      refine ⟨_, rfl, _, rfl, _, _, rfl, rfl, _, rfl, _, rfl, q, _, rfl, pf, b0, Int.lt_trans b210 big0, fun r' Hg r0' r1' pg cg => ⟨(by show 3 ≤ sizeLine; decide), fun l' hl' => ⟨q, l', [0, b - 1, r'], rfl, pg.same (Same.upd hl'), upd_same, pot_ne pg hl', (by show 0 < 3; decide), (by show 3 ≤ 1000; decide), fun vj' Hh hvj ph ch => ?_⟩⟩⟩
      have ch' : But q H3 Hh := ((cf'.trans cg).same (Same.upd hl')).trans ch
      have j0 : 0 ≤ vj' ∧ vj' < b := by
        simp only [List.mem_cons, List.not_mem_nil, or_false] at hvj
        rcases hvj with rfl | rfl | rfl
        · exact ⟨Int.le_refl _, b0⟩
        · exact ⟨by omega, by omega⟩
        · exact ⟨r0', r1'⟩
      have hxh := ch' _ _ nxq h3
      refine ⟨_, _, rfl, ?_⟩
      exact ⟨_, rfl, _, rfl, _, rfl, _, rfl, _, rfl, _, rfl, x, a, b, e, _, _, vi', vj', rfl, ⟨dx, hxh⟩, z, i0.1, i0.2, j0.1, j0.2, fun Hi ui => ⟨true, rfl, iteF ⟨_, _, _, _, rfl, ph.same ui, ch'.same ui⟩⟩⟩
    · rintro σ H' ⟨vt, vn, vi, vj, rfl, pp, cc⟩
      have hx := cc _ _ nxq h3
      refine ⟨_, rfl, (by show 2 ≤ sizeLine; decide), fun t ht => ?_⟩
      have v1 := Same.upd (o := .tup [.int a, .int 0]) ht
      refine ⟨_, rfl, x, dx, _, rfl, v1 _ _ hx, x, t, a, b, e, _, _, a, 0, rfl, ⟨dx, v1 _ _ hx⟩, z, upd_same, _, rfl, _, rfl, ?_⟩
      rw [decide_eq_false (by omega)]
      refine iteT ?_
      generalize upd H' t (.tup [.int a, .int 0]) = Ha at *
      refine ⟨_, rfl, (by show 2 ≤ sizeLine; decide), fun t2 ht2 => ?_⟩
      have v2 := v1.trans (Same.upd (o := .tup [.int 0, .int b]) ht2)
      refine ⟨_, rfl, x, dx, _, rfl, v2 _ _ hx, x, t2, a, b, e, _, _, 0, b, rfl, ⟨dx, v2 _ _ hx⟩, z, upd_same, _, rfl, _, rfl, ?_⟩
      rw [decide_eq_false (by omega)]
      refine iteT ?_
      generalize upd Ha t2 (.tup [.int 0, .int b]) = Hb at *
      refine ⟨_, rfl, _, _, rfl, rfl, _, rfl, (by show 2 ≤ sizeLine; decide), fun t3 ht3 => ?_⟩
      have v3 := v2.trans (Same.upd (o := .tup [.int (a - 1), .int b]) ht3)
      refine ⟨_, rfl, x, dx, _, rfl, v3 _ _ hx, x, t3, a, b, e, _, _, a - 1, b, rfl, ⟨dx, v3 _ _ hx⟩, z, upd_same, _, rfl, ?_⟩
      rw [decide_eq_false (by omega)]
      exact k _ (pp.same v3) ((c3.trans cc).same v3)
end
end K32

namespace K32
open PySem L2 K32G K32O
def spLaw (K : PySem.W.Frag) : Sp := fun vs H Q _ => ∃ (a : Addr) (ns : List Int), vs = [.ref a] ∧ SqL K H a (ns.map V.int) ∧ ns.length ≤ 63 ∧ ∀ H', Q (.bl true) H'
theorem seq_step {K : PySem.W.Frag} {H H1 H2 : Hp} {a q : Addr} {xs : List V} (hS : SqL K H a xs) (hq : H q = none) (s : Same H H1) (c : But q H1 H2) : SqL K H2 a xs := by
  rcases hS with (h | ⟨o, h⟩) | h
  · exact .inl (.inl (c _ _ (ne_of_none h hq) (s _ _ h)))
  · exact .inl (.inr ⟨o, c _ _ (ne_of_none h hq) (s _ _ h)⟩)
  · exact .inr h
section
variable {P : Program} {w : World} {K : PySem.W.Frag} {mg : Str → Option Value} {base : Heap} {d : AD}
def nmLaw : List Str := ["_law_script", "_law_k", "_law_pot", "_law_turn"]
theorem scLaw : FnScope nmLaw ["_law_script"] (defScope (top 30)) := ⟨rfl, rfl, rfl, by decide +kernel, rfl, by decide +kernel, by decide +kernel⟩
theorem ok_law {fd : FuncData} (T : Facts K mg d) (F : Fun K "law" "law" (top 30) d.law fd) : FnOk P w K mg base CX0 11 d.law fd ["_law_script"] (spLaw K) := by
  obtain ⟨_, GP, bP, kP⟩ := ok_pot (P := P) (w := w) (base := base) T
  obtain ⟨_, GT, bT, kT⟩ := ok_tar (P := P) (w := w) (base := base) T
  refine F.ok scLaw (fun vs H Q E h => ?_) (fun cdv A outer s H vs Q E hr h => ?_)
  · obtain ⟨a, ns, rfl, _⟩ := h
    rfl
  · obtain ⟨a, ns, rfl, hS, hlen, k⟩ := h
    have hr1 : Room 1 _ := hr.mono (by decide)
    refine ⟨_, pss_cons (ps_for PassesOwn.never rfl (pi_range1 (by rfl) T.bRange (pa_cons (pe_callB (call_max2 rfl) (by rfl) T.bMax (by decide +kernel) (pa_cons pe_int (pa_cons (pe_callB (call_min2 rfl) (by rfl) T.bMin (by decide +kernel) (pa_cons (pe_callB call_len_seq (by rfl) T.bLen PySem.boot_len (pa_cons (pv 0) pa_nil)) (pa_cons pe_int pa_nil))) pa_nil))) pa_nil)) (pg_name (i := 1) scLaw.nd rfl (Or.inl rfl))
        (pss_cons (ps_set (i := 2) scLaw.nd rfl (Or.inr rfl) (pe_call GP hr1 (by rfl) T.pot.mg kP bP .nil pass0 (pa_cons (pv 0) (pa_cons (pv 1) pa_nil))))
        (pss_one (ps_if (pt_not (pt_val (pe_callB (cr_all rfl) (by rfl) T.bAll (by decide +kernel) (pa_cons
          (pe_lc (own := [("_law_turn", 3)]) (g := gName 3) (tt := tYes) rfl scLaw.nd (pi_range1 (by rfl) T.bRange (pa_cons pe_int pa_nil)) (blkOk_by (own := [("_law_turn", 3)]) (N := nmLaw) (sc := defScope (top 30)) (by decide +kernel)) (fun _ _ _ _ _ => pg_name (i := 3) scLaw.nd rfl (Or.inl rfl)) (fun _ _ _ _ _ => pts_nil)
            (fun _ _ _ _ _ => pe_call GT hr (by rfl) T.tar.mg kT bT .nil pass0 (pa_cons (pv 2) pa_nil))) pa_nil)))) (pss_one (ps_ret pe_bl)) pss_nil))))
      (pss_one (ps_ret pe_bl)), ?_⟩
    refine ⟨_, rfl, a, _, rfl, .inl hS, _, _, rfl, _, _, rfl, ?_⟩
    have m1 : ∀ n : Int, (if (if (3 : Int) < n then 3 else n) > 1 then (if (3 : Int) < n then 3 else n) else 1) ≤ 3 := fun n => by split <;> split <;> omega
    have m0 : ∀ n : Int, 0 ≤ (if (if (3 : Int) < n then 3 else n) > 1 then (if (3 : Int) < n then 3 else n) else 1) := fun n => by split <;> omega
    have l1 := m1 (((ns.map V.int).length : Nat) : Int)
    have l0 := m0 (((ns.map V.int).length : Nat) : Int)
    generalize (if (if (3 : Int) < (((ns.map V.int).length : Nat) : Int) then 3 else (((ns.map V.int).length : Nat) : Int)) > 1 then (if (3 : Int) < (((ns.map V.int).length : Nat) : Int) then 3 else (((ns.map V.int).length : Nat) : Int)) else 1) = m at *
    have p62 : (3 : Int) < 2 ^ 62 := by decide
    refine ⟨m, rfl, by omega, by omega, for_range (lo := 0) (n := m.toNat) (fun i σ H' => ∃ (vk vp : Option V), σ = [some (.ref a), vk, vp, none] ∧ SqL K H' a (ns.map V.int)) ⟨none, none, rfl, hS⟩ ?_ ?_⟩
    · rintro i σ H' hi ⟨vk, vp, rfl, hS'⟩
      refine ⟨_, rfl, _, rfl, a, ns, i, by rw [Int.zero_add]; rfl, hS', by omega, fun q H1 hq p1 s1 => ?_⟩
      refine ⟨3, rfl, by decide, by decide, fun L hL => ?_⟩
      have nLq := pot_ne p1 hL
      refine lc_range (lo := 0) (n := 3) (fun j H'' => H'' L = some (.lst ((List.replicate j true).map V.bl)) ∧ PotAt H'' q ∧ But q H1 H'') ⟨upd_same, p1.same (Same.upd hL), Same.but (Same.upd hL)⟩ (fun j H'' hj ⟨h1, h2, h3⟩ => ?_) (fun H'' ⟨h1, h2, h3⟩ => ?_)
      · refine ⟨rfl, ?_⟩
        unfold tYes
        refine iteT ?_
        refine ⟨_, rfl, q, rfl, h2, fun H3 p3 c3 => ⟨_, c3 _ _ nLq h1, ?_, ?_, ?_, ?_⟩⟩
        · rw [List.length_map, List.length_replicate]
          exact small1000 (by omega)
        · rw [upd_same, List.replicate_succ', List.map_append]
          rfl
        · obtain ⟨x, y, e, r⟩ := p3
          exact ⟨x, y, by rw [upd_ne nLq.symm]; exact e, r⟩
        · intro b o hb hh
          rw [upd_ne (ne_of_none hh hL)]
          exact c3 _ _ hb (h3 _ _ hb hh)
      · refine ⟨L, List.replicate 3 true, rfl, SqL.of h1, true, rfl, iteF ?_⟩
        exact ⟨_, _, rfl, seq_step hS' hq s1 h3⟩
    · rintro σ H' ⟨vk, vp, rfl, hS'⟩
      exact k H'
end
end K32

namespace K32
open PySem L2
theorem all_ok {l : PySem.W.OpenLaw} {w : World} {K : PySem.W.Frag} {h : Heap} {mg : Str → Option Value} {fa : Addr} {d : AD} (hfa : mg "law" = some (.ref fa)) (T : Facts K mg d) :
    ∃ fd : FuncData, (∀ (s : Shared) (v : Value), BindsTo s fd ⟨[v], []⟩ [("_law_script", v)]) ∧ ∀ base : Heap, K.In base → base.Ns mainGlobals mg → FnOk l.prog w K mg base CX0 11 fa fd ["_law_script"] (spLaw K) := by
  obtain ⟨fd, F⟩ := T.law.df
  have e := hfa.symm.trans T.law.mg
  cases e
  have b := F.binds (ps := ["_law_script"]) fun _ _ _ _ _ _ us hl => match us, hl with | [_], _ => rfl
  refine ⟨fd, fun s v => ?_, fun base _ _ => ok_law T F⟩
  obtain ⟨oc, od, kV, doc, pm, an, cdv, ct, osl, rfl, lk, hcd⟩ := F.ex
  exact .of_eq rfl
theorem walk {l : PySem.W.OpenLaw} {q : Program} {loose : List Str} {XP : (Str → Option Value) → Heap → Prop} {YP : World → Heap → Prop} {d : DefRec} {K : Params → PySem.W.Frag} (hn : l.most = some 63) (hdf : d.params.defaults = []) (hdn : d.name = "law")
    (hY : ∀ (w : World) (h : Heap), YP w h → (K w.params).In h)
    (F : ∀ (w : World) (mg : Str → Option Value) (h : Heap), (K w.params).In h → h.Ns mainGlobals mg → ∃ ad, Facts (K w.params) mg ad) :
    PySem.W.WalkO q loose XP YP l.row.toRowW d [] (fun f vs => PySem.call f vs) :=
  L2.walk_of (n := 63) (k := 11) (x := "_law_script") (CX := fun _ => CX0) (sp := fun w => spLaw (K w.params)) hn (by decide) hdf ⟨rfl, by decide, by decide⟩ hY (fun w mg fa h KX G hmg => by
    obtain ⟨ad, T⟩ := F w mg h KX G
    rw [hdn] at hmg
    exact all_ok (h := h) hmg T) (fun _ _ a ns hl _ hS => ⟨a, ns, rfl, hS, hl, fun _ => rfl⟩) fun _ _ _ _ _ z => z
end K32
open PySem PySem.W PyProof.Rows
set_option maxRecDepth 100000 in
set_option maxHeartbeats 0 in
theorem PySem.Challenge.cw_howmanyeach_k32_whole_tables_far_away_holds : PySem.Challenge.rw_howmanyeach_k32_whole_tables_far_away.Holds := by
  w_on; o_law; k_head; (case hw => w_witness2)
  k_fill
  refine K32.walk (l := PySem.Challenge.rw_howmanyeach_k32_whole_tables_far_away) rfl rfl rfl (fun w h Y => PySem.W.kIn_of Y) ?F
  intro w mg h KX G
  refine' K32.facts_mk KX G ?aC ?aisI ?lisI ?cisI ?kisI ?aisC ?lisC ?cisC ?kisC ?aisE ?lisE ?cisE ?kisE ?awC ?lwC ?cwC ?kwC ?aisU ?lisU ?cisU ?kisU ?apot ?lpot ?cpot ?kpot ?adrw ?ldrw ?cdrw ?kdrw ?apic ?lpic ?cpic ?kpic ?aahe ?lahe ?cahe ?kahe ?afou ?lfou ?cfou ?kfou ?afip ?lfip ?cfip ?kfip ?afdg ?lfdg ?cfdg ?kfdg ?anur ?lnur ?cnur ?knur ?aror ?lror ?cror ?kror ?aszi ?lszi ?cszi ?kszi ?atot ?ltot ?ctot ?ktot ?atar ?ltar ?ctar ?ktar ?alaw ?llaw ?claw ?klaw ?aini ?iini ?lini ?cini ?kini ?asiz ?isiz ?lsiz ?csiz ?ksiz ?awan ?iwan ?lwan ?cwan ?kwan ?afst ?ifst ?lfst ?cfst ?kfst ?anrw ?inrw ?lnrw ?cnrw ?knrw ?adeg ?ideg ?ldeg ?cdeg ?kdeg ?apar ?ipar ?lpar ?cpar ?kpar ?anat ?inat ?lnat ?cnat ?knat ?anof ?inof ?lnof ?cnof ?knof ?adgr ?idgr ?ldgr ?cdgr ?kdgr ?aptn ?iptn ?lptn ?cptn ?kptn ?aeac ?ieac ?leac ?ceac ?keac ?acal ?ical ?lcal ?ccal ?kcal ?acon ?icon ?lcon ?ccon ?kcon ?aeqq ?ieqq ?leqq ?ceqq ?keqq ?aNe ?gNe ?tNe ?qNe ?lgNe ?cgNe ?kgNe ?aFa ?gFa ?tFa ?qFa ?lgFa ?cgFa ?kgFa ?aTo ?gTo ?tTo ?qTo ?lgTo ?cgTo ?kgTo ?nNe ?nFa ?nTo ?nMa ?nMo ?bIsi ?bInt ?bBool ?bStr ?bTup ?bLen ?bMin ?bMax ?bAbs ?bDiv ?bList ?bRange ?bAll ?aNear ?aFar ?pg ?hd ?po ?sa ?mk ?kc ?ha ?hn ?htk ?hm ?fi
  (case aC => k_is)
  (case aisI => k_is)
  (case lisI => k_is)
  (case cisI => k_is)
  (case kisI => k_is)
  (case aisC => k_is)
  (case lisC => k_is)
  (case cisC => k_is)
  (case kisC => k_is)
  (case aisE => k_is)
  (case lisE => k_is)
  (case cisE => k_is)
  (case kisE => k_is)
  (case awC => k_is)
  (case lwC => k_is)
  (case cwC => k_is)
  (case kwC => k_is)
  (case aisU => k_is)
  (case lisU => k_is)
  (case cisU => k_is)
  (case kisU => k_is)
  (case apot => k_is)
  (case lpot => k_is)
  (case cpot => k_is)
  (case kpot => k_is)
  (case adrw => k_is)
  (case ldrw => k_is)
  (case cdrw => k_is)
  (case kdrw => k_is)
  (case apic => k_is)
  (case lpic => k_is)
  (case cpic => k_is)
  (case kpic => k_is)
  (case aahe => k_is)
  (case lahe => k_is)
  (case cahe => k_is)
  (case kahe => k_is)
  (case afou => k_is)
  (case lfou => k_is)
  (case cfou => k_is)
  (case kfou => k_is)
  (case afip => k_is)
  (case lfip => k_is)
  (case cfip => k_is)
  (case kfip => k_is)
  (case afdg => k_is)
  (case lfdg => k_is)
  (case cfdg => k_is)
  (case kfdg => k_is)
  (case anur => k_is)
  (case lnur => k_is)
  (case cnur => k_is)
  (case knur => k_is)
  (case aror => k_is)
  (case lror => k_is)
  (case cror => k_is)
  (case kror => k_is)
  (case aszi => k_is)
  (case lszi => k_is)
  (case cszi => k_is)
  (case kszi => k_is)
  (case atot => k_is)
  (case ltot => k_is)
  (case ctot => k_is)
  (case ktot => k_is)
  (case atar => k_is)
  (case ltar => k_is)
  (case ctar => k_is)
  (case ktar => k_is)
  (case alaw => k_is)
  (case llaw => k_is)
  (case claw => k_is)
  (case klaw => k_is)
  (case aini => k_is)
  (case iini => k_is)
  (case lini => k_is)
  (case cini => k_is)
  (case kini => k_is)
  (case asiz => k_is)
  (case isiz => k_is)
  (case lsiz => k_is)
  (case csiz => k_is)
  (case ksiz => k_is)
  (case awan => k_is)
  (case iwan => k_is)
  (case lwan => k_is)
  (case cwan => k_is)
  (case kwan => k_is)
  (case afst => k_is)
  (case ifst => k_is)
  (case lfst => k_is)
  (case cfst => k_is)
  (case kfst => k_is)
  (case anrw => k_is)
  (case inrw => k_is)
  (case lnrw => k_is)
  (case cnrw => k_is)
  (case knrw => k_is)
  (case adeg => k_is)
  (case ideg => k_is)
  (case ldeg => k_is)
  (case cdeg => k_is)
  (case kdeg => k_is)
  (case apar => k_is)
  (case ipar => k_is)
  (case lpar => k_is)
  (case cpar => k_is)
  (case kpar => k_is)
  (case anat => k_is)
  (case inat => k_is)
  (case lnat => k_is)
  (case cnat => k_is)
  (case knat => k_is)
  (case anof => k_is)
  (case inof => k_is)
  (case lnof => k_is)
  (case cnof => k_is)
  (case knof => k_is)
  (case adgr => k_is)
  (case idgr => k_is)
  (case ldgr => k_is)
  (case cdgr => k_is)
  (case kdgr => k_is)
  (case aptn => k_is)
  (case iptn => k_is)
  (case lptn => k_is)
  (case cptn => k_is)
  (case kptn => k_is)
  (case aeac => k_is)
  (case ieac => k_is)
  (case leac => k_is)
  (case ceac => k_is)
  (case keac => k_is)
  (case acal => k_is)
  (case ical => k_is)
  (case lcal => k_is)
  (case ccal => k_is)
  (case kcal => k_is)
  (case acon => k_is)
  (case icon => k_is)
  (case lcon => k_is)
  (case ccon => k_is)
  (case kcon => k_is)
  (case aeqq => k_is)
  (case ieqq => k_is)
  (case leqq => k_is)
  (case ceqq => k_is)
  (case keqq => k_is)
  (case aNe => k_is)
  (case gNe => k_is)
  (case tNe => k_is)
  (case qNe => k_is)
  (case lgNe => k_is)
  (case cgNe => k_is)
  (case kgNe => k_is)
  (case aFa => k_is)
  (case gFa => k_is)
  (case tFa => k_is)
  (case qFa => k_is)
  (case lgFa => k_is)
  (case cgFa => k_is)
  (case kgFa => k_is)
  (case aTo => k_is)
  (case gTo => k_is)
  (case tTo => k_is)
  (case qTo => k_is)
  (case lgTo => k_is)
  (case cgTo => k_is)
  (case kgTo => k_is)
  (case nNe => k_is)
  (case nFa => k_is)
  (case nTo => k_is)
  (case nMa => k_is)
  (case nMo => k_is)
  (case bIsi => k_is)
  (case bInt => k_is)
  (case bBool => k_is)
  (case bStr => k_is)
  (case bTup => k_is)
  (case bLen => k_is)
  (case bMin => k_is)
  (case bMax => k_is)
  (case bAbs => k_is)
  (case bDiv => k_is)
  (case bList => k_is)
  (case bRange => k_is)
  (case bAll => k_is)
  (case aNear => k_is)
  (case aFar => k_is)
  (case pg => k_is)
  (case hd => k_is)
  (case po => k_is)
  (case sa => k_is)
  (case mk => k_is)
  (case kc => k_is)
  (case ha => k_is)
  (case hn => k_is)
  (case htk => k_is)
  (case hm => k_is)
  (case fi => k_is)
