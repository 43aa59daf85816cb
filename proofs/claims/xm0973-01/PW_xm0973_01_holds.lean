import PyProof.Rows.All
import Wide.All
import OpenK.AllK
import Wide.FinOn
import Lean
import PySem.Challenge.RW_xm0973_01
open PySem PySem.W PyProof.Rows PySem.Calls PySem.Spec
set_option Elab.async false
set_option maxRecDepth 100000
set_option maxHeartbeats 8000000
namespace Mine
open_top hd for PySem.Challenge.rw_xm0973_01
/-! plain law: turning -/
def rotN (n p : Nat) (a : Int) : Int := (a * 2 ^ p) % 2 ^ n + a / 2 ^ (n - p)

theorem and_mul_lt (k p x : Nat) (h : x < 2 ^ p) : (k * 2 ^ p) &&& x = 0 := by
  apply Nat.eq_of_testBit_eq
  intro i
  rw [Nat.testBit_and, Nat.zero_testBit]
  by_cases hi : i < p
  · rw [Nat.mul_comm, Nat.testBit_two_pow_mul]
    simp [Nat.not_le.mpr hi]
  · have hx : x < 2 ^ i := Nat.lt_of_lt_of_le h (Nat.pow_le_pow_right (by decide) (Nat.le_of_not_lt hi))
    rw [Nat.testBit_lt_two_pow hx, Bool.and_false]

theorem cast_pow2 (p : Nat) : ((2 ^ p : Nat) : Int) = (2 : Int) ^ p := by simp
theorem pow2_pos (p : Nat) : (0 : Int) < 2 ^ p := Int.pow_pos (by decide)

theorem or_turn {n p : Nat} {a : Int} (hp : p ≤ n) (h0 : 0 ≤ a) (h1 : a < 2 ^ n) : PySem.Builtin.bitOr (a * 2 ^ p) (a / 2 ^ (n - p)) = a * 2 ^ p + a / 2 ^ (n - p) := by
  rw [bitOr_and]
  obtain ⟨m, rfl⟩ := Int.eq_ofNat_of_zero_le h0
  have hm : m < 2 ^ n := by rw [← cast_pow2] at h1; exact Int.ofNat_lt.mp h1
  have hq : m / 2 ^ (n - p) < 2 ^ p := by
    rw [Nat.div_lt_iff_lt_mul (Nat.two_pow_pos _), ← Nat.pow_add]
    rwa [Nat.add_sub_cancel' hp]
  have e1 : (m : Int) * 2 ^ p = ((m * 2 ^ p : Nat) : Int) := by rw [Int.natCast_mul, cast_pow2]
  have e2 : (m : Int) / 2 ^ (n - p) = ((m / 2 ^ (n - p) : Nat) : Int) := by rw [← cast_pow2]; rfl
  rw [e1, e2, bitAnd_pp (Int.natCast_nonneg _) (Int.natCast_nonneg _), Int.toNat_natCast, Int.toNat_natCast, and_mul_lt m p _ hq]
  simp

theorem turn_parts {n p : Nat} {a : Int} (hp : p ≤ n) (h0 : 0 ≤ a) (h1 : a < 2 ^ n) :
    ∃ hi lo : Int, a = hi * 2 ^ (n - p) + lo ∧ 0 ≤ hi ∧ hi < 2 ^ p ∧ 0 ≤ lo ∧ lo < 2 ^ (n - p) ∧ rotN n p a = lo * 2 ^ p + hi ∧ a / 2 ^ (n - p) = hi ∧ (2 : Int) ^ n = 2 ^ p * 2 ^ (n - p) := by
  have hq := pow2_pos (n - p)
  have hpp := pow2_pos p
  have hn : (2 : Int) ^ n = 2 ^ p * 2 ^ (n - p) := by rw [← Int.pow_add, Nat.add_sub_cancel' hp]
  refine ⟨a / 2 ^ (n - p), a % 2 ^ (n - p), ?_, Int.ediv_nonneg h0 (Int.le_of_lt hq), ?_, Int.emod_nonneg _ (Int.ne_of_gt hq), Int.emod_lt_of_pos _ hq, ?_, rfl, hn⟩
  · rw [Int.mul_comm]; exact (Int.mul_ediv_add_emod a (2 ^ (n - p))).symm
  · rw [hn] at h1; exact Int.ediv_lt_of_lt_mul hq h1
  · unfold rotN
    have e : a * 2 ^ p = a % 2 ^ (n - p) * 2 ^ p + a / 2 ^ (n - p) * 2 ^ n := by
      have := Int.mul_ediv_add_emod a (2 ^ (n - p))
      rw [hn]
      generalize (2 : Int) ^ (n - p) = u at *
      generalize (2 : Int) ^ p = v at *
      generalize a / u = q at *
      generalize a % u = r at *
      rw [← this, Int.add_mul, Int.add_comm, Int.mul_comm u q, Int.mul_assoc, Int.mul_comm u v]
    rw [e, Int.add_mul_emod_self_right, Int.emod_eq_of_lt]
    · exact Int.mul_nonneg (Int.emod_nonneg _ (Int.ne_of_gt hq)) (Int.le_of_lt hpp)
    · rw [hn, Int.mul_comm]
      exact Int.mul_lt_mul_of_pos_left (Int.emod_lt_of_pos _ hq) hpp

theorem rot_facts {n p : Nat} {a : Int} (hn1 : 1 ≤ n) (hp : p ≤ n) (h0 : 0 ≤ a) (h1 : a < 2 ^ n) :
    0 ≤ rotN n p a ∧ rotN n p a < 2 ^ n ∧ (rotN n p a == 0) = (a == 0) ∧ (rotN n p a - a * 2 ^ p) % (2 ^ n - 1) = 0 ∧ rotN n (n - p) (rotN n p a) = a := by
  obtain ⟨hi, lo, e, g0, g1, l0, l1, er, _, hN⟩ := turn_parts hp h0 h1
  have hq := pow2_pos (n - p)
  have hpp := pow2_pos p
  have k0 : 0 ≤ lo * 2 ^ p := Int.mul_nonneg l0 (Int.le_of_lt hpp)
  have k1 : lo * 2 ^ p + 2 ^ p ≤ 2 ^ p * 2 ^ (n - p) := by
    have : lo * 2 ^ p + 2 ^ p = 2 ^ p * (lo + 1) := by rw [Int.mul_add, Int.mul_comm, Int.mul_one]
    rw [this]
    exact Int.mul_le_mul_of_nonneg_left (by omega) (Int.le_of_lt hpp)
  have t0 : 0 ≤ rotN n p a := by rw [er]; omega
  have t1 : rotN n p a < 2 ^ n := by rw [er, hN]; omega
  refine ⟨t0, t1, ?_, ?_, ?_⟩
  · rw [er, e]
    have z : ∀ {x y u : Int}, 0 ≤ x → 0 ≤ y → 0 < u → (x * u + y = 0 ↔ x = 0 ∧ y = 0) := fun {x y u} hx hy hu => by
      constructor
      · intro h
        have h3 : 0 ≤ x * u := Int.mul_nonneg hx (Int.le_of_lt hu)
        have h4 : y = 0 := by omega
        have h5 : x * u = 0 := by omega
        rcases Int.mul_eq_zero.mp h5 with h6 | h6
        · exact ⟨h6, h4⟩
        · omega
      · rintro ⟨rfl, rfl⟩; simp
    rw [Bool.eq_iff_iff, beq_iff_eq, beq_iff_eq, z l0 g0 hpp, z g0 l0 hq]
    exact And.comm
  · have : rotN n p a - a * 2 ^ p = (2 ^ n - 1) * (-hi) := by
      rw [er, e, hN, Int.add_mul, Int.mul_assoc, Int.mul_comm (2 ^ (n - p)) (2 ^ p)]
      generalize (2 : Int) ^ p * 2 ^ (n - p) = u
      generalize lo * 2 ^ p = v
      rw [Int.sub_mul, Int.mul_neg, Int.mul_comm u hi]
      omega
    rw [this, Int.mul_emod_right]
  · have hp' : n - p ≤ n := Nat.sub_le _ _
    have hnn : n - (n - p) = p := Nat.sub_sub_self hp
    have d1 : rotN n p a / 2 ^ p = lo := by
      rw [er, Int.add_comm, Int.add_mul_ediv_right _ _ (Int.ne_of_gt hpp), Int.ediv_eq_zero_of_lt g0 g1, Int.zero_add]
    have d2 : rotN n p a % 2 ^ p = hi := by
      rw [er, Int.add_comm, Int.add_mul_emod_self_right, Int.emod_eq_of_lt g0 g1]
    obtain ⟨hi', lo', e', _, _, _, _, er', q', _⟩ := turn_parts hp' t0 t1
    rw [hnn] at e' q'
    rw [d1] at q'
    subst q'
    have e3 : lo' = hi := by
      have := Int.mul_ediv_add_emod (rotN n p a) (2 ^ p)
      rw [d1, d2, Int.mul_comm] at this
      omega
    rw [er', e3, e]

theorem left_value {p a : Int} (hp : 0 ≤ p) (hp2 : p ≤ 32) (h0 : 0 ≤ a) (h1 : a < 4294967296) :
    PySem.Builtin.bitAnd (PySem.Builtin.bitOr (a * 2 ^ p.toNat) (a.fdiv (2 ^ (32 - p).toNat))) 4294967295 = rotN 32 p.toNat a := by
  have e : (32 - p).toNat = 32 - p.toNat := by omega
  have hpn : p.toNat ≤ 32 := by omega
  have h32 : (2 : Int) ^ 32 = 4294967296 := by decide
  rw [e, Int.fdiv_eq_ediv_of_nonneg _ (Int.le_of_lt (pow2_pos _)), or_turn hpn h0 (by rw [h32]; exact h1), bitAnd_m32]
  obtain ⟨hi, lo, ea, g0, g1, l0, l1, er, q, hN⟩ := turn_parts hpn h0 (by rw [h32]; exact h1)
  have hf := rot_facts (n := 32) (by decide) hpn h0 (by rw [h32]; exact h1)
  have hu : a * 2 ^ p.toNat + a / 2 ^ (32 - p.toNat) = rotN 32 p.toNat a + (a * 2 ^ p.toNat / 2 ^ 32) * 2 ^ 32 := by
    unfold rotN
    have := Int.mul_ediv_add_emod (a * 2 ^ p.toNat) (2 ^ 32)
    rw [Int.mul_comm] at this
    omega
  rw [hu, ← h32, Int.add_mul_emod_self_right, Int.emod_eq_of_lt hf.1 hf.2.1]

theorem piece_value {b q a : Int} (hb : 1 ≤ b) (hq : 0 ≤ q) (hq2 : q ≤ b) (h0 : 0 ≤ a) (h1 : a < 2 ^ b.toNat) :
    (PySem.Builtin.bitOr (a * 2 ^ q.toNat) (a.fdiv (2 ^ (b - q).toNat))).fmod (1 * 2 ^ b.toNat) = rotN b.toNat q.toNat a := by
  have e : (b - q).toNat = b.toNat - q.toNat := by omega
  have hpn : q.toNat ≤ b.toNat := by omega
  rw [e, Int.fdiv_eq_ediv_of_nonneg _ (Int.le_of_lt (pow2_pos _)), or_turn hpn h0 h1, Int.one_mul, Int.fmod_eq_emod_of_nonneg _ (Int.le_of_lt (pow2_pos _))]
  have hf := rot_facts (n := b.toNat) (by omega) hpn h0 h1
  have hu : a * 2 ^ q.toNat + a / 2 ^ (b.toNat - q.toNat) = rotN b.toNat q.toNat a + (a * 2 ^ q.toNat / 2 ^ b.toNat) * 2 ^ b.toNat := by
    unfold rotN
    have := Int.mul_ediv_add_emod (a * 2 ^ q.toNat) (2 ^ b.toNat)
    rw [Int.mul_comm] at this
    omega
  rw [hu, Int.add_mul_emod_self_right, Int.emod_eq_of_lt hf.1 hf.2.1]

def LeftF (p a : Int) : Prop :=
  0 ≤ rotN 32 p.toNat a ∧ rotN 32 p.toNat a < 2 ^ (32 : Int).toNat ∧ (rotN 32 p.toNat a == 0) = (a == 0) ∧ (rotN 32 p.toNat a - a * 2 ^ p.toNat).fmod (2 ^ (32 : Int).toNat - 1) = 0 ∧
    rotN 32 (32 - p).toNat (rotN 32 p.toNat a) = a ∧ rotN 32 p.toNat a < 4294967296
def PieceF (b p a : Int) : Prop :=
  0 ≤ rotN b.toNat (p.fmod b).toNat a ∧ rotN b.toNat (p.fmod b).toNat a < 2 ^ b.toNat ∧ (rotN b.toNat (p.fmod b).toNat a == 0) = (a == 0) ∧
    (rotN b.toNat (p.fmod b).toNat a - a * 2 ^ (p.fmod b).toNat).fmod (2 ^ b.toNat - 1) = 0 ∧ rotN b.toNat ((-p).fmod b).toNat (rotN b.toNat (p.fmod b).toNat a) = a ∧ 0 ≤ p.fmod b ∧ p.fmod b < b
theorem left_facts {p a : Int} (hp : 0 ≤ p) (hp2 : p ≤ 32) (h0 : 0 ≤ a) (h1 : a < 4294967296) : LeftF p a := by
  have e : (32 - p).toNat = 32 - p.toNat := by omega
  have h32 : (2 : Int) ^ 32 = 4294967296 := by decide
  have hf := rot_facts (n := 32) (p := p.toNat) (by decide) (by omega) h0 (by rw [h32]; exact h1)
  refine ⟨hf.1, hf.2.1, hf.2.2.1, ?_, ?_, by rw [← h32]; exact hf.2.1⟩
  · rw [Int.fmod_eq_emod_of_nonneg _ (by decide)]; exact hf.2.2.2.1
  · rw [e]; exact hf.2.2.2.2
theorem rotN_zero {n : Nat} {a : Int} (h0 : 0 ≤ a) (h1 : a < 2 ^ n) : rotN n 0 a = a := by
  unfold rotN
  rw [Int.pow_zero, Int.mul_one, Nat.sub_zero, Int.emod_eq_of_lt h0 h1, Int.ediv_eq_zero_of_lt h0 h1, Int.add_zero]
theorem piece_facts {b p a : Int} (hb : 1 ≤ b) (h0 : 0 ≤ a) (h1 : a < 2 ^ b.toNat) : PieceF b p a := by
  have hq0 : 0 ≤ p.fmod b := Int.fmod_nonneg_of_pos _ (by omega)
  have hq1 : p.fmod b < b := Int.fmod_lt_of_pos _ (by omega)
  have hf := rot_facts (n := b.toNat) (p := (p.fmod b).toNat) (by omega) (by omega) h0 h1
  have hb1 : (0 : Int) ≤ 2 ^ b.toNat - 1 := by have := pow2_pos b.toNat; omega
  refine ⟨hf.1, hf.2.1, hf.2.2.1, ?_, ?_, hq0, hq1⟩
  · rw [Int.fmod_eq_emod_of_nonneg _ hb1]; exact hf.2.2.2.1
  · have hm : (-p).fmod b = (-(p.fmod b)).fmod b := by
      rw [Int.fmod_eq_emod_of_nonneg _ (by omega), Int.fmod_eq_emod_of_nonneg _ (by omega), Int.fmod_eq_emod_of_nonneg _ (by omega)]
      have h := Int.mul_ediv_add_emod p b
      have h2 : -p = -(p % b) + b * (-(p / b)) := by rw [Int.mul_neg]; omega
      rw [h2, Int.add_mul_emod_self_left]
    rw [hm]
    by_cases hz : p.fmod b = 0
    · rw [hz]
      have : (-(0 : Int)).fmod b = 0 := by simp
      rw [this]
      show rotN b.toNat 0 (rotN b.toNat 0 a) = a
      rw [rotN_zero h0 h1, rotN_zero h0 h1]
    · have : (-(p.fmod b)).fmod b = b - p.fmod b := by
        generalize p.fmod b = q at *
        rw [Int.fmod_eq_emod_of_nonneg _ (by omega)]
        have : -q = (b - q) + b * (-1) := by omega
        rw [this, Int.add_mul_emod_self_left]
        exact Int.emod_eq_of_lt (by omega) (by omega)
      rw [this]
      have e : (b - p.fmod b).toNat = b.toNat - (p.fmod b).toNat := by omega
      rw [e]; exact hf.2.2.2.2

abbrev mkA (dp un : Nat) (fr : Option (List Env)) (gd : Option (List Code)) : Around := { handled := none, depth := dp, frames := fr, guards := gd, units := un }

def Kept (r : Addr) (h h' : Heap) : Prop := ∀ b o, b ≠ r → h.get? b = some o → h'.get? b = some o
def KeptAll (h h' : Heap) : Prop := ∀ b o, h.get? b = some o → h'.get? b = some o
theorem KeptAll.kept {r : Addr} {h h' : Heap} (k : KeptAll h h') : Kept r h h' := fun b o _ e => k b o e

section
variable {prog : Program} {w : World} {A : Around} {s : Shared} {hB : Heap} {K : Frag} {p : Program} {loose : List Str} {mean : ExcName → Option Value} {mg mb : Str → Option Value}
  {Q E : Value → Shared → Prop} {name qual : Str} {params : Arguments} {body : List Stmt} {scope : Scope} {dV kV doc pm cdv ct oc : Value} {an od : Option Addr} {osl : Array (Option Value)} {f : Addr} {args : List Value} {binds : List (Str × Value)}

theorem enterF (X : K.In hB) (T : Top p loose mean mg mb hB) (hk : KeptAll hB s.heap)
    (news : List (Addr × Obj)) (hn : ∀ p ∈ news, s.heap.get? p.1 = some p.2 ∧ hB.get? p.1 = none)
    (ho : K.lookup f = some ⟨oc, od, .func (fnOf name qual params body scope dV kV doc pm an cdv ct), osl⟩) (hcd : codeIn K cdv qual = true) (hroom : A.depth < recursionLimit)
    (hbind : BindsTo s (fnOf name qual params body scope dV kV doc pm an cdv ct) ⟨args, []⟩ binds) (hloc : ∀ y ∈ binds, scope.names.lookup y.1 = some .local)
    (h : ∀ g L' h₁, (∀ b o, b ∉ news.map (·.1) → s.heap.get? b = some o → g.get? b = some o) → Fr g L' h₁ (fun y => binds.reverse.lookup y) → News g L' h₁ news → K.In g → Top p loose mean mg mb g →
      wpAny (model prog w) (A.deeper (envOf qual scope L' f cdv)) (execs body (envOf qual scope L' f cdv))
        (fun fl s' => Q (match fl with | .ret v => v | _ => .none) s') (fun _ _ => False) { s with heap := h₁, toks := s.toks + binds.length })
    (hcell : ∀ x ∈ scope.names, x.2 ≠ .cell) (hco : scope.isCoroutine = false) (hgen : scope.isGenerator = false) (hkd : scope.kind = .function) :
    wpAny (model prog w) A (call (.ref f) args) Q E s := by
  have nm : ∀ b o, hB.get? b = some o → b ∉ news.map (·.1) := fun b o e q => by
    obtain ⟨p, hp, rfl⟩ := List.mem_map.mp q
    rw [(hn p hp).2] at e; cases e
  have st : ∀ b o, hB.get? b = some o → (hideAll s.heap (news.map (·.1))).get? b = some o := fun b o e => hideAll_get _ (hk b o e) (nm b o e)
  refine wpAny_call (codeAny_call_def (fd := fnOf name qual params body scope dV kV doc pm an cdv ct) (body := body) (binds := binds) hroom (hk _ _ (X _ _ ho)) rfl (T.nolimit.keeps hk) ((codeRec_of X hcd).keeps hk) rfl hbind hcell hloc (fun h₁ hns hk₁ => ?_) hco hgen hkd)
  refine wpAny_mono (h (hideAll s.heap (news.map (·.1))) s.heap.objs.size h₁ (fun b o hb e => hideAll_get _ e hb) ⟨hns, fun b o e => hk₁ b o (of_hideAll _ e), Nat.le_of_eq (hideAll_size _ _)⟩
    (fun p hp => ⟨hk₁ _ _ (hn p hp).1, Nat.ne_of_lt (Heap.lt_size (hn p hp).1), hideAll_none _ (List.mem_map_of_mem hp)⟩) (X.keeps st) (T.keeps st)) (fun fl s' hl => hl) fun _ _ x => x.elim
end

section
variable {g h h' : Heap} {L r : Addr} {m : Str → Option Value} {news : List (Addr × Obj)} {o o' : Obj} {G : Obj → List (Addr × Obj)}
theorem fr_kept (F : Fr g L h m) (N : News g L h news) (U : UpdF r o news G) (k : Kept r h h') : Fr g L h' m := by
  obtain ⟨pre, post, rfl, hg, a, b⟩ := U.split
  have R := N (r, o) (List.mem_append_right _ (.head _))
  obtain ⟨oL, es, ep, hL, q⟩ := F.ns
  exact ⟨⟨oL, es, ep, k L oL (fun e => R.2.1 e.symm) hL, q⟩, fun b ob e => k b ob (fun e' => by have z := R.2.2; dsimp only at z; rw [← e', e] at z; cases z) (F.keep b ob e), F.above⟩
theorem news_kept (N : News g L h news) (U : UpdF r o news G) (k : Kept r h h') (hr : h'.get? r = some o') : News g L h' (G o') := by
  obtain ⟨pre, post, rfl, hg, a, b⟩ := U.split
  rw [hg]
  intro p hp
  rcases List.mem_append.mp hp with q | q
  · exact ⟨k _ _ (a p q) (N p (List.mem_append_left _ q)).1, (N p (List.mem_append_left _ q)).2⟩
  · rcases List.mem_cons.mp q with rfl | q
    · exact ⟨hr, (N (r, o) (List.mem_append_right _ (.head _))).2⟩
    · exact ⟨k _ _ (b p q) (N p (List.mem_append_right _ (.tail _ q))).1, (N p (List.mem_append_right _ (.tail _ q))).2⟩
theorem updF_mem : ∀ {news : List (Addr × Obj)} {G : Obj → List (Addr × Obj)}, UpdF r o news G → (r, o) ∈ news
  | _, _, .head _ => .head _
  | _, _, .tail _ u => .tail _ (updF_mem u)
end

-- the reel: a list of two ints
abbrev RO (x y : Int) (tx ty : Tok) (n : Nat) : Obj := listOf #[.int x tx, .int y ty] n
def Reel (x y : Int) : Prop := 0 ≤ x ∧ 0 ≤ y ∧ y < 2147483647
def PostR (r : Addr) (s : Shared) (P : Value → Prop) (Q : Value → Shared → Prop) : Prop :=
  ∀ (v : Value) (x' y' : Int) (tx' ty' : Tok) (n' : Nat) (h' : Heap) (tk' : Nat), P v → Reel x' y' → Kept r s.heap h' → h'.get? r = some (RO x' y' tx' ty' n') → Q v { s with heap := h', toks := tk' }
def Draws (w : World) (hB : Heap) (r f : Addr) (k : Nat) (args : List Value) (need : Heap → Prop) (P : Value → Prop) : Prop :=
  ∀ (dp un : Nat) (fr : Option (List Env)) (gd : Option (List Code)) (s : Shared) (Q E : Value → Shared → Prop) (x y : Int) (tx ty : Tok) (n : Nat),
    KeptAll hB s.heap → s.heap.get? r = some (RO x y tx ty n) → hB.get? r = none → dp + k < recursionLimit → un + 16 * k < cLine → Reel x y → need s.heap → PostR r s P Q →
    wpAny (model PySem.Challenge.pw_xm0973_01 w) (mkA dp un fr gd) (call (.ref f) args) Q E s

-- what a walk in a callee's frame hands back
theorem ret_kept {g h h' : Heap} {L r : Addr} {m : Str → Option Value} {o' : Obj} {more : List (Addr × Obj)} (hg : ∀ b ob, b ∉ [r] → h.get? b = some ob → g.get? b = some ob) (F : Fr g L h' m) (N : News g L h' more) (hm : (r, o') ∈ more) :
    Kept r h h' ∧ h'.get? r = some o' := ⟨fun b ob hb e => F.keep b ob (hg b ob (by simpa using hb) e), (N _ hm).1⟩
theorem ret_all {g h h' : Heap} {L : Addr} {m : Str → Option Value} (hg : ∀ b ob, b ∉ ([] : List Addr) → h.get? b = some ob → g.get? b = some ob) (F : Fr g L h' m) : KeptAll h h' :=
  fun b ob e => F.keep b ob (hg b ob (by simp) e)

theorem post_close {g h' : Heap} {L r : Addr} {s : Shared} {P : Value → Prop} {Q : Value → Shared → Prop} {m : Str → Option Value} {more : List (Addr × Obj)} {x' y' : Int} {tx' ty' : Tok} {n' tk' : Nat} {v : Value} (post : PostR r s P Q)
    (hg : ∀ b ob, b ∉ [r] → s.heap.get? b = some ob → g.get? b = some ob) (F : Fr g L h' m) (N : News g L h' more) (hm : (r, RO x' y' tx' ty' n') ∈ more) (hP : P v) (hR : Reel x' y') : Q v { s with heap := h', toks := tk' } :=
  post v x' y' tx' ty' n' h' tk' hP hR (ret_kept hg F N hm).1 (ret_kept hg F N hm).2

-- items of a written list of the ledger
section
variable {prog : Program} {w : World} {A : Around} {E : Value → Shared → Prop} {s : Shared} {g : Heap} {L l : Addr} {m : Str → Option Value} {news : List (Addr × Obj)} {vs : List Value} {n : Nat} {k : Int} {u : Tok} {v : Value} {Q : Value → Shared → Prop}
theorem item_led {value slice : PySem.Expr} (N : News g L s.heap news) (hm : (l, listOf vs.toArray n) ∈ news) (h0 : 0 ≤ k) (hhi : k < 2 ^ 63) (hx : vs[k.toNat]? = some v) (h : Q v s)
    (hs : subscripted slice false (.ref l) (.int k u) = operate [.ref l, .int k u] (getItem (.ref l) (.int k u)) := by with_unfolding_all rfl) :
    wpAny (model prog w) A (subscriptTail value slice (.ref l) (.int k u)) Q E s :=
  have hL := PySem.IsL.isList (n := n) (N _ hm).1
  tail_any hL.typeIs slot_list_getitem.lookup (wpAny_getItem_list hL h0 hhi (by simpa using hx) h) hs
end

-- the fill of the walk's written part
theorem fill : hd.heap_39 = hd.heap_39 ∧ PySem.Challenge.rw_xm0973_01 = PySem.Challenge.rw_xm0973_01 := by
  k_fill
  exact ⟨rfl, rfl⟩

local macro_rules | `(tactic| walk_at "subscriptTail Name Constant ref int") => `(tactic| (k_here; (with_reducible show wpAny _ _ (subscriptTail _ _ (Value.ref _) (Value.int _ _)) _ _ _); k_dflt (refine' Mine.item_led ?k1 ?k2 ?k3 ?k4 ?k5 ?_ ?k6; (case k1 => k_asm); (case k2 => k_mem); (case k3 => decide); (case k4 => decide); (case k5 => exact rfl); (case k6 => with_unfolding_all rfl); k_whole)))

local macro_rules | `(tactic| walk_at "binaryOp FloorDiv int int") => `(tactic| ((with_reducible refine floordiv_int ?ka ?_ (Or.inl ?kb)); (case ka => omega); (case kb => with_reducible assumption)))

theorem log2_small {y : Int} (h0 : 0 < y) (h : y ≤ 4294967296) : y.natAbs.log2 < 9000 := by
  have : y.natAbs.log2 < 33 := (Nat.log2_lt (by omega)).mpr (by have : (2:Nat)^33 = 8589934592 := by decide
                                                                omega)
  omega
section
variable {w : World} {mean : ExcName → Option Value} {mg mb : Str → Option Value} {hB : Heap}
theorem wind_spec (X : (hd.heap_39 w.params).In hB) (T : Top hd.view_39 (looseW hd.view_39 []) mean mg mb hB) {r : Addr} {top : Int} {tt : Tok} (htop : 0 < top) (htop2 : top ≤ 4294967296) :
    Draws w hB r 61 1 [.ref r, .int top tt] (fun _ => True) (fun v => ∃ (i : Int) (t : Tok), v = .int i t ∧ 0 ≤ i ∧ i < top) := by
  intro dp un fr gd s Q E x y tx ty n hk hr hr0 hd1 hu hR _ post
  obtain ⟨hx, hy, hy2⟩ := hR
  have hpy : Builtin.divisionGoesByPylong x top = false := PyProof.noPylong_of_log2 (log2_small htop htop2)
  w_on
  k_dflt (refine' enterF (binds := [("reel", .ref r), ("top", .int top tt)]) X T hk [(r, RO x y tx ty n)] ?hn ?ho ?hcd ?hroom ?hbind ?hloc ?_ ?c1 ?c2 ?c3 ?c4)
  case ho => k_is
  case hcd => k_is
  case hbind => exact BindsTo.of_eq rfl
  case hloc => exact locs rfl
  case c1 => decide
  case c2 => exact rfl
  case c3 => exact rfl
  case c4 => exact rfl
  case hroom => show dp < _; omega
  case hn => intro p hp; rw [List.mem_singleton.mp hp]; exact ⟨hr, hr0⟩
  intro g L' h₁ hg F N X' T'
  have hg' : ∀ b ob, b ∉ [r] → s.heap.get? b = some ob → g.get? b = some ob := hg
  clear hg
  try dsimp only
  try k_fold
  k_steps
  all_goals (dsimp only; (try (k_unfold; dsimp only)))
  · have h1 : 0 ≤ x.fmod top := Int.fmod_nonneg_of_pos x htop
    have h2 : x.fmod top < top := Int.fmod_lt_of_pos x htop
    have h3 : 0 ≤ x.fdiv top := Int.fdiv_nonneg hx (by omega)
    exact post_close (s := s) post hg' (by assumption) (by assumption) (List.Mem.head _) ⟨_, _, rfl, h1, h2⟩ ⟨h3, hy, hy2⟩
  · generalize hz : (y * 39373 + 11).fmod 2147483647 = z at *
    have h1 : 0 ≤ z := by rw [← hz]; exact Int.fmod_nonneg_of_pos _ (by decide)
    have h2 : z < 2147483647 := by rw [← hz]; exact Int.fmod_lt_of_pos _ (by decide)
    exact post_close (s := s) post hg' (by assumption) (by assumption) (List.Mem.head _) ⟨_, _, rfl, Int.fmod_nonneg_of_pos _ htop, Int.fmod_lt_of_pos _ htop⟩ ⟨hx, h1, h2⟩
end

theorem draws_K {w : World} {g : Heap} {r f : Addr} {k : Nat} {args : List Value} {need : Heap → Prop} {P : Value → Prop} (D : Draws w g r f k args need P)
    {dp un : Nat} {fr : Option (List Env)} {gd : Option (List Code)} {s : Shared} {Q E : Value → Shared → Prop} {x y : Int} {tx ty : Tok} {n : Nat} {L : Addr} {m : Str → Option Value} {news : List (Addr × Obj)} {G : Obj → List (Addr × Obj)}
    (F : Fr g L s.heap m) (N : News g L s.heap news) (U : UpdF r (RO x y tx ty n) news G) (hd : dp + k < recursionLimit) (hu : un + 16 * k < cLine) (hR : Reel x y) (hneed : need s.heap)
    (h : ∀ (v : Value) (x' y' : Int) (tx' ty' : Tok) (n' : Nat) (h' : Heap) (tk' : Nat), P v → Reel x' y' → Fr g L h' m → News g L h' (G (RO x' y' tx' ty' n')) → Q v { s with heap := h', toks := tk' }) :
    wpAny (model PySem.Challenge.pw_xm0973_01 w) (mkA dp un fr gd) (call (.ref f) args) Q E s :=
  D dp un fr gd s Q E x y tx ty n F.keep (N _ (updF_mem U)).1 (N _ (updF_mem U)).2.2 hd hu hR hneed
    (fun v x' y' tx' ty' n' h' tk' hP hR' k hr => h v x' y' tx' ty' n' h' tk' hP hR' (fr_kept F N U k) (news_kept N U k hr))

local macro_rules | `(tactic| walk_at "call ref") => `(tactic| (k_here; (with_reducible show wpAny _ _ (call (Value.ref 61) [Value.ref _, Value.int _ _]) _ _ _); k_dflt (refine' draws_K (wind_spec ?X ?T ?t1 ?t2) ?F ?N ?U ?d ?u ?R True.intro ?_; (case X => k_asm); (case T => k_asm); (case F => k_asm); (case N => k_asm); (case U => k_updF); (case t1 => first | decide | assumption | omega); (case t2 => first | decide | assumption | omega); (case d => (try dsimp only [mkA, Around.deeper]); omega); (case u => (try dsimp only [mkA, Around.deeper]); omega); (case R => assumption); k_whole); intro v' x' y' tx' ty' n' h' tk' hP' hR' F' N'; obtain ⟨i', t', hv', hi0', hi1'⟩ := hP'; subst hv'; (try dsimp only at N'); (try k_sweep)))

local macro_rules | `(tactic| walk_at "call builtin:len") => `(tactic| (k_here; (with_reducible show wpAny _ _ (call (Value.builtin "len") [Value.ref _]) _ _ _); k_dflt (refine' len_list (Fr.lst ?kF ?kL) ?kz ?_; (case kF => with_reducible assumption); (case kL => with_reducible assumption); (case kz => first | assumption | omega | (simp only [List.size_toArray]; omega)); k_whole)))

section
variable {w : World} {mean : ExcName → Option Value} {mg mb : Str → Option Value} {hB : Heap}
theorem one_spec (X : (hd.heap_39 w.params).In hB) (T : Top hd.view_39 (looseW hd.view_39 []) mean mg mb hB) {r a : Addr} {vs : List Value} (hne : @Ne Nat a r) (h0 : 0 < vs.length) (h1 : vs.length ≤ 4294967296) :
    Draws w hB r 68 2 [.ref r, .ref a] (fun h => h.IsList a vs.toArray) (fun v => v ∈ vs) := by
  intro dp un fr gd s Q E x y tx ty n hk hr hr0 hd1 hu hR hl post
  w_on
  k_dflt (refine' enterF (binds := [("reel", .ref r), ("things", .ref a)]) X T hk [(r, RO x y tx ty n)] ?hn ?ho ?hcd ?hroom ?hbind ?hloc ?_ ?c1 ?c2 ?c3 ?c4)
  case ho => k_is
  case hcd => k_is
  case hbind => exact BindsTo.of_eq rfl
  case hloc => exact locs rfl
  case c1 => decide
  case c2 => exact rfl
  case c3 => exact rfl
  case c4 => exact rfl
  case hroom => show dp < _; omega
  case hn => intro p hp; rw [List.mem_singleton.mp hp]; exact ⟨hr, hr0⟩
  intro g L' h₁ hg F N X' T'
  have hg' : ∀ b ob, b ∉ [r] → s.heap.get? b = some ob → g.get? b = some ob := hg
  clear hg
  have HL : g.IsList a vs.toArray := by
    obtain ⟨o, e, q⟩ := hl
    exact ⟨o, hg' a o (by simpa using hne) e, q⟩
  have hz1 : 0 < (vs.toArray.size : Int) := by simp only [List.size_toArray]; omega
  have hz2 : (vs.toArray.size : Int) ≤ 4294967296 := by simp only [List.size_toArray]; omega
  try dsimp only
  try k_fold
  k_steps
  rename_i x' y' tx' ty' n' h' tk' hR' F' N' i t hi0 hi1
  have hlt : i.toNat < vs.length := by simp only [List.size_toArray] at hi1; omega
  k_dflt (refine item_list (Fr.lst F' HL) hi0 (by omega) (x := vs[i.toNat]) (by simp [hlt]) ?_)
  exact post_close (s := s) post hg' F' N' (List.Mem.head _) (List.getElem_mem _) hR'
end

local macro_rules | `(tactic| walk_at "call ref") => `(tactic| (k_here; (with_reducible show wpAny _ _ (call (Value.ref 68) [Value.ref _, Value.ref _]) _ _ _); k_dflt (refine' draws_K (one_spec ?X ?T ?ne ?t1 ?t2) ?F ?N ?U ?d ?u ?R ?need ?_; (case X => k_asm); (case T => k_asm); (case F => k_asm); (case N => k_asm); (case U => k_updF); (case need => exact News.isList (by k_asm) (by k_mem)); (case ne => first | assumption | (refine Ne.symm ?_; assumption) | k_ne); (case t1 => simp only [List.length_cons]; omega); (case t2 => simp only [List.length_cons, List.length_nil]; omega); (case d => (try dsimp only [mkA, Around.deeper]); omega); (case u => (try dsimp only [mkA, Around.deeper]); omega); (case R => assumption); k_whole); intro v' x' y' tx' ty' n' h' tk' hP' hR' F' N'; (try dsimp only at N'); (try k_sweep)))

section
variable {w : World} {mean : ExcName → Option Value} {mg mb : Str → Option Value} {hB : Heap}
theorem number_spec (X : (hd.heap_39 w.params).In hB) (T : Top hd.view_39 (looseW hd.view_39 []) mean mg mb hB) {r : Addr} {bits : Int} {tb : Tok} (h0 : 1 ≤ bits) (h1 : bits ≤ 32) :
    Draws w hB r 75 3 [.ref r, .int bits tb] (fun _ => True) (fun v => ∃ (i : Int) (t : Tok), v = .int i t ∧ 0 ≤ i ∧ i < 2 ^ bits.toNat) := by
  intro dp un fr gd s Q E x y tx ty n hk hr hr0 hd1 hu hR _ post
  w_on
  k_dflt (refine' enterF (binds := [("reel", .ref r), ("bits", .int bits tb)]) X T hk [(r, RO x y tx ty n)] ?hn ?ho ?hcd ?hroom ?hbind ?hloc ?_ ?c1 ?c2 ?c3 ?c4)
  case ho => k_is
  case hcd => k_is
  case hbind => exact BindsTo.of_eq rfl
  case hloc => exact locs rfl
  case c1 => decide
  case c2 => exact rfl
  case c3 => exact rfl
  case c4 => exact rfl
  case hroom => show dp < _; omega
  case hn => intro p hp; rw [List.mem_singleton.mp hp]; exact ⟨hr, hr0⟩
  intro g L' h₁ hg F N X' T'
  have hg' : ∀ b ob, b ∉ [r] → s.heap.get? b = some ob → g.get? b = some ob := hg
  clear hg
  have hb0 : (0 : Int) < 2 ^ bits.toNat := Int.pow_pos (by decide)
  have hb1 : (2 : Int) ^ bits.toNat ≤ 4294967296 := by
    have h : bits.toNat ≤ 32 := by omega
    have h' : (2 : Nat) ^ bits.toNat ≤ 2 ^ 32 := Nat.pow_le_pow_right (by decide) h
    have e : ((2 ^ bits.toNat : Nat) : Int) = (2 : Int) ^ bits.toNat := by simp
    rw [← e]; exact Int.ofNat_le.mpr h'
  have hb2 : (0 : Int) < 2 ^ (bits - 1).toNat := Int.pow_pos (by decide)
  have hb3 : (2 : Int) ^ bits.toNat = 2 * 2 ^ (bits - 1).toNat := by
    have e : bits.toNat = (bits - 1).toNat + 1 := by omega
    rw [e, Int.pow_succ, Int.mul_comm]
  try dsimp only
  try k_fold
  k_steps
  case' _ =>
    rename_i v' x' y' tx' ty' n' h' tk' hP' hR' F' N'
    refine post_close (s := s) post hg' F' N' (List.Mem.tail _ (List.Mem.head _)) ?_ hR'
    simp only [List.mem_cons, List.not_mem_nil, or_false] at hP'
    rcases hP' with rfl | rfl | rfl | rfl
    all_goals (refine ⟨_, _, rfl, ?_, ?_⟩ <;> omega)
  all_goals exact post_close (s := s) post hg' (by assumption) (by assumption) (List.Mem.head _) ⟨_, _, rfl, Int.fmod_nonneg_of_pos _ hb0, Int.fmod_lt_of_pos _ hb0⟩ (by assumption)
end

local macro_rules | `(tactic| walk_at "call ref") => `(tactic| (k_here; (with_reducible show wpAny _ _ (call (Value.ref 75) [Value.ref _, Value.int _ _]) _ _ _); k_dflt (refine' draws_K (number_spec ?X ?T ?t1 ?t2) ?F ?N ?U ?d ?u ?R True.intro ?_; (case X => k_asm); (case T => k_asm); (case F => k_asm); (case N => k_asm); (case U => k_updF); (case t1 => first | decide | assumption | omega); (case t2 => first | decide | assumption | omega); (case d => (try dsimp only [mkA, Around.deeper]); omega); (case u => (try dsimp only [mkA, Around.deeper]); omega); (case R => assumption); k_whole); intro v' x' y' tx' ty' n' h' tk' hP' hR' F' N'; obtain ⟨i', t', hv', hi0', hi1'⟩ := hP'; subst hv'; (try dsimp only at N'); (try k_sweep)))

def Pure (w : World) (hB : Heap) (f : Addr) (k : Nat) (args : List Value) (P : Value → Prop) : Prop :=
  ∀ (dp un : Nat) (fr : Option (List Env)) (gd : Option (List Code)) (s : Shared) (Q E : Value → Shared → Prop),
    KeptAll hB s.heap → dp + k < recursionLimit → un + 16 * k < cLine → (∀ v h' tk', P v → KeptAll s.heap h' → Q v { s with heap := h', toks := tk' }) →
    wpAny (model PySem.Challenge.pw_xm0973_01 w) (mkA dp un fr gd) (call (.ref f) args) Q E s
theorem pure_K {w : World} {g : Heap} {f : Addr} {k : Nat} {args : List Value} {P : Value → Prop} (D : Pure w g f k args P)
    {dp un : Nat} {fr : Option (List Env)} {gd : Option (List Code)} {s : Shared} {Q E : Value → Shared → Prop} {L : Addr} {m : Str → Option Value} {news : List (Addr × Obj)}
    (F : Fr g L s.heap m) (N : News g L s.heap news) (hd : dp + k < recursionLimit) (hu : un + 16 * k < cLine)
    (h : ∀ (v : Value) (h' : Heap) (tk' : Nat), P v → Fr g L h' m → News g L h' news → Q v { s with heap := h', toks := tk' }) :
    wpAny (model PySem.Challenge.pw_xm0973_01 w) (mkA dp un fr gd) (call (.ref f) args) Q E s :=
  D dp un fr gd s Q E F.keep hd hu (fun v h' tk' hP k => h v h' tk' hP (F.after k) (fun p hp => ⟨k _ _ (N p hp).1, (N p hp).2⟩))

theorem post_all {g h' : Heap} {L : Addr} {s : Shared} {P : Value → Prop} {Q : Value → Shared → Prop} {m : Str → Option Value} {tk' : Nat} {v : Value} (post : ∀ v h' tk', P v → KeptAll s.heap h' → Q v { s with heap := h', toks := tk' })
    (hg : ∀ b ob, b ∉ ([] : List Addr) → s.heap.get? b = some ob → g.get? b = some ob) (F : Fr g L h' m) (hP : P v) : Q v { s with heap := h', toks := tk' } :=
  post v h' tk' hP (ret_all hg F)
theorem pow_le_pow (b : Int) (k : Nat) (h : b ≤ (k : Int)) : (2 : Int) ^ b.toNat ≤ 2 ^ k := by
  have h : b.toNat ≤ k := by omega
  have h' : (2 : Nat) ^ b.toNat ≤ 2 ^ k := Nat.pow_le_pow_right (by decide) h
  rw [← cast_pow2, ← cast_pow2]; exact Int.ofNat_le.mpr h'

section
variable {w : World} {mean : ExcName → Option Value} {mg mb : Str → Option Value} {hB : Heap}
theorem left_spec (X : (hd.heap_39 w.params).In hB) (T : Top hd.view_39 (looseW hd.view_39 []) mean mg mb hB) {a p : Int} {ta tp : Tok} (ha : 0 ≤ a) (ha2 : a < 4294967296) (hp : 0 ≤ p) (hp2 : p ≤ 32) :
    Pure w hB 21 1 [.int a ta, .int p tp] (fun v => ∃ t, v = .int (rotN 32 p.toNat a) t ∧ LeftF p a) := by
  intro dp un fr gd s Q E hk hd1 hu post
  w_on
  k_dflt (refine' enterF (binds := [("number", .int a ta), ("places", .int p tp)]) X T hk [] ?hn ?ho ?hcd ?hroom ?hbind ?hloc ?_ ?c1 ?c2 ?c3 ?c4)
  case ho => k_is
  case hcd => k_is
  case hbind => exact BindsTo.of_eq rfl
  case hloc => exact locs rfl
  case c1 => decide
  case c2 => exact rfl
  case c3 => exact rfl
  case c4 => exact rfl
  case hroom => show dp < _; omega
  case hn => exact List.forall_mem_nil _
  intro g L' h₁ hg F N X' T'
  have hg' : ∀ b ob, b ∉ ([] : List Addr) → s.heap.get? b = some ob → g.get? b = some ob := hg
  clear hg
  try dsimp only
  try k_fold
  k_steps
  try dsimp only
  rw [left_value hp hp2 ha ha2]
  exact post_all (s := s) post hg' (by assumption) ⟨_, rfl, left_facts hp hp2 ha ha2⟩
theorem piece_spec (X : (hd.heap_39 w.params).In hB) (T : Top hd.view_39 (looseW hd.view_39 []) mean mg mb hB) {a p b : Int} {ta tp tb : Tok} (hb : 1 ≤ b) (hb2 : b ≤ 12) (ha : 0 ≤ a) (ha2 : a < 2 ^ b.toNat) :
    Pure w hB 47 1 [.int a ta, .int p tp, .int b tb] (fun v => ∃ t, v = .int (rotN b.toNat (p.fmod b).toNat a) t ∧ PieceF b p a) := by
  intro dp un fr gd s Q E hk hd1 hu post
  w_on
  k_dflt (refine' enterF (binds := [("piece", .int a ta), ("by", .int p tp), ("bits", .int b tb)]) X T hk [] ?hn ?ho ?hcd ?hroom ?hbind ?hloc ?_ ?c1 ?c2 ?c3 ?c4)
  case ho => k_is
  case hcd => k_is
  case hbind => exact BindsTo.of_eq rfl
  case hloc => exact locs rfl
  case c1 => decide
  case c2 => exact rfl
  case c3 => exact rfl
  case c4 => exact rfl
  case hroom => show dp < _; omega
  case hn => exact List.forall_mem_nil _
  intro g L' h₁ hg F N X' T'
  have hg' : ∀ b ob, b ∉ ([] : List Addr) → s.heap.get? b = some ob → g.get? b = some ob := hg
  clear hg
  have ha3 : a < 4096 := Int.lt_of_lt_of_le ha2 (pow_le_pow b 12 hb2)
  have hq0 : 0 ≤ p.fmod b := Int.fmod_nonneg_of_pos _ (by omega)
  have hq1 : p.fmod b < b := Int.fmod_lt_of_pos _ (by omega)
  try dsimp only
  try k_fold
  k_steps
  try dsimp only
  rw [piece_value hb hq0 (Int.le_of_lt hq1) ha ha2]
  exact post_all (s := s) post hg' (by assumption) ⟨_, rfl, piece_facts hb ha ha2⟩
theorem isturned_spec (X : (hd.heap_39 w.params).In hB) (T : Top hd.view_39 (looseW hd.view_39 []) mean mg mb hB) {t a f b : Int} {tt ta tf tb : Tok} (hb : 1 ≤ b) (hb2 : b ≤ 32) (hf : 0 ≤ f) (hf2 : f ≤ 32) (ha : 0 ≤ a) (ha2 : a < 2 ^ b.toNat) (ht : 0 ≤ t) (ht2 : t < 2 ^ b.toNat) (hz : (t == 0) = (a == 0)) (hm : (t - a * 2 ^ f.toNat).fmod (2 ^ b.toNat - 1) = 0) :
    Pure w hB 82 1 [.int t tt, .int a ta, .int f tf, .int b tb] (fun v => v = .bool true) := by
  intro dp un fr gd s Q E hk hd1 hu post
  w_on
  k_dflt (refine' enterF (binds := [("told", .int t tt), ("number", .int a ta), ("far", .int f tf), ("bits", .int b tb)]) X T hk [] ?hn ?ho ?hcd ?hroom ?hbind ?hloc ?_ ?c1 ?c2 ?c3 ?c4)
  case ho => k_is
  case hcd => k_is
  case hbind => exact BindsTo.of_eq rfl
  case hloc => exact locs rfl
  case c1 => decide
  case c2 => exact rfl
  case c3 => exact rfl
  case c4 => exact rfl
  case hroom => show dp < _; omega
  case hn => exact List.forall_mem_nil _
  intro g L' h₁ hg F N X' T'
  have hg' : ∀ b ob, b ∉ ([] : List Addr) → s.heap.get? b = some ob → g.get? b = some ob := hg
  clear hg
  have ha3 : a < 4294967296 := Int.lt_of_lt_of_le ha2 (pow_le_pow b 32 hb2)
  have hb3 : (2 : Int) ≤ 2 ^ b.toNat := by
    have : b.toNat = (b.toNat - 1) + 1 := by omega
    rw [this, Int.pow_succ]
    have := pow2_pos (b.toNat - 1)
    omega
  try dsimp only
  try k_fold
  k_steps
  · exfalso; simp_all
  · try dsimp only
    rw [hm]
    exact post_all (s := s) post hg' (by assumption) rfl
end

local macro_rules | `(tactic| walk_at "call ref") => `(tactic| (k_here; (with_reducible show wpAny _ _ (call (Value.ref 21) [Value.int _ _, Value.int _ _]) _ _ _); k_dflt (refine' pure_K (left_spec ?X ?T ?t1 ?t2 ?t3 ?t4) ?F ?N ?d ?u ?_; (case X => k_asm); (case T => k_asm); (case F => k_asm); (case N => k_asm); (case t1 => first | decide | assumption | omega); (case t2 => first | decide | assumption | omega); (case t3 => first | decide | assumption | omega); (case t4 => first | decide | assumption | omega); (case d => (try dsimp only [mkA, Around.deeper]); omega); (case u => (try dsimp only [mkA, Around.deeper]); omega); k_whole); intro v' h' tk' hP' F' N'; obtain ⟨t', hv', hfa, hfb, hfc, hfd, hfe, hff⟩ := hP'; subst hv'; (try k_sweep)))

local macro_rules | `(tactic| walk_at "call ref") => `(tactic| (k_here; (with_reducible show wpAny _ _ (call (Value.ref 47) [Value.int _ _, Value.int _ _, Value.int _ _]) _ _ _); k_dflt (refine' pure_K (piece_spec ?X ?T ?t1 ?t2 ?t3 ?t4) ?F ?N ?d ?u ?_; (case X => k_asm); (case T => k_asm); (case F => k_asm); (case N => k_asm); (case t1 => first | decide | assumption | omega); (case t2 => first | decide | assumption | omega); (case t3 => first | decide | assumption | omega); (case t4 => first | decide | assumption | omega); (case d => (try dsimp only [mkA, Around.deeper]); omega); (case u => (try dsimp only [mkA, Around.deeper]); omega); k_whole); intro v' h' tk' hP' F' N'; obtain ⟨t', hv', hfa, hfb, hfc, hfd, hfe, hff, hfg⟩ := hP'; subst hv'; (try k_sweep)))

local macro_rules | `(tactic| walk_at "call ref") => `(tactic| (k_here; (with_reducible show wpAny _ _ (call (Value.ref 82) [Value.int _ _, Value.int _ _, Value.int _ _, Value.int _ _]) _ _ _); k_dflt (refine' pure_K (isturned_spec ?X ?T ?t1 ?t2 ?t3 ?t4 ?t5 ?t6 ?t7 ?t8 ?t9 ?t10) ?F ?N ?d ?u ?_; (case X => k_asm); (case T => k_asm); (case F => k_asm); (case N => k_asm); (case t1 => first | decide | assumption | omega); (case t2 => first | decide | assumption | omega); (case t3 => first | decide | assumption | omega); (case t4 => first | decide | assumption | omega); (case t5 => first | decide | assumption | omega); (case t6 => first | decide | assumption | omega); (case t7 => first | decide | assumption | omega); (case t8 => first | decide | assumption | omega); (case t9 => assumption); (case t10 => assumption); (case d => (try dsimp only [mkA, Around.deeper]); omega); (case u => (try dsimp only [mkA, Around.deeper]); omega); k_whole); intro v' h' tk' hP' F' N'; subst hP'; (try k_sweep)))

section
variable {w : World} {mean : ExcName → Option Value} {mg mb : Str → Option Value} {hB : Heap}
theorem turns_spec (X : (hd.heap_39 w.params).In hB) (T : Top hd.view_39 (looseW hd.view_39 []) mean mg mb hB) {r : Addr} :
    Draws w hB r 89 5 [.ref r] (fun _ => True) (fun v => v = .bool true) := by
  intro dp un fr gd s Q E x y tx ty n hk hr hr0 hd1 hu hR _ post
  w_on
  k_dflt (refine' enterF (binds := [("reel", .ref r)]) X T hk [(r, RO x y tx ty n)] ?hn ?ho ?hcd ?hroom ?hbind ?hloc ?_ ?c1 ?c2 ?c3 ?c4)
  case ho => k_is
  case hcd => k_is
  case hbind => exact BindsTo.of_eq rfl
  case hloc => exact locs rfl
  case c1 => decide
  case c2 => exact rfl
  case c3 => exact rfl
  case c4 => exact rfl
  case hroom => show dp < _; omega
  case hn => intro p hp; rw [List.mem_singleton.mp hp]; exact ⟨hr, hr0⟩
  intro g L' h₁ hg F N X' T'
  have hg' : ∀ b ob, b ∉ [r] → s.heap.get? b = some ob → g.get? b = some ob := hg
  clear hg
  try dsimp only
  try k_fold
  k_steps
  · exfalso; first | omega | (simp_all; done)
  · exact post_close (s := s) post hg' (by assumption) (by assumption) (by k_mem) (congrArg Value.bool (beq_iff_eq.mpr (by assumption))) (by assumption)
end

-- a stop that I set in a walk
def Brk (_ : String) : Prop := True
def Stop (P : Prop) : Prop := P
theorem Stop.go {P : Prop} (h : Stop P) : P := h

local macro_rules | `(tactic| walk_at "pyIter ref") => `(tactic| (k_here; (rename Brk "pyIter ref" => hMk); refine Stop.go ?_))

local macro_rules | `(tactic| walk_at "exec For Name Call cons nil") => `(tactic| (k_here; (rename Brk "pyIter ref" => hMk); (rename Fr _ _ _ _ => lF'); (with_unfolding_all refine' For_invVF lF' ?k1 ?k2 ?_; (case k1 => exact rfl); (case k2 => exact rfl); k_whole)))

abbrev tupO (vs : List Value) (n : Nat) : Obj := { cls := .type "tuple", data := .seq vs.toArray n }
def PostT (s : Shared) (P : List Value → Prop) (Q : Value → Shared → Prop) : Prop :=
  ∀ (a : Addr) (h' : Heap) (tk' : Nat) (vs : List Value) (n : Nat), P vs → KeptAll s.heap h' → s.heap.get? a = none → h'.get? a = some (tupO vs n) → Q (.ref a) { s with heap := h', toks := tk' }
def PureT (w : World) (hB : Heap) (f : Addr) (k : Nat) (args : List Value) (P : List Value → Prop) : Prop :=
  ∀ (dp un : Nat) (fr : Option (List Env)) (gd : Option (List Code)) (s : Shared) (Q E : Value → Shared → Prop),
    KeptAll hB s.heap → dp + k < recursionLimit → un + 16 * k < cLine → PostT s P Q →
    wpAny (model PySem.Challenge.pw_xm0973_01 w) (mkA dp un fr gd) (call (.ref f) args) Q E s
theorem off1_of {s h : Heap} {g : Heap} {L a : Addr} (ha : s.get? a = none) : ∀ {news : List (Addr × Obj)}, News g L s news → LCg.Off1 a news
  | [], _ => trivial
  | p :: r, N => ⟨fun e => (by have := (N p (.head _)).1; rw [e, ha] at this; exact nomatch this), off1_of (h := h) ha fun q hq => N q (.tail _ hq)⟩
theorem pureT_K {w : World} {g : Heap} {f : Addr} {k : Nat} {args : List Value} {P : List Value → Prop} (D : PureT w g f k args P)
    {dp un : Nat} {fr : Option (List Env)} {gd : Option (List Code)} {s : Shared} {Q E : Value → Shared → Prop} {L : Addr} {m : Str → Option Value} {news : List (Addr × Obj)}
    (F : Fr g L s.heap m) (N : News g L s.heap news) (hd : dp + k < recursionLimit) (hu : un + 16 * k < cLine)
    (h : ∀ (a : Addr) (h' : Heap) (tk' : Nat) (vs : List Value) (n : Nat), P vs → Fr g L h' m → News g L h' ((a, tupO vs n) :: news) → LCg.Off1 a news → Q (.ref a) { s with heap := h', toks := tk' }) :
    wpAny (model PySem.Challenge.pw_xm0973_01 w) (mkA dp un fr gd) (call (.ref f) args) Q E s :=
  D dp un fr gd s Q E F.keep hd hu (fun a h' tk' vs n hP k ha hv => h a h' tk' vs n hP (F.after k) (fun p hp => by
    rcases List.mem_cons.mp hp with rfl | hp
    · refine ⟨hv, fun e => ?_, ?_⟩
      · obtain ⟨oL, _, _, hL, _⟩ := F.ns
        have e' : a = L := e
        rw [← e', ha] at hL; cases hL
      · cases q : g.get? a with
        | none => rfl
        | some o => have := F.keep _ _ q; rw [ha] at this; cases this
    · exact ⟨k _ _ (N p hp).1, (N p hp).2⟩) (off1_of (h := h') ha N))
theorem post_tup {g h' : Heap} {L a : Addr} {s : Shared} {P : List Value → Prop} {Q : Value → Shared → Prop} {m : Str → Option Value} {more : List (Addr × Obj)} {vs : List Value} {n tk' : Nat} (post : PostT s P Q)
    (hg : ∀ b ob, b ∉ ([] : List Addr) → s.heap.get? b = some ob → g.get? b = some ob) (F : Fr g L h' m) (N : News g L h' more) (hm : (a, tupO vs n) ∈ more) (hP : P vs) : Q (.ref a) { s with heap := h', toks := tk' } := by
  refine post a h' tk' vs n hP (ret_all hg F) ?_ (N _ hm).1
  cases q : s.heap.get? a with
  | none => rfl
  | some o => have := hg a o (by simp) q; rw [(N _ hm).2.2] at this; cases this

theorem two_ints {x x' y y' : Int} {t u : Tok} (e : x = x') (e' : y = y') : ∃ t1 t2, [Value.int x t, Value.int y u] = [Value.int x' t1, Value.int y' t2] := ⟨t, u, by rw [e, e']⟩
def stepF (p b c d : Int) : Int :=
  if p < 16 then PySem.Builtin.bitOr (PySem.Builtin.bitAnd b c) (PySem.Builtin.bitAnd (PySem.Builtin.bitNot b) d)
  else if p < 32 then PySem.Builtin.bitOr (PySem.Builtin.bitAnd d b) (PySem.Builtin.bitAnd (PySem.Builtin.bitNot d) c)
  else if p < 48 then PySem.Builtin.bitXor (PySem.Builtin.bitXor b c) d
  else PySem.Builtin.bitXor c (PySem.Builtin.bitOr b (PySem.Builtin.bitAnd (PySem.Builtin.bitNot d) 4294967295))
def stepI (p : Int) : Int := if p < 16 then p else if p < 32 then (5 * p + 1).fmod 16 else if p < 48 then (3 * p + 5).fmod 16 else (7 * p).fmod 16

section
variable {w : World} {mean : ExcName → Option Value} {mg mb : Str → Option Value} {hB : Heap}
theorem step_spec (X : (hd.heap_39 w.params).In hB) (T : Top hd.view_39 (looseW hd.view_39 []) mean mg mb hB) {p b c d : Int} {tp tb tc td : Tok} (hp : 0 ≤ p) (hp2 : p < 64) :
    PureT w hB 40 1 [.int p tp, .int b tb, .int c tc, .int d td] (fun vs => ∃ t1 t2, vs = [.int (stepF p b c d) t1, .int (stepI p) t2]) := by
  intro dp un fr gd s Q E hk hd1 hu post
  w_on
  k_dflt (refine' enterF (binds := [("step", .int p tp), ("b", .int b tb), ("c", .int c tc), ("d", .int d td)]) X T hk [] ?hn ?ho ?hcd ?hroom ?hbind ?hloc ?_ ?c1 ?c2 ?c3 ?c4)
  case ho => k_is
  case hcd => k_is
  case hbind => exact BindsTo.of_eq rfl
  case hloc => exact locs rfl
  case c1 => decide
  case c2 => exact rfl
  case c3 => exact rfl
  case c4 => exact rfl
  case hroom => show dp < _; omega
  case hn => exact List.forall_mem_nil _
  intro g L' h₁ hg F N X' T'
  have hg' : ∀ b ob, b ∉ ([] : List Addr) → s.heap.get? b = some ob → g.get? b = some ob := hg
  clear hg
  try dsimp only
  try k_fold
  k_steps
  all_goals try dsimp only
  all_goals refine post_tup (s := s) post hg' (by assumption) (by assumption) (List.Mem.head _) (two_ints ?_ ?_)
  all_goals (first | unfold stepF | unfold stepI)
  all_goals (simp only [*, if_true, if_false])

def rowL (way : Int) : List Int := if way = 0 then [0, 1, 0, 1, 0, 0, 1, 1] else if way = 1 then [0, 0, 1, 0, 0, 1, 1, 1] else if way = 2 then [0, 1, 1, 0, 1, 0, 0, 1] else [1, 0, 0, 1, 1, 1, 0, 0]
def rowFirst (way : Int) : Int := if way = 0 then 0 else if way = 1 then 1 else if way = 2 then 5 else 0
def rowMore (way : Int) : Int := if way = 0 then 1 else if way = 1 then 5 else if way = 2 then 3 else 7
def PostRd (s : Shared) (way : Int) (Q : Value → Shared → Prop) : Prop :=
  ∀ (a c : Addr) (h' : Heap) (tk' : Nat) (rv : List Value) (n n' : Nat) (t1 t2 : Tok), IntsAre rv (rowL way) → KeptAll s.heap h' → s.heap.get? a = none → s.heap.get? c = none → @Ne Nat a c → h'.get? c = some (tupO rv n) →
    h'.get? a = some (tupO [.ref c, .int (rowFirst way) t1, .int (rowMore way) t2] n') → Q (.ref a) { s with heap := h', toks := tk' }
theorem post_round {g h' : Heap} {L a c : Addr} {s : Shared} {way f k : Int} {Q : Value → Shared → Prop} {m : Str → Option Value} {more : List (Addr × Obj)} {rv : List Value} {n n' tk' : Nat} {t1 t2 : Tok} (post : PostRd s way Q)
    (hg : ∀ b ob, b ∉ ([] : List Addr) → s.heap.get? b = some ob → g.get? b = some ob) (F : Fr g L h' m) (N : News g L h' more) (hma : (a, tupO [.ref c, .int f t1, .int k t2] n') ∈ more) (hmc : (c, tupO rv n) ∈ more) (hne : @Ne Nat a c)
    (hi : IntsAre rv (rowL way)) (ef : f = rowFirst way) (ek : k = rowMore way) : Q (.ref a) { s with heap := h', toks := tk' } := by
  have fresh : ∀ b o, (b, o) ∈ more → s.heap.get? b = none := fun b o hm => by
    cases q : s.heap.get? b with
    | none => rfl
    | some o => have := hg b o (by simp) q; rw [(N _ hm).2.2] at this; cases this
  subst ef ek
  exact post a c h' tk' rv n n' t1 t2 hi (ret_all hg F) (fresh _ _ hma) (fresh _ _ hmc) hne (N _ hmc).1 (N _ hma).1
theorem rowL_0 {way : Int} (h : way = 0) : rowL way = [0, 1, 0, 1, 0, 0, 1, 1] := by subst h; rfl
theorem rowL_1 {way : Int} (h : way = 1) : rowL way = [0, 0, 1, 0, 0, 1, 1, 1] := by subst h; rfl
theorem rowL_2 {way : Int} (h : way = 2) : rowL way = [0, 1, 1, 0, 1, 0, 0, 1] := by subst h; rfl
theorem rowL_3 {way : Int} (h : ¬ way = 0) (h1 : ¬ way = 1) (h2 : ¬ way = 2) : rowL way = [1, 0, 0, 1, 1, 1, 0, 0] := by simp [rowL, h, h1, h2]
theorem round_spec (X : (hd.heap_39 w.params).In hB) (T : Top hd.view_39 (looseW hd.view_39 []) mean mg mb hB) {way : Int} {tw : Tok} (hw : 0 ≤ way) (hw2 : way < 4) :
    ∀ (dp un : Nat) (fr : Option (List Env)) (gd : Option (List Code)) (s : Shared) (Q E : Value → Shared → Prop),
    KeptAll hB s.heap → dp + 1 < recursionLimit → un + 16 * 1 < cLine → PostRd s way Q →
    wpAny (model PySem.Challenge.pw_xm0973_01 w) (mkA dp un fr gd) (call (.ref 106) [.int way tw]) Q E s := by
  intro dp un fr gd s Q E hk hd1 hu post
  w_on
  k_dflt (refine' enterF (binds := [("way", .int way tw)]) X T hk [] ?hn ?ho ?hcd ?hroom ?hbind ?hloc ?_ ?c1 ?c2 ?c3 ?c4)
  case ho => k_is
  case hcd => k_is
  case hbind => exact BindsTo.of_eq rfl
  case hloc => exact locs rfl
  case c1 => decide
  case c2 => exact rfl
  case c3 => exact rfl
  case c4 => exact rfl
  case hroom => show dp < _; omega
  case hn => exact List.forall_mem_nil _
  intro g L' h₁ hg F N X' T'
  have hg' : ∀ b ob, b ∉ ([] : List Addr) → s.heap.get? b = some ob → g.get? b = some ob := hg
  clear hg
  try dsimp only
  try k_fold
  k_steps
  all_goals try dsimp only
  all_goals refine post_round (s := s) post hg' (by assumption) (by assumption) (List.Mem.head _) (List.Mem.tail _ (List.Mem.head _)) (by k_ne) ?_ ?_ ?_
  all_goals (first | unfold rowFirst | unfold rowMore | skip)
  all_goals (first | (simp only [*, if_true, if_false]; done) | (subst_vars; rfl) | skip)
  all_goals (first | rw [rowL_0 (by assumption)] | rw [rowL_1 (by assumption)] | rw [rowL_2 (by assumption)] | rw [rowL_3 (by assumption) (by assumption) (by assumption)])
  all_goals (repeat' (first | exact IntsAre.nil | refine IntsAre.cons _ _ ?_))
end

def rowIdx (b c d k : Int) : Int := (b.fdiv (2 ^ k.toNat)).fmod 2 * 4 + (c.fdiv (2 ^ k.toNat)).fmod 2 * 2 + (d.fdiv (2 ^ k.toNat)).fmod 2
def bitsMade (row : List Int) (b c d : Int) : Int := (rangeKs 0 32).foldl (fun a k => a + row.getD (rowIdx b c d k).toNat 0 * 2 ^ k.toNat) 0
theorem rowIdx_lo (b c d k : Int) : 0 ≤ rowIdx b c d k := by
  unfold rowIdx
  have h1 := Int.fmod_nonneg_of_pos (b.fdiv (2 ^ k.toNat)) (b := 2) (by decide)
  have h2 := Int.fmod_nonneg_of_pos (c.fdiv (2 ^ k.toNat)) (b := 2) (by decide)
  have h3 := Int.fmod_nonneg_of_pos (d.fdiv (2 ^ k.toNat)) (b := 2) (by decide)
  omega
theorem rowIdx_hi (b c d k : Int) : rowIdx b c d k < 8 := by
  unfold rowIdx
  have h1 := Int.fmod_lt_of_pos (b.fdiv (2 ^ k.toNat)) (b := 2) (by decide)
  have h2 := Int.fmod_lt_of_pos (c.fdiv (2 ^ k.toNat)) (b := 2) (by decide)
  have h3 := Int.fmod_lt_of_pos (d.fdiv (2 ^ k.toNat)) (b := 2) (by decide)
  omega

theorem mul01 {x y : Int} (h : x = 0 ∨ x = 1) : IntMulOk x y := .of_left (by rcases h with rfl | rfl <;> decide)

local macro_rules | `(tactic| walk_at "subscriptTail Name BinOp ref int") => `(tactic| (k_here; (rename Brk "bits" => hMk); k_dflt (refine' item_tuple_ints (Fr.tup ?kF ?kT) ?kI ?k0 ?k1 ?kf ?_ ?ks ?kg; (case kF => k_asm); (case kT => assumption); (case kI => assumption); (case k0 => exact rowIdx_lo _ _ _ _); (case k1 => exact Int.lt_of_lt_of_le (rowIdx_hi _ _ _ _) (by omega)); (case kf => exact Int.lt_trans (rowIdx_hi _ _ _ _) (by decide)); (case ks => with_unfolding_all rfl); (case kg => intro _; with_unfolding_all rfl); intro t')))

local macro_rules | `(tactic| walk_at "binaryOp Mult int int") => `(tactic| (k_here; (rename Brk "bits" => hMk); (with_reducible show wpAny _ _ (binaryOp _ (Value.int (List.getD _ _ _) _) _) _ _ _); k_dflt (refine' mul_int ?_ (mul01 ?kh); (case kh => (rename (∀ i : Nat, List.getD _ i 0 = 0 ∨ List.getD _ i 0 = 1) => hRw; exact hRw _)))))

section
variable {w : World} {mean : ExcName → Option Value} {mg mb : Str → Option Value} {hB : Heap}
theorem bits_spec (X : (hd.heap_39 w.params).In hB) (T : Top hd.view_39 (looseW hd.view_39 []) mean mg mb hB) {cr : Addr} {rv : List Value} {row : List Int} {b c d : Int} {tb tc td : Tok} (hi : IntsAre rv row) (hlen : row.length = 8) (hrow : ∀ i, row.getD i 0 = 0 ∨ row.getD i 0 = 1) :
    ∀ (dp un : Nat) (fr : Option (List Env)) (gd : Option (List Code)) (s : Shared) (Q E : Value → Shared → Prop),
    KeptAll hB s.heap → dp + 1 < recursionLimit → un + 16 * 1 < cLine → IsTup s.heap cr rv.toArray → (∀ v h' tk', (∃ t, v = .int (bitsMade row b c d) t) → KeptAll s.heap h' → Q v { s with heap := h', toks := tk' }) →
    wpAny (model PySem.Challenge.pw_xm0973_01 w) (mkA dp un fr gd) (call (.ref 113) [.ref cr, .int b tb, .int c tc, .int d td]) Q E s := by
  intro dp un fr gd s Q E hk hd1 hu hT post
  w_on
  k_dflt (refine' enterF (binds := [("row", .ref cr), ("b", .int b tb), ("c", .int c tc), ("d", .int d td)]) X T hk [] ?hn ?ho ?hcd ?hroom ?hbind ?hloc ?_ ?c1 ?c2 ?c3 ?c4)
  case ho => k_is
  case hcd => k_is
  case hbind => exact BindsTo.of_eq rfl
  case hloc => exact locs rfl
  case c1 => decide
  case c2 => exact rfl
  case c3 => exact rfl
  case c4 => exact rfl
  case hroom => show dp < _; omega
  case hn => exact List.forall_mem_nil _
  intro g L' h₁ hg F N X' T'
  have hg' : ∀ b ob, b ∉ ([] : List Addr) → s.heap.get? b = some ob → g.get? b = some ob := hg
  clear hg
  have HT : IsTup g cr rv.toArray := by
    obtain ⟨o, e, q⟩ := hT
    exact ⟨o, hg' cr o (by simp) e, q⟩
  have hBk : Brk "pyIter ref" := True.intro
  have hBb : Brk "bits" := True.intro
  try dsimp only
  try k_fold
  k_steps
  unfold Stop
  rename Brk "pyIter ref" => hMk
  clear hMk
  rename IsRange _ _ _ _ _ _ _ _ => hRg
  rename Fr _ _ _ _ => F1
  rename News _ _ _ _ => N1
  k_dflt (refine' iterRange_acc1 (n := 32) (y := "made") (c₀ := 0) (fun a k => a + row.getD (rowIdx b c d k).toNat 0 * 2 ^ k.toNat) rfl hRg (by decide) rfl F1 N1 rfl ?_ ?_)
  · clear F1 N1
    intro k t a ta h tk own hk0 hk1 hoff F2 N2
    simp only [List.nil_append] at N2
    have hk2 : k < 32 := by simpa using hk1
    try dsimp only
    try k_fold
    repeat' (first | (k_unfold; (try dsimp only)) | (walk1 <;> (try dsimp only)))
  · clear F1 N1
    intro u t h tk F2 N2
    try dsimp only
    k_steps
    exact post_all (s := s) post hg' (by assumption) ⟨_, rfl⟩
end

section
variable {prog : Program} {w : World} {A : Around} {s : Shared} {hB : Heap} {K : Frag} {p : Program} {loose : List Str} {mean : ExcName → Option Value} {mg mb : Str → Option Value}
  {Q E : Value → Shared → Prop} {name qual : Str} {params : Arguments} {body : List Stmt} {scope : Scope} {dV kV doc pm cdv ct oc : Value} {an od : Option Addr} {osl : Array (Option Value)} {f : Addr} {args : List Value} {binds : List (Str × Value)}
theorem enterC (X : K.In hB) (T : Top p loose mean mg mb hB) (hk : KeptAll hB s.heap)
    (news : List (Addr × Obj)) (hn : ∀ p ∈ news, s.heap.get? p.1 = some p.2 ∧ hB.get? p.1 = none)
    (ho : K.lookup f = some ⟨oc, od, .func (fnOf name qual params body scope dV kV doc pm an cdv ct), osl⟩) (hcd : codeIn K cdv qual = true) (hroom : A.depth < recursionLimit)
    (hbind : BindsTo s (fnOf name qual params body scope dV kV doc pm an cdv ct) ⟨args, []⟩ binds)
    (hkind : (binds.all fun y => scope.names.lookup y.1 == some .local || scope.names.lookup y.1 == some .cell) = true) (hnd : ((cellsFrom 0 scope.names []).map (·.1)).Nodup)
    (h : ∀ g L' h₁ tk cells, (∀ b o, b ∉ news.map (·.1) → s.heap.get? b = some o → g.get? b = some o) → Fr g L' h₁ (bindL (envOfC qual scope L' f cdv).kindOf binds fun _ => none) → News g L' h₁ (cells ++ news) →
      CellsAre (bindC (envOfC qual scope L' f cdv).kindOf binds fun _ => none) (cellsFrom (L' + 1) scope.names []) cells → (∀ p ∈ news, p.1 < L') → K.In g → Top p loose mean mg mb g →
      wpAny (model prog w) (A.deeper (envOfC qual scope L' f cdv)) (execs body (envOfC qual scope L' f cdv))
        (fun fl s' => Q (match fl with | .ret v => v | _ => .none) s') (fun _ _ => False) { s with heap := h₁, toks := tk })
    (hco : scope.isCoroutine = false) (hgen : scope.isGenerator = false) (hkd : scope.kind = .function) :
    wpAny (model prog w) A (call (.ref f) args) Q E s := by
  have nm : ∀ b o, hB.get? b = some o → b ∉ news.map (·.1) := fun b o e q => by
    obtain ⟨p, hp, rfl⟩ := List.mem_map.mp q
    rw [(hn p hp).2] at e; cases e
  have st : ∀ b o, hB.get? b = some o → (hideAll s.heap (news.map (·.1))).get? b = some o := fun b o e => hideAll_get _ (hk b o e) (nm b o e)
  refine wpAny_call (codeAny_call_function (fd := fnOf name qual params body scope dV kV doc pm an cdv ct) hroom (hk _ _ (X _ _ ho)) rfl hco hgen rfl ((codeRec_of X hcd).keeps hk) (hbind _ _ _ _ ?_))
  refine wpAny_newFunctionEnv_cells hkd (kindsX hkind _) fun env' he s' x => ?_
  subst he
  refine ⟨(T.nolimit.keeps hk).keeps x.toInCall.keep, codeAny_func ?_⟩
  obtain ⟨h₁, tk, rfl, _⟩ := x.done
  have hk₁ := x.toInCall.keep
  obtain ⟨cells, NC, Y⟩ := Cl.news (h₀ := s.heap) (Nat.le_refl _) fun n c hm => ⟨x.cell n c (lookup_of_mem_nodup (cellsFrom_names scope.names 0 (s.heap.objs.size + 1) [] [] rfl ▸ hnd) hm), x.above n c hm⟩
  refine wpAny_mono (h (hideAll s.heap (news.map (·.1))) s.heap.objs.size h₁ tk cells (fun b o hb e => hideAll_get _ e hb) ⟨x.toInCall.ns, fun b o e => hk₁ b o (of_hideAll _ e), Nat.le_of_eq (hideAll_size _ _)⟩ (fun p hp => ?_) Y (fun p hp => Heap.lt_size (hn p hp).1) (X.keeps st) (T.keeps st)) (fun fl s' hl => hl) fun _ _ y => y.elim
  rcases List.mem_append.mp hp with hp | hp
  · refine ⟨(NC p hp).1, (NC p hp).2.1, ?_⟩
    cases q : (hideAll s.heap (news.map (·.1))).get? p.1 with
    | none => rfl
    | some o => have := of_hideAll _ q; rw [(NC p hp).2.2] at this; cases this
  · exact ⟨hk₁ _ _ (hn p hp).1, Nat.ne_of_lt (Heap.lt_size (hn p hp).1), hideAll_none _ (List.mem_map_of_mem hp)⟩
end

theorem news_new {g h h' : Heap} {L a : Addr} {m : Str → Option Value} {news : List (Addr × Obj)} {o : Obj} (F : Fr g L h m) (k : KeptAll h h') (N : News g L h' news) (ha : h.get? a = none) (hv : h'.get? a = some o) : News g L h' ((a, o) :: news) := fun p hp => by
  rcases List.mem_cons.mp hp with rfl | hp
  · refine ⟨hv, fun e => ?_, ?_⟩
    · obtain ⟨oL, _, _, hL, _⟩ := F.ns
      have e' : a = L := e
      rw [← e', ha] at hL; cases hL
    · cases q : g.get? a with
      | none => rfl
      | some o => have := F.keep _ _ q; rw [ha] at this; cases this
  · exact N p hp
theorem news_all {g h h' : Heap} {L : Addr} {news : List (Addr × Obj)} (k : KeptAll h h') (N : News g L h news) : News g L h' news := fun p hp => ⟨k _ _ (N p hp).1, (N p hp).2⟩

theorem round_K {w : World} {mean : ExcName → Option Value} {mg mb : Str → Option Value} {g : Heap} (X : (hd.heap_39 w.params).In g) (T : Top hd.view_39 (looseW hd.view_39 []) mean mg mb g) {way : Int} {tw : Tok} (hw : 0 ≤ way) (hw2 : way < 4)
    {dp un : Nat} {fr : Option (List Env)} {gd : Option (List Code)} {s : Shared} {Q E : Value → Shared → Prop} {L : Addr} {m : Str → Option Value} {news : List (Addr × Obj)}
    (F : Fr g L s.heap m) (N : News g L s.heap news) (hd1 : dp + 1 < recursionLimit) (hu : un + 16 * 1 < cLine)
    (h : ∀ (a c : Addr) (h' : Heap) (tk' : Nat) (rv : List Value) (n n' : Nat) (t1 t2 : Tok), IntsAre rv (rowL way) → Fr g L h' m → News g L h' ((a, tupO [.ref c, .int (rowFirst way) t1, .int (rowMore way) t2] n') :: (c, tupO rv n) :: news) →
      LCg.Off1 a news → LCg.Off1 c news → @Ne Nat a c → Q (.ref a) { s with heap := h', toks := tk' }) :
    wpAny (model PySem.Challenge.pw_xm0973_01 w) (mkA dp un fr gd) (call (.ref 106) [.int way tw]) Q E s :=
  round_spec X T hw hw2 dp un fr gd s Q E F.keep hd1 hu fun a c h' tk' rv n n' t1 t2 hi k ha hc hne hvc hva =>
    h a c h' tk' rv n n' t1 t2 hi (F.after k) (news_new F k (news_new F k (news_all k N) hc hvc) ha hva) (off1_of (h := h') ha N) (off1_of (h := h') hc N) hne

theorem rowL_len (way : Int) : (rowL way).length = 8 := by unfold rowL; split <;> (try split) <;> (try split) <;> rfl
theorem rowL_bits (way : Int) (i : Nat) : (rowL way).getD i 0 = 0 ∨ (rowL way).getD i 0 = 1 := by
  have key : ∀ l : List Int, (∀ x ∈ l, x = 0 ∨ x = 1) → l.getD i 0 = 0 ∨ l.getD i 0 = 1 := fun l hl => by
    rw [List.getD_eq_getElem?_getD]
    cases e : l[i]? with
    | none => exact .inl rfl
    | some x => exact hl x (List.mem_of_getElem? e)
  apply key
  unfold rowL
  split <;> (try split) <;> (try split) <;> decide
theorem bits_K {w : World} {mean : ExcName → Option Value} {mg mb : Str → Option Value} {g : Heap} (X : (hd.heap_39 w.params).In g) (T : Top hd.view_39 (looseW hd.view_39 []) mean mg mb g) {cr : Addr} {rv : List Value} {way : Int} {b c d : Int} {tb tc td : Tok} (hi : IntsAre rv (rowL way))
    {dp un : Nat} {fr : Option (List Env)} {gd : Option (List Code)} {s : Shared} {Q E : Value → Shared → Prop} {L : Addr} {m : Str → Option Value} {news : List (Addr × Obj)} {n : Nat}
    (F : Fr g L s.heap m) (N : News g L s.heap news) (hm : (cr, tupO rv n) ∈ news) (hd1 : dp + 1 < recursionLimit) (hu : un + 16 * 1 < cLine)
    (h : ∀ (t : Tok) (h' : Heap) (tk' : Nat), Fr g L h' m → News g L h' news → Q (.int (bitsMade (rowL way) b c d) t) { s with heap := h', toks := tk' }) :
    wpAny (model PySem.Challenge.pw_xm0973_01 w) (mkA dp un fr gd) (call (.ref 113) [.ref cr, .int b tb, .int c tc, .int d td]) Q E s :=
  bits_spec X T hi (rowL_len way) (rowL_bits way) dp un fr gd s Q E F.keep hd1 hu (News.isTup N hm) fun v h' tk' hv k => by
    obtain ⟨t, rfl⟩ := hv
    exact h t h' tk' (F.after k) (news_all k N)

local macro_rules | `(tactic| walk_at "call ref") => `(tactic| (k_here; (with_reducible show wpAny _ _ (call (Value.ref 40) [Value.int _ _, Value.int _ _, Value.int _ _, Value.int _ _]) _ _ _); k_dflt (refine' pureT_K (step_spec ?X ?T ?t1 ?t2) ?F ?N ?d ?u ?_; (case X => k_asm); (case T => k_asm); (case F => k_asm); (case N => k_asm); (case t1 => first | decide | assumption | omega); (case t2 => first | decide | assumption | omega); (case d => (try dsimp only [mkA, Around.deeper]); omega); (case u => (try dsimp only [mkA, Around.deeper]); omega); k_whole); intro a' h' tk' vs' n' hP' F' N' o1'; obtain ⟨t1', t2', hv'⟩ := hP'; subst hv'; (try simp only [LCg.Off1, and_true] at o1'); (try k_sweep)))

local macro_rules | `(tactic| walk_at "call ref") => `(tactic| (k_here; (with_reducible show wpAny _ _ (call (Value.ref 106) [Value.int _ _]) _ _ _); k_dflt (refine' round_K ?X ?T ?t1 ?t2 ?F ?N ?d ?u ?_; (case X => k_asm); (case T => k_asm); (case F => k_asm); (case N => k_asm); (case t1 => first | decide | assumption | omega); (case t2 => first | decide | assumption | omega); (case d => (try dsimp only [mkA, Around.deeper]); omega); (case u => (try dsimp only [mkA, Around.deeper]); omega); k_whole); intro a' c' h' tk' rv' n' n'' t1' t2' hi' F' N' o1' o2' ne'; (try simp only [LCg.Off1, and_true] at o1' o2'); (try k_sweep)))

local macro_rules | `(tactic| walk_at "call ref") => `(tactic| (k_here; (with_reducible show wpAny _ _ (call (Value.ref 113) [Value.ref _, Value.int _ _, Value.int _ _, Value.int _ _]) _ _ _); k_dflt (refine' bits_K ?X ?T ?hi ?F ?N ?hm ?d ?u ?_; (case X => k_asm); (case T => k_asm); (case F => k_asm); (case N => k_asm); (case hm => k_mem); (case hi => with_reducible assumption); (case d => (try dsimp only [mkA, Around.deeper]); omega); (case u => (try dsimp only [mkA, Around.deeper]); omega); k_whole); intro t' h' tk' F' N'; (try k_sweep)))

local macro_rules | `(tactic| walk_at "eval ListComp") => `(tactic| (k_here; (rename Brk "comp" => hMk); refine Stop.go ?_))

local macro_rules | `(tactic| walk_at "CompSrc") => `(tactic| (k_here; (rename Brk "comp" => hMk); refine Stop.go ?_))

local macro_rules | `(tactic| walk_at "CompEnd") => `(tactic| (k_here; (rename Brk "comp" => hMk); refine Stop.go ?_))

theorem news_pick2 {g h : Heap} {L : Addr} {news : List (Addr × Obj)} {p q : Addr × Obj} (N : News g L h news) (hp : p ∈ news) (hq : q ∈ news) : News g L h [p, q] := fun x hx => by
  rcases List.mem_cons.mp hx with rfl | hx
  · exact N _ hp
  · rw [List.mem_singleton.mp hx]; exact N _ hq

section
variable {prog : Program} {w : World} {A : Around} {h₀ : Heap} {L : Addr} {m : Str → Option Value} {env : Env} {elt : PySem.Expr} {x : Str} {scope : Scope} {cl : List (Str × Addr)} {s : Shared} {S : List (Addr × Obj) → Prop} {Fin : List Value → List (Addr × Obj) → Prop} {news : List (Addr × Obj)}
theorem comp_inv {n : Nat} {a : Int} (J : Nat → List Value → List (Addr × Obj) → Prop) (h0 : J 0 [] news)
    (turn : ∀ (i : Nat) (t : Tok) (I : Addr) (oI : Obj) (C : Addr) (oC : Obj) (D : Addr) (m₂ : Str → Option Value) (ys : List Value) (news₁ : List (Addr × Obj)) (h : Heap) (tk : Nat) (E' : Value → Shared → Prop), i < n → J i ys news₁ → LCg.NsObj oC m₂ → m₂ x = some (.int (a + (i : Int)) t) → Fr h₀ L h m →
      News h₀ L h ((I, oI) :: (C, oC) :: (D, LCg.lst ys) :: news₁) → LCg.Off3 I C D news₁ → ((@Ne Nat I C) ∧ (@Ne Nat I D) ∧ (@Ne Nat C D)) →
      wpAny (model prog w) A (eval elt (compEnvC scope cl C env)) (LCg.CompEnd h₀ L m { s with heap := h, toks := tk } I oI C oC D (LCg.lst ys) S (fun y news' => J (i + 1) (ys ++ [y]) news')) E' { s with heap := h, toks := tk })
    (fin : ∀ ys news₁, J n ys news₁ → Fin ys news₁) : LCg.CompRest prog w A h₀ L m env elt x scope cl s S (fun i v => ∃ t, v = .int (a + (i : Int)) t) Fin n 0 [] news := by
  have key : ∀ (j i : Nat) (ys : List Value) (nw : List (Addr × Obj)), i + j = n → J i ys nw → LCg.CompRest prog w A h₀ L m env elt x scope cl s S (fun i v => ∃ t, v = .int (a + (i : Int)) t) Fin j i ys nw := by
    intro j
    induction j with
    | zero =>
      intro i ys nw hi hJ
      have e : i = n := by omega
      subst e
      exact LCg.CompRest.zero (fin _ _ hJ)
    | succ j ih =>
      intro i ys nw hi hJ
      refine LCg.CompRest.succ ?_
      intro v I oI C oC D m₂ h tk E' hv hC hx F N off ne
      obtain ⟨t, rfl⟩ := hv
      refine wpAny_mono (turn i t I oI C oC D m₂ ys nw h tk E' (by omega) hJ hC hx F N off ne) (fun y s₂ hq => ?_) fun _ _ e => e
      obtain ⟨h', tk', nw', e, F', N', off', hS, hJ'⟩ := hq
      exact ⟨h', tk', nw', e, F', N', off', hS, ih (i + 1) _ _ (by omega) hJ'⟩
  exact key n 0 [] news (by omega) h0
end

theorem nat_or (x : Nat) : ∀ y : Nat, x + y = (x ||| y) + (x &&& y) := by
  induction x using Nat.strongRecOn with
  | _ x ih =>
    intro y
    by_cases hx : x = 0
    · subst hx; simp
    · have h := ih (x / 2) (by omega) (y / 2)
      rw [← Nat.or_div_two, ← Nat.and_div_two] at h
      have m1 : (x ||| y) % 2 = 1 ↔ x % 2 = 1 ∨ y % 2 = 1 := Nat.or_mod_two_eq_one
      have m2 : (x &&& y) % 2 = 1 ↔ x % 2 = 1 ∧ y % 2 = 1 := Nat.and_mod_two_eq_one
      omega
theorem nat_xor (x : Nat) : ∀ y : Nat, x + y = (x ^^^ y) + 2 * (x &&& y) := by
  induction x using Nat.strongRecOn with
  | _ x ih =>
    intro y
    by_cases hx : x = 0
    · subst hx; simp
    · have h := ih (x / 2) (by omega) (y / 2)
      rw [← Nat.xor_div_two, ← Nat.and_div_two] at h
      have m1 : (x ^^^ y) % 2 = 1 ↔ ¬(x % 2 = 1 ↔ y % 2 = 1) := Nat.xor_mod_two_eq_one
      have m2 : (x &&& y) % 2 = 1 ↔ x % 2 = 1 ∧ y % 2 = 1 := Nat.and_mod_two_eq_one
      omega
theorem and_n (x y : Nat) : PySem.Builtin.bitAnd (x : Int) (y : Int) = ((x &&& y : Nat) : Int) := by
  rw [bitAnd_pp (Int.natCast_nonneg _) (Int.natCast_nonneg _), Int.toNat_natCast, Int.toNat_natCast]
theorem or_n (x y : Nat) : PySem.Builtin.bitOr (x : Int) (y : Int) = ((x ||| y : Nat) : Int) := by
  rw [bitOr_and, and_n]
  have := nat_or x y
  omega
theorem xor_n (x y : Nat) : PySem.Builtin.bitXor (x : Int) (y : Int) = ((x ^^^ y : Nat) : Int) := by
  rw [bitXor_and, and_n]
  have := nat_xor x y
  omega
theorem nn_split (x y : Nat) (hy : y < 4294967296) : (x &&& y) + ((x ^^^ 4294967295) &&& y) = y := by
  have h := nat_or (x &&& y) ((x ^^^ 4294967295) &&& y)
  have e1 : (x &&& y) ||| ((x ^^^ 4294967295) &&& y) = y := by
    apply Nat.eq_of_testBit_eq
    intro k
    rw [Nat.testBit_or, Nat.testBit_and, Nat.testBit_and, Nat.testBit_xor, show (4294967295 : Nat) = 2 ^ 32 - 1 from rfl, Nat.testBit_two_pow_sub_one]
    by_cases hk : k < 32
    · cases x.testBit k <;> cases y.testBit k <;> simp [hk]
    · have : y < 2 ^ k := Nat.lt_of_lt_of_le hy (Nat.pow_le_pow_right (n := 2) (Nat.succ_pos 1) (Nat.le_of_not_lt hk))
      rw [Nat.testBit_lt_two_pow this]; simp
  have e2 : (x &&& y) &&& ((x ^^^ 4294967295) &&& y) = 0 := by
    apply Nat.eq_of_testBit_eq
    intro k
    rw [Nat.testBit_and, Nat.testBit_and, Nat.testBit_and, Nat.testBit_xor, show (4294967295 : Nat) = 2 ^ 32 - 1 from rfl, Nat.testBit_two_pow_sub_one, Nat.zero_testBit]
    by_cases hk : k < 32
    · cases x.testBit k <;> cases y.testBit k <;> simp [hk]
    · have : y < 2 ^ k := Nat.lt_of_lt_of_le hy (Nat.pow_le_pow_right (n := 2) (Nat.succ_pos 1) (Nat.le_of_not_lt hk))
      rw [Nat.testBit_lt_two_pow this]; simp
  rw [e1, e2] at h
  exact h
theorem notand_n (x y : Nat) (hy : y < 4294967296) : PySem.Builtin.bitAnd (PySem.Builtin.bitNot (x : Int)) (y : Int) = (((x ^^^ 4294967295) &&& y : Nat) : Int) := by
  rw [bitAnd_comm, bitAnd_not, bitAnd_comm, and_n]
  have := nn_split x y hy
  omega
theorem sum_bits (r : Nat) (G : Int → Int) : ∀ n : Nat, (∀ k : Nat, k < n → G k = ((r / 2 ^ k % 2 : Nat) : Int) * 2 ^ k) → (rangeKs 0 n).foldl (fun a k => a + G k) 0 = ((r % 2 ^ n : Nat) : Int)
  | 0, _ => by simp [rangeKs, Nat.mod_one]
  | n + 1, h => by
    have ih := sum_bits r G n fun k hk => h k (by omega)
    have e : rangeKs 0 (n + 1) = rangeKs 0 n ++ [(n : Int)] := by
      unfold rangeKs
      rw [List.range_succ, List.map_append]
      simp
    rw [e, List.foldl_append, ih]
    show _ + G n = _
    rw [h n (by omega), Nat.mod_pow_succ, Int.natCast_add, Int.natCast_mul, cast_pow2, Int.mul_comm]
theorem bits_of {row : List Int} {r b c d : Nat} (hr : r < 4294967296) (h : ∀ k : Nat, k < 32 → row.getD ((b.testBit k).toNat * 4 + (c.testBit k).toNat * 2 + (d.testBit k).toNat) 0 = ((r.testBit k).toNat : Int)) : bitsMade row b c d = (r : Int) := by
  have tb : ∀ x k : Nat, (x.testBit k).toNat = x / 2 ^ k % 2 := fun x k => by
    rw [Nat.testBit_eq_decide_div_mod_eq]
    have := Nat.mod_lt (x / 2 ^ k) (show (2 : Nat) > 0 by decide)
    rcases (show x / 2 ^ k % 2 = 0 ∨ x / 2 ^ k % 2 = 1 by omega) with e | e <;> rw [e] <;> rfl
  have fd : ∀ x k : Nat, ((x : Int).fdiv (2 ^ k)).fmod 2 = ((x / 2 ^ k % 2 : Nat) : Int) := fun x k => by
    rw [Int.fdiv_eq_ediv_of_nonneg _ (Int.le_of_lt (pow2_pos _)), Int.fmod_eq_emod_of_nonneg _ (by decide), ← cast_pow2]
    rfl
  unfold bitsMade
  rw [sum_bits r (fun k => row.getD (rowIdx b c d k).toNat 0 * 2 ^ k.toNat) 32]
  · rw [Nat.mod_eq_of_lt hr]
  · intro k hk
    have hh := h k hk
    simp only [tb] at hh
    have e : (rowIdx b c d (k : Int)).toNat = b / 2 ^ k % 2 * 4 + c / 2 ^ k % 2 * 2 + d / 2 ^ k % 2 := by
      unfold rowIdx
      rw [Int.toNat_natCast, fd, fd, fd]
      omega
    show row.getD (rowIdx b c d (k : Int)).toNat 0 * 2 ^ (k : Int).toNat = _
    rw [e, hh, Int.toNat_natCast]
theorem m_bit (k : Nat) (hk : k < 32) : (4294967295 : Nat).testBit k = true := by
  rw [show (4294967295 : Nat) = 2 ^ 32 - 1 from rfl, Nat.testBit_two_pow_sub_one]; simp [hk]
theorem and_lt (x y : Nat) (h : y < 4294967296) : x &&& y < 4294967296 := Nat.lt_of_le_of_lt Nat.and_le_right h
theorem or_lt (x y : Nat) (hx : x < 4294967296) (hy : y < 4294967296) : x ||| y < 4294967296 := Nat.or_lt_two_pow (n := 32) hx hy
theorem xor_lt (x y : Nat) (hx : x < 4294967296) (hy : y < 4294967296) : x ^^^ y < 4294967296 := Nat.xor_lt_two_pow (n := 32) hx hy
theorem step_law {way i b c d : Int} (hw : 0 ≤ way) (hw2 : way < 4) (hi : 0 ≤ i) (hi2 : i < 16) (hb : 0 ≤ b) (hb2 : b < 4294967296) (hc : 0 ≤ c) (hc2 : c < 4294967296) (hd : 0 ≤ d) (hd2 : d < 4294967296) :
    stepF (16 * way + i) b c d = bitsMade (rowL way) b c d ∧ stepI (16 * way + i) = (rowFirst way + rowMore way * i).fmod 16 := by
  obtain ⟨B, rfl⟩ := Int.eq_ofNat_of_zero_le hb
  obtain ⟨C, rfl⟩ := Int.eq_ofNat_of_zero_le hc
  obtain ⟨D, rfl⟩ := Int.eq_ofNat_of_zero_le hd
  have hB : B < 4294967296 := by omega
  have hC : C < 4294967296 := by omega
  have hD : D < 4294967296 := by omega
  have hM : (4294967295 : Nat) < 4294967296 := by decide
  have hwy : way = 0 ∨ way = 1 ∨ way = 2 ∨ way = 3 := by omega
  rcases hwy with rfl | rfl | rfl | rfl
  · refine ⟨?_, ?_⟩
    · rw [rowL_0 rfl]
      unfold stepF
      rw [if_pos (by omega), notand_n _ _ hD, and_n, or_n]
      refine (bits_of (or_lt _ _ (and_lt _ _ hC) (and_lt _ _ hD)) fun k hk => ?_).symm
      rw [Nat.testBit_or, Nat.testBit_and, Nat.testBit_and, Nat.testBit_xor, m_bit k hk]
      cases B.testBit k <;> cases C.testBit k <;> cases D.testBit k <;> rfl
    · unfold stepI rowFirst rowMore
      rw [if_pos (by omega), Int.fmod_eq_emod_of_nonneg _ (by decide)]
      simp only [if_true]
      omega
  · refine ⟨?_, ?_⟩
    · rw [rowL_1 rfl]
      unfold stepF
      rw [if_neg (by omega), if_pos (by omega), notand_n _ _ hC, and_n, or_n]
      refine (bits_of (or_lt _ _ (and_lt _ _ hB) (and_lt _ _ hC)) fun k hk => ?_).symm
      rw [Nat.testBit_or, Nat.testBit_and, Nat.testBit_and, Nat.testBit_xor, m_bit k hk]
      cases B.testBit k <;> cases C.testBit k <;> cases D.testBit k <;> rfl
    · unfold stepI rowFirst rowMore
      rw [if_neg (by omega), if_pos (by omega), Int.fmod_eq_emod_of_nonneg _ (by decide), Int.fmod_eq_emod_of_nonneg _ (by decide)]
      simp only [Int.reduceEq, if_true, if_false]
      omega
  · refine ⟨?_, ?_⟩
    · rw [rowL_2 rfl]
      unfold stepF
      rw [if_neg (by omega), if_neg (by omega), if_pos (by omega), xor_n, xor_n]
      refine (bits_of (xor_lt _ _ (xor_lt _ _ hB hC) hD) fun k hk => ?_).symm
      rw [Nat.testBit_xor, Nat.testBit_xor]
      cases B.testBit k <;> cases C.testBit k <;> cases D.testBit k <;> rfl
    · unfold stepI rowFirst rowMore
      rw [if_neg (by omega), if_neg (by omega), if_pos (by omega), Int.fmod_eq_emod_of_nonneg _ (by decide), Int.fmod_eq_emod_of_nonneg _ (by decide)]
      simp only [Int.reduceEq, if_true, if_false]
      omega
  · refine ⟨?_, ?_⟩
    · rw [rowL_3 (by decide) (by decide) (by decide)]
      unfold stepF
      rw [if_neg (by omega), if_neg (by omega), if_neg (by omega), show (4294967295 : Int) = ((4294967295 : Nat) : Int) from rfl, notand_n _ _ hM, or_n, xor_n]
      refine (bits_of (xor_lt _ _ hC (or_lt _ _ hB (and_lt _ _ hM))) fun k hk => ?_).symm
      rw [Nat.testBit_xor, Nat.testBit_or, Nat.testBit_and, Nat.testBit_xor, m_bit k hk]
      cases B.testBit k <;> cases C.testBit k <;> cases D.testBit k <;> rfl
    · unfold stepI rowFirst rowMore
      rw [if_neg (by omega), if_neg (by omega), if_neg (by omega), Int.fmod_eq_emod_of_nonneg _ (by decide), Int.fmod_eq_emod_of_nonneg _ (by decide)]
      simp only [Int.reduceEq, if_true, if_false]
      omega

theorem ints_snoc {ys : List Value} {i : Nat} {G : Nat → Int} {y : Int} {t : Tok} (hy : IntsAre ys ((List.range i).map G)) (e : y = G i) : IntsAre (ys ++ [.int y t]) ((List.range (i + 1)).map G) := by
  subst e
  rw [List.range_succ, List.map_append]
  exact IntsAre.append hy (.cons _ t .nil)
theorem sixteen {way : Int} {ns : List Int} (hw : 0 ≤ way) (hw2 : way < 4) (hp : ns.Perm ((List.range 16).map (fun j : Nat => stepI (16 * way + (j : Int))))) (hs : ns.Pairwise (· ≤ ·)) : ns = [0, 1, 2, 3, 4, 5, 6, 7, 8, 9, 10, 11, 12, 13, 14, 15] := by
  have hq : ((List.range 16).map (fun j : Nat => stepI (16 * way + (j : Int)))).Perm [0, 1, 2, 3, 4, 5, 6, 7, 8, 9, 10, 11, 12, 13, 14, 15] := by
    have : way = 0 ∨ way = 1 ∨ way = 2 ∨ way = 3 := by omega
    rcases this with rfl | rfl | rfl | rfl <;> decide +kernel
  exact List.Perm.eq_of_pairwise (le := (· ≤ ·)) (fun a b _ _ h1 h2 => Int.le_antisymm h1 h2) hs (by decide) (hp.trans hq)
theorem step_no {way i b c d : Int} (hw : 0 ≤ way) (hw2 : way < 4) (hi : 0 ≤ i) (hi2 : i < 16) (hb : 0 ≤ b) (hb2 : b < 2 ^ Int.toNat 32) (hc : 0 ≤ c) (hc2 : c < 2 ^ Int.toNat 32) (hd : 0 ≤ d) (hd2 : d < 2 ^ Int.toNat 32)
    (h : (stepF (16 * way + i) b c d == bitsMade (rowL way) b c d && stepI (16 * way + i) == (rowFirst way + rowMore way * i).fmod 16) = false) : False := by
  have e : (2 : Int) ^ Int.toNat 32 = 4294967296 := by decide
  rw [e] at hb2 hc2 hd2
  have hs := step_law hw hw2 hi hi2 hb hb2 hc hc2 hd hd2
  rw [hs.1, hs.2] at h
  simp at h
section
variable {w : World} {mean : ExcName → Option Value} {mg mb : Str → Option Value} {hB : Heap}
theorem steps_spec (X : (hd.heap_39 w.params).In hB) (T : Top hd.view_39 (looseW hd.view_39 []) mean mg mb hB) {r : Addr} {way : Int} {tw : Tok} (hw : 0 ≤ way) (hw2 : way < 4) :
    Draws w hB r 118 5 [.ref r, .int way tw] (fun _ => True) (fun v => v = .bool true) := by
  intro dp un fr gd s Q E x y tx ty n hk hr hr0 hd1 hu hR _ post
  w_on
  k_dflt (refine' enterC (binds := [("reel", .ref r), ("way", .int way tw)]) X T hk [(r, RO x y tx ty n)] ?hn ?ho ?hcd ?hroom ?hbind ?hkind ?hnd ?_ ?c2 ?c3 ?c4)
  case ho => k_is
  case hcd => k_is
  case hbind => exact BindsTo.of_eq rfl
  case hkind => exact rfl
  case hnd => decide +kernel
  case c2 => exact rfl
  case c3 => exact rfl
  case c4 => exact rfl
  case hroom => show dp < _; omega
  case hn => intro p hp; rw [List.mem_singleton.mp hp]; exact ⟨hr, hr0⟩
  intro g L' h' tk' cells' hg F' N' Y' l1 X' T'
  have hg' : ∀ b ob, b ∉ [r] → s.heap.get? b = some ob → g.get? b = some ob := hg
  clear hg
  (try k_lt l1)
  k_cells Y'
  (try simp only [List.cons_append, List.nil_append] at N')
  (try dsimp only)
  have hBk : Brk "comp" := True.intro
  repeat' (first | (k_unfold; (try dsimp only)) | (walk1 <;> (try dsimp only)))
  rotate_left
  · exfalso
    k_dflt (refine' step_no (way := way) hw hw2 ?h1 ?h2 ?h3 ?h4 ?h5 ?h6 ?h7 ?h8 ?h)
    case h => assumption
    all_goals assumption
  unfold Stop
  rename Brk "comp" => hMk
  rename News _ _ _ _ => N1
  rename Fr _ _ _ _ => F1
  have N2 := news_pick2 (p := (L' + 1, _)) (q := (r, RO _ _ _ _ _)) N1 (by k_mem) (by k_mem)
  clear N1
  obtain ⟨m1, F2⟩ : ∃ m1, Fr g L' _ m1 := ⟨_, F1⟩
  clear F1
  k_dflt (refine LCg.ListComp_U (F₀ := F2) (by with_unfolding_all rfl) (by decide) (by rfl) (by decide) (by rfl) ?_)
  repeat' (first | (k_unfold; (try dsimp only)) | (walk1 <;> (try dsimp only)))
  unfold Stop
  rename Brk "comp" => hMk
  rename IsRange _ _ _ _ _ _ _ _ => hRg
  rename News _ _ _ _ => N3
  rename Fr _ _ _ _ => F3
  k_dflt (refine LCg.CompSrc.range (n := 16) rfl F3 N3 hRg (by decide) rfl (Nat.le_of_ble_eq_true rfl) ?_)
  intro g'
  k_dflt (refine comp_inv (fun i ys nw => nw = _ ∧ IntsAre ys ((List.range i).map (fun j : Nat => stepI (16 * way + (j : Int))))) ⟨rfl, .nil⟩ ?_ ?_)
  · clear F3 N3 hRg
    rintro i t I oI C oC D m₂ ys nw h tk E' hi ⟨rfl, hy⟩ hC hx F4 N4 off ne
    have off0 := off
    simp only [LCg.Off3, and_true] at off
    try dsimp only
    repeat' (first | (k_unfold; (try dsimp only)) | (walk1 <;> (try dsimp only)))
    unfold Stop
    refine' LCg.CompEnd.intro (by assumption) (by assumption) _ (fun p hp => List.mem_cons_of_mem _ hp) off0 True.intro ⟨rfl, ints_snoc hy (by rw [Int.zero_add])⟩
  · clear F3 N3 hRg
    rintro ys nw ⟨rfl, hy⟩
    iterate 2 (first | (k_unfold; (try dsimp only)) | (walk1 <;> (try dsimp only)))
    rename News _ _ _ _ => N3
    rename Fr _ _ _ _ => F3
    have hlen : ys.length = 16 := by rw [hy.length]; simp
    k_dflt (refine sorted_N F3 N3 (News.isList N3 (by k_mem)) hy (by rw [hlen]; decide) ?_)
    intro h5 vs5 ns5 e5 F5 N5 hI5 hp5 hs5
    clear F3 N3
    clear hy
    try dsimp only
    have h16 := sixteen hw hw2 hp5 hs5
    subst h16
    clear hp5 hs5
    iterate 12 (first | (k_unfold; (try dsimp only)) | (walk1 <;> (try dsimp only)))
    rename News _ _ _ _ => N6
    rename Fr _ _ _ _ => F6
    rename IsRange _ _ _ _ _ _ _ _ => hRg
    k_dflt (refine kll_range (n := 16) rfl F6 N6 hRg (by decide) rfl (by decide) ?_)
    intro D7 us7 c7 h7 tk7 F7 N7 l7 hI7
    clear F6 N6 hRg
    try dsimp only
    walk1
    try dsimp only
    exact post_close (s := s) post hg' F7 N7 (by k_mem) (congrArg Value.bool (by decide)) (by assumption)
end

-- bytes of bytes, bytes of an int; bytes unpacked
section
variable {prog : Program} {w : World} {A : Around} {E : Value → Shared → Prop} {s : Shared}
theorem bb_lookup : typeLookup (.type "bytes") "__bytes__" = pure (some (.builtin "bytes.__bytes__")) := by rw [typeLookup_type, builtinLookup_eq_fast]; kernel_rfl
theorem bi_lookup : typeLookup (.type "int") "__bytes__" = pure none := by rw [typeLookup_type, builtinLookup_eq_fast]; kernel_rfl
theorem bytes_new_bytes {b : Array UInt8} {t : Tok} {Q : Value → Shared → Prop} (h : Q (.bytes b t) s) :
    codeAny (model prog w) A (.call (.builtin "bytes.__new__") ⟨[.type "bytes", .bytes b t], []⟩) (wants Q E) s := by
  refine codeAny_of_tree ?_
  show wpAny _ A.in1 (do checkBuiltinCall "bytes.__new__" ⟨[.type "bytes", .bytes b t], []⟩; again (.builtin "bytes.__new__" ⟨[.type "bytes", .bytes b t], []⟩)) _ _ s
  refine wpAny_bind (wpAny_of_eq (F.bm_newCall _) (wpAny_pure ⟨plainId_quiet F.bm_plain _, codeAny_builtin F.bm_entry ?_⟩))
  rw [Around.under_plainId F.bm_plain _]
  unfold Builtin.«bytes.__new__»
  refine wpAny_bind (wpAny_of_eq (a := true) rfl ?_)
  refine bm_if_false rfl ?_
  refine wpAny_bind (wpAny_of_eq F.bm_sub ?_)
  refine bm_if_false rfl ?_
  refine wpAny_bind (wpAny_of_eq (F.bm_bind _) ?_)
  refine wpAny_bind (wpAny_of_eq (a := ()) rfl ?_)
  refine wpAny_bind (wpAny_of_eq (a := ()) rfl ?_)
  refine bm_if_false rfl ?_
  refine wpAny_bind (wpAny_specialOf (PySem.W.typeIs_bytes s b t) bb_lookup ?_)
  dsimp only
  refine wpAny_bind (wpAny_rule ?_)
  refine wpAny_bind (wpAny_typeOf (PySem.W.typeIs_bytes s b t) ?_)
  refine bm_if_true rfl ?_
  show wpAny _ _ (if (Value.type "bytes" == Value.type "bytes") = true then _ else _) _ _ _
  refine bm_if_true (by decide) ?_
  first
    | exact wpAny_pure h
    | exact wpAny_bind (wpAny_pure (wpAny_pure h))
theorem call_bytes_bytes {b : Array UInt8} {t : Tok} {Q : Value → Shared → Prop} (h : Q (.bytes b t) s) : wpAny (model prog w) A (call (.type "bytes") [.bytes b t]) Q E s := by
  refine callType_codes (Q₁ := fun obj s₁ => s₁.TypeIs obj "bytes" ∧ Q obj s₁) F.bm_called (F.bm_typeCall _) F.entry_object_init
    (bytes_new_bytes ⟨PySem.W.typeIs_bytes _ _ _, h⟩) fun obj s₁ h₁ => ?_
  exact ⟨h₁.1, F.args_object_init_2 obj _, object_init_meets F.bm_called.init.lookup F.bm_called.made (by decide) prog w A.in1 _ s₁ ⟨h₁.1, rfl, h₁.2⟩⟩

theorem bytes_new_int {n : Int} {t : Tok} {Q : Value → Shared → Prop} (h0 : 0 ≤ n) (h1 : n ≤ 1000000) (h : ∀ t' k, Q (.bytes (Array.replicate n.toNat 0) t') { s with toks := k }) :
    codeAny (model prog w) A (.call (.builtin "bytes.__new__") ⟨[.type "bytes", .int n t], []⟩) (wants Q E) s := by
  refine codeAny_of_tree ?_
  show wpAny _ A.in1 (do checkBuiltinCall "bytes.__new__" ⟨[.type "bytes", .int n t], []⟩; again (.builtin "bytes.__new__" ⟨[.type "bytes", .int n t], []⟩)) _ _ s
  refine wpAny_bind (wpAny_of_eq (F.bm_newCall _) (wpAny_pure ⟨plainId_quiet F.bm_plain _, codeAny_builtin F.bm_entry ?_⟩))
  rw [Around.under_plainId F.bm_plain _]
  unfold Builtin.«bytes.__new__»
  refine wpAny_bind (wpAny_of_eq (a := true) rfl ?_)
  refine bm_if_false rfl ?_
  refine wpAny_bind (wpAny_of_eq F.bm_sub ?_)
  refine bm_if_false rfl ?_
  refine wpAny_bind (wpAny_of_eq (F.bm_bind _) ?_)
  refine wpAny_bind (wpAny_of_eq (a := ()) rfl ?_)
  refine wpAny_bind (wpAny_of_eq (a := ()) rfl ?_)
  refine bm_if_false rfl ?_
  refine wpAny_bind (wpAny_specialOf (typeIs_int s n t) bi_lookup ?_)
  dsimp only
  refine wpAny_bind (wpAny_of_eq (a := false) rfl ?_)
  refine bm_if_false rfl ?_
  refine wpAny_bind (wpAny_specialOf (typeIs_int s n t) F.slot_int_index.lookup ?_)
  refine bm_if_false rfl ?_
  refine wpAny_bind (wpAny_attempt (wpAny_of_eq (rfl : asIndex (.int n t) = pure n) ?_))
  dsimp only
  have a1 : Builtin.Bytes.fitsIndex n = true := by simp only [Builtin.Bytes.fitsIndex, Bool.and_eq_true, decide_eq_true_eq]; omega
  have a2 : Builtin.Bytes.tooLong n.toNat = false := by simp only [Builtin.Bytes.tooLong, decide_eq_false_iff_not]; rw [sizeLine_eq]; omega
  refine bm_if_false (by rw [a1]; rfl) ?_
  rw [if_neg (show ¬ n < 0 by omega)]
  rw [if_neg (show ¬ n > 2 ^ 63 - 34 by omega)]
  refine bm_if_false a2 ?_
  refine wpAny_bind (wpAny_rule ?_)
  refine wpAny_bind (wpAny_mkBytes ?_ (by rw [Array.size_replicate, sizeLine_eq]; omega))
  show wpAny _ _ (if (Value.type "bytes" == Value.type "bytes") = true then _ else _) _ _ _
  refine bm_if_true (by decide) ?_
  first
    | exact wpAny_pure (h _ _)
    | exact wpAny_bind (wpAny_pure (wpAny_pure (h _ _)))
theorem call_bytes_int {n : Int} {t : Tok} {Q : Value → Shared → Prop} (h0 : 0 ≤ n) (h1 : n ≤ 1000000) (h : ∀ t' k, Q (.bytes (Array.replicate n.toNat 0) t') { s with toks := k }) : wpAny (model prog w) A (call (.type "bytes") [.int n t]) Q E s := by
  refine callType_codes (Q₁ := fun obj s₁ => s₁.TypeIs obj "bytes" ∧ Q obj s₁) F.bm_called (F.bm_typeCall _) F.entry_object_init
    (bytes_new_int h0 h1 fun t' k => ⟨PySem.W.typeIs_bytes _ _ _, h t' k⟩) fun obj s₁ h₁ => ?_
  exact ⟨h₁.1, F.args_object_init_2 obj _, object_init_meets F.bm_called.init.lookup F.bm_called.made (by decide) prog w A.in1 _ s₁ ⟨h₁.1, rfl, h₁.2⟩⟩

theorem draw_bytes {it : Addr} {b : Array UInt8} {t : Tok} : ∀ (n i : Nat) (s : Shared) (Q : List Value → Shared → Prop), KBw.IsBytesIter s.heap it b t i → i + n ≤ b.size →
    (∀ h' tk vs, KBw.IsBytesIter h' it b t (i + n) → Heap.SameBut it s.heap h' → IntsAre vs (((KBw.bInts b).drop i).take n) → Q vs { s with heap := h', toks := tk }) → wpAny (model prog w) A (draw (.ref it) n) Q E s
  | 0, i, s, Q, hit, _, hQ => by
    show wpAny _ _ (pure []) Q E s
    exact wpAny_pure (hQ s.heap s.toks [] (by simpa using hit) (Heap.SameBut.refl ..) (by simpa using IntsAre.nil))
  | n + 1, i, s, Q, hit, hle, hQ => by
    have hlt : i < b.size := by omega
    show wpAny _ _ (pyNext (.ref it) >>= _) Q E s
    refine wpAny_bind (KBw.next_item hit (c := b[i]) (by simp [hlt]) fun h₁ hit₁ hs₁ => ?_)
    refine wpAny_bind (wpAny_holding (draw_bytes n (i + 1) _ _ hit₁ (by omega) fun h₂ tk vs hit₂ hs₂ hv => wpAny_pure ?_))
    refine hQ h₂ tk _ (by rw [show i + (n + 1) = i + 1 + n by omega]; exact hit₂) (hs₁.trans hs₂) ?_
    have e : (KBw.bInts b)[i]? = some (b[i].toNat : Int) := KBw.ints_get (by simp [hlt])
    have hd : (KBw.bInts b).drop i = (b[i].toNat : Int) :: (KBw.bInts b).drop (i + 1) := by
      have hl : i < (KBw.bInts b).length := by rw [KBw.ints_length]; exact hlt
      rw [List.drop_eq_getElem_cons hl]
      congr 1
      rw [List.getElem?_eq_getElem hl] at e
      exact Option.some.inj e
    rw [hd, List.take_succ_cons]
    exact .cons _ _ hv

theorem unpack_bytes {g : Heap} {L : Addr} {m : Str → Option Value} {news : List (Addr × Obj)} {b : Array UInt8} {t : Tok} {n : Nat} {Q : List Value → Shared → Prop} (F : Fr g L s.heap m) (N : News g L s.heap news) (hh : A.handled = none) (hn : n = b.size)
    (hQ : ∀ h' tk vs, Fr g L h' m → News g L h' news → IntsAre vs (KBw.bInts b) → Q vs { s with heap := h', toks := tk }) : wpAny (model prog w) A (unpackItems (.bytes b t) n none) Q E s := by
  subst hn
  unfold unpackItems
  refine wpAny_bind ?_
  unfold notIterableAtAll
  refine wpAny_bind (wpAny_specialOf (PySem.W.typeIs_bytes s b t) FB.slot_bytes_iter.lookup ?_)
  refine wpAny_pure ?_
  simp only [Bool.false_eq_true, if_false]
  refine wpAny_bind (wpAny_holding (KBw.pyIter_bytes ?_))
  refine wpAny_bind (wpAny_holding (draw_bytes b.size 0 _ _ ⟨_, Heap.get?_push_size _ rfl, rfl, rfl⟩ (by omega) fun h₁ tk vs hit₁ hs₁ hv => ?_))
  rw [List.drop_zero, List.take_of_length_le (by rw [KBw.ints_length]; exact Nat.le_refl _)] at hv
  rw [if_neg (by rw [hv.length, KBw.ints_length]; exact Nat.lt_irrefl _)]
  refine wpAny_bind (wpAny_holding (KBw.next_end hh hit₁ (by simp) fun h₂ he₂ => ?_))
  simp only [Option.isSome_none, Bool.false_eq_true, if_false]
  have he : Heap.ExtBut s.heap.objs.size s.heap h₂ := fun b o hb e => he₂ b o hb (hs₁.extBut b o hb (Heap.get?_push_of_some _ e))
  exact wpAny_pure (hQ h₂ tk vs (F.extBut he (Nat.le_refl _)) (N.extBut he (Nat.le_refl _)) hv)
end

local macro_rules | `(tactic| walk_at "call type:bytes") => `(tactic| (k_here; (with_reducible show wpAny _ _ (call (Value.type "bytes") [Value.bytes _ _]) _ _ _); (refine call_bytes_bytes ?_)))

theorem bInts_rep (n : Nat) : KBw.bInts (Array.replicate n 0) = List.replicate n 0 := by simp [KBw.bInts]
theorem bytes_int_K {prog : Program} {w : World} {A : Around} {E : Value → Shared → Prop} {s : Shared} {n : Int} {t : Tok} {Q : Value → Shared → Prop} (h0 : 0 ≤ n) (h1 : n ≤ 1000000) (h : ∀ (b' : Array UInt8) (t' : Tok) (k : Nat), KBw.bInts b' = List.replicate n.toNat 0 → Q (.bytes b' t') { s with toks := k }) : wpAny (model prog w) A (call (.type "bytes") [.int n t]) Q E s :=
  call_bytes_int h0 h1 fun t' k => h _ t' k (bInts_rep _)

local macro_rules | `(tactic| walk_at "call type:bytes") => `(tactic| (k_here; (with_reducible show wpAny _ _ (call (Value.type "bytes") [Value.int _ _]) _ _ _); (refine bytes_int_K ?k0 ?k1 ?_; (case k0 => first | assumption | omega); (case k1 => first | assumption | omega); intro b' t' tk' hbi')))

local macro_rules | `(tactic| walk_at "call type:bytes") => `(tactic| (k_here; (rename Brk "comp" => hMk); (with_reducible show wpAny _ _ (call (Value.type "bytes") [Value.ref _]) _ _ _); refine Stop.go ?_))

local macro_rules | `(tactic| walk_at "binaryOp Add bytes bytes") => `(tactic| (k_here; (refine' KBa.add_K ?kb ?kc ?kz ?_; (case kb => first | kba_ints | exact KBw.ints_list _); (case kc => first | kba_ints | exact KBw.ints_list _); (case kz => (simp only [List.length_append, List.length_map, List.length_replicate, List.length_cons, List.length_nil, List.length_range]; omega)); intro t' k' hadd')))

def padMany (n : Int) : Int := (64 - 9 - n).fmod 64
def lenByte (n : Int) (j : Nat) : Int := PySem.Builtin.bitAnd (((8 * n).fmod (2 ^ Int.toNat 64)).fdiv (2 ^ (8 * (j : Int)).toNat)) 255
theorem lenByte_in (n : Int) (m : Nat) : KBa.In ((List.range m).map (lenByte n)) := fun x hx => by
  obtain ⟨j, _, rfl⟩ := List.mem_map.mp hx
  have := bitAnd_range (((8 * n).fmod (2 ^ Int.toNat 64)).fdiv (2 ^ (8 * (j : Int)).toNat)) (y := 255) (by decide)
  unfold lenByte
  omega
def filledL (ks : List Int) : List Int := ks ++ [128] ++ List.replicate (padMany ks.length).toNat 0 ++ (List.range 8).map (lenByte ks.length)

section
variable {w : World} {mean : ExcName → Option Value} {mg mb : Str → Option Value} {hB : Heap}
theorem filled_spec (X : (hd.heap_39 w.params).In hB) (T : Top hd.view_39 (looseW hd.view_39 []) mean mg mb hB) {b : Array UInt8} {tb : Tok} {ks : List Int} (hks : KBw.bInts b = ks) (hn : ks.length ≤ 1000) :
    Pure w hB 26 2 [.bytes b tb] (fun v => ∃ b' t', v = .bytes b' t' ∧ KBw.bInts b' = filledL ks) := by
  intro dp un fr gd s Q E hk hd1 hu post
  w_on
  k_dflt (refine' enterC (binds := [("octets", .bytes b tb)]) X T hk [] ?hn ?ho ?hcd ?hroom ?hbind ?hkind ?hnd ?_ ?c2 ?c3 ?c4)
  case ho => k_is
  case hcd => k_is
  case hbind => exact BindsTo.of_eq rfl
  case hkind => exact rfl
  case hnd => decide +kernel
  case c2 => exact rfl
  case c3 => exact rfl
  case c4 => exact rfl
  case hroom => show dp < _; omega
  case hn => exact List.forall_mem_nil _
  intro g L' h' tk' cells' hg F' N' Y' l1 X' T'
  have hg' : ∀ b ob, b ∉ ([] : List Addr) → s.heap.get? b = some ob → g.get? b = some ob := hg
  clear hg
  (try k_lt l1)
  k_cells Y'
  (try simp only [List.cons_append, List.nil_append] at N')
  (try dsimp only)
  have hBk : Brk "comp" := True.intro
  have hp0 : 0 ≤ (64 - 9 - (ks.length : Int)).fmod 64 := Int.fmod_nonneg_of_pos _ (by decide)
  have hp1 : (64 - 9 - (ks.length : Int)).fmod 64 < 64 := Int.fmod_lt_of_pos _ (by decide)
  repeat' (first | (k_unfold; (try dsimp only)) | (walk1 <;> (try dsimp only)))
  unfold Stop
  rename Brk "comp" => hMk
  rename News _ _ _ _ => N1
  rename Fr _ _ _ _ => F1
  obtain ⟨m1, F2⟩ : ∃ m1, Fr g L' _ m1 := ⟨_, F1⟩
  clear F1
  k_dflt (refine LCg.ListComp_U (F₀ := F2) (by with_unfolding_all rfl) (by decide) (by rfl) (by decide) (by rfl) ?_)
  repeat' (first | (k_unfold; (try dsimp only)) | (walk1 <;> (try dsimp only)))
  unfold Stop
  rename Brk "comp" => hMk
  rename IsRange _ _ _ _ _ _ _ _ => hRg
  rename News _ _ _ _ => N3
  rename Fr _ _ _ _ => F3
  k_dflt (refine LCg.CompSrc.range (n := 8) rfl F3 N3 hRg (by decide) rfl (Nat.le_of_ble_eq_true rfl) ?_)
  intro g'
  k_dflt (refine comp_inv (fun i ys nw => nw = _ ∧ IntsAre ys ((List.range i).map (lenByte ks.length))) ⟨rfl, .nil⟩ ?_ ?_)
  · clear F3 N3 hRg
    rintro i t I oI C oC D m₂ ys nw h tk E' hi ⟨rfl, hy⟩ hC hx F4 N4 off ne
    have off0 := off
    simp only [LCg.Off3, and_true] at off
    try dsimp only
    repeat' (first | (k_unfold; (try dsimp only)) | (walk1 <;> (try dsimp only)))
    unfold Stop
    refine' LCg.CompEnd.intro (by assumption) (by assumption) _ (fun p hp => hp) off0 True.intro ⟨rfl, ints_snoc hy (by unfold lenByte; rw [Int.zero_add])⟩
  · clear F3 N3 hRg
    rintro ys nw ⟨rfl, hy⟩
    repeat' (first | (k_unfold; (try dsimp only)) | (walk1 <;> (try dsimp only)))
    unfold Stop
    rename News _ _ _ _ => N3
    rename Fr _ _ _ _ => F3
    k_dflt (refine KBa.make_K F3 N3 rfl (News.isList N3 (by k_mem)) hy (lenByte_in _ 8) (by simp) ?_)
    intro h5 t5 k5 F5 N5 hin5
    clear F3 N3
    have hb5 := KBa.ints_make hin5
    try dsimp only
    repeat' (first | (k_unfold; (try dsimp only)) | (walk1 <;> (try dsimp only)))
    rename KBw.bInts (_ ++ _ ++ _ ++ _) = _ => hadd
    exact post_all (s := s) post hg' F5 ⟨_, _, rfl, hadd⟩
end

abbrev IntIn (lo hi : Int) (v : Value) : Prop := ∃ (i : Int) (t : Tok), v = .int i t ∧ lo ≤ i ∧ i < hi
def OneHi (_ : Int) : Prop := True
theorem one_int {w : World} {mean : ExcName → Option Value} {mg mb : Str → Option Value} {hB : Heap} (X : (hd.heap_39 w.params).In hB) (T : Top hd.view_39 (looseW hd.view_39 []) mean mg mb hB) {r a : Addr} {vs : List Value} (hne : @Ne Nat a r) (h0 : 0 < vs.length) (h1 : vs.length ≤ 4294967296)
    {hi : Int} (ho1 : OneHi hi) (ha : ∀ x ∈ vs, IntIn 0 hi x) : Draws w hB r 68 2 [.ref r, .ref a] (fun h => h.IsList a vs.toArray) (IntIn 0 hi) := fun dp un fr gd s Q E x y tx ty n a1 a2 a3 a4 a5 a6 a7 post =>
  one_spec X T hne h0 h1 dp un fr gd s Q E x y tx ty n a1 a2 a3 a4 a5 a6 a7 fun v x' y' tx' ty' n' h' tk' hP => post v x' y' tx' ty' n' h' tk' (ha v hP)

local macro_rules | `(tactic| walk_at "call ref") => `(tactic| (k_here; (with_reducible show wpAny _ _ (call (Value.ref 68) [Value.ref _, Value.ref _]) _ _ _); (rename OneHi _ => hOH); k_dflt (refine' draws_K (one_int ?X ?T ?ne ?t1 ?t2 hOH ?all) ?F ?N ?U ?d ?u ?R ?need ?_; (case X => k_asm); (case T => k_asm); (case F => k_asm); (case N => k_asm); (case U => k_updF); (case need => exact News.isList (by k_asm) (by k_mem)); (case ne => first | assumption | (refine Ne.symm ?_; assumption) | k_ne); (case t1 => simp only [List.length_cons]; omega); (case t2 => simp only [List.length_cons, List.length_nil]; omega); (case d => (try dsimp only [mkA, Around.deeper]); omega); (case u => (try dsimp only [mkA, Around.deeper]); omega); (case R => assumption); (case all => ((repeat' (first | exact List.forall_mem_nil _ | refine List.forall_mem_cons.mpr ⟨⟨_, _, rfl, ?_, ?_⟩, ?_⟩)); all_goals omega)); k_whole); intro v' x' y' tx' ty' n' h' tk' hP' hR' F' N'; obtain ⟨i', t', hv', hi0', hi1'⟩ := hP'; subst hv'; (try dsimp only at N'); (try k_sweep)))

local macro_rules | `(tactic| walk_at "call ref") => `(tactic| (k_here; (with_reducible show wpAny _ _ (call (Value.ref 26) [Value.bytes _ _]) _ _ _); k_dflt (refine' pure_K (filled_spec ?X ?T ?t1 ?t2) ?F ?N ?d ?u ?_; (case X => k_asm); (case T => k_asm); (case F => k_asm); (case N => k_asm); (case t1 => assumption); (case t2 => omega); (case d => (try dsimp only [mkA, Around.deeper]); omega); (case u => (try dsimp only [mkA, Around.deeper]); omega); k_whole); intro v' h' tk' hP' F' N'; obtain ⟨b', t', hv', hfil'⟩ := hP'; subst hv'; (try k_sweep)))

theorem filled_len (ks : List Int) : ((filledL ks).length : Int) = ks.length + 9 + padMany ks.length := by
  have h0 : 0 ≤ padMany ks.length := Int.fmod_nonneg_of_pos _ (by decide)
  unfold filledL
  simp only [List.length_append, List.length_cons, List.length_nil, List.length_replicate, List.length_map, List.length_range]
  omega
theorem filled_facts (ks : List Int) : ((filledL ks).length : Int).fmod 64 = 0 ∧ (ks.length : Int) + 9 ≤ (filledL ks).length ∧ ((filledL ks).length : Int) < ks.length + 73 ∧ (filledL ks).length < ks.length + 73 := by
  have hl := filled_len ks
  have h0 : 0 ≤ padMany ks.length := Int.fmod_nonneg_of_pos _ (by decide)
  have h1 : padMany ks.length < 64 := Int.fmod_lt_of_pos _ (by decide)
  refine ⟨?_, by omega, by omega, by omega⟩
  have hq : padMany ks.length = (55 - (ks.length : Int)) % 64 := by
    unfold padMany
    rw [Int.fmod_eq_emod_of_nonneg _ (by decide)]
    omega
  rw [hl, hq, Int.fmod_eq_emod_of_nonneg _ (by decide)]
  omega
theorem take_filled (ks : List Int) : List.take (min ks.length (filledL ks).length) (filledL ks) = ks := by
  have hl := (filled_facts ks).2.1
  rw [Nat.min_eq_left (by omega)]
  unfold filledL
  rw [List.append_assoc, List.append_assoc, List.take_left]
theorem get_filled (ks : List Int) : (filledL ks).getD (ks.length : Int).toNat 0 = 128 := by
  unfold filledL
  rw [Int.toNat_natCast, List.append_assoc, List.append_assoc, List.getD_eq_getElem?_getD, List.getElem?_append_right (Nat.le_refl _), Nat.sub_self]
  rfl
theorem sum_rep : ∀ n : Nat, (List.replicate n (0 : Int)).sum = 0
  | 0 => rfl
  | n + 1 => by rw [List.replicate_succ, List.sum_cons, sum_rep n]; rfl
theorem sum_filled (ks : List Int) : (List.take (clipAt (filledL ks).length (-8) - clipAt (filledL ks).length (ks.length + 1)) (List.drop (clipAt (filledL ks).length (ks.length + 1)) (filledL ks))).sum = 0 := by
  have hl := filled_len ks
  have h0 : 0 ≤ padMany ks.length := Int.fmod_nonneg_of_pos _ (by decide)
  have c1 : clipAt (filledL ks).length (-8) = ks.length + 1 + (padMany ks.length).toNat := by unfold clipAt; omega
  have c2 : clipAt (filledL ks).length (ks.length + 1) = ks.length + 1 := by unfold clipAt; omega
  rw [c1, c2, Nat.add_sub_cancel_left]
  have e : filledL ks = (ks ++ [128]) ++ (List.replicate (padMany ks.length).toNat 0 ++ (List.range 8).map (lenByte ks.length)) := by
    unfold filledL; rw [List.append_assoc]
  have hlen : ks.length + 1 = (ks ++ [128]).length := by simp
  rw [e, hlen, List.drop_left]
  rw [List.take_append_of_le_length (by simp), List.take_of_length_le (by simp)]
  exact sum_rep _
theorem elt_last (ks : List Int) {i : Nat} (hi : i < 8) : (filledL ks).getD (0 + (i : Int) - 8 + ((filledL ks).length : Int)).toNat 0 * 256 ^ (0 + (i : Int)).toNat = lenByte ks.length i * 256 ^ i := by
  have hl := filled_len ks
  have h0 : 0 ≤ padMany ks.length := Int.fmod_nonneg_of_pos _ (by decide)
  have hp : (0 + (i : Int)).toNat = i := by omega
  have e : filledL ks = (ks ++ [128] ++ List.replicate (padMany ks.length).toNat 0) ++ (List.range 8).map (lenByte ks.length) := rfl
  have hz : (ks ++ [128] ++ List.replicate (padMany ks.length).toNat 0).length = ks.length + 1 + (padMany ks.length).toNat := by simp; omega
  have hx : (0 + (i : Int) - 8 + ((filledL ks).length : Int)).toNat = (ks ++ [128] ++ List.replicate (padMany ks.length).toNat 0).length + i := by rw [hz]; omega
  rw [hp, hx, e, List.getD_eq_getElem?_getD, List.getElem?_append_right (Nat.le_add_right _ _), Nat.add_sub_cancel_left]
  simp [hi]
theorem lenByte_eq {n : Int} (h0 : 0 ≤ n) (h : n < 1000) (j : Nat) : lenByte n j = (8 * n / 2 ^ (8 * j)) % 256 := by
  unfold lenByte
  have e : (8 * (j : Int)).toNat = 8 * j := by omega
  have e2 : (2 : Int) ^ Int.toNat 64 = 18446744073709551616 := by decide
  have e3 : (8 * n) % 18446744073709551616 = 8 * n := Int.emod_eq_of_lt (by omega) (by omega)
  rw [bitAnd_m8, e, e2, Int.fmod_eq_emod_of_nonneg _ (by decide), e3, Int.fdiv_eq_ediv_of_nonneg _ (Int.le_of_lt (pow2_pos _))]
theorem sum_last (ks : List Int) (h : ks.length < 1000) : ((List.range 8).map (fun j : Nat => lenByte ks.length j * 256 ^ j)).sum = 8 * (ks.length : Int) := by
  have h0 : (0 : Int) ≤ ks.length := Int.natCast_nonneg _
  have h1 : (ks.length : Int) < 1000 := by omega
  generalize (ks.length : Int) = n at *
  have e : List.range 8 = [0, 1, 2, 3, 4, 5, 6, 7] := by decide
  rw [e]
  simp only [List.map_cons, List.map_nil, List.sum_cons, List.sum_nil, lenByte_eq h0 h1]
  simp only [Nat.reduceMul, Int.reducePow]
  omega
theorem bInts_inj {p o : Array UInt8} (h : KBw.bInts p = KBw.bInts o) : p.toList = o.toList := by
  unfold KBw.bInts at h
  exact List.map_inj_right (f := fun c : UInt8 => ((c.toNat : Nat) : Int)) (fun a b e => UInt8.toNat_inj.mp (Int.ofNat_inj.mp e)) |>.mp h
theorem pick_ne {p o : Array UInt8} {ks : List Int} (hp : KBw.bInts p = List.take (min ks.length (filledL ks).length) (filledL ks)) (ho : KBw.bInts o = ks) (h : (p.toList != o.toList) = true) : False := by
  rw [take_filled] at hp
  rw [bInts_inj (hp.trans ho.symm)] at h
  simp at h
theorem in_snoc {ks : List Int} {v : Int} (h : KBa.In ks) (hv : 0 ≤ v ∧ v < 256) : KBa.In (ks ++ [v]) := fun x hx => by
  rcases List.mem_append.mp hx with hx | hx
  · exact h x hx
  · rw [List.mem_singleton.mp hx]; exact hv
theorem news_pick3 {g h : Heap} {L : Addr} {news : List (Addr × Obj)} {p q u : Addr × Obj} (N : News g L h news) (hp : p ∈ news) (hq : q ∈ news) (hu : u ∈ news) : News g L h [p, q, u] := fun x hx => by
  rcases List.mem_cons.mp hx with rfl | hx
  · exact N _ hp
  · exact news_pick2 N hq hu x hx
section
variable {w : World} {mean : ExcName → Option Value} {mg mb : Str → Option Value} {hB : Heap}
theorem fright_spec (X : (hd.heap_39 w.params).In hB) (T : Top hd.view_39 (looseW hd.view_39 []) mean mg mb hB) {r : Addr} :
    Draws w hB r 94 5 [.ref r] (fun _ => True) (fun v => v = .bool true) := by
  intro dp un fr gd s Q E x y tx ty n hk hr hr0 hd1 hu hR _ post
  w_on
  k_dflt (refine' enterC (binds := [("reel", .ref r)]) X T hk [(r, RO x y tx ty n)] ?hn ?ho ?hcd ?hroom ?hbind ?hkind ?hnd ?_ ?c2 ?c3 ?c4)
  case ho => k_is
  case hcd => k_is
  case hbind => exact BindsTo.of_eq rfl
  case hkind => exact rfl
  case hnd => decide +kernel
  case c2 => exact rfl
  case c3 => exact rfl
  case c4 => exact rfl
  case hroom => show dp < _; omega
  case hn => intro p hp; rw [List.mem_singleton.mp hp]; exact ⟨hr, hr0⟩
  intro g L' h' tk' cells' hg F' N' Y' l1 X' T'
  have hg' : ∀ b ob, b ∉ [r] → s.heap.get? b = some ob → g.get? b = some ob := hg
  clear hg
  (try k_lt l1)
  k_cells Y'
  (try simp only [List.cons_append, List.nil_append] at N')
  (try dsimp only)
  have hBk : Brk "comp" := True.intro
  have hOne : OneHi 71 := True.intro
  repeat' (first | (k_unfold; (try dsimp only)) | (walk1 <;> (try dsimp only)))
  unfold Stop
  rename Brk "comp" => hMk
  rename_i x1 y1 tx1 ty1 n1 hh1 tk1 hR1 mn tm hm0 hm1 hh2 F1 N1
  obtain ⟨k, rfl⟩ := Int.eq_ofNat_of_zero_le hm0
  have hk71 : k < 71 := by omega
  have N2 := news_pick3 (p := (L' + 1 + 1, _)) (q := (L' + 1, _)) (u := (r, RO _ _ _ _ _)) N1 (by k_mem) (by k_mem) (by k_mem)
  clear N1
  k_dflt (refine LCg.ListComp_U (F₀ := F1) (by with_unfolding_all rfl) (by decide) (by rfl) (by decide) (by rfl) ?_)
  repeat' (first | (k_unfold; (try dsimp only)) | (walk1 <;> (try dsimp only)))
  unfold Stop
  rename Brk "comp" => hMk
  rename IsRange _ _ _ _ _ _ _ _ => hRg
  rename News _ _ _ _ => N3
  rename Fr _ _ _ _ => F3
  rename OneHi _ => hOH
  clear hOH
  have hOne : OneHi 256 := True.intro
  k_dflt (refine LCg.CompSrc.range (n := k) rfl F3 N3 hRg (small_one (by decide) (by decide) (by omega) (by omega)) (by rw [rangeSize_nat]; simp) (by rw [sizeLine_eq]; omega) ?_)
  intro g'
  k_dflt (refine comp_inv (fun i ys nw => ∃ x y tx ty n ks, nw = [(L' + 1 + 1, _), (L' + 1, _), (r, RO x y tx ty n)] ∧ Reel x y ∧ IntsAre ys ks ∧ KBa.In ks ∧ ks.length = i) ⟨_, _, _, _, _, [], rfl, hR1, .nil, (fun _ h => nomatch h), rfl⟩ ?_ ?_)
  · clear F3 N3 hRg
    rintro i t I oI C oC D m₂ ys nw h tk E' hi ⟨x2, y2, tx2, ty2, n2, ks2, rfl, hR2, hy, hin, hlen⟩ hC hx F4 N4 off ne
    have off0 := off
    simp only [LCg.Off3, and_true] at off
    try dsimp only
    repeat' (first | (k_unfold; (try dsimp only)) | (walk1 <;> (try dsimp only)))
    unfold Stop
    rename_i x3 y3 tx3 ty3 n3 h3 tk3 hR3 F5 N5 v3 tv3 hv0 hv1
    refine' LCg.CompEnd.intro F5 N5 [(L' + 1 + 1, _), (L' + 1, _), (r, RO x3 y3 tx3 ty3 n3)] ?sub off0 True.intro ⟨x3, y3, tx3, ty3, n3, ks2 ++ [v3], rfl, hR3, IntsAre.append hy (.cons _ _ .nil), in_snoc hin ⟨hv0, hv1⟩, by simp [hlen]⟩
    case sub => lcg_sub
  · clear F3 N3 hRg
    rintro ys nw ⟨x2, y2, tx2, ty2, n2, ks, rfl, hR2, hy, hin, hlen⟩
    repeat' (first | (k_unfold; (try dsimp only)) | (walk1 <;> (try dsimp only)))
    unfold Stop
    rename News _ _ _ _ => N6
    rename Fr _ _ _ _ => F6
    subst hlen
    k_dflt (refine KBa.make_K F6 N6 rfl (News.isList N6 (by k_mem)) hy hin (by omega) ?_)
    intro h7 t7 k7 F7 N7 _
    have hb7 := KBa.ints_make hin
    clear F6 N6
    obtain ⟨hF1, hF2, hF3, hF4⟩ := filled_facts ks
    try dsimp only
    repeat' (first | (k_unfold; (try dsimp only)) | (walk1 <;> (try dsimp only)))
    · exfalso; contradiction
    · exfalso; exact pick_ne (by assumption) hb7 (by assumption)
    · exfalso; have hG := get_filled ks; contradiction
    · exfalso; have hS := sum_filled ks; contradiction
    unfold Stop
    rename Brk "comp" => hMk
    rename News _ _ _ _ => N8
    rename Fr _ _ _ _ => F8
    have N9 := news_pick3 (p := (L' + 1 + 1, _)) (q := (L' + 1, _)) (u := (r, RO _ _ _ _ _)) N8 (by k_mem) (by k_mem) (by k_mem)
    clear N8
    k_dflt (refine LCg.ListComp_U (F₀ := F8) (by with_unfolding_all rfl) (by decide) (by rfl) (by decide) (by rfl) ?_)
    repeat' (first | (k_unfold; (try dsimp only)) | (walk1 <;> (try dsimp only)))
    unfold Stop
    rename Brk "comp" => hMk
    rename IsRange _ _ _ _ _ _ _ _ => hRg
    rename News _ _ _ _ => N3
    rename Fr _ _ _ _ => F3
    k_dflt (refine LCg.CompSrc.range (n := 8) rfl F3 N3 hRg (by decide) rfl (Nat.le_of_ble_eq_true rfl) ?_)
    intro g''
    k_dflt (refine comp_inv (fun i ys nw => nw = _ ∧ IntsAre ys ((List.range i).map (fun j : Nat => lenByte ks.length j * 256 ^ j))) ⟨rfl, .nil⟩ ?_ ?_)
    · clear F3 N3 hRg
      rintro i t I oI C oC D m₂ ys nw h tk E' hi ⟨rfl, hy⟩ hC hx F4 N4 off ne
      have off0 := off
      simp only [LCg.Off3, and_true] at off
      try dsimp only
      repeat' (first | (k_unfold; (try dsimp only)) | (walk1 <;> (try dsimp only)))
      unfold Stop
      refine' LCg.CompEnd.intro F4 N4 _ (fun p hp => hp) off0 True.intro ⟨rfl, ints_snoc (G := fun j : Nat => lenByte ks.length j * 256 ^ j) hy (elt_last ks hi)⟩
    · clear F3 N3 hRg
      rintro ys nw ⟨rfl, hy⟩
      iterate 2 (first | (k_unfold; (try dsimp only)) | (walk1 <;> (try dsimp only)))
      rename News _ _ _ _ => N10
      rename Fr _ _ _ _ => F10
      k_dflt (refine sumK rfl F10 N10 (News.isList N10 (by k_mem)) hy ?_)
      intro h11 tk11 t11 F11 N11
      clear F10 N10
      rw [sum_last ks (by omega)]
      try dsimp only
      repeat' (first | (k_unfold; (try dsimp only)) | (walk1 <;> (try dsimp only)))
      exact post_close (s := s) post hg' (by assumption) (by assumption) (by k_mem) (congrArg Value.bool (beq_self_eq_true _)) hR2
end

def wordAt (ks : List Int) (i : Nat) : Int :=
  PySem.Builtin.bitOr (PySem.Builtin.bitOr (PySem.Builtin.bitOr (ks.getD (4 * i) 0) (ks.getD (4 * i + 1) 0 * 2 ^ Int.toNat 8)) (ks.getD (4 * i + 2) 0 * 2 ^ Int.toNat 16)) (ks.getD (4 * i + 3) 0 * 2 ^ Int.toNat 24)
def wordsL (ks : List Int) : List Int := (List.range 16).map (wordAt ks)

section
variable {prog : Program} {w : World} {A : Around} {E : Value → Shared → Prop} {s : Shared} {env : Env} {h₀ : Heap} {x : Str} {body : List Stmt} {Q : Flow → Shared → Prop}
theorem iter_stepN {r : Addr} {a₀ b₀ c : Int} {t₀ u₀ v₀ : Tok} {n : Nat} {m₀ : Str → Option Value} {news : List (Addr × Obj)} (J : Nat → (Str → Option Value) → List (Addr × Obj) → Prop)
    (hh : A.handled = none) (hr : IsRange s.heap r a₀ b₀ c t₀ u₀ v₀) (hsmall : Builtin.Range.small a₀ b₀ c = true) (hn : Builtin.Range.rangeSize a₀ b₀ c = (n : Int)) (F : Fr h₀ env.locals s.heap m₀) (N : News h₀ env.locals s.heap news) (hj : J 0 m₀ news)
    (turn : ∀ i t m₁ news₁ h tk own, i < n → OwnOff own (news.map (·.1)) → J i m₁ news₁ → Fr h₀ env.locals h (fun y => if y = x then some (.int (a₀ + (i : Int) * c) t) else m₁ y) → News h₀ env.locals h (news₁ ++ own) →
      wpAny (model prog w) A (execs body env) (InvPostN h₀ env.locals (J (i + 1)) own (news.map (·.1)) { s with heap := h, toks := tk } Q) E { s with heap := h, toks := tk })
    (done : ∀ m₁ news₁ h tk, J n m₁ news₁ → Fr h₀ env.locals h m₁ → News h₀ env.locals h news₁ → Q .next { s with heap := h, toks := tk }) :
    wpAny (model prog w) A (pyIter (.ref r)) (fun it s₂ => LoopAtV prog w A h₀ env x body Q E it s₂) E s := by
  refine wpAny_pyIter_range hr hsmall ?_
  have W : Walks prog w A s.heap.objs.size [s.heap.objs.size] [s.heap.objs.size] n (fun i v => i < n ∧ ∃ t, v = .int (a₀ + i * c) t)
      (fun i h => IsRangeIter h s.heap.objs.size (a₀ + (i : Nat) * c) ((n : Int) - (i : Nat)) c) := (Walks.range hh _ a₀ c n).bound
  refine loop_invN J W ?_ ?_ ?_ ?_ (by show IsRangeIter _ _ _ _ _; rw [hn]; simpa using Heap.get?_push_size _ rfl) (F.push _) (fun p hp => ⟨Heap.get?_push_of_some _ (N p hp).1, (N p hp).2⟩) hj ?_ ?_
  · intro hm
    exact absurd F.ns.lt ((List.mem_singleton.mp hm) ▸ Nat.lt_irrefl _)
  · intro b' hb
    rw [List.mem_singleton.mp hb]
    exact next_is_new F
  · intro p hp hI
    exact absurd (Heap.lt_size (N p hp).1) ((List.mem_singleton.mp hI) ▸ Nat.lt_irrefl _)
  · intro p hp hI
    exact absurd (Heap.lt_size (N p hp).1) ((List.mem_singleton.mp hI) ▸ Nat.lt_irrefl _)
  · rintro i v m₁ news₁ h tk own hi ⟨_, t, rfl⟩ _ hoff hJ F₁ N₁
    exact turn i t m₁ news₁ h tk own hi hoff hJ F₁ N₁
  · exact done
end

theorem unpack_K {prog : Program} {w : World} {A : Around} {E : Value → Shared → Prop} {s : Shared} {env : Env} {g : Heap} {L : Addr} {m : Str → Option Value} {news : List (Addr × Obj)} {elts : List Expr} {k : Nat} {pos : Pos} {b : Array UInt8} {t : Tok} {ks : List Int} {i : Nat} {Q : Unit → Shared → Prop}
    (F : Fr g L s.heap m) (N : News g L s.heap news) (hh : A.handled = none) (hn : (assignEach elts env).length = 4) (hstar : (assignEach elts env).findIdx? (·.1) = none)
    (hb : KBw.bInts b = List.take (clipAt ks.length (0 + (i : Int) * 4 + 4) - clipAt ks.length (0 + (i : Int) * 4)) (List.drop (clipAt ks.length (0 + (i : Int) * 4)) ks)) (hl : ks.length = 64) (hi : i < 16) (hin : KBa.In ks)
    (h : ∀ h' tk t0 t1 t2 t3, Fr g L h' m → News g L h' news → (0 ≤ ks.getD (4 * i) 0 ∧ ks.getD (4 * i) 0 < 256) → (0 ≤ ks.getD (4 * i + 1) 0 ∧ ks.getD (4 * i + 1) 0 < 256) → (0 ≤ ks.getD (4 * i + 2) 0 ∧ ks.getD (4 * i + 2) 0 < 256) → (0 ≤ ks.getD (4 * i + 3) 0 ∧ ks.getD (4 * i + 3) 0 < 256) →
      wpAny (model prog w) A (assignInOrder ((assignEach elts env).map (·.2)) [.int (ks.getD (4 * i) 0) t0, .int (ks.getD (4 * i + 1) 0) t1, .int (ks.getD (4 * i + 2) 0) t2, .int (ks.getD (4 * i + 3) 0) t3]) Q E { s with heap := h', toks := tk }) :
    wpAny (model prog w) A (assign (.Tuple elts k pos) env (.bytes b t)) Q E s := by
  have hg : ∀ j, 0 ≤ ks.getD j 0 ∧ ks.getD j 0 < 256 := fun j => by
    rw [List.getD_eq_getElem?_getD]
    rcases Nat.lt_or_ge j ks.length with hj | hj
    · rw [List.getElem?_eq_getElem hj]; exact hin _ (List.getElem_mem hj)
    · rw [List.getElem?_eq_none hj]; decide
  have c1 : clipAt ks.length (0 + (i : Int) * 4 + 4) = 4 * i + 4 := by unfold clipAt; omega
  have c2 : clipAt ks.length (0 + (i : Int) * 4) = 4 * i := by unfold clipAt; omega
  rw [c1, c2, Nat.add_sub_cancel_left] at hb
  have hb' : KBw.bInts b = [ks.getD (4 * i) 0, ks.getD (4 * i + 1) 0, ks.getD (4 * i + 2) 0, ks.getD (4 * i + 3) 0] := by
    rw [hb]
    refine List.ext_getElem? fun j => ?_
    rcases j with _ | _ | _ | _ | j <;> simp [List.getElem?_take, List.getElem?_drop, List.getD_eq_getElem?_getD] <;>
      first | omega | (rw [List.getElem?_eq_getElem (by omega)]; rfl)
  have hsz : 4 = b.size := by
    have := KBw.ints_length b
    rw [hb'] at this
    exact this
  rw [assign_Tuple]
  refine wpAny_bind (wpAny_standAt ?_)
  unfold unpack
  rw [hn, hstar]
  refine wpAny_bind (wpAny_holding (unpack_bytes F N hh hsz fun h' tk vs F' N' hv => ?_))
  rw [hb'] at hv
  obtain _ | ⟨_, t0, hv⟩ := hv
  obtain _ | ⟨_, t1, hv⟩ := hv
  obtain _ | ⟨_, t2, hv⟩ := hv
  obtain _ | ⟨_, t3, hv⟩ := hv
  obtain _ | _ := hv
  exact h h' tk t0 t1 t2 t3 F' N' (hg _) (hg _) (hg _) (hg _)

local macro_rules | `(tactic| walk_at "assign Tuple") => `(tactic| (k_here; (with_reducible show wpAny _ _ (assign (Expr.Tuple _ _ _) _ (Value.bytes _ _)) _ _ _); k_dflt (refine' unpack_K ?k1 ?k2 ?k3 ?k4 ?k5 ?k6 ?k7 ?k8 ?k9 ?_; (case k1 => k_asm); (case k2 => k_asm); (case k3 => exact rfl); (case k4 => exact rfl); (case k5 => exact rfl); (case k6 => assumption); (case k7 => assumption); (case k8 => assumption); (case k9 => assumption); k_whole); intro h' tk' t0' t1' t2' t3' F' N' hq0' hq1' hq2' hq3'; (try k_sweep)))

def BJ (D : Addr) (m₀ : Str → Option Value) (ks : List Int) (i : Nat) (m : Str → Option Value) (nx : List (Addr × Obj)) : Prop :=
  (∃ vs n, nx = [(D, listOf (List.toArray vs) n)] ∧ IntsAre vs ((List.range i).map (wordAt ks))) ∧ ∀ z : Str, z ≠ "place" → z ≠ "a" → z ≠ "b" → z ≠ "c" → z ≠ "d" → m z = m₀ z
theorem bj_init {D : Addr} {m₀ : Str → Option Value} {ks : List Int} : BJ D m₀ ks 0 m₀ [(D, listOf #[] 0)] := ⟨⟨[], 0, rfl, .nil⟩, fun _ _ _ _ _ _ => rfl⟩
theorem bj_map {m₀ m : Str → Option Value} (h : ∀ z : Str, z ≠ "place" → z ≠ "a" → z ≠ "b" → z ≠ "c" → z ≠ "d" → m z = m₀ z) :
    m = fun z : Str => if z = "place" then m "place" else if z = "a" then m "a" else if z = "b" then m "b" else if z = "c" then m "c" else if z = "d" then m "d" else m₀ z := by
  funext z
  by_cases h1 : z = "place"
  · rw [h1]; rfl
  by_cases h2 : z = "a"
  · rw [h2]; rfl
  by_cases h3 : z = "b"
  · rw [h3]; rfl
  by_cases h4 : z = "c"
  · rw [h4]; rfl
  by_cases h5 : z = "d"
  · rw [h5]; rfl
  rw [if_neg h1, if_neg h2, if_neg h3, if_neg h4, if_neg h5]
  exact h z h1 h2 h3 h4 h5

theorem bj_end {g h : Heap} {L D : Addr} {m₀ m' : Str → Option Value} {ks : List Int} {i n tk : Nat} {us : List Value} {own : List (Addr × Obj)} {s₁ : Shared} (F : Fr g L h m') (N : News g L h ((D, listOf us.toArray n) :: own))
    (hv : IntsAre us ((List.range i).map (wordAt ks))) (hm : ∀ z : Str, z ≠ "place" → z ≠ "a" → z ≠ "b" → z ≠ "c" → z ≠ "d" → m' z = m₀ z) : InvEndN g L (BJ D m₀ ks i) own [D] s₁ { s₁ with heap := h, toks := tk } :=
  InvEndN.intro F N (nx := [(D, listOf us.toArray n)]) ⟨⟨_, _, rfl, hv⟩, hm⟩ rfl (fun p hp => by rw [List.mem_singleton.mp hp]; exact .head _) (fun p hp => .tail _ hp)

local macro_rules | `(tactic| walk_at "InvEndN") => `(tactic| (k_here; (rename Brk "inv" => hMk); refine Stop.go ?_))

section
variable {w : World} {mean : ExcName → Option Value} {mg mb : Str → Option Value} {hB : Heap}
theorem words_spec (X : (hd.heap_39 w.params).In hB) (T : Top hd.view_39 (looseW hd.view_39 []) mean mg mb hB) {b : Array UInt8} {tb : Tok} {ks : List Int} (hks : KBw.bInts b = ks) (hn : ks.length = 64) (hin : KBa.In ks) :
    ∀ (dp un : Nat) (fr : Option (List Env)) (gd : Option (List Code)) (s : Shared) (Q E : Value → Shared → Prop),
    KeptAll hB s.heap → dp + 1 < recursionLimit → un + 16 * 1 < cLine →
    (∀ (a : Addr) (h' : Heap) (tk' : Nat) (vs : List Value) (n : Nat), IntsAre vs (wordsL ks) → KeptAll s.heap h' → s.heap.get? a = none → h'.get? a = some (listOf vs.toArray n) → Q (.ref a) { s with heap := h', toks := tk' }) →
    wpAny (model PySem.Challenge.pw_xm0973_01 w) (mkA dp un fr gd) (call (.ref 33) [.bytes b tb]) Q E s := by
  intro dp un fr gd s Q E hk hd1 hu post
  w_on
  k_dflt (refine' enterF (binds := [("block", .bytes b tb)]) X T hk [] ?hn ?ho ?hcd ?hroom ?hbind ?hloc ?_ ?c1 ?c2 ?c3 ?c4)
  case ho => k_is
  case hcd => k_is
  case hbind => exact BindsTo.of_eq rfl
  case hloc => exact locs rfl
  case c1 => decide
  case c2 => exact rfl
  case c3 => exact rfl
  case c4 => exact rfl
  case hroom => show dp < _; omega
  case hn => exact List.forall_mem_nil _
  intro g L' h₁ hg F N X' T'
  have hg' : ∀ b ob, b ∉ ([] : List Addr) → s.heap.get? b = some ob → g.get? b = some ob := hg
  clear hg
  have hBk : Brk "pyIter ref" := True.intro
  have hBi : Brk "inv" := True.intro
  try dsimp only
  try k_fold
  repeat' (first | (k_unfold; (try dsimp only)) | (walk1 <;> (try dsimp only)))
  unfold Stop
  rename Brk "pyIter ref" => hMk
  clear hMk
  rename IsRange _ _ _ _ _ _ _ _ => hRg
  rename Fr _ _ _ _ => F1
  rename News _ _ _ _ => N1
  k_dflt (refine iter_stepN (n := 16) (BJ _ _ ks) rfl hRg (by decide) (by decide) F1 N1 bj_init ?_ ?_)
  · clear F1 N1 hRg
    intro i t m₁ nx h tk own hi hoff hJ F2 N2
    obtain ⟨⟨vs, n, rfl, hv⟩, hm⟩ := hJ
    rw [bj_map (m := m₁) hm] at F2
    simp only [List.cons_append, List.nil_append] at N2
    have hofn := hoff.ne (.head _)
    have hlv : vs.toArray.size ≤ sizeLine := by
      rw [sizeLine_eq]
      have := hv.length
      rw [List.length_map, List.length_range] at this
      rw [List.size_toArray]
      omega
    try dsimp only
    repeat' (first | (k_unfold; (try dsimp only)) | (walk1 <;> (try dsimp only)))
    rename Fr _ _ _ _ => F3
    rename News _ _ _ _ => N3
    k_dflt (refine append_K F3 N3 (Upd.head hofn) ?_ hlv)
    intro h4 F4 N4
    clear F3 N3
    rw [List.push_toArray] at N4
    try dsimp only
    repeat' (first | (k_unfold; (try dsimp only)) | (walk1 <;> (try dsimp only)))
    unfold Stop
    refine bj_end F4 N4 (ints_snoc hv rfl) ?_
    intro z h1 h2 h3 h4 h5
    rw [if_neg h5, if_neg h4, if_neg h3, if_neg h2, if_neg h1]
    show (if z = "place" then _ else _) = _
    rw [if_neg h1, if_neg h2, if_neg h3, if_neg h4, if_neg h5]
  · clear F1 N1 hRg
    intro m₁ nx h tk hJ F2 N2
    obtain ⟨⟨vs, n, rfl, hv⟩, hm⟩ := hJ
    rw [bj_map (m := m₁) hm] at F2
    try dsimp only
    repeat' (first | (k_unfold; (try dsimp only)) | (walk1 <;> (try dsimp only)))
    have hv' : IntsAre vs (wordsL ks) := hv
    have nn := (N2 _ (.head _)).2.2
    refine post _ h tk vs n hv' (ret_all hg' F2) ?_ (N2 _ (.head _)).1
    cases e : s.heap.get? _ with
    | none => rfl
    | some o => exact absurd (hg' _ o List.not_mem_nil e) (by rw [nn]; exact fun q => nomatch q)
end

theorem or_disj {x b : Int} {p : Nat} (hx : 0 ≤ x) (h : x < 2 ^ p) (hb : 0 ≤ b) : PySem.Builtin.bitOr x (b * 2 ^ p) = x + b * 2 ^ p := by
  rw [bitOr_and]
  obtain ⟨m, rfl⟩ := Int.eq_ofNat_of_zero_le hx
  obtain ⟨k, rfl⟩ := Int.eq_ofNat_of_zero_le hb
  have hm : m < 2 ^ p := by rw [← cast_pow2] at h; exact Int.ofNat_lt.mp h
  have e1 : (k : Int) * 2 ^ p = ((k * 2 ^ p : Nat) : Int) := by rw [Int.natCast_mul, cast_pow2]
  rw [e1, bitAnd_comm, bitAnd_pp (Int.natCast_nonneg _) (Int.natCast_nonneg _), Int.toNat_natCast, Int.toNat_natCast, and_mul_lt k p m hm]
  simp
theorem getD_in {ks : List Int} (hin : KBa.In ks) (j : Nat) : 0 ≤ ks.getD j 0 ∧ ks.getD j 0 < 256 := by
  rw [List.getD_eq_getElem?_getD]
  rcases Nat.lt_or_ge j ks.length with hj | hj
  · rw [List.getElem?_eq_getElem hj]; exact hin _ (List.getElem_mem hj)
  · rw [List.getElem?_eq_none hj]; decide
theorem wordAt_eq {ks : List Int} (hin : KBa.In ks) (i : Nat) : wordAt ks i = ks.getD (4 * i) 0 + ks.getD (4 * i + 1) 0 * 256 + ks.getD (4 * i + 2) 0 * 65536 + ks.getD (4 * i + 3) 0 * 16777216 := by
  have h0 := getD_in hin (4 * i)
  have h1 := getD_in hin (4 * i + 1)
  have h2 := getD_in hin (4 * i + 2)
  have h3 := getD_in hin (4 * i + 3)
  unfold wordAt
  have e8 : (2 : Int) ^ Int.toNat 8 = 256 := by decide
  have e16 : (2 : Int) ^ Int.toNat 16 = 65536 := by decide
  have e24 : (2 : Int) ^ Int.toNat 24 = 16777216 := by decide
  rw [or_disj h0.1 (by rw [e8]; omega) h1.1, e8, or_disj (by omega) (by rw [e16]; omega) h2.1, e16, or_disj (by omega) (by rw [e24]; omega) h3.1, e24]
theorem word_in {ks : List Int} (hin : KBa.In ks) {v : Int} (hv : v ∈ wordsL ks) : 0 ≤ v ∧ v < 4294967296 := by
  obtain ⟨i, _, rfl⟩ := List.mem_map.mp hv
  have h0 := getD_in hin (4 * i)
  have h1 := getD_in hin (4 * i + 1)
  have h2 := getD_in hin (4 * i + 2)
  have h3 := getD_in hin (4 * i + 3)
  rw [wordAt_eq hin]
  omega
theorem word_byte {ks : List Int} (hin : KBa.In ks) {i : Nat} (hi : i < 64) :
    ((((wordsL ks).getD ((0 + (i : Int)).fdiv 4).toNat 0).fdiv (256 ^ ((0 + (i : Int)).fmod 4).toNat)).fmod 256) = ks.getD i 0 := by
  have e1 : ((0 + (i : Int)).fdiv 4).toNat = i / 4 := by rw [Int.fdiv_eq_ediv_of_nonneg _ (by decide)]; omega
  have e2 : ((0 + (i : Int)).fmod 4).toNat = i % 4 := by rw [Int.fmod_eq_emod_of_nonneg _ (by decide)]; omega
  have e3 : (wordsL ks).getD (i / 4) 0 = wordAt ks (i / 4) := by
    unfold wordsL
    rw [List.getD_eq_getElem?_getD, List.getElem?_map, List.getElem?_range (by omega)]
    rfl
  rw [e1, e2, e3, wordAt_eq hin]
  have h0 := getD_in hin (4 * (i / 4))
  have h1 := getD_in hin (4 * (i / 4) + 1)
  have h2 := getD_in hin (4 * (i / 4) + 2)
  have h3 := getD_in hin (4 * (i / 4) + 3)
  have hr : i % 4 = 0 ∨ i % 4 = 1 ∨ i % 4 = 2 ∨ i % 4 = 3 := by omega
  rw [Int.fmod_eq_emod_of_nonneg _ (by decide)]
  rcases hr with r | r | r | r <;> rw [r]
  · rw [Int.fdiv_eq_ediv_of_nonneg _ (by decide)]
    have hi4 : i = 4 * (i / 4) := by omega
    generalize i / 4 = q at *
    subst hi4
    omega
  · rw [Int.fdiv_eq_ediv_of_nonneg _ (by decide)]
    have hi4 : i = 4 * (i / 4) + 1 := by omega
    generalize i / 4 = q at *
    subst hi4
    simp only [Int.reducePow]
    omega
  · rw [Int.fdiv_eq_ediv_of_nonneg _ (by decide)]
    have hi4 : i = 4 * (i / 4) + 2 := by omega
    generalize i / 4 = q at *
    subst hi4
    simp only [Int.reducePow]
    omega
  · rw [Int.fdiv_eq_ediv_of_nonneg _ (by decide)]
    have hi4 : i = 4 * (i / 4) + 3 := by omega
    generalize i / 4 = q at *
    subst hi4
    simp only [Int.reducePow]
    omega
theorem wordsL_len (ks : List Int) : (wordsL ks).length = 16 := by unfold wordsL; rw [List.length_map, List.length_range]

theorem words_K {w : World} {mean : ExcName → Option Value} {mg mb : Str → Option Value} {g : Heap} (X : (hd.heap_39 w.params).In g) (T : Top hd.view_39 (looseW hd.view_39 []) mean mg mb g) {b : Array UInt8} {tb : Tok} {ks : List Int} (hks : KBw.bInts b = ks) (hn : ks.length = 64) (hin : KBa.In ks)
    {dp un : Nat} {fr : Option (List Env)} {gd : Option (List Code)} {s : Shared} {Q E : Value → Shared → Prop} {L : Addr} {m : Str → Option Value} {news : List (Addr × Obj)}
    (F : Fr g L s.heap m) (N : News g L s.heap news) (hd1 : dp + 1 < recursionLimit) (hu : un + 16 * 1 < cLine)
    (h : ∀ (a : Addr) (h' : Heap) (tk' : Nat) (vs : List Value) (n : Nat), IntsAre vs (wordsL ks) → Fr g L h' m → News g L h' ((a, listOf vs.toArray n) :: news) → LCg.Off1 a news → Q (.ref a) { s with heap := h', toks := tk' }) :
    wpAny (model PySem.Challenge.pw_xm0973_01 w) (mkA dp un fr gd) (call (.ref 33) [.bytes b tb]) Q E s :=
  words_spec X T hks hn hin dp un fr gd s Q E F.keep hd1 hu fun a h' tk' vs n hi k ha hva =>
    h a h' tk' vs n hi (F.after k) (news_new F k (news_all k N) ha hva) (off1_of (h := h') ha N)

local macro_rules | `(tactic| walk_at "call ref") => `(tactic| (k_here; (with_reducible show wpAny _ _ (call (Value.ref 33) [Value.bytes _ _]) _ _ _); k_dflt (refine' words_K ?X ?T ?t1 ?t2 ?t3 ?F ?N ?d ?u ?_; (case X => k_asm); (case T => k_asm); (case F => k_asm); (case N => k_asm); (case t1 => assumption); (case t2 => assumption); (case t3 => assumption); (case d => (try dsimp only [mkA, Around.deeper]); omega); (case u => (try dsimp only [mkA, Around.deeper]); omega); k_whole); intro a' h' tk' vs' n' hi' F' N' o1'; (try simp only [LCg.Off1, and_true] at o1'); (try k_sweep)))

theorem len_words {prog : Program} {w : World} {A : Around} {E : Value → Shared → Prop} {s : Shared} {g : Heap} {L a : Addr} {news : List (Addr × Obj)} {vs : List Value} {n : Nat} {ks : List Int} {Q : Value → Shared → Prop} (N : News g L s.heap news) (hm : (a, listOf vs.toArray n) ∈ news) (hi : IntsAre vs (wordsL ks))
    (h : ∀ t tk, Q (.int 16 t) { s with toks := tk }) : wpAny (model prog w) A (call (.builtin "len") [.ref a]) Q E s := by
  have e := hi.length
  rw [wordsL_len] at e
  refine len_list (News.isList N hm) (by rw [List.size_toArray]; omega) ?_
  rw [List.size_toArray, e]
  exact h _ _

local macro_rules | `(tactic| walk_at "call builtin:len") => `(tactic| (k_here; (with_reducible show wpAny _ _ (call (Value.builtin "len") [Value.ref _]) _ _ _); k_dflt (refine' len_words ?kN ?kM ?kI ?_; (case kN => k_asm); (case kM => k_mem); (case kI => assumption); k_whole); intro t' tk'; (try dsimp only)))

local macro_rules | `(tactic| walk_at "call builtin:max") => `(tactic| (k_here; (with_reducible show wpAny _ _ (call (Value.builtin _) [Value.ref _]) _ _ _); k_dflt (refine' max_list_N ?hh ?F ?N ?hl ?hi ?ne ?_; (case hh => exact rfl); (case F => k_asm); (case N => k_asm); (case hi => assumption); (case hl => exact News.isList (by k_asm) (by k_mem)); (case ne => rw [wordsL_len]; decide); k_whole); intro h' M' t' k' F' N' a' b'; (rename KBa.In _ => hIn; obtain ⟨hM0', hM1'⟩ := word_in hIn a'); (try k_sweep)))

local macro_rules | `(tactic| walk_at "call builtin:min") => `(tactic| (k_here; (with_reducible show wpAny _ _ (call (Value.builtin _) [Value.ref _]) _ _ _); k_dflt (refine' min_list_N ?hh ?F ?N ?hl ?hi ?ne ?_; (case hh => exact rfl); (case F => k_asm); (case N => k_asm); (case hi => assumption); (case hl => exact News.isList (by k_asm) (by k_mem)); (case ne => rw [wordsL_len]; decide); k_whole); intro h' M' t' k' F' N' a' b'; (rename KBa.In _ => hIn; obtain ⟨hM0', hM1'⟩ := word_in hIn a'); (try k_sweep)))

theorem item_words {prog : Program} {w : World} {A : Around} {E : Value → Shared → Prop} {s : Shared} {g : Heap} {L a : Addr} {news : List (Addr × Obj)} {vs : List Value} {n : Nat} {ks : List Int} {k : Int} {u : Tok} {value slice : PySem.Expr} {Q : Value → Shared → Prop} (N : News g L s.heap news) (hm : (a, listOf vs.toArray n) ∈ news) (hi : IntsAre vs (wordsL ks))
    (h0 : 0 ≤ k) (h1 : k < 16) (h : ∀ t, Q (.int ((wordsL ks).getD k.toNat 0) t) s)
    (hs : subscripted slice false (.ref a) (.int k u) = operate [.ref a, .int k u] (getItem (.ref a) (.int k u))) (hg : ∀ r, letTemporaryGo value (.ref a) r = pure ()) :
    wpAny (model prog w) A (subscriptTail value slice (.ref a) (.int k u)) Q E s :=
  item_list_ints (News.isList N hm) hi h0 (by rw [wordsL_len]; exact h1) (Int.lt_trans h1 (by decide)) h hs hg
theorem at_facts {ks : List Int} (hin : KBa.In ks) {i : Nat} (hi : i < 64) : 0 ≤ (0 + (i : Int)).fdiv 4 ∧ (0 + (i : Int)).fdiv 4 < 16 ∧ 0 ≤ (0 + (i : Int)).fmod 4 ∧ (0 + (i : Int)).fmod 4 < 4 ∧ (0 : Int) < 256 ^ ((0 + (i : Int)).fmod 4).toNat ∧ Builtin.divisionGoesByPylong ((wordsL ks).getD ((0 + (i : Int)).fdiv 4).toNat 0) (256 ^ ((0 + (i : Int)).fmod 4).toNat) = false := by
  have e1 : (0 + (i : Int)).fdiv 4 = (i : Int) / 4 := by rw [Int.fdiv_eq_ediv_of_nonneg _ (by decide)]; omega
  have e2 : (0 + (i : Int)).fmod 4 = (i : Int) % 4 := by rw [Int.fmod_eq_emod_of_nonneg _ (by decide)]; omega
  refine ⟨by omega, by omega, by omega, by omega, Int.pow_pos (by decide), ?_⟩
  have hr : (0 + (i : Int)).fmod 4 = 0 ∨ (0 + (i : Int)).fmod 4 = 1 ∨ (0 + (i : Int)).fmod 4 = 2 ∨ (0 + (i : Int)).fmod 4 = 3 := by omega
  refine PyProof.noPylong_small ?_
  rcases hr with e | e | e | e <;> rw [e] <;> decide

local macro_rules | `(tactic| walk_at "subscriptTail Name BinOp ref int") => `(tactic| (k_here; (rename Brk "words" => hMk); k_dflt (refine' item_words ?kN ?kM ?kI ?k0 ?k1 ?_ ?ks ?kg; (case kN => k_asm); (case kM => k_mem); (case kI => assumption); (case k0 => assumption); (case k1 => assumption); (case ks => with_unfolding_all rfl); (case kg => intro _; with_unfolding_all rfl)); intro t'))

section
variable {w : World} {mean : ExcName → Option Value} {mg mb : Str → Option Value} {hB : Heap}
theorem wright_spec (X : (hd.heap_39 w.params).In hB) (T : Top hd.view_39 (looseW hd.view_39 []) mean mg mb hB) {r : Addr} :
    Draws w hB r 99 5 [.ref r] (fun _ => True) (fun v => v = .bool true) := by
  intro dp un fr gd s Q E x y tx ty n hk hr hr0 hd1 hu hR _ post
  w_on
  k_dflt (refine' enterC (binds := [("reel", .ref r)]) X T hk [(r, RO x y tx ty n)] ?hn ?ho ?hcd ?hroom ?hbind ?hkind ?hnd ?_ ?c2 ?c3 ?c4)
  case ho => k_is
  case hcd => k_is
  case hbind => exact BindsTo.of_eq rfl
  case hkind => exact rfl
  case hnd => decide +kernel
  case c2 => exact rfl
  case c3 => exact rfl
  case c4 => exact rfl
  case hroom => show dp < _; omega
  case hn => intro p hp; rw [List.mem_singleton.mp hp]; exact ⟨hr, hr0⟩
  intro g L' h' tk' cells' hg F' N' Y' l1 X' T'
  have hg' : ∀ b ob, b ∉ [r] → s.heap.get? b = some ob → g.get? b = some ob := hg
  clear hg
  (try k_lt l1)
  k_cells Y'
  (try simp only [List.cons_append, List.nil_append] at N')
  (try dsimp only)
  have hBk : Brk "comp" := True.intro
  have hOne : OneHi 256 := True.intro
  repeat' (first | (k_unfold; (try dsimp only)) | (walk1 <;> (try dsimp only)))
  unfold Stop
  rename Brk "comp" => hMk
  rename Fr _ _ _ _ => F1
  k_dflt (refine LCg.ListComp_U (F₀ := F1) (by with_unfolding_all rfl) (by decide) (by rfl) (by decide) (by rfl) ?_)
  repeat' (first | (k_unfold; (try dsimp only)) | (walk1 <;> (try dsimp only)))
  unfold Stop
  rename Brk "comp" => hMk
  rename IsRange _ _ _ _ _ _ _ _ => hRg
  rename News _ _ _ _ => N3
  rename Fr _ _ _ _ => F3
  k_dflt (refine LCg.CompSrc.range (n := 64) rfl F3 N3 hRg (by decide) rfl (Nat.le_of_ble_eq_true rfl) ?_)
  intro g'
  k_dflt (refine comp_inv (fun i ys nw => ∃ x y tx ty n ks, nw = [(L' + 1 + 1, _), (L' + 1, _), (r, RO x y tx ty n)] ∧ Reel x y ∧ IntsAre ys ks ∧ KBa.In ks ∧ ks.length = i) ⟨_, _, _, _, _, [], rfl, hR, .nil, (fun _ h => nomatch h), rfl⟩ ?_ ?_)
  · clear F3 N3 hRg
    rintro i t I oI C oC D m₂ ys nw h tk E' hi ⟨x2, y2, tx2, ty2, n2, ks2, rfl, hR2, hy, hin, hlen⟩ hC hx F4 N4 off ne
    have off0 := off
    simp only [LCg.Off3, and_true] at off
    try dsimp only
    repeat' (first | (k_unfold; (try dsimp only)) | (walk1 <;> (try dsimp only)))
    unfold Stop
    rename_i x3 y3 tx3 ty3 n3 h3 tk3 hR3 F5 N5 v3 tv3 hv0 hv1
    refine' LCg.CompEnd.intro F5 N5 [(L' + 1 + 1, _), (L' + 1, _), (r, RO x3 y3 tx3 ty3 n3)] ?sub off0 True.intro ⟨x3, y3, tx3, ty3, n3, ks2 ++ [v3], rfl, hR3, IntsAre.append hy (.cons _ _ .nil), in_snoc hin ⟨hv0, hv1⟩, by simp [hlen]⟩
    case sub => lcg_sub
  · clear F3 N3 hRg
    rintro ys nw ⟨x2, y2, tx2, ty2, n2, ks, rfl, hR2, hy, hin, hlen⟩
    repeat' (first | (k_unfold; (try dsimp only)) | (walk1 <;> (try dsimp only)))
    unfold Stop
    rename News _ _ _ _ => N6
    rename Fr _ _ _ _ => F6
    k_dflt (refine KBa.make_K F6 N6 rfl (News.isList N6 (by k_mem)) hy hin (by omega) ?_)
    intro h7 t7 k7 F7 N7 _
    have hb7 := KBa.ints_make hin
    clear F6 N6
    try dsimp only
    iterate 14 (first | (k_unfold; (try dsimp only)) | (walk1 <;> (try dsimp only)))
    repeat' (first | (k_unfold; (try dsimp only)) | (walk1 <;> (try dsimp only)))
    · exfalso
      have e32 : (2 : Int) ^ Int.toNat 32 = 4294967296 := by decide
      simp only [e32] at *
      omega
    unfold Stop
    rename Brk "comp" => hMk
    rename News _ _ _ _ => N8
    rename Fr _ _ _ _ => F8
    rename IntsAre _ (wordsL ks) => hiw
    k_dflt (refine LCg.ListComp_U (F₀ := F8) (by with_unfolding_all rfl) (by decide) (by rfl) (by decide) (by rfl) ?_)
    repeat' (first | (k_unfold; (try dsimp only)) | (walk1 <;> (try dsimp only)))
    unfold Stop
    rename Brk "comp" => hMk
    rename IsRange _ _ _ _ _ _ _ _ => hRg
    rename News _ _ _ _ => N3
    rename Fr _ _ _ _ => F3
    k_dflt (refine LCg.CompSrc.range (n := 64) rfl F3 N3 hRg (by decide) rfl (Nat.le_of_ble_eq_true rfl) ?_)
    intro g''
    k_dflt (refine comp_inv (fun i ys nw => nw = _ ∧ IntsAre ys ((List.range i).map (fun j : Nat => ks.getD j 0))) ⟨rfl, .nil⟩ ?_ ?_)
    · clear F3 N3 hRg
      rintro i t I oI C oC D m₂ ys nw h tk E' hi ⟨rfl, hy⟩ hC hx F4 N4 off ne
      have off0 := off
      simp only [LCg.Off3, and_true] at off
      have hBw : Brk "words" := True.intro
      obtain ⟨ha0, ha1, ha2, ha3, ha4, ha5⟩ := at_facts hin hi
      try dsimp only
      repeat' (first | (k_unfold; (try dsimp only)) | (walk1 <;> (try dsimp only)))
      unfold Stop
      refine' LCg.CompEnd.intro (by assumption) (by assumption) _ (fun p hp => hp) off0 True.intro ⟨rfl, ints_snoc (G := fun j : Nat => ks.getD j 0) hy (word_byte hin hi)⟩
    · clear F3 N3 hRg
      rintro ys nw ⟨rfl, hy⟩
      repeat' (first | (k_unfold; (try dsimp only)) | (walk1 <;> (try dsimp only)))
      unfold Stop
      rename News _ _ _ _ => N9
      rename Fr _ _ _ _ => F9
      have e64 : (List.range 64).map (fun j : Nat => ks.getD j 0) = ks := by
        rw [← hlen]
        refine List.ext_getElem? fun j => ?_
        rw [List.getElem?_map]
        rcases Nat.lt_or_ge j ks.length with hj | hj
        · rw [List.getElem?_range hj, List.getElem?_eq_getElem hj, Option.map_some, List.getD_eq_getElem?_getD, List.getElem?_eq_getElem hj]; rfl
        · rw [List.getElem?_eq_none hj, List.getElem?_eq_none (by rw [List.length_range]; exact hj)]; rfl
      rw [e64] at hy
      k_dflt (refine KBa.make_K F9 N9 rfl (News.isList N9 (by k_mem)) hy hin (by omega) ?_)
      intro h10 t10 k10 F10 N10 _
      clear F9 N9
      try dsimp only
      repeat' (first | (k_unfold; (try dsimp only)) | (walk1 <;> (try dsimp only)))
      exact post_close (s := s) post hg' (by assumption) (by assumption) (by k_mem) (congrArg Value.bool (beq_self_eq_true _)) hR2
end

theorem post_reel {g h' : Heap} {L a : Addr} {s : Shared} {Q : Value → Shared → Prop} {m : Str → Option Value} {more : List (Addr × Obj)} {x y : Int} {tx ty : Tok} {n tk' : Nat}
    (post : ∀ (a : Addr) (h' : Heap) (tk' : Nat) (x y : Int) (tx ty : Tok) (n : Nat), Reel x y → KeptAll s.heap h' → s.heap.get? a = none → h'.get? a = some (RO x y tx ty n) → Q (.ref a) { s with heap := h', toks := tk' })
    (hg : ∀ b ob, b ∉ ([] : List Addr) → s.heap.get? b = some ob → g.get? b = some ob) (F : Fr g L h' m) (N : News g L h' more) (hm : (a, RO x y tx ty n) ∈ more) (hR : Reel x y) : Q (.ref a) { s with heap := h', toks := tk' } := by
  refine post a h' tk' x y tx ty n hR (ret_all hg F) ?_ (N _ hm).1
  cases q : s.heap.get? a with
  | none => rfl
  | some o => have := hg a o (by simp) q; rw [(N _ hm).2.2] at this; cases this
section
variable {w : World} {mean : ExcName → Option Value} {mg mb : Str → Option Value} {hB : Heap}
theorem reel_spec (X : (hd.heap_39 w.params).In hB) (T : Top hd.view_39 (looseW hd.view_39 []) mean mg mb hB) {l : Addr} {vs : List Value} {ns : List Int} (hL0 : hB.IsList l vs.toArray) (hi : IntsAre vs ns) (hlen : ns.length ≤ 63) :
    ∀ (dp un : Nat) (fr : Option (List Env)) (gd : Option (List Code)) (s : Shared) (Q E : Value → Shared → Prop),
    KeptAll hB s.heap → dp + 1 < recursionLimit → un + 16 * 1 < cLine →
    (∀ (a : Addr) (h' : Heap) (tk' : Nat) (x y : Int) (tx ty : Tok) (n : Nat), Reel x y → KeptAll s.heap h' → s.heap.get? a = none → h'.get? a = some (RO x y tx ty n) → Q (.ref a) { s with heap := h', toks := tk' }) →
    wpAny (model PySem.Challenge.pw_xm0973_01 w) (mkA dp un fr gd) (call (.ref 54) [.ref l]) Q E s := by
  intro dp un fr gd s Q E hk hd1 hu post
  w_on
  k_dflt (refine' enterF (binds := [("script", .ref l)]) X T hk [] ?hn ?ho ?hcd ?hroom ?hbind ?hloc ?_ ?c1 ?c2 ?c3 ?c4)
  case ho => k_is
  case hcd => k_is
  case hbind => exact BindsTo.of_eq rfl
  case hloc => exact locs rfl
  case c1 => decide
  case c2 => exact rfl
  case c3 => exact rfl
  case c4 => exact rfl
  case hroom => show dp < _; omega
  case hn => exact List.forall_mem_nil _
  intro g L' h₁ hg F N X' T'
  have hg' : ∀ b ob, b ∉ ([] : List Addr) → s.heap.get? b = some ob → g.get? b = some ob := hg
  clear hg
  have hL : g.IsList l vs.toArray := by
    obtain ⟨o, ho, hr⟩ := hL0
    exact ⟨o, hg' _ _ List.not_mem_nil (hk _ _ ho), hr⟩
  clear hL0
  have hsz : (vs.toArray.size : Int) < 2 ^ 63 := by
    have := hi.length
    rw [List.size_toArray]
    omega
  have hll := hi.length
  try dsimp only
  try k_fold
  repeat' (first | (k_unfold; (try dsimp only)) | (walk1 <;> (try dsimp only)))
  all_goals refine post_reel (s := s) post hg' (by assumption) (by assumption) (List.Mem.head _) ⟨?_, Int.fmod_nonneg_of_pos _ (by decide), Int.fmod_lt_of_pos _ (by decide)⟩
  all_goals first | decide | exact Int.le_trans (by decide) ‹(10 : Int) ^ Int.toNat 18 ≤ _›
end
theorem reel_K {w : World} {mean : ExcName → Option Value} {mg mb : Str → Option Value} {g : Heap} (X : (hd.heap_39 w.params).In g) (T : Top hd.view_39 (looseW hd.view_39 []) mean mg mb g) {l : Addr} {vs : List Value} {ns : List Int} (hL0 : g.IsList l vs.toArray) (hi : IntsAre vs ns) (hlen : ns.length ≤ 63)
    {dp un : Nat} {fr : Option (List Env)} {gd : Option (List Code)} {s : Shared} {Q E : Value → Shared → Prop} {L : Addr} {m : Str → Option Value} {news : List (Addr × Obj)}
    (F : Fr g L s.heap m) (N : News g L s.heap news) (hd1 : dp + 1 < recursionLimit) (hu : un + 16 * 1 < cLine)
    (h : ∀ (a : Addr) (h' : Heap) (tk' : Nat) (x y : Int) (tx ty : Tok) (n : Nat), Reel x y → Fr g L h' m → News g L h' ((a, RO x y tx ty n) :: news) → LCg.Off1 a news → Q (.ref a) { s with heap := h', toks := tk' }) :
    wpAny (model PySem.Challenge.pw_xm0973_01 w) (mkA dp un fr gd) (call (.ref 54) [.ref l]) Q E s :=
  reel_spec X T hL0 hi hlen dp un fr gd s Q E F.keep hd1 hu fun a h' tk' x y tx ty n hR k ha hva =>
    h a h' tk' x y tx ty n hR (F.after k) (news_new F k (news_all k N) ha hva) (off1_of (h := h') ha N)

local macro_rules | `(tactic| walk_at "call ref") => `(tactic| (k_here; (with_reducible show wpAny _ _ (call (Value.ref 54) [Value.ref _]) _ _ _); k_dflt (refine' reel_K ?X ?T ?t1 ?t2 ?t3 ?F ?N ?d ?u ?_; (case X => k_asm); (case T => k_asm); (case F => k_asm); (case N => k_asm); (case t1 => assumption); (case t2 => assumption); (case t3 => first | assumption | omega); (case d => first | omega | decide); (case u => first | omega | decide); k_whole); intro a' h' tk' x' y' tx' ty' n' hR' F' N' o1'; (try simp only [LCg.Off1, and_true] at o1'); (try k_sweep)))

local macro_rules | `(tactic| walk_at "call ref") => `(tactic| (k_here; (with_reducible show wpAny _ _ (call (Value.ref 89) [Value.ref _]) _ _ _); k_dflt (refine' draws_K (turns_spec ?X ?T) ?F ?N ?U ?d ?u ?R True.intro ?_; (case X => k_asm); (case T => k_asm); (case F => k_asm); (case N => k_asm); (case U => k_updF); (case d => first | omega | decide); (case u => first | omega | decide); (case R => assumption); k_whole); intro v' x' y' tx' ty' n' h' tk' hP' hR' F' N'; subst hP'; (try dsimp only at N'); (try k_sweep)))

local macro_rules | `(tactic| walk_at "call ref") => `(tactic| (k_here; (with_reducible show wpAny _ _ (call (Value.ref 94) [Value.ref _]) _ _ _); k_dflt (refine' draws_K (fright_spec ?X ?T) ?F ?N ?U ?d ?u ?R True.intro ?_; (case X => k_asm); (case T => k_asm); (case F => k_asm); (case N => k_asm); (case U => k_updF); (case d => first | omega | decide); (case u => first | omega | decide); (case R => assumption); k_whole); intro v' x' y' tx' ty' n' h' tk' hP' hR' F' N'; subst hP'; (try dsimp only at N'); (try k_sweep)))

local macro_rules | `(tactic| walk_at "call ref") => `(tactic| (k_here; (with_reducible show wpAny _ _ (call (Value.ref 99) [Value.ref _]) _ _ _); k_dflt (refine' draws_K (wright_spec ?X ?T) ?F ?N ?U ?d ?u ?R True.intro ?_; (case X => k_asm); (case T => k_asm); (case F => k_asm); (case N => k_asm); (case U => k_updF); (case d => first | omega | decide); (case u => first | omega | decide); (case R => assumption); k_whole); intro v' x' y' tx' ty' n' h' tk' hP' hR' F' N'; subst hP'; (try dsimp only at N'); (try k_sweep)))

local macro_rules | `(tactic| walk_at "call ref") => `(tactic| (k_here; (with_reducible show wpAny _ _ (call (Value.ref 118) [Value.ref _, Value.int _ _]) _ _ _); k_dflt (refine' draws_K (steps_spec ?X ?T ?t1 ?t2) ?F ?N ?U ?d ?u ?R True.intro ?_; (case X => k_asm); (case T => k_asm); (case F => k_asm); (case N => k_asm); (case U => k_updF); (case t1 => first | assumption | omega); (case t2 => first | assumption | omega); (case d => first | omega | decide); (case u => first | omega | decide); (case R => assumption); k_whole); intro v' x' y' tx' ty' n' h' tk' hP' hR' F' N'; subst hP'; (try dsimp only at N'); (try k_sweep)))

local macro_rules | `(tactic| walk_at "CompSrcT") => `(tactic| (k_here; (rename Brk "comp" => hMk); refine Stop.go ?_))

local macro_rules | `(tactic| walk_at "eval ListComp") => `(tactic| (k_here; (rename Brk "comp" => hMk); refine Stop.go ?_))

section
variable {prog : Program} {w : World} {A : Around} {h₀ : Heap} {L : Addr} {m : Str → Option Value} {env : Env} {ct elt : PySem.Expr} {x : Str} {scope : Scope} {cl : List (Str × Addr)} {s : Shared} {S : List (Addr × Obj) → Prop} {Fin : List Value → List (Addr × Obj) → Prop} {news : List (Addr × Obj)}
theorem comp_none {n : Nat} {a : Int} (J : List (Addr × Obj) → Prop) (h0 : J news)
    (turn : ∀ (i : Nat) (t : Tok) (I : Addr) (oI : Obj) (C : Addr) (oC : Obj) (D : Addr) (m₂ : Str → Option Value) (news₁ : List (Addr × Obj)) (h : Heap) (tk : Nat) (E' : Value → Shared → Prop), i < n → J news₁ → LCg.NsObj oC m₂ → m₂ x = some (.int (a + (i : Int)) t) → Fr h₀ L h m →
      News h₀ L h ((I, oI) :: (C, oC) :: (D, LCg.lst []) :: news₁) → LCg.Off3 I C D news₁ → ((@Ne Nat I C) ∧ (@Ne Nat I D) ∧ (@Ne Nat C D)) →
      wpAny (model prog w) A (isTrue ct (compEnvC scope cl C env) (eval ct (compEnvC scope cl C env))) (fun ok s' => ok = false ∧ LCg.CompEnd h₀ L m { s with heap := h, toks := tk } I oI C oC D (LCg.lst []) S (fun _ news' => J news') Value.none s') E' { s with heap := h, toks := tk })
    (fin : ∀ news₁, J news₁ → Fin [] news₁) : LCt.CompRestT prog w A h₀ L m env ct elt x scope cl s S (fun i v => ∃ t, v = .int (a + (i : Int)) t) Fin n 0 [] news := by
  have key : ∀ (j i : Nat) (nw : List (Addr × Obj)), i + j = n → J nw → LCt.CompRestT prog w A h₀ L m env ct elt x scope cl s S (fun i v => ∃ t, v = .int (a + (i : Int)) t) Fin j i [] nw := by
    intro j
    induction j with
    | zero =>
      intro i nw hi hJ
      exact LCt.CompRestT.zero (fin _ hJ)
    | succ j ih =>
      intro i nw hi hJ
      refine LCt.CompRestT.succ ?_
      intro v I oI C oC D m₂ h tk E' hv hC hx F N off ne
      obtain ⟨t, rfl⟩ := hv
      refine wpAny_mono (turn i t I oI C oC D m₂ nw h tk E' (by omega) hJ hC hx F N off ne) (fun ok s₂ hq => ?_) fun _ _ e => e
      obtain ⟨rfl, h', tk', nw', e, F', N', off', hS, hJ'⟩ := hq
      rw [if_neg (by decide)]
      exact ⟨h', tk', nw', e, F', N', off', hS, ih (i + 1) _ (by omega) hJ'⟩
  exact key n 0 news (by omega) h0
end

theorem main : PySem.Challenge.rw_xm0973_01.Holds := hd (by
  k_go0
  have hBk : Brk "comp" := True.intro
  have hcd : callerA.depth + 20 < recursionLimit := by decide
  have hcu : callerA.units + 400 < cLine := by decide
  try dsimp only
  repeat' (first | (k_unfold; (try dsimp only)) | (walk1 <;> (try dsimp only)))
  unfold Stop
  rename Brk "comp" => hMk
  rename Reel _ _ => hR1
  rename Fr _ _ _ _ => F1
  k_dflt (refine LCt.ListComp_T (F₀ := F1) (by with_unfolding_all rfl) (by decide) (by rfl) (by decide) (by rfl) ?_)
  repeat' (first | (k_unfold; (try dsimp only)) | (walk1 <;> (try dsimp only)))
  unfold Stop
  rename Brk "comp" => hMk
  rename IsRange _ _ _ _ _ _ _ _ => hRg
  rename News _ _ _ _ => N3
  rename Fr _ _ _ _ => F3
  k_dflt (refine LCt.CompSrcT.range (n := 4) rfl F3 N3 hRg (by decide) rfl (Nat.le_of_ble_eq_true rfl) ?_)
  intro g'
  k_dflt (refine comp_none (fun nw => ∃ x y tx ty n, nw = [(_, RO x y tx ty n), (_, _)] ∧ Reel x y) ⟨_, _, _, _, _, rfl, hR1⟩ ?_ ?_)
  · clear F3 N3 hRg
    rintro i t I oI C oC D m₂ nw h tk E' hi ⟨x2, y2, tx2, ty2, n2, rfl, hR2⟩ hC hx F4 N4 off ne
    have off0 := off
    simp only [LCg.Off3, and_true] at off
    try dsimp only
    repeat' (first | (k_unfold; (try dsimp only)) | (walk1 <;> (try dsimp only)))
    unfold Stop
    rename_i x3 y3 tx3 ty3 n3 h3 tk3 hR3 F5 N5
    refine' LCg.CompEnd.intro F5 N5 [(_, RO x3 y3 tx3 ty3 n3), (_, _)] ?sub off0 True.intro ⟨x3, y3, tx3, ty3, n3, rfl, hR3⟩
    case sub => lcg_sub
  · clear F3 N3 hRg
    rintro nw ⟨x2, y2, tx2, ty2, n2, rfl, hR2⟩
    repeat' (first | (k_unfold; (try dsimp only)) | (walk1 <;> (try dsimp only)))
    k_end
    wrow_close)

end Mine

theorem PySem.Challenge.cw_xm0973_01_holds : PySem.Challenge.rw_xm0973_01.Holds := by
  exact Mine.main
