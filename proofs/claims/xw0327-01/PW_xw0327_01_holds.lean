import PyProof.Rows.All
import Wide.All
import OpenK.AllK
import Wide.FinOn
import Lean
import PySem.Challenge.RW_xw0327_01
open PySem PySem.W PySem.Calls PyProof.Rows
set_option Elab.async false
set_option maxRecDepth 100000
section
namespace Mine
set_option maxRecDepth 100000 in
set_option maxHeartbeats 8000000 in
open_top hd for PySem.Challenge.rw_xw0327_01
end Mine
end
local macro_rules | `(tactic| walk_at $s:str) => do let k := Lean.Syntax.mkStrLit ("my " ++ s.getString); `(tactic| k_extra $k)
section
namespace Mine
abbrev Led := List (Addr × Obj)
/-- what a call of the def at f with vs gives back, over a ledger -/
abbrev Ok (D : Nat) (f : Addr) (vs : List Value) (news : Led) (R : Value → Led → Prop) : Prop :=
  ∀ (w : World) (p : Program) (loose : List Str) (mean : ExcName → Option Value) (mg mb : Str → Option Value)
    (dp un : Nat) (gd : Option (List Code)) (cn : Str) (cs : Scope) (a : Addr) (ccd : Value) (cl : List (Str × Addr)) (outer : List Env) (A₀ : Around) (base h₀ : Heap) (L : Addr) (m : Str → Option Value) (s : Shared) (Q E : Value → Shared → Prop),
    Below A₀ base outer h₀ → Fr h₀ L s.heap m → (Mine.hd.heap_39 w.params).In h₀ → News h₀ L s.heap news → Top p loose mean mg mb h₀ → cs.kind = .function → dp + D < recursionLimit → un + 8 * D < cLine →
    (∀ v news' h' tk', R v news' → Fr h₀ L h' m → News h₀ L h' news' → Q v { s with heap := h', toks := tk' }) →
      wpAny (model PySem.Challenge.rw_xw0327_01.row.prog w) (ktrTop dp un gd cn cs L a ccd cl outer) (call (.ref f) vs) Q E s

theorem in_nil : KBa.In [] := fun _ h => nomatch h
theorem in_cons {a : Int} {r : List Int} (h0 : 0 ≤ a ∧ a < 256) (hr : KBa.In r) : KBa.In (a :: r) := fun k hk => by
  rcases List.mem_cons.mp hk with rfl | h
  · exact h0
  · exact hr k h
theorem and255 (x : Int) : 0 ≤ Builtin.bitAnd x 255 ∧ Builtin.bitAnd x 255 < 256 := by
  rw [bitAnd_m8]; omega
local macro_rules | `(tactic| kba_in) => `(tactic| (repeat (first | exact in_nil | refine in_cons (and255 _) ?_)))
set_option maxHeartbeats 4000000 in
theorem put16_ok (n : Int) (tn : Tok) (news : Led) : Ok 3 79 [.int n tn] news (fun v news' => news = news' ∧ ∃ b t, v = .bytes b t ∧ KBw.bInts b = [n / 256 % 256, n % 256]) := by
  k_with_none
  unfold Ok
  k_fill
  intro w p loose mean mg mb dp un gd cn cs a ccd cl outer A₀ base h₀ L m s Q E B F X N T hk hd hu hret
  refine wpAny_call ?_
  k_dflt cell_enter
  k_steps
  refine hret _ news _ _ ⟨rfl, _, _, rfl, ?e⟩ (by k_asm) (cb_drop (by assumption) (by kcj_all))
  refine (KBa.ints_make (by assumption)).trans ?_
  rw [bitAnd_m8, bitAnd_m8, Int.fdiv_eq_ediv_of_nonneg _ (by decide)]; rfl
end Mine
end
section
namespace Mine
theorem nat_xor_and (m : Nat) : ∀ n : Nat, (m ^^^ n) + 2 * (m &&& n) = m + n := by
  induction m using Nat.strongRecOn with
  | ind m ih =>
    intro n
    by_cases hm : m = 0
    · subst hm; simp
    · have h := ih (m / 2) (by omega) (n / 2)
      have h1 : (m ^^^ n) / 2 = m / 2 ^^^ n / 2 := Nat.xor_div_two
      have h2 : (m &&& n) / 2 = m / 2 &&& n / 2 := Nat.and_div_two
      have h3 : (m ^^^ n) % 2 + 2 * ((m &&& n) % 2) = m % 2 + n % 2 := by
        have a1 : (m ^^^ n) % 2 = m % 2 ^^^ n % 2 := Nat.xor_mod_two_pow (n := 1)
        have a2 : (m &&& n) % 2 = m % 2 &&& n % 2 := Nat.and_mod_two_pow (n := 1)
        rw [a1, a2]
        rcases Nat.mod_two_eq_zero_or_one m with a | a <;> rcases Nat.mod_two_eq_zero_or_one n with b | b <;> rw [a, b] <;> rfl
      rw [← h1, ← h2] at h
      have e1 := Nat.div_add_mod (m ^^^ n) 2
      have e2 := Nat.div_add_mod (m &&& n) 2
      have e3 := Nat.div_add_mod m 2
      have e4 := Nat.div_add_mod n 2
      clear h1 h2 ih hm
      generalize (m ^^^ n) / 2 = x1 at *
      generalize (m ^^^ n) % 2 = x2 at *
      generalize (m &&& n) / 2 = y1 at *
      generalize (m &&& n) % 2 = y2 at *
      generalize m / 2 = m1 at *
      generalize m % 2 = m2 at *
      generalize n / 2 = n1 at *
      generalize n % 2 = n2 at *
      omega
theorem bitXor_pp {x y : Int} (hx : 0 ≤ x) (hy : 0 ≤ y) : Builtin.bitXor x y = ((x.toNat ^^^ y.toNat : Nat) : Int) := by
  rw [bitXor_and, bitAnd_pp hx hy]
  have := nat_xor_and x.toNat y.toNat
  omega
theorem bitXor_nat (m n : Nat) : Builtin.bitXor (m : Int) (n : Int) = ((m ^^^ n : Nat) : Int) := bitXor_pp (Int.natCast_nonneg _) (Int.natCast_nonneg _)
theorem bitAnd_nat (m n : Nat) : Builtin.bitAnd (m : Int) (n : Int) = ((m &&& n : Nat) : Int) := bitAnd_pp (Int.natCast_nonneg _) (Int.natCast_nonneg _)
theorem nat_and_disj (a k y : Nat) (hy : y < 2 ^ k) : (a * 2 ^ k) &&& y = 0 := by
  apply Nat.eq_of_testBit_eq
  intro i
  rw [Nat.testBit_and, Nat.mul_comm, Nat.testBit_two_pow_mul, Nat.zero_testBit]
  by_cases h : k ≤ i
  · have : y.testBit i = false := Nat.testBit_lt_two_pow (Nat.lt_of_lt_of_le hy (Nat.pow_le_pow_right (by decide) h))
    rw [this, Bool.and_false]
  · simp [h]
theorem bitOr_disj {x y : Int} (k : Nat) (hx : 0 ≤ x) (hy : 0 ≤ y) (hlt : y < 2 ^ k) : Builtin.bitOr (x * 2 ^ k) y = x * 2 ^ k + y := by
  have hp := kbt_pos k
  rw [bitOr_and, bitAnd_pp (Int.mul_nonneg hx (Int.le_of_lt hp)) hy]
  have e : (x * 2 ^ k).toNat = x.toNat * 2 ^ k := by
    obtain ⟨a, rfl⟩ := Int.eq_ofNat_of_zero_le hx
    rw [← kbt_cast, Int.toNat_natCast]
    exact Int.toNat_natCast (a * 2 ^ k)
  have h := nat_and_disj x.toNat k y.toNat (by have := kbt_cast k; omega)
  rw [e, h]
  simp
def be16 (n : Int) : List Int := [n / 256 % 256, n % 256]
def be32 (n : Int) : List Int := be16 (n / 65536) ++ be16 n
def be48 (n : Int) : List Int := be16 (n / 4294967296) ++ be32 n
def gb16 (ks : List Int) (i : Int) : Int := ks.getD i.toNat 0 * 256 + ks.getD (i + 1).toNat 0
def gb32 (ks : List Int) (i : Int) : Int := gb16 ks i * 65536 + gb16 ks (i + 2)
def gb48 (ks : List Int) (i : Int) : Int := gb16 ks i * 4294967296 + gb32 ks (i + 2)
/-- one bit's turn of the sum -/
def shN (n : Nat) : Nat := if n % 2 = 1 then n / 2 ^^^ 3988292384 else n / 2
def shI (x : Int) : Int := ((shN x.toNat : Nat) : Int)
def tabI : List Int := [0, 498536548, 997073096, 651767980, 1994146192, 1802195444, 1303535960, 1342533948, 3988292384, 4027552580, 3604390888, 3412177804, 2607071920, 2262029012, 2685067896, 3183342108]
def nibI (w : Int) : Int := Builtin.bitXor (w.fdiv (2 ^ Int.toNat 4)) (tabI.getD (Builtin.bitAnd w 15).toNat 0)
def stepI (a k : Int) : Int := nibI (nibI (Builtin.bitXor a k))
def crcI (ks : List Int) : Int := Builtin.bitXor (ks.foldl stepI 4294967295) 4294967295
/-- octets with a mask turned in from a bit on, as the law's helper reckons them -/
def turnI (ks : List Int) (mask begin : Int) : List Int := (rangeKs 0 ks.length).map fun k => Builtin.bitXor (ks.getD k.toNat 0) (((mask * 2 ^ begin.toNat).fdiv (256 ^ k.toNat)).fmod 256)
end Mine
end
section
namespace Mine
def iter (f : Nat → Nat) : Nat → Nat → Nat
  | 0, x => x
  | n + 1, x => iter f n (f x)
theorem iter_add (f : Nat → Nat) : ∀ m n x, iter f (m + n) x = iter f n (iter f m x)
  | 0, n, x => by rw [Nat.zero_add]; rfl
  | m + 1, n, x => by rw [Nat.add_right_comm]; exact iter_add f m n (f x)
theorem xor_assoc3 (a b c : Nat) : a ^^^ b ^^^ c = a ^^^ (b ^^^ c) := Nat.xor_assoc a b c
theorem shN_xor (a b : Nat) : shN (a ^^^ b) = shN a ^^^ shN b := by
  have h := @Nat.xor_mod_two_eq_one a b
  have hd : (a ^^^ b) / 2 = a / 2 ^^^ b / 2 := Nat.xor_div_two
  unfold shN
  rw [hd]
  by_cases ha : a % 2 = 1 <;> by_cases hb : b % 2 = 1
  · rw [if_pos ha, if_pos hb, if_neg (by rw [h]; simp [ha, hb])]
    rw [Nat.xor_assoc, Nat.xor_comm (b / 2) _, ← Nat.xor_assoc 3988292384, Nat.xor_self, Nat.zero_xor]
  · rw [if_pos ha, if_neg hb, if_pos (by rw [h]; simp [ha, hb])]
    rw [Nat.xor_assoc, Nat.xor_assoc, Nat.xor_comm (b / 2)]
  · rw [if_neg ha, if_pos hb, if_pos (by rw [h]; simp [ha, hb])]
    rw [Nat.xor_assoc]
  · rw [if_neg ha, if_neg hb, if_neg (by rw [h]; simp [ha, hb])]
theorem shN_two (x : Nat) : shN (2 * x) = x := by
  unfold shN
  rw [if_neg (by omega)]
  omega
theorem shN_zero : shN 0 = 0 := rfl
theorem iter_xor (n : Nat) : ∀ a b, iter shN n (a ^^^ b) = iter shN n a ^^^ iter shN n b := by
  induction n with
  | zero => intro a b; rfl
  | succ n ih => intro a b; show iter shN n (shN (a ^^^ b)) = _; rw [shN_xor, ih]; rfl
theorem iter_zero : ∀ n, iter shN n 0 = 0
  | 0 => rfl
  | n + 1 => iter_zero n
theorem iter_pow (n x : Nat) : iter shN n (2 ^ n * x) = x := by
  induction n with
  | zero => simp [iter]
  | succ n ih =>
    show iter shN n (shN (2 ^ (n + 1) * x)) = x
    rw [show 2 ^ (n + 1) * x = 2 * (2 ^ n * x) by rw [Nat.pow_succ, Nat.mul_comm (2 ^ n) 2, Nat.mul_assoc], shN_two, ih]
theorem shN_lt {x : Nat} (h : x < 2 ^ 32) : shN x < 2 ^ 32 := by
  unfold shN
  split
  · exact Nat.xor_lt_two_pow (by omega) (by decide)
  · omega
theorem iter_lt (n : Nat) : ∀ {x : Nat}, x < 2 ^ 32 → iter shN n x < 2 ^ 32 := by
  induction n with
  | zero => intro x h; exact h
  | succ n ih => intro x h; exact ih (shN_lt h)
/-- below 2^32 nothing but nought goes to nought -/
theorem shN_ne {x : Nat} (h : x < 2 ^ 32) (h0 : x ≠ 0) : shN x ≠ 0 := by
  unfold shN
  split
  · intro e
    have h1 : x / 2 = 3988292384 := by
      have := congrArg (· ^^^ 3988292384) e
      simpa [Nat.xor_assoc] using this
    omega
  · omega
theorem iter_ne (n : Nat) : ∀ {x : Nat}, x < 2 ^ 32 → x ≠ 0 → iter shN n x ≠ 0 := by
  induction n with
  | zero => intro x _ h; exact h
  | succ n ih => intro x h h0; exact ih (shN_lt h) (shN_ne h h0)
end Mine
end
section
namespace Mine
def allOnes : Nat := 4294967295
/-- octets as one number, the first the lowest -/
def leN : List Int → Nat
  | [] => 0
  | k :: r => k.toNat + 256 * leN r
theorem leN_lt : ∀ {ks : List Int}, KBa.In ks → leN ks < 2 ^ (8 * ks.length)
  | [], _ => by simp [leN]
  | k :: r, h => by
    have h1 := h k (List.mem_cons_self ..)
    have h2 := leN_lt (ks := r) fun x hx => h x (List.mem_cons_of_mem _ hx)
    have e : 2 ^ (8 * (k :: r).length) = 256 * 2 ^ (8 * r.length) := by
      rw [List.length_cons, Nat.mul_add, Nat.pow_add, Nat.mul_comm]
    rw [e, leN]
    omega
theorem add_xor (k x n : Nat) (hk : k < 2 ^ n) : k + 2 ^ n * x = k ^^^ 2 ^ n * x := by
  have h := nat_xor_and k (2 ^ n * x)
  have h2 := nat_and_disj x n k hk
  rw [Nat.mul_comm x, Nat.and_comm] at h2
  omega
theorem leN_append : ∀ {ks : List Int} (ls : List Int), KBa.In ks → leN (ks ++ ls) = leN ks + 2 ^ (8 * ks.length) * leN ls
  | [], ls, _ => by simp [leN]
  | k :: r, ls, h => by
    have h2 := leN_append (ks := r) ls fun x hx => h x (List.mem_cons_of_mem _ hx)
    have e : 2 ^ (8 * (k :: r).length) = 256 * 2 ^ (8 * r.length) := by
      rw [List.length_cons, Nat.mul_add, Nat.pow_add, Nat.mul_comm]
    rw [e, List.cons_append, leN, leN, h2, Nat.mul_add, Nat.mul_assoc]
    omega
theorem tab_eq : ∀ i : Nat, i < 16 → tabI.getD i 0 = ((iter shN 4 i : Nat) : Int) := by
  have h : (List.range 16).all (fun i => tabI.getD i 0 == ((iter shN 4 i : Nat) : Int)) = true := by decide +kernel
  intro i hi
  exact eq_of_beq (List.all_eq_true.mp h i (List.mem_range.mpr hi))
theorem nib_split (n : Nat) : iter shN 4 n = n / 16 ^^^ iter shN 4 (n % 16) := by
  have e : n = n % 16 ^^^ 2 ^ 4 * (n / 16) := by
    rw [← add_xor _ _ 4 (Nat.mod_lt _ (by decide))]
    omega
  conv => lhs; rw [e]
  rw [iter_xor, iter_pow, Nat.xor_comm]
theorem nibI_nat (n : Nat) : nibI (n : Int) = ((iter shN 4 n : Nat) : Int) := by
  unfold nibI
  rw [bitAnd_m4, show (2 : Int) ^ Int.toNat 4 = 16 by decide, Int.fdiv_eq_ediv_of_nonneg _ (by decide)]
  have e1 : ((n : Int) % 16).toNat = n % 16 := by omega
  have e2 : (n : Int) / 16 = ((n / 16 : Nat) : Int) := by omega
  rw [e1, tab_eq _ (Nat.mod_lt _ (by decide)), e2, bitXor_nat, nib_split n]
theorem stepI_nat (a k : Nat) : stepI (a : Int) (k : Int) = ((iter shN 8 (a ^^^ k) : Nat) : Int) := by
  unfold stepI
  rw [bitXor_nat, nibI_nat, nibI_nat, ← iter_add]
theorem fold_nat : ∀ {ks : List Int} (a : Nat), KBa.In ks → ks.foldl stepI (a : Int) = ((iter shN (8 * ks.length) (a ^^^ leN ks) : Nat) : Int)
  | [], a, _ => by simp [leN, iter]
  | k :: r, a, h => by
    have h1 := h k (List.mem_cons_self ..)
    have ek : (k : Int) = ((k.toNat : Nat) : Int) := (Int.toNat_of_nonneg h1.1).symm
    rw [List.foldl_cons]
    conv => lhs; rw [ek]
    rw [stepI_nat, fold_nat (ks := r) _ fun x hx => h x (List.mem_cons_of_mem _ hx)]
    have e : 8 * (k :: r).length = 8 + 8 * r.length := by rw [List.length_cons]; omega
    rw [e, iter_add, leN, add_xor k.toNat (leN r) 8 (by omega), ← Nat.xor_assoc, iter_xor 8 (a ^^^ k.toNat) (2 ^ 8 * leN r), iter_pow]
def crcN (ks : List Int) : Nat := iter shN (8 * ks.length) (allOnes ^^^ leN ks) ^^^ allOnes
theorem crcI_nat {ks : List Int} (h : KBa.In ks) : crcI ks = ((crcN ks : Nat) : Int) := by
  unfold crcI crcN
  rw [show (4294967295 : Int) = ((allOnes : Nat) : Int) from rfl, fold_nat _ h, bitXor_nat]
theorem crcN_lt {ks : List Int} (h : KBa.In ks) : crcN ks < 2 ^ 32 := by
  have hn : ∀ (n a x : Nat), a < 2 ^ 32 → x < 2 ^ n → iter shN n (a ^^^ x) < 2 ^ 32 := by
    intro n a x ha hx
    rw [iter_xor]
    refine Nat.xor_lt_two_pow (iter_lt n ha) ?_
    have : ∀ (n x : Nat), x < 2 ^ n → iter shN n x < 2 ^ 32 := by
      intro n
      induction n with
      | zero => intro x hx; show x < 2 ^ 32; omega
      | succ n ih =>
        intro x hx
        show iter shN n (shN x) < 2 ^ 32
        by_cases ho : x % 2 = 1
        · rw [show shN x = x / 2 ^^^ 3988292384 by unfold shN; rw [if_pos ho], iter_xor]
          exact Nat.xor_lt_two_pow (ih _ (by rw [Nat.pow_succ] at hx; omega)) (iter_lt n (by decide))
        · rw [show shN x = x / 2 by unfold shN; rw [if_neg ho]]
          exact ih _ (by rw [Nat.pow_succ] at hx; omega)
    exact this n x hx
  exact Nat.xor_lt_two_pow (hn _ _ _ (by decide) (leN_lt h)) (by decide)
theorem crcI_in {ks : List Int} (h : KBa.In ks) : 0 ≤ crcI ks ∧ crcI ks < 4294967296 := by
  have h1 := crcN_lt h
  rw [crcI_nat h]
  omega
/-- the sum's octets, its lowest first -/
def sumL (ks : List Int) : List Int := [crcI ks % 256, crcI ks / 256 % 256, crcI ks / 65536 % 256, crcI ks / 16777216]
theorem sumL_in {ks : List Int} (h : KBa.In ks) : KBa.In (sumL ks) := by
  have h1 := crcI_in h
  intro k hk
  simp only [sumL, List.mem_cons, List.not_mem_nil, or_false] at hk
  rcases hk with rfl | rfl | rfl | rfl <;> omega
theorem leN_sumL {ks : List Int} (h : KBa.In ks) : leN (sumL ks) = crcN ks := by
  have h1 := crcN_lt h
  have h2 := crcI_nat h
  simp only [sumL, leN, h2]
  omega
end Mine
namespace Mine
def bodyI (T S K : Int) (ps : List Int) : List Int := be48 T ++ be48 S ++ be16 K ++ ps
def frameI (T S K : Int) (ps : List Int) : List Int := bodyI T S K ps ++ sumL (bodyI T S K ps)
end Mine
end
section
namespace Mine
section
variable {prog : Program} {w : World} {A₀ A : Around} {s : Shared} {base h₀ : Heap} {outer : List Env} {L : Addr} {m : Str → Option Value} {mg mb : Str → Option Value} {env : Env} {K : Frag} {p : Program} {loose : List Str} {mean : ExcName → Option Value}
  {R : Result → Shared → Prop} {name qual : Str} {params : Arguments} {body : List Stmt} {scope : Scope} {dV kV doc pm cdv ct oc : Value} {an od : Option Addr} {osl : Array (Option Value)} {f : Addr} {args : Args} {binds : List (Str × Value)}

/-- a def is entered over the whole heap as it stands: nothing of it is turned -/
theorem enterP (B : Below A₀ base outer h₀) (F : Fr h₀ L s.heap m) (X₀ : K.In h₀) (T : Top p loose mean mg mb h₀) (hA : A.frames = some (env :: outer)) (hf : env.frame = some L) (hke : env.scope.kind = .function)
    (ho : K.lookup f = some ⟨oc, od, .func (fnOf name qual params body scope dV kV doc pm an cdv ct), osl⟩) (hcd : codeIn K cdv qual = true) (hroom : A.depth < recursionLimit)
    (hbind : BindsTo s (fnOf name qual params body scope dV kV doc pm an cdv ct) args binds) (hloc : ∀ y ∈ binds, scope.names.lookup y.1 = some .local)
    (h : ∀ g L' h₁, s.heap = g → Fr g L' h₁ (fun y => binds.reverse.lookup y) → News g L' h₁ [] → Below A base (env :: outer) g → K.In g → Top p loose mean mg mb g →
      wpAny (model prog w) (A.deeper (envOf qual scope L' f cdv)) (execs body (envOf qual scope L' f cdv))
        (fun fl s' => R (.ok (.ret (match fl with | .ret v => v | _ => .none))) s')
        (fun e s' => wpAny (model prog w) (A.deeper (envOf qual scope L' f cdv)) (leaving (envOf qual scope L' f cdv) e) (fun _ s'' => R (.error e) s'') (fun e' s'' => R (.error e') s'') s')
        { s with heap := h₁, toks := s.toks + binds.length })
    (hco : scope.isCoroutine = false) (hgen : scope.isGenerator = false) (hk : scope.kind = .function)
    (hcell : ∀ x ∈ scope.names, x.2 ≠ .cell) : codeAny (model prog w) A (.call (.ref f) args) R s := by
  obtain ⟨_, BG, st, _⟩ := groundX (R := R) (news := []) B F (fun _ hp => nomatch hp) hA hf hke
  have BG' : Below A base (env :: outer) s.heap := BG
  have st' : h₀.StaysIn s.heap := st
  refine codeAny_call_def (fd := fnOf name qual params body scope dV kV doc pm an cdv ct) (body := body) (binds := binds) hroom (X₀.keeps F.keep _ _ ho) rfl (T.nolimit.keeps F.keep) (codeRec_of (X₀.keeps F.keep) hcd) rfl hbind hcell hloc (fun h₁ hns hk₁ => ?_) hco hgen hk
  exact h s.heap s.heap.objs.size h₁ rfl ⟨hns, hk₁, Nat.le_refl _⟩ (fun _ hp => nomatch hp) BG' (X₀.keeps st') (T.keeps st')

/-- the same for a def with names that its comprehensions capture -/
theorem enterPC (B : Below A₀ base outer h₀) (F : Fr h₀ L s.heap m) (X₀ : K.In h₀) (T : Top p loose mean mg mb h₀) (hA : A.frames = some (env :: outer)) (hf : env.frame = some L) (hke : env.scope.kind = .function)
    (ho : K.lookup f = some ⟨oc, od, .func (fnOf name qual params body scope dV kV doc pm an cdv ct), osl⟩) (hcd : codeIn K cdv qual = true) (hroom : A.depth < recursionLimit)
    (hbind : BindsTo s (fnOf name qual params body scope dV kV doc pm an cdv ct) args binds) (hkind : (binds.all fun y => scope.names.lookup y.1 == some .local || scope.names.lookup y.1 == some .cell) = true)
    (hnd : ((cellsFrom 0 scope.names []).map (·.1)).Nodup)
    (h : ∀ g L' h₁ tk cells, s.heap = g → Fr g L' h₁ (bindL (envOfC qual scope L' f cdv).kindOf binds fun _ => none) → News g L' h₁ cells →
      CellsAre (bindC (envOfC qual scope L' f cdv).kindOf binds fun _ => none) (cellsFrom (L' + 1) scope.names []) cells → Below A base (env :: outer) g → K.In g → Top p loose mean mg mb g →
      wpAny (model prog w) (A.deeper (envOfC qual scope L' f cdv)) (execs body (envOfC qual scope L' f cdv))
        (fun fl s' => R (.ok (.ret (match fl with | .ret v => v | _ => .none))) s')
        (fun e s' => wpAny (model prog w) (A.deeper (envOfC qual scope L' f cdv)) (leaving (envOfC qual scope L' f cdv) e) (fun _ s'' => R (.error e) s'') (fun e' s'' => R (.error e') s'') s')
        { s with heap := h₁, toks := tk })
    (hco : scope.isCoroutine = false) (hgen : scope.isGenerator = false) (hk : scope.kind = .function) : codeAny (model prog w) A (.call (.ref f) args) R s := by
  obtain ⟨_, BG, st, _⟩ := groundX (R := R) (news := []) B F (fun _ hp => nomatch hp) hA hf hke
  have BG' : Below A base (env :: outer) s.heap := BG
  have st' : h₀.StaysIn s.heap := st
  have X := X₀.keeps F.keep
  refine codeAny_call_function hroom (X _ _ ho) rfl hco hgen rfl (codeRec_of X hcd) (hbind _ _ _ _ ?_)
  refine wpAny_newFunctionEnv_cells hk (kindsX hkind _) fun env' he s' x => ?_
  subst he
  refine ⟨(T.nolimit.keeps F.keep).keeps x.toInCall.keep, codeAny_func ?_⟩
  obtain ⟨h₁, tk, rfl, _⟩ := x.done
  have hk₁ := x.toInCall.keep
  obtain ⟨cells, NC, Y⟩ := Cl.news (h₀ := s.heap) (Nat.le_refl _) fun n c hm => ⟨x.cell n c (lookup_of_mem_nodup (cellsFrom_names scope.names 0 (s.heap.objs.size + 1) [] [] rfl ▸ hnd) hm), x.above n c hm⟩
  exact h s.heap s.heap.objs.size h₁ tk cells rfl ⟨x.toInCall.ns, hk₁, Nat.le_refl _⟩ NC Y BG' (X₀.keeps st') (T.keeps st')
end

/-- what a call gives back that turns nothing: every object stays as it was -/
abbrev OkP (D : Nat) (f : Addr) (vs : List Value) (R : Heap → Value → Heap → Prop) : Prop :=
  ∀ (w : World) (p : Program) (loose : List Str) (mean : ExcName → Option Value) (mg mb : Str → Option Value)
    (dp un : Nat) (gd : Option (List Code)) (cn : Str) (cs : Scope) (a : Addr) (ccd : Value) (cl : List (Str × Addr)) (outer : List Env) (A₀ : Around) (base h₀ : Heap) (L : Addr) (m : Str → Option Value) (s : Shared) (Q E : Value → Shared → Prop),
    Below A₀ base outer h₀ → Fr h₀ L s.heap m → (Mine.hd.heap_39 w.params).In h₀ → Top p loose mean mg mb h₀ → cs.kind = .function → dp + D < recursionLimit → un + 8 * D < cLine →
    (∀ v h' tk', R s.heap v h' → s.heap.StaysIn h' → Q v { s with heap := h', toks := tk' }) →
      wpAny (model PySem.Challenge.rw_xw0327_01.row.prog w) (ktrTop dp un gd cn cs L a ccd cl outer) (call (.ref f) vs) Q E s

theorem use_okP {D : Nat} {f : Addr} {vs : List Value} {news : Led} {R : Heap → Value → Heap → Prop} (C : OkP D f vs R)
    {w : World} {p : Program} {loose : List Str} {mean : ExcName → Option Value} {mg mb : Str → Option Value}
    {dp un : Nat} {gd : Option (List Code)} {cn : Str} {cs : Scope} {a : Addr} {ccd : Value} {cl : List (Str × Addr)} {outer : List Env} {A₀ : Around} {base h₀ : Heap} {L : Addr} {m : Str → Option Value} {s : Shared} {Q E : Value → Shared → Prop}
    (B : Below A₀ base outer h₀) (F : Fr h₀ L s.heap m) (X : (Mine.hd.heap_39 w.params).In h₀) (N : News h₀ L s.heap news) (T : Top p loose mean mg mb h₀) (hk : cs.kind = .function) (hd : dp + D < recursionLimit) (hu : un + 8 * D < cLine)
    (ret : ∀ v h' tk', R s.heap v h' → Fr h₀ L h' m → News h₀ L h' news → s.heap.StaysIn h' → Q v { s with heap := h', toks := tk' }) :
      wpAny (model PySem.Challenge.rw_xw0327_01.row.prog w) (ktrTop dp un gd cn cs L a ccd cl outer) (call (.ref f) vs) Q E s :=
  C _ _ _ _ _ _ _ _ _ _ _ _ _ _ _ _ _ _ _ _ _ _ _ B F X T hk hd hu fun v h' tk' r st => ret v h' tk' r (F.keptAll st) (N.grown st) st

/-- a new object of a call that turns nothing goes onto the ledger -/
theorem news_new {h₀ h h' : Heap} {L l : Addr} {o : Obj} {m : Str → Option Value} {news : Led} (F : Fr h₀ L h m) (N : News h₀ L h' news) (hn : h.get? l = none) (ho : h'.get? l = some o) : News h₀ L h' ((l, o) :: news) := fun q hq => by
  rcases List.mem_cons.mp hq with rfl | hq
  · refine ⟨ho, fun e => ?_, ?_⟩
    · obtain ⟨oL, _, _, hL, _⟩ := F.ns
      rw [← e, hn] at hL; cases hL
    · cases z : h₀.get? l with
      | none => rfl
      | some o' => rw [F.keep _ _ z] at hn; cases hn
  · exact N q hq
end Mine
end
section
open PySem PySem.W PySem.Calls PyProof.Rows PySem.Spec PyProof.V
namespace Mine
section
variable {prog : Program} {w : World} {A : Around} {s : Shared} {env : Env} {h₀ : Heap} {x : Str} {px pos : Pos} {iter : PySem.Expr} {body : List Stmt} {Q : Flow → Shared → Prop}
/-- a turn's end, under a name of its own -/
def CUEnd (h₀ : Heap) (L : Addr) (s₁ : Shared) (I : Addr) (it : Obj) (rest : (Str → Option Value) → Led → Prop) (s₂ : Shared) : Prop := UnrEnd h₀ L s₁ I it rest s₂
/-- a ledger less the entry at I -/
def DropAt (I : Addr) (it : Obj) (all news : Led) : Prop := ∃ pre post, all = pre ++ (I, it) :: post ∧ news = pre ++ post
theorem DropAt.head {I : Addr} {it : Obj} {r : Led} : DropAt I it ((I, it) :: r) r := ⟨[], r, rfl, rfl⟩
theorem DropAt.tail {I : Addr} {it : Obj} {p : Addr × Obj} {r r' : Led} (h : DropAt I it r r') : DropAt I it (p :: r) (p :: r') := by
  obtain ⟨a, b, h1, h2⟩ := h
  exact ⟨p :: a, b, by rw [h1]; rfl, by rw [h2]; rfl⟩
theorem DropAt.sub {I : Addr} {it : Obj} {all news : Led} (h : DropAt I it all news) : ∀ p ∈ (I, it) :: news, p ∈ all := by
  obtain ⟨pre, post, rfl, rfl⟩ := h
  intro p hp
  rcases List.mem_cons.mp hp with rfl | hp
  · exact List.mem_append.mpr (.inr (.head _))
  · rcases List.mem_append.mp hp with hp | hp
    · exact List.mem_append.mpr (.inl hp)
    · exact List.mem_append.mpr (.inr (.tail _ hp))
/-- no entry is a record -/
def NoFields : Led → Prop
  | [] => True
  | p :: r => (∀ fs, p.2.data ≠ .fields fs) ∧ NoFields r
theorem NoFields.at : ∀ {l : Led}, NoFields l → ∀ p ∈ l, ∀ fs, p.2.data ≠ .fields fs
  | [], _, _, h => nomatch h
  | _ :: _, x, p, h => by
    rcases List.mem_cons.mp h with rfl | h
    · exact x.1
    · exact NoFields.at x.2 p h
theorem noFields_list {xs : Array Value} {n : Nat} : ∀ fs, (W.listOf xs n).data ≠ .fields fs := fun _ e => nomatch e
theorem noFields_lst {xs : List Value} : ∀ fs, (LCg.lst xs).data ≠ .fields fs := fun _ e => nomatch e
theorem noFields_cell {o : Obj} {v : Option Value} (h : o.data = .cell v) : ∀ fs, o.data ≠ .fields fs := fun fs e => by rw [h] at e; cases e
theorem unrEnd_drop {L I : Addr} {it : Obj} {rest : (Str → Option Value) → Led → Prop} {s₁ : Shared} {h' : Heap} {tk : Nat} {m' : Str → Option Value} {all news' : Led} (F : Fr h₀ L h' m') (N : News h₀ L h' all)
    (hit : ∃ fs, it.data = .fields fs) (hD : DropAt I it all news') (off : NoFields news') (r : rest m' news') : CUEnd h₀ L s₁ I it rest { s₁ with heap := h', toks := tk } :=
  UnrEnd.intro F N news' hD.sub (fun p hp e => by
    have h1 := (N _ (hD.sub p (.tail _ hp))).1
    have h2 := (N _ (hD.sub _ (.head _))).1
    rw [e] at h1
    obtain ⟨fs, hf⟩ := hit
    have e2 : p.2 = it := Option.some.inj (h1.symm.trans h2)
    exact off.at p hp fs (by rw [e2]; exact hf)) r
/-- the turns of a loop whose own name is a cell, over a written list of the ledger -/
def CellRest (prog : Program) (w : World) (A : Around) (h₀ : Heap) (env : Env) (x : Str) (body : List Stmt) (Q : Flow → Shared → Prop) (s : Shared) (I : Addr) (lp : Addr × Obj) : List Value → (Str → Option Value) → Led → Prop
  | [], m, news => ∀ h tk, Fr h₀ env.locals h m → News h₀ env.locals h news → Q .next { s with heap := h, toks := tk }
  | v :: r, m, news => ∀ (it : Obj) h tk, (∃ fs, it.data = .fields fs) → Fr h₀ env.locals h m → News h₀ env.locals h ((I, it) :: news) →
      wpAny (model prog w) A (storeName env x v) (fun _ s₂ => wpAny (model prog w) A (execs body env) (fun f s₃ => f = .next ∧ CUEnd h₀ env.locals { s with heap := h, toks := tk } I it (fun m' n' => lp ∈ n' ∧ CellRest prog w A h₀ env x body Q s I lp r m' n') s₃) (fun _ _ => False) s₂) (fun _ _ => False) { s with heap := h, toks := tk }

theorem CellRest.zero {I : Addr} {lp : Addr × Obj} {m : Str → Option Value} {news : Led} (h : ∀ h tk, Fr h₀ env.locals h m → News h₀ env.locals h news → Q .next { s with heap := h, toks := tk }) :
    CellRest prog w A h₀ env x body Q s I lp [] m news := h
theorem CellRest.succ {I : Addr} {lp : Addr × Obj} {v : Value} {r : List Value} {m : Str → Option Value} {news : Led}
    (h : ∀ (it : Obj) h tk, (∃ fs, it.data = .fields fs) → Fr h₀ env.locals h m → News h₀ env.locals h ((I, it) :: news) →
      wpAny (model prog w) A (storeName env x v) (fun _ s₂ => wpAny (model prog w) A (execs body env) (fun f s₃ => f = .next ∧ CUEnd h₀ env.locals { s with heap := h, toks := tk } I it (fun m' n' => lp ∈ n' ∧ CellRest prog w A h₀ env x body Q s I lp r m' n') s₃) (fun _ _ => False) s₂) (fun _ _ => False) { s with heap := h, toks := tk }) :
    CellRest prog w A h₀ env x body Q s I lp (v :: r) m news := h

theorem iter_cellUnr {ax : Addr} {lo : Obj} {vs : List Value} {n : Nat} {m₀ : Str → Option Value} {news : Led} {E : Value → Shared → Prop}
    (hh : A.handled = none) (F : Fr h₀ env.locals s.heap m₀) (N : News h₀ env.locals s.heap news) (hm : (ax, lo) ∈ news) (hc : lo.cls = .type "list") (hd : lo.data = .seq vs.toArray n)
    (rest₀ : ∀ I : Addr, (∀ p ∈ news, p.1 < I) → CellRest prog w A h₀ env x body Q s I (ax, lo) vs m₀ news) :
    wpAny (model prog w) A (pyIter (.ref ax)) (fun it s₂ => codeAny (model prog w) A (.forLoop (.Name x px) it body [] env) (fun r s' => match r with | .ok f => Q f s' | .error e => cameBackBy (model prog w) A env E e s') s₂) E s := by
  have hax := N _ hm
  have isl : ∀ h : Heap, h.get? ax = some lo → h.IsList ax vs.toArray := fun h e => ⟨lo, e, hc, n, hd⟩
  refine wpAny_pyIter_list (isl _ hax.1) ?_
  have rest := rest₀ s.heap.objs.size fun p hp => Heap.lt_size (N p hp).1
  have hnew := next_is_new F
  have offI : ∀ p ∈ news, p.1 ≠ s.heap.objs.size := fun p hp => Nat.ne_of_lt (Heap.lt_size (N p hp).1)
  have hLI : env.locals ≠ s.heap.objs.size := Nat.ne_of_lt F.ns.lt
  refine codeAny_forLoop
    (fun k s' => ∃ h' tk m' news' i, s' = { s with heap := h', toks := tk } ∧ h'.IsListIter s.heap.objs.size ax i ∧ Fr h₀ env.locals h' m' ∧ News h₀ env.locals h' news' ∧ (∀ p ∈ news', p.1 ≠ s.heap.objs.size) ∧ (ax, lo) ∈ news' ∧
      CellRest prog w A h₀ env x body Q s s.heap.objs.size (ax, lo) (vs.drop i) m' news' ∧ i ≤ vs.length ∧ k = vs.length + 1 - i) ?_ (vs.length + 1)
    ⟨_, s.toks, m₀, news, 0, rfl, ⟨_, Heap.get?_push_size _ rfl, rfl, rfl⟩, F.push _, (fun p hp => ⟨Heap.get?_push_of_some _ (N p hp).1, (N p hp).2⟩), offI, hm, by rw [List.drop_zero]; exact rest, Nat.zero_le _, rfl⟩
  rintro k s' ⟨h', tk, m', news', i, rfl, hit, F', N', off', hm', hR, hi, rfl⟩
  have hl' := isl h' (N' _ hm').1
  have next : ∀ h₁ : Heap, (∀ b o, b ≠ s.heap.objs.size → h'.get? b = some o → h₁.get? b = some o) → Fr h₀ env.locals h₁ m' ∧ News h₀ env.locals h₁ news' := fun h₁ hk₁ =>
    ⟨⟨F'.ns.at' fun o e => hk₁ _ o hLI e, fun b o e => hk₁ b o (fun q => by rw [q, hnew] at e; cases e) (F'.keep b o e), F'.above⟩, fun p hp => ⟨hk₁ _ _ (off' p hp) (N' p hp).1, (N' p hp).2⟩⟩
  by_cases hlt : i < vs.length
  · refine wpAny_pyNext_list_item (x := vs[i]) hit hl' (by simp [hlt]) fun h₁ hit₁ hs₁ => ?_
    obtain ⟨F₁, N₁⟩ := next h₁ fun b o hb e => (hs₁.2 b hb).trans e
    rw [List.drop_eq_getElem_cons hlt] at hR
    obtain ⟨oI, hoI, hcI, hdI⟩ := id hit₁
    have N₂ : News h₀ env.locals h₁ ((s.heap.objs.size, oI) :: news') := fun p hp => by
      rcases List.mem_cons.mp hp with rfl | hp
      · exact ⟨hoI, fun q => hLI q.symm, hnew⟩
      · exact N₁ p hp
    refine wpAny_assign_Name (wpAny_mono (hR oI h₁ tk ⟨_, hdI⟩ F₁ N₂) (fun _ s₂ h₂ => wpAny_mono h₂ (fun f s₃ h₃ => ?_) fun _ _ e => e.elim) fun _ _ e => e.elim)
    obtain ⟨rfl, h₃', tk₃, m₃, news₃, rfl, F₃, N₃, off₃, hm₃, R₃⟩ := h₃
    refine ⟨vs.length + 1 - (i + 1), by omega, h₃', tk₃, m₃, news₃, i + 1, rfl, ⟨oI, (N₃ _ (.head _)).1, hcI, hdI⟩, F₃, fun p hp => N₃ p (.tail _ hp), off₃, hm₃, R₃, hlt, rfl⟩
  · have hin : i = vs.length := by omega
    subst hin
    refine wpAny_pyNext_list_end hh hit hl' (by simp) fun h₁ he => wpAny_execs_nil ?_
    obtain ⟨F₁, N₁⟩ := next h₁ he
    rw [List.drop_length] at hR
    exact hR h₁ tk F₁ N₁

theorem For_cellUnr {E : Value → Shared → Prop} (h : wpAny (model prog w) A (eval iter env) (fun xv s₁ => wpAny (model prog w) A (pyIter xv) (fun it s₂ =>
      codeAny (model prog w) A (.forLoop (.Name x px) it body [] env) (fun r s' => match r with | .ok f => Q f s' | .error e => cameBackBy (model prog w) A env E e s') s₂) E s₁) E s)
    (hs : ∀ x, foldedSetIterable iter env x = pure x := by intro _; rfl) :
    wpAny (model prog w) A (exec (.For (.Name x px) iter body [] pos) env) Q E s := wpAny_For h hs
end
theorem ints_eq {ws : List Value} {ns ms : List Int} (h : IntsAre ws ns) (e : ns = ms) : IntsAre ws ms := e ▸ h
/-- an object that the ledger bears was not there before -/
theorem new_not_old {h g h' : Heap} {L l : Addr} {o : Obj} {news : Led} (S : h.StaysIn g) (N : News g L h' news) (hm : (l, o) ∈ news) : h.get? l = none ∧ h'.get? l = some o := by
  refine ⟨?_, (N _ hm).1⟩
  cases e : h.get? l with
  | none => rfl
  | some o' => have := (N _ hm).2.2; rw [S _ _ e] at this; cases this
end Mine
end
section
namespace Mine
theorem use_ok {D : Nat} {f : Addr} {vs : List Value} {news : Led} {R : Value → Led → Prop} (C : Ok D f vs news R)
    {w : World} {p : Program} {loose : List Str} {mean : ExcName → Option Value} {mg mb : Str → Option Value}
    {dp un : Nat} {gd : Option (List Code)} {cn : Str} {cs : Scope} {a : Addr} {ccd : Value} {cl : List (Str × Addr)} {outer : List Env} {A₀ : Around} {base h₀ : Heap} {L : Addr} {m : Str → Option Value} {s : Shared} {Q E : Value → Shared → Prop}
    (B : Below A₀ base outer h₀) (F : Fr h₀ L s.heap m) (X : (Mine.hd.heap_39 w.params).In h₀) (N : News h₀ L s.heap news) (T : Top p loose mean mg mb h₀) (hk : cs.kind = .function) (hd : dp + D < recursionLimit) (hu : un + 8 * D < cLine)
    (ret : ∀ v news' h' tk', R v news' → Fr h₀ L h' m → News h₀ L h' news' → Q v { s with heap := h', toks := tk' }) :
      wpAny (model PySem.Challenge.rw_xw0327_01.row.prog w) (ktrTop dp un gd cn cs L a ccd cl outer) (call (.ref f) vs) Q E s :=
  C _ _ _ _ _ _ _ _ _ _ _ _ _ _ _ _ _ _ _ _ _ _ _ B F X N T hk hd hu ret


theorem len16 (n : Int) : (be16 n).length = 2 := rfl
theorem len32 (n : Int) : (be32 n).length = 4 := rfl
theorem len48 (n : Int) : (be48 n).length = 6 := rfl
local macro_rules | `(tactic| kba_size) => `(tactic| ((simp only [len16, len32, len48, List.length_append, List.length_cons, List.length_nil]); omega))
local macro_rules | `(tactic| kba_in) => `(tactic| (repeat (first | exact in_nil | refine in_cons (and255 _) ?_)))
set_option maxHeartbeats 4000000 in
theorem put32_ok (n : Int) (tn : Tok) (news : Led) : Ok 5 86 [.int n tn] news (fun v news' => news = news' ∧ ∃ b t, v = .bytes b t ∧ KBw.bInts b = be32 n) := by
  k_with_none
  (k_with "my call ref" => (k_here; (with_reducible show wpAny _ _ (call (Value.ref 79) [Value.int _ _]) _ _ _); k_dflt (refine' use_ok (put16_ok _ _ _) ?q62k1 ?q62k2 ?q62k3 ?q62k4 ?q62k5 ?q62kK ?q62kd ?q62ku ?_; (case q62k1 => k_asm); (case q62k2 => k_asm); (case q62k3 => k_asm); (case q62k4 => k_asm); (case q62k5 => k_asm); (case q62kK => first | exact rfl | assumption); (case q62kd => ktr_room); (case q62ku => ktr_units)); intro v9 n9 h9 tk9 R9 F9 N9; (obtain ⟨e9, b9, t9, e8, hb9⟩ := R9); subst e9; subst e8; (try dsimp only); (try k_fold)))
  unfold Ok
  k_fill
  intro w p loose mean mg mb dp un gd cn cs a ccd cl outer A₀ base h₀ L m s Q E B F X N T hk hd hu hret
  refine wpAny_call ?_
  k_dflt cell_enter
  k_steps
  refine hret _ _ _ _ ⟨rfl, _, _, rfl, ?e⟩ (by k_asm) (by k_asm)
  refine Eq.trans (by assumption) ?_
  rw [Int.fdiv_eq_ediv_of_nonneg _ (by decide)]; rfl
set_option maxHeartbeats 4000000 in
theorem put48_ok (n : Int) (tn : Tok) (news : Led) : Ok 7 93 [.int n tn] news (fun v news' => news = news' ∧ ∃ b t, v = .bytes b t ∧ KBw.bInts b = be48 n) := by
  k_with_none
  (k_with "my call ref" => (k_here; (with_reducible show wpAny _ _ (call (Value.ref 79) [Value.int _ _]) _ _ _); k_dflt (refine' use_ok (put16_ok _ _ _) ?q63k1 ?q63k2 ?q63k3 ?q63k4 ?q63k5 ?q63kK ?q63kd ?q63ku ?_; (case q63k1 => k_asm); (case q63k2 => k_asm); (case q63k3 => k_asm); (case q63k4 => k_asm); (case q63k5 => k_asm); (case q63kK => first | exact rfl | assumption); (case q63kd => ktr_room); (case q63ku => ktr_units)); intro v9 n9 h9 tk9 R9 F9 N9; (obtain ⟨e9, b9, t9, e8, hb9⟩ := R9); subst e9; subst e8; (try dsimp only); (try k_fold)))
  (k_with "my call ref" => (k_here; (with_reducible show wpAny _ _ (call (Value.ref 86) [Value.int _ _]) _ _ _); k_dflt (refine' use_ok (put32_ok _ _ _) ?q64k1 ?q64k2 ?q64k3 ?q64k4 ?q64k5 ?q64kK ?q64kd ?q64ku ?_; (case q64k1 => k_asm); (case q64k2 => k_asm); (case q64k3 => k_asm); (case q64k4 => k_asm); (case q64k5 => k_asm); (case q64kK => first | exact rfl | assumption); (case q64kd => ktr_room); (case q64ku => ktr_units)); intro v9 n9 h9 tk9 R9 F9 N9; (obtain ⟨e9, b9, t9, e8, hb9⟩ := R9); subst e9; subst e8; (try dsimp only); (try k_fold)))
  unfold Ok
  k_fill
  intro w p loose mean mg mb dp un gd cn cs a ccd cl outer A₀ base h₀ L m s Q E B F X N T hk hd hu hret
  refine wpAny_call ?_
  k_dflt cell_enter
  k_steps
  refine hret _ _ _ _ ⟨rfl, _, _, rfl, ?e⟩ (by k_asm) (by k_asm)
  refine Eq.trans (by assumption) ?_
  rw [Int.fdiv_eq_ediv_of_nonneg _ (by decide)]; rfl
end Mine
end
section
namespace Mine
theorem gb16_in {ks : List Int} (h : ∀ j : Nat, 0 ≤ ks.getD j 0 ∧ ks.getD j 0 < 256) (i : Int) : 0 ≤ gb16 ks i ∧ gb16 ks i < 65536 := by
  have h1 := h i.toNat
  have h2 := h (i + 1).toNat
  unfold gb16; omega
theorem gb32_in {ks : List Int} (h : ∀ j : Nat, 0 ≤ ks.getD j 0 ∧ ks.getD j 0 < 256) (i : Int) : 0 ≤ gb32 ks i ∧ gb32 ks i < 4294967296 := by
  have h1 := gb16_in h i
  have h2 := gb16_in h (i + 2)
  unfold gb32; omega
theorem gb48_in {ks : List Int} (h : ∀ j : Nat, 0 ≤ ks.getD j 0 ∧ ks.getD j 0 < 256) (i : Int) : 0 ≤ gb48 ks i ∧ gb48 ks i < 281474976710656 := by
  have h1 := gb16_in h i
  have h2 := gb32_in h (i + 2)
  unfold gb48; omega
theorem gb16_eq {ks : List Int} (h : ∀ j : Nat, 0 ≤ ks.getD j 0 ∧ ks.getD j 0 < 256) (i : Int) : Builtin.bitOr (ks.getD i.toNat 0 * 2 ^ Int.toNat 8) (ks.getD (i + 1).toNat 0) = gb16 ks i :=
  bitOr_disj 8 (h _).1 (h _).1 (h _).2
theorem gb32_eq {ks : List Int} (h : ∀ j : Nat, 0 ≤ ks.getD j 0 ∧ ks.getD j 0 < 256) (i : Int) : Builtin.bitOr (gb16 ks i * 2 ^ Int.toNat 16) (gb16 ks (i + 2)) = gb32 ks i :=
  bitOr_disj 16 (gb16_in h _).1 (gb16_in h _).1 (gb16_in h _).2
theorem gb48_eq {ks : List Int} (h : ∀ j : Nat, 0 ≤ ks.getD j 0 ∧ ks.getD j 0 < 256) (i : Int) : Builtin.bitOr (gb16 ks i * 2 ^ Int.toNat 32) (gb32 ks (i + 2)) = gb48 ks i :=
  bitOr_disj 32 (gb16_in h _).1 (gb32_in h _).1 (gb32_in h _).2
set_option maxHeartbeats 4000000 in
theorem need_ok (b : Array UInt8) (tb : Tok) (ks : List Int) (i : Int) (ti : Tok) (z : Int) (tz : Tok) (news : Led) (hb : KBw.bInts b = ks) (hl : ks.length ≤ 1000) (h0 : 0 ≤ i) (h1 : i + z ≤ (ks.length : Int)) :
    Ok 3 100 [.bytes b tb, .int i ti, .int z tz] news (fun v news' => news = news' ∧ v = .none) := by
  k_with_none
  unfold Ok
  k_fill
  intro w p loose mean mg mb dp un gd cn cs a ccd cl outer A₀ base h₀ L m s Q E B F X N T hk hd hu hret
  refine wpAny_call ?_
  k_dflt cell_enter
  k_steps
  exact hret _ _ _ _ ⟨rfl, rfl⟩ (by k_asm) (by k_asm)
set_option maxHeartbeats 4000000 in
theorem get16_ok (b : Array UInt8) (tb : Tok) (ks : List Int) (i : Int) (ti : Tok) (news : Led) (hb : KBw.bInts b = ks) (hl : ks.length ≤ 1000) (h0 : 0 ≤ i) (h1 : i + 2 ≤ (ks.length : Int)) :
    Ok 5 107 [.bytes b tb, .int i ti] news (fun v news' => news = news' ∧ ∃ t, v = .int (gb16 ks i) t ∧ 0 ≤ gb16 ks i ∧ gb16 ks i < 65536) := by
  k_with_none
  (k_with "my call ref" => (k_here; (with_reducible show wpAny _ _ (call (Value.ref 100) [Value.bytes _ _, Value.int _ _, Value.int _ _]) _ _ _); k_dflt (refine' use_ok (need_ok _ _ _ _ _ _ _ _ ?q65hb ?q65hl ?q65h0 ?q65h1) ?q65k1 ?q65k2 ?q65k3 ?q65k4 ?q65k5 ?q65kK ?q65kd ?q65ku ?_; (case q65k1 => k_asm); (case q65k2 => k_asm); (case q65k3 => k_asm); (case q65k4 => k_asm); (case q65k5 => k_asm); (case q65kK => first | exact rfl | assumption); (case q65kd => ktr_room); (case q65ku => ktr_units); (case q65hb => kba_ints); (case q65hl => kba_size); (case q65h0 => first | assumption | omega | decide); (case q65h1 => first | assumption | omega | kba_idx)); intro v9 n9 h9 tk9 R9 F9 N9; (obtain ⟨e9, e8⟩ := R9); subst e9; subst e8; (try dsimp only); (try k_fold)))
  unfold Ok
  k_fill
  intro w p loose mean mg mb dp un gd cn cs a ccd cl outer A₀ base h₀ L m s Q E B F X N T hk hd hu hret
  refine wpAny_call ?_
  k_dflt cell_enter
  k_steps
  refine' hret _ _ _ _ ?r ?f ?n
  case f => k_asm
  case n => first | k_asm | exact cb_drop (by assumption) (by kcj_all)
  case r => 
    have hin := fun (j : Nat) => KBw.getD_in (ks := ks) (j := j) (by subst hb; exact fun k hk => KBw.ints_in hk)
    exact ⟨rfl, _, congrArg (fun x => Value.int x _) (gb16_eq hin i), gb16_in hin i⟩
set_option maxHeartbeats 4000000 in
theorem get32_ok (b : Array UInt8) (tb : Tok) (ks : List Int) (i : Int) (ti : Tok) (news : Led) (hb : KBw.bInts b = ks) (hl : ks.length ≤ 1000) (h0 : 0 ≤ i) (h1 : i + 4 ≤ (ks.length : Int)) :
    Ok 7 114 [.bytes b tb, .int i ti] news (fun v news' => news = news' ∧ ∃ t, v = .int (gb32 ks i) t ∧ 0 ≤ gb32 ks i ∧ gb32 ks i < 4294967296) := by
  k_with_none
  (k_with "my call ref" => (k_here; (with_reducible show wpAny _ _ (call (Value.ref 100) [Value.bytes _ _, Value.int _ _, Value.int _ _]) _ _ _); k_dflt (refine' use_ok (need_ok _ _ _ _ _ _ _ _ ?q66hb ?q66hl ?q66h0 ?q66h1) ?q66k1 ?q66k2 ?q66k3 ?q66k4 ?q66k5 ?q66kK ?q66kd ?q66ku ?_; (case q66k1 => k_asm); (case q66k2 => k_asm); (case q66k3 => k_asm); (case q66k4 => k_asm); (case q66k5 => k_asm); (case q66kK => first | exact rfl | assumption); (case q66kd => ktr_room); (case q66ku => ktr_units); (case q66hb => kba_ints); (case q66hl => kba_size); (case q66h0 => first | assumption | omega | decide); (case q66h1 => first | assumption | omega | kba_idx)); intro v9 n9 h9 tk9 R9 F9 N9; (obtain ⟨e9, e8⟩ := R9); subst e9; subst e8; (try dsimp only); (try k_fold)))
  (k_with "my call ref" => (k_here; (with_reducible show wpAny _ _ (call (Value.ref 107) [Value.bytes _ _, Value.int _ _]) _ _ _); k_dflt (refine' use_ok (get16_ok _ _ _ _ _ _ ?q67hb ?q67hl ?q67h0 ?q67h1) ?q67k1 ?q67k2 ?q67k3 ?q67k4 ?q67k5 ?q67kK ?q67kd ?q67ku ?_; (case q67k1 => k_asm); (case q67k2 => k_asm); (case q67k3 => k_asm); (case q67k4 => k_asm); (case q67k5 => k_asm); (case q67kK => first | exact rfl | assumption); (case q67kd => ktr_room); (case q67ku => ktr_units); (case q67hb => kba_ints); (case q67hl => kba_size); (case q67h0 => first | assumption | omega | decide); (case q67h1 => first | assumption | omega | kba_idx)); intro v9 n9 h9 tk9 R9 F9 N9; (obtain ⟨e9, t9, e8, lo9, hi9⟩ := R9); subst e9; subst e8; (try dsimp only); (try k_fold)))
  unfold Ok
  k_fill
  intro w p loose mean mg mb dp un gd cn cs a ccd cl outer A₀ base h₀ L m s Q E B F X N T hk hd hu hret
  refine wpAny_call ?_
  k_dflt cell_enter
  k_steps
  refine' hret _ _ _ _ ?r ?f ?n
  case f => k_asm
  case n => first | k_asm | exact cb_drop (by assumption) (by kcj_all)
  case r => 
    have hin := fun (j : Nat) => KBw.getD_in (ks := ks) (j := j) (by subst hb; exact fun k hk => KBw.ints_in hk)
    exact ⟨rfl, _, congrArg (fun x => Value.int x _) (gb32_eq hin i), gb32_in hin i⟩
set_option maxHeartbeats 4000000 in
theorem get48_ok (b : Array UInt8) (tb : Tok) (ks : List Int) (i : Int) (ti : Tok) (news : Led) (hb : KBw.bInts b = ks) (hl : ks.length ≤ 1000) (h0 : 0 ≤ i) (h1 : i + 6 ≤ (ks.length : Int)) :
    Ok 9 121 [.bytes b tb, .int i ti] news (fun v news' => news = news' ∧ ∃ t, v = .int (gb48 ks i) t ∧ 0 ≤ gb48 ks i ∧ gb48 ks i < 281474976710656) := by
  k_with_none
  (k_with "my call ref" => (k_here; (with_reducible show wpAny _ _ (call (Value.ref 100) [Value.bytes _ _, Value.int _ _, Value.int _ _]) _ _ _); k_dflt (refine' use_ok (need_ok _ _ _ _ _ _ _ _ ?q68hb ?q68hl ?q68h0 ?q68h1) ?q68k1 ?q68k2 ?q68k3 ?q68k4 ?q68k5 ?q68kK ?q68kd ?q68ku ?_; (case q68k1 => k_asm); (case q68k2 => k_asm); (case q68k3 => k_asm); (case q68k4 => k_asm); (case q68k5 => k_asm); (case q68kK => first | exact rfl | assumption); (case q68kd => ktr_room); (case q68ku => ktr_units); (case q68hb => kba_ints); (case q68hl => kba_size); (case q68h0 => first | assumption | omega | decide); (case q68h1 => first | assumption | omega | kba_idx)); intro v9 n9 h9 tk9 R9 F9 N9; (obtain ⟨e9, e8⟩ := R9); subst e9; subst e8; (try dsimp only); (try k_fold)))
  (k_with "my call ref" => (k_here; (with_reducible show wpAny _ _ (call (Value.ref 107) [Value.bytes _ _, Value.int _ _]) _ _ _); k_dflt (refine' use_ok (get16_ok _ _ _ _ _ _ ?q69hb ?q69hl ?q69h0 ?q69h1) ?q69k1 ?q69k2 ?q69k3 ?q69k4 ?q69k5 ?q69kK ?q69kd ?q69ku ?_; (case q69k1 => k_asm); (case q69k2 => k_asm); (case q69k3 => k_asm); (case q69k4 => k_asm); (case q69k5 => k_asm); (case q69kK => first | exact rfl | assumption); (case q69kd => ktr_room); (case q69ku => ktr_units); (case q69hb => kba_ints); (case q69hl => kba_size); (case q69h0 => first | assumption | omega | decide); (case q69h1 => first | assumption | omega | kba_idx)); intro v9 n9 h9 tk9 R9 F9 N9; (obtain ⟨e9, t9, e8, lo9, hi9⟩ := R9); subst e9; subst e8; (try dsimp only); (try k_fold)))
  (k_with "my call ref" => (k_here; (with_reducible show wpAny _ _ (call (Value.ref 114) [Value.bytes _ _, Value.int _ _]) _ _ _); k_dflt (refine' use_ok (get32_ok _ _ _ _ _ _ ?q70hb ?q70hl ?q70h0 ?q70h1) ?q70k1 ?q70k2 ?q70k3 ?q70k4 ?q70k5 ?q70kK ?q70kd ?q70ku ?_; (case q70k1 => k_asm); (case q70k2 => k_asm); (case q70k3 => k_asm); (case q70k4 => k_asm); (case q70k5 => k_asm); (case q70kK => first | exact rfl | assumption); (case q70kd => ktr_room); (case q70ku => ktr_units); (case q70hb => kba_ints); (case q70hl => kba_size); (case q70h0 => first | assumption | omega | decide); (case q70h1 => first | assumption | omega | kba_idx)); intro v9 n9 h9 tk9 R9 F9 N9; (obtain ⟨e9, t9, e8, lo9, hi9⟩ := R9); subst e9; subst e8; (try dsimp only); (try k_fold)))
  unfold Ok
  k_fill
  intro w p loose mean mg mb dp un gd cn cs a ccd cl outer A₀ base h₀ L m s Q E B F X N T hk hd hu hret
  refine wpAny_call ?_
  k_dflt cell_enter
  k_steps
  refine' hret _ _ _ _ ?r ?f ?n
  case f => k_asm
  case n => first | k_asm | exact cb_drop (by assumption) (by kcj_all)
  case r => 
    have hin := fun (j : Nat) => KBw.getD_in (ks := ks) (j := j) (by subst hb; exact fun k hk => KBw.ints_in hk)
    exact ⟨rfl, _, congrArg (fun x => Value.int x _) (gb48_eq hin i), gb48_in hin i⟩
end Mine
end
section
namespace Mine
theorem shI_nonneg (x : Int) : 0 ≤ shI x := Int.natCast_nonneg _
theorem shI_odd {x : Int} (h0 : 0 ≤ x) (h : Builtin.bitAnd x 1 ≠ 0) : Builtin.bitXor (x.fdiv (2 ^ Int.toNat 1)) 3988292384 = shI x := by
  rw [bitAnd_m1] at h
  rw [Int.fdiv_eq_ediv_of_nonneg _ (by decide), show (2 : Int) ^ Int.toNat 1 = 2 by decide, bitXor_pp (by omega) (by decide)]
  unfold shI shN
  rw [if_pos (by omega)]
  have e : (x / 2).toNat = x.toNat / 2 := by omega
  rw [e]
  rfl
theorem shI_even {x : Int} (h0 : 0 ≤ x) (h : ¬ Builtin.bitAnd x 1 ≠ 0) : x.fdiv (2 ^ Int.toNat 1) = shI x := by
  rw [bitAnd_m1] at h
  rw [Int.fdiv_eq_ediv_of_nonneg _ (by decide), show (2 : Int) ^ Int.toNat 1 = 2 by decide]
  unfold shI shN
  rw [if_neg (by omega)]
  omega
set_option maxHeartbeats 4000000 in
theorem shifted_ok (x : Int) (tx : Tok) (news : Led) (h0 : 0 ≤ x) :
    Ok 3 28 [.int x tx] news (fun v news' => news = news' ∧ ∃ t, v = .int (shI x) t ∧ 0 ≤ shI x ∧ True) := by
  k_with_none
  unfold Ok
  k_fill
  intro w p loose mean mg mb dp un gd cn cs a ccd cl outer A₀ base h₀ L m s Q E B F X N T hk hd hu hret
  refine wpAny_call ?_
  k_dflt cell_enter
  k_steps
  all_goals (
    refine' hret _ _ _ _ ?r ?f ?n
    case f => k_asm
    case n => first | k_asm | exact cb_drop (by assumption) (by kcj_all)
    case r => exact ⟨rfl, _, congrArg (fun x => Value.int x _) (by first | exact shI_odd h0 (by simp_all) | exact shI_even h0 (by simp_all)), shI_nonneg _, trivial⟩)
end Mine
end
section
namespace Mine
set_option maxHeartbeats 4000000 in
theorem table_ok :
    OkP 5 33 [] (fun old v h' => ∃ l ws n, v = .ref l ∧ old.get? l = none ∧ h'.get? l = some (W.listOf (List.toArray ws) n) ∧ IntsAre ws tabI) := by
  k_with_none
  (k_with "my CellRest" => (with_unfolding_all first | (refine CellRest.succ (fun it' h' tk' hit' F' N' => ?_)) | (refine CellRest.zero (fun h' tk' F' N' => ?_))))
  (k_with "my CUEnd" => ((refine' unrEnd_drop ?q72eF ?q72eN ?q72eI ?q72eD ?q72eO ⟨?q72eL, ?_⟩); (case q72eF => k_asm); (case q72eN => k_asm); (case q72eI => assumption); (case q72eD => repeat (first | exact DropAt.head | apply DropAt.tail)); (case q72eO => repeat (first | exact trivial | (refine And.intro (by first | exact noFields_list | exact noFields_lst | exact noFields_cell (by assumption)) ?_))); (case q72eL => k_mem)))
  (k_with "my call ref" => (k_here; (with_reducible show wpAny _ _ (call (Value.ref 28) [Value.int _ _]) _ _ _); k_dflt (refine' use_ok (shifted_ok _ _ _ ?q73h0) ?q73k1 ?q73k2 ?q73k3 ?q73k4 ?q73k5 ?q73kK ?q73kd ?q73ku ?_; (case q73k1 => k_asm); (case q73k2 => k_asm); (case q73k3 => k_asm); (case q73k4 => k_asm); (case q73k5 => k_asm); (case q73kK => first | exact rfl | assumption); (case q73kd => ktr_room); (case q73ku => ktr_units); (case q73h0 => first | assumption | omega | decide)); intro v9 n9 h9 tk9 R9 F9 N9; (obtain ⟨e9, t9, e8, lo9, hi9⟩ := R9); subst e9; subst e8; (try dsimp only); (try k_fold)))
  unfold OkP
  k_fill
  intro w p loose mean mg mb dp un gd cn cs a ccd cl outer A₀ base h₀ L m s Q E B F X T hk hd hu hret
  refine wpAny_call ?_
  k_dflt (refine' enterPC ?k1 ?k2 ?k3 ?k5 ?kA ?kF ?kK ?k6 ?k7 ?k8 ?k9 ?kB ?kD ?_ ?c2 ?c3 ?c4; (case kA => exact rfl); (case kF => exact rfl); (case kK => assumption); (case k1 => k_asm); (case k2 => k_asm); (case k3 => k_asm); (case k5 => k_asm); (case k6 => k_is); (case k7 => k_is); (case k8 => ktr_room); (case k9 => first | exact BindsTo.of_eq rfl | exact binds_K (by k_in) rfl (by k_is) rfl rfl rfl); (case kB => exact rfl); (case kD => decide +kernel); (case c2 => exact rfl); (case c3 => exact rfl); (case c4 => exact rfl); k_whole)
  intro g' L' h' tk' cells' SG0 F' N' Y' B' X' T'
  have SG' : s.heap.StaysIn g' := by rw [SG0]; exact fun _ _ e => e
  k_cells Y'
  (try simp only [List.cons_append, List.nil_append] at N')
  (try dsimp only)
  (try k_lift B')
  (try k_fold)
  k_steps
  k_dflt (refine For_cellUnr ?_)
  k_steps
  (rename Fr _ _ _ _ => F9)
  (rename News _ _ _ _ => N9)
  k_dflt (refine iter_cellUnr (vs := [_, _, _, _]) (by rfl) F9 N9 (by k_mem) (by rfl) (by rfl) ?_)
  clear F9 N9
  intro I' l1
  k_lt l1
  k_steps
  refine hret _ _ _ ?zR ?zS
  case zS => exact fun b o e => by (with_reducible rename Fr _ _ _ _ => F9); exact F9.keep b o (SG' b o e)
  case zR =>
    (with_reducible rename News _ _ _ _ => N9)
    (with_reducible rename IntsAre _ _ => I9)
    obtain ⟨h8, h9⟩ := new_not_old SG' N9 (List.Mem.head _)
    exact ⟨_, _, _, rfl, h8, h9, ints_eq I9 (by decide +kernel)⟩
end Mine
end
section
namespace Mine
theorem use_table {w : World} {p : Program} {loose : List Str} {mean : ExcName → Option Value} {mg mb : Str → Option Value} {news : Led}
    {dp un : Nat} {gd : Option (List Code)} {cn : Str} {cs : Scope} {a : Addr} {ccd : Value} {cl : List (Str × Addr)} {outer : List Env} {A₀ : Around} {base h₀ : Heap} {L : Addr} {m : Str → Option Value} {s : Shared} {Q E : Value → Shared → Prop}
    (B : Below A₀ base outer h₀) (F : Fr h₀ L s.heap m) (X : (Mine.hd.heap_39 w.params).In h₀) (N : News h₀ L s.heap news) (T : Top p loose mean mg mb h₀) (hk : cs.kind = .function) (hd : dp + 5 < recursionLimit) (hu : un + 8 * 5 < cLine)
    (ret : ∀ l ws n h' tk', IntsAre ws tabI → Fr h₀ L h' m → News h₀ L h' ((l, W.listOf (List.toArray ws) n) :: news) → Q (.ref l) { s with heap := h', toks := tk' }) :
      wpAny (model PySem.Challenge.rw_xw0327_01.row.prog w) (ktrTop dp un gd cn cs L a ccd cl outer) (call (.ref 33) []) Q E s :=
  use_okP table_ok B F X N T hk hd hu fun v h' tk' r F' N' _ => by
    obtain ⟨l, ws, n, rfl, h1, h2, hi⟩ := r
    exact ret l ws n h' tk' hi F' (news_new F N' h1 h2)
theorem item15 {prog : Program} {w : World} {A : Around} {E : Value → Shared → Prop} {s : Shared} {value slice : PySem.Expr} {h₀ : Heap} {L l : Addr} {news : Led} {ws : List Value} {n : Nat} {x : Int} {u : Tok} {Q : Value → Shared → Prop}
    (N : News h₀ L s.heap news) (hm : (l, W.listOf (List.toArray ws) n) ∈ news) (hi : IntsAre ws tabI) (h : ∀ t, Q (.int (tabI.getD (Builtin.bitAnd x 15).toNat 0) t) s)
    (hs : subscripted slice false (.ref l) (.int (Builtin.bitAnd x 15) u) = operate [.ref l, .int (Builtin.bitAnd x 15) u] (getItem (.ref l) (.int (Builtin.bitAnd x 15) u)) := by with_unfolding_all rfl) :
    wpAny (model prog w) A (subscriptTail value slice (.ref l) (.int (Builtin.bitAnd x 15) u)) Q E s := by
  have hl : s.heap.IsList l ws.toArray := ⟨_, (N _ hm).1, rfl, n, rfl⟩
  have hb : 0 ≤ Builtin.bitAnd x 15 ∧ Builtin.bitAnd x 15 < 16 := by rw [bitAnd_m4]; omega
  have hlen : ws.length = 16 := hi.length
  have hlt : (Builtin.bitAnd x 15).toNat < ws.length := by omega
  obtain ⟨k, t, e, hk⟩ := IntsAre.at hi (Builtin.bitAnd x 15).toNat _ (List.getElem?_eq_getElem hlt)
  have hk' : tabI.getD (Builtin.bitAnd x 15).toNat 0 = k := by rw [List.getD_eq_getElem?_getD, hk]; rfl
  have hx : ws[(Builtin.bitAnd x 15).toNat]? = some (.int (tabI.getD (Builtin.bitAnd x 15).toNat 0) t) := by rw [hk', ← e]; exact List.getElem?_eq_getElem hlt
  exact tail_any hl.typeIs slot_list_getitem.lookup (wpAny_getItem_list hl hb.1 (by omega) (by simpa using hx) (h t)) hs
set_option maxHeartbeats 4000000 in
theorem crc32_ok (b : Array UInt8) (tb : Tok) (ks : List Int) (hb : KBw.bInts b = ks) (hl : ks.length ≤ 1000) :
    OkP 8 40 [.bytes b tb] (fun _ v _ => ∃ t, v = .int (crcI ks) t ∧ 0 ≤ crcI ks ∧ crcI ks < 4294967296) := by
  k_with_none
  (k_with "my call ref" => (k_here; (with_reducible show wpAny _ _ (call (Value.ref 33) _) _ _ _); k_dflt (refine' use_table ?q74k1 ?q74k2 ?q74k3 ?q74k4 ?q74k5 ?q74kK ?q74kd ?q74ku ?_; (case q74k1 => k_asm); (case q74k2 => k_asm); (case q74k3 => k_asm); (case q74k4 => k_asm); (case q74k5 => k_asm); (case q74kK => first | exact rfl | assumption); (case q74kd => ktr_room); (case q74ku => ktr_units)); intro l9 ws9 n9 h9 tk9 i9 F9 N9; (try dsimp only); (try k_fold)))
  (k_with "my subscriptTail" => (k_here; (with_reducible show wpAny _ _ (subscriptTail _ _ (Value.ref _) (Value.int (Builtin.bitAnd _ 15) _)) _ _ _); (with_unfolding_all refine' item15 ?q75k1 ?q75k2 ?q75k3 ?_ ?q75k4; (case q75k1 => k_asm); (case q75k2 => k_mem); (case q75k3 => assumption); (case q75k4 => with_unfolding_all rfl)); intro t9))
  unfold OkP
  k_fill
  intro w p loose mean mg mb dp un gd cn cs a ccd cl outer A₀ base h₀ L m s Q E B F X T hk hd hu hret
  refine wpAny_call ?_
  k_dflt (refine' enterP ?k1 ?k2 ?k3 ?k5 ?kA ?kF ?kK ?k6 ?k7 ?k8 ?k9 ?kB ?_ ?c2 ?c3 ?c4 ?c5; (case kA => exact rfl); (case kF => exact rfl); (case kK => assumption); (case k1 => k_asm); (case k2 => k_asm); (case k3 => k_asm); (case k5 => k_asm); (case k6 => k_is); (case k7 => k_is); (case k8 => ktr_room); (case k9 => first | exact BindsTo.of_eq rfl | exact binds_K (by k_in) rfl (by k_is) rfl rfl rfl); (case c5 => decide); (case kB => exact locs rfl); (case c2 => exact rfl); (case c3 => exact rfl); (case c4 => exact rfl); k_whole)
  intro g' L' h' SG0 F' N' B' X' T'
  have SG' : s.heap.StaysIn g' := by rw [SG0]; exact fun _ _ e => e
  (try dsimp only)
  (try k_lift B')
  (try k_fold)
  k_steps
  refine hret _ _ _ ?zR ?zS
  case zS => exact fun b o e => by (with_reducible rename Fr _ _ _ _ => F9); exact F9.keep b o (SG' b o e)
  case zR => exact ⟨_, rfl, crcI_in (by subst hb; exact fun k hk => KBw.ints_in hk)⟩
end Mine
end
section
namespace Mine
theorem shr24 {x : Int} (h0 : 0 ≤ x) (h1 : x < 4294967296) : 0 ≤ x.fdiv (2 ^ Int.toNat 24) ∧ x.fdiv (2 ^ Int.toNat 24) < 256 := by
  rw [Int.fdiv_eq_ediv_of_nonneg _ (Int.le_of_lt (kbt_pos _)), show (2 : Int) ^ Int.toNat 24 = 16777216 by decide +kernel]
  omega
theorem fdivE (x : Int) (n : Int) : x.fdiv (2 ^ n.toNat) = x / 2 ^ n.toNat := Int.fdiv_eq_ediv_of_nonneg _ (Int.le_of_lt (kbt_pos _))
theorem sumL_eq (ks : List Int) : [Builtin.bitAnd (crcI ks) 255, Builtin.bitAnd ((crcI ks).fdiv (2 ^ Int.toNat 8)) 255, Builtin.bitAnd ((crcI ks).fdiv (2 ^ Int.toNat 16)) 255, (crcI ks).fdiv (2 ^ Int.toNat 24)] = sumL ks := by
  unfold sumL
  rw [bitAnd_m8, bitAnd_m8, bitAnd_m8, fdivE, fdivE, fdivE, show (2 : Int) ^ Int.toNat 8 = 256 by decide +kernel, show (2 : Int) ^ Int.toNat 16 = 65536 by decide +kernel, show (2 : Int) ^ Int.toNat 24 = 16777216 by decide +kernel]
local macro_rules | `(tactic| kba_in) => `(tactic| (repeat (first | with_reducible exact in_nil | with_reducible refine in_cons (by first | with_reducible exact and255 _ | with_reducible exact shr24 (by assumption) (by assumption)) ?_)))
set_option maxHeartbeats 4000000 in
theorem sum_octets_ok (b : Array UInt8) (tb : Tok) (ks : List Int) (news : Led) (hb : KBw.bInts b = ks) (hl : ks.length ≤ 1000) :
    Ok 10 156 [.bytes b tb] news (fun v news' => news = news' ∧ ∃ b' t, v = .bytes b' t ∧ KBw.bInts b' = sumL ks) := by
  k_with_none
  (k_with "my binaryOp RShift int int" => (k_here; (with_reducible refine rshift_int ?q76kb1 ?_); (case q76kb1 => decide)))
  (k_with "my call ref" => (k_here; (with_reducible show wpAny _ _ (call (Value.ref 40) [Value.bytes _ _]) _ _ _); k_dflt (refine' use_okP (crc32_ok _ _ _ ?q77hb ?q77hl) ?q77k1 ?q77k2 ?q77k3 ?q77k4 ?q77k5 ?q77kK ?q77kd ?q77ku ?_; (case q77k1 => k_asm); (case q77k2 => k_asm); (case q77k3 => k_asm); (case q77k4 => k_asm); (case q77k5 => k_asm); (case q77kK => first | exact rfl | assumption); (case q77kd => ktr_room); (case q77ku => ktr_units); (case q77hb => kba_ints); (case q77hl => kba_size)); intro v9 h9 tk9 R9 F9 N9 S9; clear S9; (obtain ⟨t9, e8, lo9, hi9⟩ := R9); subst e8; (try dsimp only); (try k_fold)))
  unfold Ok
  k_fill
  intro w p loose mean mg mb dp un gd cn cs a ccd cl outer A₀ base h₀ L m s Q E B F X N T hk hd hu hret
  refine wpAny_call ?_
  k_dflt cell_enter
  k_steps
  refine' hret _ news _ _ ?r ?f ?n
  case f => k_asm
  case n => first | k_asm | exact cb_drop (by assumption) (by kcj_all)
  case r => 
    refine ⟨rfl, _, _, rfl, ?_⟩
    refine (KBa.ints_make (by assumption)).trans ?_
    exact sumL_eq _
end Mine
end
section
namespace Mine
theorem log256 {k : Int} (h : k < 1000) : ((256 : Int) ^ k.toNat).natAbs.log2 < 9000 := by
  have e : (256 : Int) ^ k.toNat = 2 ^ (8 * (k.toNat : Int)).toNat := by
    rw [show (8 * (k.toNat : Int)).toNat = 8 * k.toNat by omega, Int.pow_mul]
    rfl
  rw [e]
  exact kbt_py (by omega)
theorem xor_in {a b : Int} (ha : 0 ≤ a ∧ a < 256) (hb : 0 ≤ b ∧ b < 256) : 0 ≤ Builtin.bitXor a b ∧ Builtin.bitXor a b < 256 := by
  rw [bitXor_pp ha.1 hb.1]
  have := Nat.xor_lt_two_pow (n := 8) (show a.toNat < 2 ^ 8 by omega) (show b.toNat < 2 ^ 8 by omega)
  omega
theorem fmod256 (a : Int) : 0 ≤ a.fmod 256 ∧ a.fmod 256 < 256 := ⟨fmod_lo _ (by decide), fmod_hi _ (by decide)⟩
theorem turnI_in {ks : List Int} {n : Nat} {f : Int → Int} (h : KBa.In ks) : KBa.In ((rangeKs 0 n).map fun k => if 0 ≤ ks.getD k.toNat 0 ∧ ks.getD k.toNat 0 < 256 then Builtin.bitXor (ks.getD k.toNat 0) ((f k).fmod 256) else k) := by
  intro j hj
  obtain ⟨k, _, e⟩ := List.mem_map.1 hj
  rw [if_pos (KBw.getD_in h)] at e
  subst e
  exact xor_in (KBw.getD_in h) (fmod256 _)
theorem turnI_eq {ks : List Int} (mask begin : Int) (h : KBa.In ks) : ((rangeKs 0 ((ks.length : Int) - 0).toNat).map fun k => if 0 ≤ ks.getD k.toNat 0 ∧ ks.getD k.toNat 0 < 256 then Builtin.bitXor (ks.getD k.toNat 0) (((mask * 2 ^ begin.toNat).fdiv (256 ^ k.toNat)).fmod 256) else k) = turnI ks mask begin := by
  have e : ((ks.length : Int) - 0).toNat = ks.length := by omega
  unfold turnI
  rw [e]
  exact List.map_congr_left fun k _ => if_pos (KBw.getD_in h)
theorem small_i {k : Int} {n : Nat} (h : k < 0 + (((n : Int) - 0).toNat : Int)) : k < (n : Int) := by omega
theorem small_m {k : Int} {n : Nat} (h : k < 0 + (((n : Int) - 0).toNat : Int)) (hl : n ≤ 30) : k ≤ 1000000 := by omega
theorem small_k {k : Int} {n : Nat} (h : k < 0 + (((n : Int) - 0).toNat : Int)) (hl : n ≤ 30) : k < 1000 := by omega
local macro_rules | `(tactic| kba_idx) => `(tactic| exact small_i (by with_reducible assumption))
local macro_rules | `(tactic| l_bnd) => `(tactic| exact small_m (by with_reducible assumption) (by with_reducible assumption))
local macro_rules | `(tactic| kba_in) => `(tactic| with_reducible exact turnI_in (by assumption))
set_option maxHeartbeats 4000000 in
theorem turned_ok (b : Array UInt8) (tb : Tok) (ks : List Int) (mask : Int) (tm : Tok) (begin : Int) (tg : Tok) (hb : KBw.bInts b = ks) (hl : ks.length ≤ 30) (hm0 : 0 ≤ mask) (hm1 : mask < 4294967296) (hg0 : 0 ≤ begin) (hg1 : begin < 240) :
    OkP 5 197 [.bytes b tb, .int mask tm, .int begin tg] (fun _ v _ => ∃ b' t, v = .bytes b' t ∧ KBw.bInts b' = turnI ks mask begin) := by
  k_with_none
  (k_with "my binaryOp FloorDiv int int" => (k_here; (with_reducible refine floordiv_int (b := 256 ^ _) ?q78kbe ?_ (Or.inl (PyProof.noPylong_of_log2 (log256 ?q78kbp)))); (case q78kbe => exact Int.ne_of_gt (pow_pos_of (by decide) _)); (case q78kbp => exact small_k (by with_reducible assumption) (by with_reducible assumption))))
  have hin : KBa.In ks := by subst hb; exact fun k hk => KBw.ints_in hk
  unfold OkP
  k_fill
  intro w p loose mean mg mb dp un gd cn cs a ccd cl outer A₀ base h₀ L m s Q E B F X T hk hd hu hret
  refine wpAny_call ?_
  k_dflt (refine' enterPC ?k1 ?k2 ?k3 ?k5 ?kA ?kF ?kK ?k6 ?k7 ?k8 ?k9 ?kB ?kD ?_ ?c2 ?c3 ?c4; (case kA => exact rfl); (case kF => exact rfl); (case kK => assumption); (case k1 => k_asm); (case k2 => k_asm); (case k3 => k_asm); (case k5 => k_asm); (case k6 => k_is); (case k7 => k_is); (case k8 => ktr_room); (case k9 => first | exact BindsTo.of_eq rfl | exact binds_K (by k_in) rfl (by k_is) rfl rfl rfl); (case kB => exact rfl); (case kD => decide +kernel); (case c2 => exact rfl); (case c3 => exact rfl); (case c4 => exact rfl); k_whole)
  intro g' L' h' tk' cells' SG0 F' N' Y' B' X' T'
  have SG' : s.heap.StaysIn g' := by rw [SG0]; exact fun _ _ e => e
  k_cells Y'
  (try simp only [List.cons_append, List.nil_append] at N')
  (try dsimp only)
  (try k_lift B')
  (try k_fold)
  k_steps
  refine hret _ _ _ ?zR ?zS
  case zS => exact fun b o e => by (with_reducible rename Fr _ _ _ _ => F9); exact F9.keep b o (SG' b o e)
  case zR => exact ⟨_, _, rfl, (KBa.ints_make (by assumption)).trans (turnI_eq mask begin hin)⟩
end Mine
end
section
namespace Mine
theorem lenS (ks : List Int) : (sumL ks).length = 4 := rfl
local macro_rules | `(tactic| kba_size) => `(tactic| ((simp only [len16, len32, len48, lenS, List.length_append, List.length_cons, List.length_nil]); omega))
set_option maxHeartbeats 4000000 in
theorem pack_ok (x dx : Addr) (e1 e2 e3 e4 : Int) (k1 k2 k3 k4 : Tok) (T9 : Int) (tT : Tok) (S9 : Int) (tS : Tok) (K9 : Int) (tK : Tok) (b : Array UInt8) (tb : Tok) (n : Nat) (ps : List Int) (rest : Led) (hb : KBw.bInts b = ps) (hl : ps.length ≤ 12) :
    Ok 14 164 [.ref x] ((x, instObj 145 dx) :: (dx, dictOf [⟨e1, .str (Str.ofString "target") k1, .int T9 tT⟩, ⟨e2, .str (Str.ofString "source") k2, .int S9 tS⟩, ⟨e3, .str (Str.ofString "kind") k3, .int K9 tK⟩, ⟨e4, .str (Str.ofString "payload") k4, .bytes b tb⟩] n) :: rest)
      (fun v news' => ((x, instObj 145 dx) :: (dx, dictOf [⟨e1, .str (Str.ofString "target") k1, .int T9 tT⟩, ⟨e2, .str (Str.ofString "source") k2, .int S9 tS⟩, ⟨e3, .str (Str.ofString "kind") k3, .int K9 tK⟩, ⟨e4, .str (Str.ofString "payload") k4, .bytes b tb⟩] n) :: rest) = news' ∧ ∃ b' t, v = .bytes b' t ∧ KBw.bInts b' = frameI T9 S9 K9 ps) := by
  k_with_none
  (k_with "my binaryOp RShift int int" => (k_here; (with_reducible refine rshift_int ?q79kb1 ?_); (case q79kb1 => decide)))
  (k_with "my call ref" => (k_here; (with_reducible show wpAny _ _ (call (Value.ref 79) [Value.int _ _]) _ _ _); k_dflt (refine' use_ok (put16_ok _ _ _) ?q80k1 ?q80k2 ?q80k3 ?q80k4 ?q80k5 ?q80kK ?q80kd ?q80ku ?_; (case q80k1 => k_asm); (case q80k2 => k_asm); (case q80k3 => k_asm); (case q80k4 => k_asm); (case q80k5 => k_asm); (case q80kK => first | exact rfl | assumption); (case q80kd => ktr_room); (case q80ku => ktr_units)); intro v9 n9 h9 tk9 R9 F9 N9; (obtain ⟨e9, b9, t9, e8, hb9⟩ := R9); subst e9; subst e8; (try dsimp only); (try k_fold)))
  (k_with "my call ref" => (k_here; (with_reducible show wpAny _ _ (call (Value.ref 93) [Value.int _ _]) _ _ _); k_dflt (refine' use_ok (put48_ok _ _ _) ?q81k1 ?q81k2 ?q81k3 ?q81k4 ?q81k5 ?q81kK ?q81kd ?q81ku ?_; (case q81k1 => k_asm); (case q81k2 => k_asm); (case q81k3 => k_asm); (case q81k4 => k_asm); (case q81k5 => k_asm); (case q81kK => first | exact rfl | assumption); (case q81kd => ktr_room); (case q81ku => ktr_units)); intro v9 n9 h9 tk9 R9 F9 N9; (obtain ⟨e9, b9, t9, e8, hb9⟩ := R9); subst e9; subst e8; (try dsimp only); (try k_fold)))
  (k_with "my call ref" => (k_here; (with_reducible show wpAny _ _ (call (Value.ref 156) [Value.bytes _ _]) _ _ _); k_dflt (refine' use_ok (sum_octets_ok _ _ _ _ ?q82hb ?q82hl) ?q82k1 ?q82k2 ?q82k3 ?q82k4 ?q82k5 ?q82kK ?q82kd ?q82ku ?_; (case q82k1 => k_asm); (case q82k2 => k_asm); (case q82k3 => k_asm); (case q82k4 => k_asm); (case q82k5 => k_asm); (case q82kK => first | exact rfl | assumption); (case q82kd => ktr_room); (case q82ku => ktr_units); (case q82hb => kba_ints); (case q82hl => kba_size)); intro v9 n9 h9 tk9 R9 F9 N9; (obtain ⟨e9, b9, t9, e8, hb9⟩ := R9); subst e9; subst e8; (try dsimp only); (try k_fold)))
  unfold Ok
  k_fill
  intro w p loose mean mg mb dp un gd cn cs a ccd cl outer A₀ base h₀ L m s Q E B F X N T hk hd hu hret
  refine wpAny_call ?_
  k_dflt (refine' code_def ?k1 ?k2 ?k3 ?k4 ?k5 ?kA ?kF ?kK ?k6 ?k7 ?k8 ?k9 ?kB ?_ ?c2 ?c3 ?c4 ?c5; (case kA => exact rfl); (case kF => exact rfl); (case kK => assumption); (case k1 => k_asm); (case k2 => k_asm); (case k3 => k_asm); (case k4 => k_asm); (case k5 => k_asm); (case k6 => k_is); (case k7 => k_is); (case k8 => ktr_room); (case k9 => first | exact BindsTo.of_eq rfl | exact binds_K (by k_in) rfl (by k_is) rfl rfl rfl); (case c5 => decide); (case kB => exact locs rfl); (case c2 => exact rfl); (case c3 => exact rfl); (case c4 => exact rfl); k_whole)
  intro g' L' h' FG' F' N' B' X' T'
  (try dsimp only)
  (try k_lift B')
  (try k_fold)
  k_steps
  refine' hret _ _ _ _ ?r ?f ?n
  case f => k_asm
  case n => k_asm
  case r => exact ⟨rfl, _, _, rfl, by assumption⟩
theorem use_pack {w : World} {p : Program} {loose : List Str} {mean : ExcName → Option Value} {mg mb : Str → Option Value} {news : Led}
    {dp un : Nat} {gd : Option (List Code)} {cn : Str} {cs : Scope} {a : Addr} {ccd : Value} {cl : List (Str × Addr)} {outer : List Env} {A₀ : Around} {base h₀ : Heap} {L : Addr} {m : Str → Option Value} {s : Shared} {Q E : Value → Shared → Prop}
    {x dx : Addr} {e1 e2 e3 e4 : Int} {k1 k2 k3 k4 : Tok} {T9 : Int} {tT : Tok} {S9 : Int} {tS : Tok} {K9 : Int} {tK : Tok} {b : Array UInt8} {tb : Tok} {n : Nat} {ps : List Int}
    (B : Below A₀ base outer h₀) (F : Fr h₀ L s.heap m) (X : (Mine.hd.heap_39 w.params).In h₀) (N : News h₀ L s.heap news) (T : Top p loose mean mg mb h₀) (hk : cs.kind = .function)
    (h1 : (x, instObj 145 dx) ∈ news) (h2 : (dx, dictOf [⟨e1, .str (Str.ofString "target") k1, .int T9 tT⟩, ⟨e2, .str (Str.ofString "source") k2, .int S9 tS⟩, ⟨e3, .str (Str.ofString "kind") k3, .int K9 tK⟩, ⟨e4, .str (Str.ofString "payload") k4, .bytes b tb⟩] n) ∈ news)
    (hb : KBw.bInts b = ps) (hl : ps.length ≤ 12) (hd : dp + 14 < recursionLimit) (hu : un + 8 * 14 < cLine)
    (ret : ∀ b' t h' tk', KBw.bInts b' = frameI T9 S9 K9 ps → Fr h₀ L h' m → News h₀ L h' news → Q (.bytes b' t) { s with heap := h', toks := tk' }) :
      wpAny (model PySem.Challenge.rw_xw0327_01.row.prog w) (ktrTop dp un gd cn cs L a ccd cl outer) (call (.ref 164) [.ref x]) Q E s :=
  use_ok (pack_ok x dx e1 e2 e3 e4 k1 k2 k3 k4 T9 tT S9 tS K9 tK b tb n ps news hb hl) B F X (fun q hq => by
    rcases List.mem_cons.mp hq with rfl | hq
    · exact N _ h1
    · rcases List.mem_cons.mp hq with rfl | hq
      · exact N _ h2
      · exact N _ hq) T hk hd hu fun v news' h' tk' r F' N' => by
    obtain ⟨rfl, b', t, rfl, hb'⟩ := r
    exact ret b' t h' tk' hb' F' fun q hq => N' q (.tail _ (.tail _ hq))
end Mine
end
section
open PySem PySem.W PySem.Calls PyProof.Rows Builtin Builtin.ObjectAttr
namespace Mine
section
variable {prog : Program} {w : World} {A : Around} {E : Value → Shared → Prop} {h : Heap} {g : Array GenState} {d : Drawn} {t : Nat} {os : OsState}
variable {nm q : Str} {C N : Addr} {bs bm : List Value} {hdct : Bool} {sn : List Str} {sub : List Value} {ab : Bool} {col : Option Bool} {dd : Option Addr} {k0 k1 k2 k3 k5 : Option Value} {Bn newId inN : String} {bmN : List Value}

/-- an own exception class is asked of its built-in base's __new__ -/
theorem ex_check {M : Model} (Fn : ExcBaseFacts Bn newId inN bmN) (hB : (Value.ref C :: bm).contains (.type Bn) = true) {rest : List Value} {Q : Unit → Shared → Prop}
    (hC : h.get? C = some (excClassObj nm q C N bs bm hdct sn sub ab col dd k0 k1 k2 k3 k5 newId)) (hq : Q () ⟨h, g, d, t, os⟩) : wpAny M A (checkBuiltinCall newId ⟨.ref C :: rest, []⟩) Q E ⟨h, g, d, t, os⟩ := by
  have hstar := Fn.noStar
  simp only [checkBuiltinCall, Fn.newKind, Fn.newSplit, Fn.newRow]
  repeat (first | refine wpAny_loadPart_at hC ?_ | (refine wpAny_isSubtype_exc hC ?_; rw [hB]) | refine wpAny_staticBase_exc hC ?_ | refine wpAny_madeBy_exc hC ?_ | simp only [bne_self_eq_false, Bool.false_eq_true, if_false] | wp_step)
  exact hq

theorem ex_new {R : Result → Shared → Prop} (Fn : ExcBaseFacts Bn newId inN bmN) (hB : (Value.ref C :: bm).contains (.type Bn) = true) (hA : (Value.ref C :: bm).contains (.type "AttributeError") = false) (hN : (Value.ref C :: bm).contains (.type "NameError") = false) {rest : List Value}
    (hC : h.get? C = some (excClassObj nm q C N bs bm hdct sn sub ab col dd k0 k1 k2 k3 k5 newId)) (hrest : rest.length ≤ sizeLine)
    (hq : R (.ok (.ret (.ref (h.objs.size + 1)))) ⟨(h.push { cls := .type "tuple", data := .seq rest.toArray }).push
      { cls := .ref C, data := .fields #[.ref h.objs.size, .none, .none, .none, .bool false, .none] }, g, d, t, os⟩) :
    codeAny (model prog w) A (.builtin newId ⟨.ref C :: rest, []⟩) R ⟨h, g, d, t, os⟩ := by
  have hends := Fn.ends
  refine codeAny_builtinAt Fn.entry ?_
  unfold Builtin.«BaseException.__new__»
  refine PySem.wpAt_bind ?_
  show PySem.wpAt _ _ _ (stack >>= _) _ _ _
  refine PySem.wpAt_bind (PySem.wpAt_stack fun p below => PySem.wpAt_of_wpAny ?_)
  wp_walk
  refine PySem.wpAt_of_wpAny ?_
  rw [Fn.owner]
  repeat (first | with_reducible refine wpAny_madeHere_exc Fn.canon hC ?_ | with_reducible refine wpAny_loadPart_at hC ?_ | (with_reducible refine wpAny_isSubtype_exc hC ?_; first | rw [hB] | rw [hA] | rw [hN]) | wp_step)
  show R _ _
  rw [Heap.size_push]
  exact hq

theorem ex_typeCall {K : Frag} (Fn : ExcBaseFacts Bn newId inN bmN) (hB : (Value.ref C :: bm).contains (.type Bn) = true) (hA : (Value.ref C :: bm).contains (.type "AttributeError") = false) (hN : (Value.ref C :: bm).contains (.type "NameError") = false)
    {rest : List Value} {fI : Addr} {Q : Fin → Shared → Prop} (X : K.In h)
    (hC : h.get? C = some (excClassObj nm q C N bs bm hdct sn sub ab col dd k0 k1 k2 k3 k5 newId)) (hi : findIn K (.ref C) "__init__" = some (some (.ref fI))) (hf : typeIn K (.ref fI) = some (.type "function")) (hrest : rest.length ≤ sizeLine)
    (hq : ∀ h' e, Heap.MadeExcOf h h' e (.ref C) rest →
      wpAny (model prog w) A (call (.ref fI) (.ref e :: rest)) (fun r s' => r = .none ∧ Q (.done (.ret (.ref e))) s') E ⟨h', g, d, t, os⟩) :
    wpAny (model prog w) A (Builtin.«type.__call__» ⟨.ref C :: rest, []⟩) Q E ⟨h, g, d, t, os⟩ := by
  repeat (first | with_reducible refine wpAny_loadPart_at hC ?_ | with_reducible refine wpAny_madeBy_exc hC ?_ | wp_step)
  refine codeAny_call_builtin_code (Code.quiet_builtin _ Fn.quiet) (ex_check Fn hB hC ?_)
  refine ex_new Fn hB hA hN hC hrest ?_
  show wpAny _ _ _ _ _ _
  have hk : ∀ b o, h.get? b = some o → ((h.push { cls := .type "tuple", data := .seq rest.toArray }).push { cls := .ref C, data := .fields #[.ref h.objs.size, .none, .none, .none, .bool false, .none] }).get? b = some o :=
    fun b o e => Heap.get?_push_of_some _ (Heap.get?_push_of_some _ e)
  have hC₁ := hk _ _ hC
  have hget : ((h.push { cls := .type "tuple", data := .seq rest.toArray }).push
      { cls := .ref C, data := .fields #[.ref h.objs.size, .none, .none, .none, .bool false, .none] }).get? (h.objs.size + 1) = some
      { cls := .ref C, data := .fields #[.ref h.objs.size, .none, .none, .none, .bool false, .none] } := by heap_get
  have hcC : (Value.ref C :: bm).contains (.ref C) = true := by simp
  have X₁ := X.keeps hk
  unfold isInstance
  repeat (first | with_reducible refine wpAny_loadPart_at hget ?_ | (with_reducible refine wpAny_isSubtype_exc hC₁ ?_; rw [hcC]) | wp_step)
  show wpAny _ _ (typeLookup (.ref C) _) _ _ _
  refine (looks_findIn X₁ hi).at ?_
  refine wpAny_holding (wpAny_bind ((bind_fn X₁ _ hf).at ?_))
  refine wpAny_bind (wpAny_mono (hq _ (h.objs.size + 1) ⟨hk, Heap.get?_none_of_le (Nat.le_succ _), h.objs.size, hget, Heap.get?_none_of_le (Nat.le_refl _), Heap.get?_push_of_some _ (Heap.get?_push_at rfl rfl)⟩) (fun r s' hr => ?_) fun _ _ x => x)
  obtain ⟨rfl, hQ⟩ := hr
  wp_walk
  exact hQ

/-- a call of an own exception class whose __init__ is a def of the text's, wherever on its road that stands -/
theorem ex_call {K : Frag} (Fn : ExcBaseFacts Bn newId inN bmN) (hB : (Value.ref C :: bm).contains (.type Bn) = true) (hA : (Value.ref C :: bm).contains (.type "AttributeError") = false) (hN : (Value.ref C :: bm).contains (.type "NameError") = false)
    {rest : List Value} {fI : Addr} {Q : Value → Shared → Prop} (X : K.In h)
    (hC : h.get? C = some (excClassObj nm q C N bs bm hdct sn sub ab col dd k0 k1 k2 k3 k5 newId)) (hi : findIn K (.ref C) "__init__" = some (some (.ref fI))) (hf : typeIn K (.ref fI) = some (.type "function")) (hrest : rest.length ≤ sizeLine)
    (hq : ∀ h' e, Heap.MadeExcOf h h' e (.ref C) rest →
      wpAny (model prog w) (A.under (.builtin "type.__call__" ⟨.ref C :: rest, []⟩)) (call (.ref fI) (.ref e :: rest)) (fun r s' => r = .none ∧ Q (.ref e) s') E ⟨h', g, d, t, os⟩) :
    wpAny (model prog w) A (call (.ref C) rest) Q E ⟨h, g, d, t, os⟩ := by
  have f1 := tc_lookup
  have f2 := tc_bind (.ref C)
  have hT : (⟨h, g, d, t, os⟩ : Shared).TypeIs (.ref C) "type" := ⟨_, hC, rfl⟩
  refine wpAny_call (codeAny_of_tree ?_)
  show wpAny _ _ (callAny (.ref C) _) _ _ _
  repeat (any_goals (first | assumption | with_reducible refine wpAny_loadPart_at hC ?_ | wp_step))
  refine ⟨rfl, ?_⟩
  refine codeAny_call_builtin_at (Code.quiet_builtin _ (by decide +kernel)) entry_typeCall (wpAny_check_type_call_sub hC (ex_typeCall Fn hB hA hN X hC hi hf hrest fun h' e hm => ?_))
  exact hq h' e hm
end
end Mine
end
section
open PySem PySem.W PySem.Calls PyProof.Rows Builtin Builtin.ObjectAttr
namespace Mine
section
variable {prog : Program} {w : World} {A : Around} {E : Value → Shared → Prop} {s : Shared} {K : Frag} {C P e : Addr} {oe : Obj} {vs : Array Value} {cd : ClassData} {name : Str} {v : Value} {R : Result → Shared → Prop}

/-- the heap behind the making of an exception's dict -/
abbrev withDict (h : Heap) (e : Addr) : Heap := (h.push { cls := .type "dict", data := .dict #[] }).update e (fun o => { o with dict := some h.objs.size })
theorem withDict_self {h : Heap} (he : h.get? e = some oe) (hdt : oe.data = .fields vs) : (withDict h e).get? e = some { oe with dict := some h.objs.size } := by
  refine Heap.get?_update_self _ (Heap.get?_push_of_some _ he) ?_
  obtain ⟨oc, od, odt, osl⟩ := oe
  dsimp only at hdt
  subst hdt
  rfl
theorem withDict_dict {h : Heap} (he : h.get? e = some oe) : (withDict h e).get? h.objs.size = some { cls := .type "dict", data := .dict #[] } :=
  (Heap.get?_update_other _ _ (Nat.ne_of_lt (Heap.lt_size he))).trans (Heap.get?_push_size _ rfl)
theorem withDict_other {h : Heap} {b : Addr} {o : Obj} (hb : b ≠ e) (ho : h.get? b = some o) : (withDict h e).get? b = some o :=
  (Heap.get?_update_other _ _ (Ne.symm hb)).trans (Heap.get?_push_of_some _ ho)

theorem ex_dict {h : Heap} {g : Array GenState} {dr : Drawn} {t : Nat} {os : OsState} {Q : Option Addr → Shared → Prop} (X : K.In h) (he : h.get? e = some oe) (hc : oe.cls = .ref C) (hdn : oe.dict = none) (hdt : oe.data = .fields vs) (hcd : clsIn K C = some cd) (hh : cd.hasDict = true)
    (hq : Q (some h.objs.size) ⟨withDict h e, g, dr, t, os⟩) :
    wpAny (model prog w) A (ownDictForStores (.ref e)) Q E ⟨h, g, dr, t, os⟩ := by
  have he1 := Heap.get?_push_of_some { cls := .type "dict", data := .dict #[] } he
  show wpAny _ _ (instanceDict e true) _ _ _
  unfold instanceDict
  refine wpAny_bind (wpAny_loadPart he ?_)
  obtain ⟨oc, od, odt, osl⟩ := oe
  dsimp only at hc hdn hdt
  subst hc hdn hdt
  dsimp only
  refine wpAny_bind ((looks_clsIn X hcd).at ?_)
  rw [hh]
  refine wpAny_bind (wpAny_alloc ?_)
  refine wpAny_bind (wpAny_update he1 ?_)
  exact wpAny_pure hq

theorem ex_store {h : Heap} {g : Array GenState} {dr : Drawn} {t : Nat} {os : OsState} {tk : Tok} {b : Bool} {Q : Fin → Shared → Prop} (X : K.In h) (he : h.get? e = some oe) (hc : oe.cls = .ref C) (hdn : oe.dict = none) (hdt : oe.data = .fields vs) (hcd : clsIn K C = some cd) (hh : cd.hasDict = true)
    (hq : ∀ h' tk' dx, h'.get? e = some { oe with dict := some dx } → (∀ b o, b ≠ e → h.get? b = some o → h'.get? b = some o) → Q (.done (.ret .none)) ⟨h', g, dr, tk', os⟩) :
    wpAny (model prog w) A (storeInOwnDict (.ref e) (.ref C) (.str name tk) name v b) Q E ⟨h, g, dr, t, os⟩ := by
  refine wpAny_bind (wpAny_pure (wpAny_bind (ex_dict X he hc hdn hdt hcd hh ?_)))
  show wpAny _ _ (storeInDict h.objs.size (.str name tk) name v) _ _ _
  have hD := withDict_dict (e := e) he
  have hlt := Heap.lt_size he
  have hne : e ≠ h.objs.size := Nat.ne_of_lt hlt
  have hnd : (withDict h e).Ns h.objs.size (fun _ => none) := ⟨_, #[], _, hD, rfl, fun e he => absurd he (by simp), fun _ => rfl⟩
  unfold storeInDict newKeyGuard
  refine wpAny_bind (wpAny_pure (wpAny_bind (wpAny_nsSet1 (Heap.Ns1.of_empty hnd) fun h' hn' hs => ?_)))
  obtain ⟨oD, esD, epD, hoD, hdD, hcD⟩ := hn'.count (Within.cons name v Within.nil)
  refine wpAny_bind (wpAny_lookBehind hoD (by rw [hdD]; exact pastItsLine_dict (Nat.le_trans hcD (by rw [List.length_cons, List.length_nil, sizeLine_eq]; omega))) ?_)
  refine wpAny_pure (hq h' _ h.objs.size ((hs.2 e hne).trans (withDict_self he hdt)) fun b o hb ho => ?_)
  exact (hs.2 b (Nat.ne_of_lt (Heap.lt_size ho))).trans (withDict_other hb ho)

theorem ex_osa {tk : Tok} (X : K.In s.heap) (I : InstAt s.heap e oe C none) (hdn : oe.dict = none) (hdt : oe.data = .fields vs) (hcd : clsIn K C = some cd)
    (hm : cd.mro = [.ref C, .ref P, .type "Exception", .type "BaseException", .type "object"]) (hh : cd.hasDict = true) (hna : findIn K (.ref C) name = some none)
    (hq : ∀ h' tk' dx, h'.get? e = some { oe with dict := some dx } → (∀ b o, b ≠ e → s.heap.get? b = some o → h'.get? b = some o) → R (.ok (.ret .none)) { s with heap := h', toks := tk' }) :
    codeAny (model prog w) A (.call (.builtin "object.__setattr__") ⟨[.ref e, .str name tk, v], []⟩) R s := by
  have SF := PySem.F.store_object
  have hobj : mroIn K C (.type "object") = some true := by
    unfold mroIn
    rw [hcd, Option.bind_some, hm]
    simp
  have sub : Looks (model prog w) s.heap (isInstance (.ref e) (.type "object")) true := I.type.andThen (looks_mroIn X hobj)
  refine codeAny_call_builtin SF.slot.plain SF.entry (@check_slot (model prog w) _ _ s "object.__setattr__" "object" "__setattr__" (.ref e) [.str name tk, v] [] _ SF.kind SF.split sub (SF.args (.ref e) (.str name tk) v) ?_)
  have hmro : Looks (model prog w) s.heap (mroOf (.ref C)) cd.mro := (looks_clsIn X hcd).andThen .now
  rw [osa_eq, refuse_eq]
  refine wpAny_bind (wpAny_bind (I.type.here (wpAny_bind (hmro.here ?_))))
  rw [hm, refuseLoop_ref, refuseLoop_ref, PySem.F.store_Exception.passes]
  refine wpAny_pure (wpAny_bind (I.type.here (wpAny_bind ((looks_findIn X hna).here (wpAny_bind (wpAny_pure ?_))))))
  exact ex_store X I.at_ I.cls hdn hdt hcd hh hq

/-- an attribute is laid on an exception that has none yet -/
theorem ex_set {Q : Unit → Shared → Prop} (X : K.In s.heap) (I : InstAt s.heap e oe C none) (hdn : oe.dict = none) (hdt : oe.data = .fields vs)
    (hs : findIn K (.ref C) "__setattr__" = some (some (.builtin "object.__setattr__"))) (hcd : clsIn K C = some cd)
    (hm : cd.mro = [.ref C, .ref P, .type "Exception", .type "BaseException", .type "object"]) (hh : cd.hasDict = true) (hna : findIn K (.ref C) name = some none)
    (hq : ∀ h' tk' dx, h'.get? e = some { oe with dict := some dx } → (∀ b o, b ≠ e → s.heap.get? b = some o → h'.get? b = some o) → Q () { s with heap := h', toks := tk' }) :
    wpAny (model prog w) A (setAttr (.ref e) name v) Q E s :=
  set_plain X I hs (ex_osa (s := { s with toks := s.toks + 1 }) X I hdn hdt hcd hm hh hna fun h' tk' dx h1 h2 => hq h' tk' dx h1 h2)
end
end Mine
end
section
open PySem PySem.W PySem.Calls PyProof.Rows Builtin Builtin.ObjectAttr
namespace Mine
section
variable {prog : Program} {w : World} {A : Around} {E : Value → Shared → Prop} {s : Shared} {env : Env} {K : Frag}
variable {nm q : Str} {C N : Addr} {bs bm : List Value} {hdct : Bool} {sn : List Str} {sub : List Value} {ab : Bool} {col : Option Bool} {dd : Option Addr} {k0 k1 k2 k3 k5 : Option Value} {Bn newId inN : String} {bmN : List Value}

theorem ex_raiseStmt {M : Model} {x : Sem Value} {Q : Flow → Shared → Prop} (hbase : (Value.ref C :: bm).contains (.type "BaseException") = true) (hh : A.handled = none)
    (h : wpAny M A x (fun v s₁ => ∃ e od t sl, v = .ref e ∧ s₁.heap.get? C = some (excClassObj nm q C N bs bm hdct sn sub ab col dd k0 k1 k2 k3 k5 newId) ∧
      s₁.heap.get? e = some ⟨.ref C, od, .fields #[.ref t, .none, .none, .none, .bool false, .none], sl⟩ ∧ E (.ref e) s₁) E s) :
    wpAny M A (raiseStmt env (some x) none) Q E s := by
  unfold raiseStmt
  refine wpAny_bind (wpAny_mono h (fun v s₁ h₁ => ?_) fun _ _ x => x)
  obtain ⟨e, od, t, sl, rfl, hC, he, hE⟩ := h₁
  obtain ⟨hp, g, d, tk, os⟩ := s₁
  repeat (first | with_reducible refine wpAny_loadPart_at he ?_ | with_reducible refine wpAny_loadPart_at hC ?_ | (with_reducible refine wpAny_isSubtype_exc hC ?_; rw [hbase]) | wp_step)
  exact wpAny_raiseNew_none hh hE

theorem ex_raise {x : Str} {np cpos pos : Pos} {args : List PySem.Expr} {fI : Addr} {Q : Flow → Shared → Prop} (Fn : ExcBaseFacts Bn newId inN bmN) (hB : (Value.ref C :: bm).contains (.type Bn) = true) (hA : (Value.ref C :: bm).contains (.type "AttributeError") = false) (hN : (Value.ref C :: bm).contains (.type "NameError") = false)
    (hbase : (Value.ref C :: bm).contains (.type "BaseException") = true) (hi : findIn K (.ref C) "__init__" = some (some (.ref fI))) (hf : typeIn K (.ref fI) = some (.type "function"))
    (hh : A.handled = none) (hplain : (backTo cpos (starEach args env)).any (·.1) = false)
    (h : wpAny (model prog w) A (eval (.Name x np) env) (fun f s₁ => f = .ref C ∧ wpAny (model prog w) A (evalArgs (.ref C) true (backTo cpos (starEach args env)) [])
      (fun a s₂ => a.kw = [] ∧ a.pos.length ≤ sizeLine ∧ K.In s₂.heap ∧ s₂.heap.get? C = some (excClassObj nm q C N bs bm hdct sn sub ab col dd k0 k1 k2 k3 k5 newId) ∧
        ∀ h' e, Heap.MadeExcOf s₂.heap h' e (.ref C) a.pos → wpAny (model prog w) (A.under (.builtin "type.__call__" ⟨.ref C :: a.pos, []⟩)) (call (.ref fI) (.ref e :: a.pos)) (fun r s' => r = .none ∧ ∃ od t sl, s'.heap.get? C = some (excClassObj nm q C N bs bm hdct sn sub ab col dd k0 k1 k2 k3 k5 newId) ∧
          s'.heap.get? e = some ⟨.ref C, od, .fields #[.ref t, .none, .none, .none, .bool false, .none], sl⟩ ∧ E (.ref e) s') E { s₂ with heap := h' }) E s₁) E s) :
    wpAny (model prog w) A (exec (.Raise (some (.Call (.Name x np) args [] cpos)) none pos) env) Q E s := by
  rw [arm_exec_Raise]
  first
    | refine wpAny_bind (wpAny_standAt (ex_raiseStmt (C := C) (nm := nm) (q := q) (N := N) (bs := bs) (bm := bm) (hdct := hdct) (sn := sn) (sub := sub) (ab := ab) (col := col) (dd := dd) (k0 := k0) (k1 := k1) (k2 := k2) (k3 := k3) (k5 := k5) (newId := newId) hbase hh (wpAny_bind (wpAny_mono (wpAny_Call_ofName (wpAny_mono h (fun f s₁ h₁ => ?_) fun _ _ x => x)) (fun v s₃ h₃ => wpAny_bind (wpAny_standAt (wpAny_pure h₃))) fun _ _ x => x))))
    | (simp only [evalOpt, Option.map]; refine wpAny_bind (wpAny_standAt (ex_raiseStmt (C := C) (nm := nm) (q := q) (N := N) (bs := bs) (bm := bm) (hdct := hdct) (sn := sn) (sub := sub) (ab := ab) (col := col) (dd := dd) (k0 := k0) (k1 := k1) (k2 := k2) (k3 := k3) (k5 := k5) (newId := newId) hbase hh (wpAny_bind (wpAny_mono (wpAny_Call_ofName (wpAny_mono h (fun f s₁ h₁ => ?_) fun _ _ x => x)) (fun v s₃ h₃ => wpAny_bind (wpAny_standAt (wpAny_pure h₃))) fun _ _ x => x)))))
    | (refine wpAny_bind (wpAny_standAt (ex_raiseStmt (C := C) (nm := nm) (q := q) (N := N) (bs := bs) (bm := bm) (hdct := hdct) (sn := sn) (sub := sub) (ab := ab) (col := col) (dd := dd) (k0 := k0) (k1 := k1) (k2 := k2) (k3 := k3) (k5 := k5) (newId := newId) hbase hh ?_)); refine wpAny_bind (wpAny_mono (wpAny_Call_ofName (wpAny_mono h (fun f s₁ h₁ => ?_) fun _ _ x => x)) (fun v s₃ h₃ => wpAny_bind (wpAny_standAt (wpAny_pure h₃))) fun _ _ x => x))
  obtain ⟨rfl, h₁⟩ := h₁
  unfold callWith
  refine wpAny_bind (wpAny_holding (wpAny_mono h₁ (fun a s₂ h₂ => wpAny_bind (wpAny_standAt ?_)) fun _ _ x => x))
  obtain ⟨apos, akw⟩ := a
  obtain ⟨hkw, hlen, X, hC, h₂⟩ := h₂
  obtain rfl : akw = [] := hkw
  obtain ⟨hp, g, d, tk, os⟩ := s₂
  simp only [hplain]
  refine wpAny_bind (wpAny_keeperOf_exc hC ?_)
  refine wpAny_bind (ex_call Fn hB hA hN X hC hi hf hlen fun h' e hm => wpAny_mono (h₂ h' e hm) (fun r s' hr => ⟨hr.1, ?_⟩) fun _ _ x => x)
  obtain ⟨_, od, t, sl, hC', he, hE⟩ := hr
  refine wpAny_bind (wpAny_holding (wpAny_point (wpAny_pure ?_)))
  exact ⟨e, od, t, sl, rfl, hC', he, hE⟩

/-- raise C('..'), C an own exception class with an __init__ of the text's -/
theorem ex_raise1 {x : Str} {np cpos pos cp : Pos} {c : Str} {j : Nat} {fI L : Addr} {h₀ : Heap} {m : Str → Option Value} {Q : Flow → Shared → Prop}
    (hl : List.lookup C K = some (excClassObj nm q C N bs bm hdct sn sub ab col dd k0 k1 k2 k3 k5 newId)) (Fn : ExcBaseFacts Bn newId inN bmN) (hB : (Value.ref C :: bm).contains (.type Bn) = true) (hA : (Value.ref C :: bm).contains (.type "AttributeError") = false) (hN : (Value.ref C :: bm).contains (.type "NameError") = false)
    (hbase : (Value.ref C :: bm).contains (.type "BaseException") = true) (hi : findIn K (.ref C) "__init__" = some (some (.ref fI))) (hf : typeIn K (.ref fI) = some (.type "function"))
    (hh : A.handled = none) (F : Fr h₀ L s.heap m) (X : K.In h₀) (hname : ∀ Q' : Value → Shared → Prop, Q' (.ref C) s → wpAny (model prog w) A (eval (.Name x np) env) Q' E s)
    (h : ∀ h' e, Heap.MadeExcOf s.heap h' e (.ref C) [.str c s.toks] → wpAny (model prog w) (A.under (.builtin "type.__call__" ⟨[.ref C, .str c s.toks], []⟩)) (call (.ref fI) [.ref e, .str c s.toks])
      (fun r s' => r = .none ∧ ∃ od t sl, Fr h₀ L s'.heap m ∧ s'.heap.get? e = some ⟨.ref C, od, .fields #[.ref t, .none, .none, .none, .bool false, .none], sl⟩ ∧ E (.ref e) s') E { s with heap := h', toks := s.toks + 1 }) :
    wpAny (model prog w) A (exec (.Raise (some (.Call (.Name x np) [.Constant (.str c) j cp] [] cpos)) none pos) env) Q E s := by
  refine ex_raise (C := C) (nm := nm) (q := q) (N := N) (bs := bs) (bm := bm) (hdct := hdct) (sn := sn) (sub := sub) (ab := ab) (col := col) (dd := dd) (k0 := k0) (k1 := k1) (k2 := k2) (k3 := k3) (k5 := k5) (newId := newId) Fn hB hA hN hbase hi hf hh rfl (hname _ ⟨rfl, ?_⟩)
  refine Calls.evalArgs_plain ?_
  show wpAny _ _ (spliced (backTo cpos (starEach [.Constant (.str c) j cp] env))) _ _ _
  refine spliced_more (Calls.Constant_str (spliced_none ?_))
  refine ⟨rfl, by rw [sizeLine_eq]; exact Nat.le_of_ble_eq_true rfl, X.keeps F.keep, X.keeps F.keep _ _ hl, fun h' e hm => wpAny_mono (h h' e hm) (fun r s' hr => ⟨hr.1, ?_⟩) fun _ _ y => y⟩
  obtain ⟨_, od, t, sl, F', he, hE⟩ := hr
  exact ⟨od, t, sl, X.keeps F'.keep _ _ hl, he, hE⟩
end
end Mine
end
section
namespace Mine
abbrev excO (t : Addr) : Obj := { cls := .ref 70, data := .fields #[.ref t, .none, .none, .none, .bool false, .none] }
abbrev excD (t dx : Addr) : Obj := { cls := .ref 70, dict := some dx, data := .fields #[.ref t, .none, .none, .none, .bool false, .none] }
theorem inst_exc {h₀ h : Heap} {L e t : Addr} {news : Led} (N : News h₀ L h news) (hm : (e, excO t) ∈ news) : InstAt h e (excO t) 70 none := ⟨(N _ hm).1, rfl, rfl, trivial⟩
section
variable {prog : Program} {w : World} {A : Around} {E : Value → Shared → Prop} {s : Shared} {K : Frag} {h₀ : Heap} {L e t P : Addr} {m : Str → Option Value} {cd : ClassData} {name : Str} {v : Value}
theorem ex_setN {Q : Unit → Shared → Prop} (F : Fr h₀ L s.heap m) (X₀ : K.In h₀) (N : News h₀ L s.heap [(e, excO t)])
    (hs : findIn K (.ref 70) "__setattr__" = some (some (.builtin "object.__setattr__"))) (hcd : clsIn K 70 = some cd)
    (hm : cd.mro = [.ref 70, .ref P, .type "Exception", .type "BaseException", .type "object"]) (hh : cd.hasDict = true) (hna : findIn K (.ref 70) name = some none)
    (h : ∀ h' tk dx, Fr h₀ L h' m → News h₀ L h' [(e, excD t dx)] → Q () { s with heap := h', toks := tk }) :
    wpAny (model prog w) A (setAttr (.ref e) name v) Q E s := by
  have he := N _ (.head _)
  refine ex_set (X₀.keeps F.keep) (inst_exc N (.head _)) rfl rfl hs hcd hm hh hna fun h' tk' dx h1 h2 => h h' tk' dx ⟨F.ns.at' fun o ho => h2 _ _ (Ne.symm he.2.1) ho, fun b o ho => h2 b o (fun q => by have h3 := he.2.2; dsimp only at h3; rw [← q, ho] at h3; cases h3) (F.keep b o ho), F.above⟩ fun p hp => ?_
  rcases List.mem_cons.mp hp with rfl | hp
  · exact ⟨h1, he.2⟩
  · cases hp
end
set_option maxHeartbeats 4000000 in
theorem init_ok (e t : Addr) (x : Str) (tx : Tok) :
    Ok 3 54 [.ref e, .str x tx] [(e, excO t)] (fun v news' => v = .none ∧ ∃ dx, news' = [(e, excD t dx)]) := by
  k_with_none
  (k_with "my setAttr ref" => (k_here; k_dflt (refine' ex_setN ?q83k1 ?q83k2 ?q83k3 ?q83k4 ?q83k5 ?q83k6 ?q83k7 ?q83k8 ?_; (case q83k1 => k_asm); (case q83k2 => k_asm); (case q83k3 => k_asm); (case q83k4 => k_is); (case q83k5 => k_is); (case q83k6 => exact rfl); (case q83k7 => exact rfl); (case q83k8 => k_is); k_whole); intro h' tk' dx' F' N'))
  unfold Ok
  k_fill
  intro w p loose mean mg mb dp un gd cn cs a ccd cl outer A₀ base h₀ L m s Q E B F X N T hk hd hu hret
  refine wpAny_call ?_
  k_dflt cell_enter
  k_steps
  refine' hret _ _ _ _ ?r ?f ?n
  case f => k_asm
  case n => k_asm
  case r => exact ⟨rfl, _, rfl⟩
theorem weight_call (r : List Value) : (Code.builtin "type.__call__" ⟨.ref 70 :: r, []⟩).weight = 1 := by
  simp [Code.weight, Code.frames, Code.isFrame, Code.isCreation, Code.isGuard, Code.isCaller, guardIds]
theorem units_call (r : List Value) : (Code.builtin "type.__call__" ⟨.ref 70 :: r, []⟩).cUnits = 1 := by
  simp [Code.cUnits, Code.frames, Code.isFrame]
set_option maxHeartbeats 4000000 in
theorem raise_form {w : World} {p : Program} {loose : List Str} {mean : ExcName → Option Value} {mg mb : Str → Option Value}
    {dp un : Nat} {gd : Option (List Code)} {cn : Str} {cs : Scope} {a : Addr} {ccd : Value} {cl : List (Str × Addr)} {outer : List Env} {A₀ : Around} {base h₀ : Heap} {L : Addr} {m : Str → Option Value} {s : Shared} {Q : Flow → Shared → Prop} {E : Value → Shared → Prop}
    {np cpos pos cp : Pos} {c : Str} {j : Nat}
    (X : (Mine.hd.heap_39 w.params).In h₀) (B : Below A₀ base outer h₀) (F : Fr h₀ L s.heap m) (T : Top p loose mean mg mb h₀) (hk : cs.kind = .function) (hd : dp + 6 < recursionLimit) (hu : un + 48 < cLine)
    (hx : (envX cn cs L a ccd cl).kindOf "FormError" = some .globalImplicit) (hmod : PySem.Challenge.rw_xw0327_01 = PySem.Challenge.rw_xw0327_01)
    (h : ∀ h' tk e t dx, Fr h₀ L h' m → News h₀ L h' [(e, excD t dx)] → E (.ref e) { s with heap := h', toks := tk }) :
    wpAny (model PySem.Challenge.rw_xw0327_01.row.prog w) (ktrTop dp un gd cn cs L a ccd cl outer) (exec (.Raise (some (.Call (.Name "FormError" np) [.Constant (.str c) j cp] [] cpos)) none pos) (envX cn cs L a ccd cl)) Q E s := by
  revert X
  k_fill
  intro X
  k_dflt (refine' ex_raise1 (K := Mine.hd.heap_39 w.params) (C := 70) (fI := 54) ?hl PySem.F.excBase_Exception ?hB ?hA ?hN ?hb ?hi ?hf ?hh F X ?hnm ?_; (case hl => k_is); (case hB => rfl); (case hA => rfl); (case hN => rfl); (case hb => rfl); (case hi => k_is); (case hf => k_is); (case hh => rfl))
  case hnm => exact fun Q' hQ => nameX_K F X (topRead_of T) (by k_is) hQ hk hx (by decide)
  intro h' e hm
  obtain ⟨t, he, _, _⟩ := hm.there
  have F' := F.keptAll hm.keeps
  have N' : News h₀ L h' [(e, excO t)] := news_new F (fun _ hp => nomatch hp) hm.new he
  refine init_ok e t c s.toks w p loose mean mg mb (dp + (Code.builtin "type.__call__" ⟨[.ref 70, .str c s.toks], []⟩).weight) _ _ cn cs a ccd cl outer A₀ base h₀ L m { s with heap := h', toks := s.toks + 1 } _ _ B F' X N' T hk ?_ ?_ fun v news' h₂ tk₂ r F₂ N₂ => ?_
  · rw [weight_call]; omega
  · show un + _ + 8 * 3 < cLine
    rw [units_call]
    omega
  · obtain ⟨rfl, dx, rfl⟩ := r
    exact ⟨rfl, some dx, t, _, F₂, (N₂ _ (.head _)).1, h _ _ _ _ _ F₂ N₂⟩
end Mine
end
section
namespace Mine
/-- the heap without the frames of a stack -/
abbrev bare (H : Heap) (l : List Env) : Heap := hideAll H (l.filterMap (·.frame))
section
variable {M : Model} {A : Around} {E : Value → Shared → Prop} {s' : Shared} {H g base : Heap} {env : Env} {l : List Env} {L e t dx : Addr} {m : Str → Option Value}
theorem bare_keeps {b : Addr} {o : Obj} (hl : H.FunFrames base l) (ho : H.get? b = some o) (hb : base.get? b ≠ none) : (bare H l).get? b = some o :=
  hideAll_get _ ho fun hm => hb (hl.mem hm).1
theorem leave_form {Q : Unit → Shared → Prop} (S : H.StaysIn g) (hA : A.frames = some (env :: l)) (hk : env.scope.kind ≠ .module) (hf : env.frame = some L) (F : Fr g L s'.heap m) (N : News g L s'.heap [(e, excD t dx)]) (hl : H.FunFrames base l)
    (hQ : ∀ h', Heap.FlyingW (bare H l) l e (.ref 70) (.ref t) h' → H.UpToSlots h' → Q () { s' with heap := h' }) : wpAny M A (leaving env (.ref e)) Q E s' := by
  have he := N _ (.head _)
  have none_of : ∀ b, g.get? b = none → (bare H l).get? b = none := fun b hb => by
    cases q : (bare H l).get? b with
    | none => rfl
    | some o => rw [S b o (of_hideAll _ q)] at hb; cases hb
  have hFF : s'.heap.FunFrames (bare H l) l := (funFrames_hide hl fun env he a ha => List.mem_filterMap.mpr ⟨env, he, ha⟩).of_keeps fun b o hb _ => ⟨o, F.keep b o (S b o hb), rfl⟩
  have hFF' : s'.heap.FunFrames (bare H l) (env :: l) := Heap.FunFrames.cons hk hf F.ns (none_of _ (Heap.get?_none_of_le F.above)) hFF
  have hen := none_of _ he.2.2
  refine wpAny_leaving_firstW (a0 := .ref t) hA hFF' hf he.1 (fun b o hb => F.keep b o (S b o (of_hideAll _ hb))) hen rfl rfl rfl fun h' hL => ?_
  obtain ⟨k1, ⟨_, _, k2⟩, k3, k4⟩ := hL
  exact hQ h' ⟨k1, hen, k2, k3⟩ ((Heap.UpToSlots.of_keeps fun b o hb => F.keep b o (S b o hb)).trans k4)
end
section
variable {prog : Program} {w : World} {A : Around} {E : Value → Shared → Prop} {s' : Shared} {h₀ h H : Heap} {env : Env} {l : List Env} {L e t C N : Addr} {m : Str → Option Value} {K : Frag}
  {b₀ : Stmt} {suite : List Stmt} {pos np : Pos} {rest : List ExceptHandler} {Q : Flow → Shared → Prop} {x : Str}
variable {nm q : Str} {bs bm : List Value} {hdct : Bool} {sn : List Str} {sub : List Value} {ab : Bool} {col : Option Bool} {dd : Option Addr} {k0 k1 k2 k3 k5 : Option Value} {newId : String}
/-- an own exception is caught by its own class's name; the suite does not raise -/
theorem caught_form (hA : A.frames = some (env :: l)) (hf : env.frame = some L) (hfl : Heap.FlyingW H (env :: l) e (.ref C) (.ref t) s'.heap) (hB : h₀.StaysIn H) (F : Fr h₀ L h m) (hsm : h.UpToSlots s'.heap) (X : K.In h₀)
    (hname : ∀ {A' : Around} {E' : Value → Shared → Prop} {s'' : Shared} {Q' : Value → Shared → Prop}, Fr h₀ L s''.heap m → Q' (.ref C) s'' → wpAny (model prog w) A' (eval (.Name x np) env) Q' E' s'')
    (hc : List.lookup C K = some (excClassObj nm q C N bs bm hdct sn sub ab col dd k0 k1 k2 k3 k5 newId)) (hbase : bm.contains (.type "BaseException") = true)
    (k : ∀ h', H.StaysIn h' → h.UpToSlots h' → wpAny (model prog w) (A.mark (some (.ref e))) (execs (b₀ :: suite) env) Q (fun _ _ => False) { s' with heap := h' }) :
    wpAny (model prog w) A (noteFrame (.ref e) env)
      (fun _ s₂ => wpAny (model prog w) A (setFlight (.ref e) none) (fun _ s₃ =>
        wpAny (model prog w) A (handleBy (.ref e) env (.ExceptHandler (some (.Name x np)) none (b₀ :: suite) pos :: rest)) Q E s₃) E s₂) E s' := by
  refine wpAny_looks_onW hA hf hfl fun h₄ hheld₄ hsm₄ => ?_
  refine wpAny_landsW hheld₄ fun h₅ hheld hsm₅' => ?_
  have hsm₅ := hsm.trans (hsm₄.trans hsm₅')
  have F₅ : Fr h₀ L h₅ m := F.of_stays (fun b o hb => hheld.1 b o (hB b o hb)) hsm₅
  obtain ⟨ob, hob, hobc⟩ := hheld.there
  refine wpAny_handleBy_cons (codeAny_handlers_test (hname F₅ ?_)) (by intro q; cases q)
  refine wpAny_excMatches_sub_self (X.keeps F₅.keep _ _ hc) hob hobc hbase (codeAny_handlers_suite ?_)
  refine lands_againW hheld fun h₆ hfl₆ hsm₆ => ?_
  exact wpAny_mono (k h₆ hfl₆.1 (hsm₅.trans hsm₆)) (fun _ _ z => z) fun _ _ z => z.elim
end
end Mine
end
section
namespace Mine
theorem clip4 {n : Nat} (h : 4 ≤ n) : clipAt n (-4) = n - 4 := by
  unfold clipAt
  rw [if_pos (by decide)]
  omega
theorem tail4 {ks : List Int} (h : 4 ≤ ks.length) : List.take (ks.length - clipAt ks.length (-4)) (List.drop (clipAt ks.length (-4)) ks) = ks.drop (ks.length - 4) := by
  rw [clip4 h]
  exact List.take_of_length_le (by rw [List.length_drop]; omega)
theorem bInts_inj {b c : Array UInt8} (h : KBw.bInts b = KBw.bInts c) : b = c := by
  have key : ∀ l r : List UInt8, (l.map fun c => (c.toNat : Int)) = (r.map fun c => (c.toNat : Int)) → l = r := by
    intro l
    induction l with
    | nil => intro r e; cases r with | nil => rfl | cons _ _ => cases e
    | cons x l ih =>
      intro r e
      cases r with
      | nil => cases e
      | cons y r =>
        have e1 := (List.cons.inj e).1
        have e2 := (List.cons.inj e).2
        rw [ih r e2, UInt8.toNat_inj.mp (Int.ofNat.inj e1)]
  have := key b.toList c.toList h
  exact Array.toList_inj.mp this
section
variable {prog : Program} {w : World} {A : Around} {E : Value → Shared → Prop} {s : Shared} {b c : Array UInt8} {t u : Tok} {xs ys : List Int}
theorem ne_true {Q : Value → Shared → Prop} (hb : KBw.bInts b = xs) (hc : KBw.bInts c = ys) (hne : xs ≠ ys) (h : Q (.bool true) s) : wpAny (model prog w) A (compareOp .NotEq (.bytes b t) (.bytes c u)) Q E s := by
  refine ne_bytes ?_
  have e : (b.toList != c.toList) = true := by
    rw [bne_iff_ne]
    intro e
    exact hne (by rw [← hb, ← hc, Array.toList_inj.mp e])
  rw [e]
  exact h
theorem ne_false {Q : Value → Shared → Prop} (hb : KBw.bInts b = xs) (hc : KBw.bInts c = ys) (he : xs = ys) (h : Q (.bool false) s) : wpAny (model prog w) A (compareOp .NotEq (.bytes b t) (.bytes c u)) Q E s := by
  refine ne_bytes ?_
  have e : b = c := bInts_inj (by rw [hb, hc, he])
  subst e
  have e2 : (b.toList != b.toList) = false := by simp
  rw [e2]
  exact h
end
local macro_rules | `(tactic| kba_size) => `(tactic| ((simp only [len16, len32, len48, lenS, List.length_append, List.length_cons, List.length_nil]); omega))
set_option maxHeartbeats 4000000 in
theorem unpack_bad (b : Array UInt8) (tb : Tok) (ks : List Int) (hb : KBw.bInts b = ks) (hl0 : 18 ≤ ks.length) (hl : ks.length ≤ 30) (hbad : sumL (ks.take (ks.length - 4)) ≠ ks.drop (ks.length - 4)) :
    ∀ (w : World) (p : Program) (loose : List Str) (mean : ExcName → Option Value) (mg mb : Str → Option Value)
    (dp un : Nat) (gd : Option (List Code)) (cn : Str) (cs : Scope) (a : Addr) (ccd : Value) (cl : List (Str × Addr)) (outer : List Env) (A₀ : Around) (base h₀ : Heap) (L : Addr) (m : Str → Option Value) (s : Shared) (Q E : Value → Shared → Prop),
    Below A₀ base outer h₀ → Fr h₀ L s.heap m → (Mine.hd.heap_39 w.params).In h₀ → Top p loose mean mg mb h₀ → cs.kind = .function → dp + 20 < recursionLimit → un + 160 < cLine →
    (∀ h' tk e t, Heap.FlyingW (bare s.heap (envX cn cs L a ccd cl :: outer)) (envX cn cs L a ccd cl :: outer) e (.ref 70) (.ref t) h' → s.heap.UpToSlots h' → E (.ref e) { s with heap := h', toks := tk }) →
      wpAny (model PySem.Challenge.rw_xw0327_01.row.prog w) (ktrTop dp un gd cn cs L a ccd cl outer) (call (.ref 171) [.bytes b tb]) Q E s := by
  k_with_none
  (k_with "my binaryOp RShift int int" => (k_here; (with_reducible refine rshift_int ?q84kb1 ?_); (case q84kb1 => decide)))
  (k_with "my call ref" => (k_here; (with_reducible show wpAny _ _ (call (Value.ref 156) [Value.bytes _ _]) _ _ _); k_dflt (refine' use_ok (sum_octets_ok _ _ _ _ ?q85hb ?q85hl) ?q85k1 ?q85k2 ?q85k3 ?q85k4 ?q85k5 ?q85kK ?q85kd ?q85ku ?_; (case q85k1 => k_asm); (case q85k2 => k_asm); (case q85k3 => k_asm); (case q85k4 => k_asm); (case q85k5 => k_asm); (case q85kK => first | exact rfl | assumption); (case q85kd => ktr_room); (case q85ku => ktr_units); (case q85hb => kba_ints); (case q85hl => kba_size)); intro v9 n9 h9 tk9 R9 F9 N9; (obtain ⟨e9, b9, t9, e8, hb9⟩ := R9); subst e9; subst e8; (try dsimp only); (try k_fold)))
  (k_with "my compareOp NotEq bytes bytes" => (k_here; refine ne_true (by kba_ints) (by kba_ints) (by assumption) ?_))
  (k_with "my exec Raise some none" => (k_here; k_dflt (refine' raise_form ?q87k1 ?q87k2 ?q87k3 ?q87k4 ?q87kK ?q87kd ?q87ku ?q87kx rfl ?_; (case q87k1 => k_asm); (case q87k2 => k_asm); (case q87k3 => k_asm); (case q87k4 => k_asm); (case q87kK => first | exact rfl | assumption); (case q87kd => ktr_room); (case q87ku => ktr_units); (case q87kx => exact rfl)); intro h' tk' e' t' dx' F' N'; (try dsimp only)))
  k_fill
  intro w p loose mean mg mb dp un gd cn cs a ccd cl outer A₀ base h₀ L m s Q E B F X T hk hd hu hret
  refine wpAny_call ?_
  k_dflt (refine' enterP ?k1 ?k2 ?k3 ?k5 ?kA ?kF ?kK ?k6 ?k7 ?k8 ?k9 ?kB ?_ ?c2 ?c3 ?c4 ?c5; (case kA => exact rfl); (case kF => exact rfl); (case kK => assumption); (case k1 => k_asm); (case k2 => k_asm); (case k3 => k_asm); (case k5 => k_asm); (case k6 => k_is); (case k7 => k_is); (case k8 => ktr_room); (case k9 => first | exact BindsTo.of_eq rfl | exact binds_K (by k_in) rfl (by k_is) rfl rfl rfl); (case c5 => decide); (case kB => exact locs rfl); (case c2 => exact rfl); (case c3 => exact rfl); (case c4 => exact rfl); k_whole)
  intro g' L' h' SG0 F' N' B' X' T'
  have SG' : s.heap.StaysIn g' := by rw [SG0]; exact fun _ _ e => e
  (try dsimp only)
  (try k_lift B')
  (try k_fold)
  have hne : sumL (List.take (clipAt ks.length (-4)) ks) ≠ List.take (ks.length - clipAt ks.length (-4)) (List.drop (clipAt ks.length (-4)) ks) := by
    rw [tail4 (by omega), clip4 (by omega)]
    exact hbad
  have hff : s.heap.FunFrames base (envX cn cs L a ccd cl :: outer) := by rw [SG0]; exact B'.frames
  k_steps
  (with_reducible rename Fr _ _ _ _ => F9)
  (with_reducible rename News _ _ _ _ => N9)
  refine leave_form SG' rfl ?kk rfl F9 N9 hff fun h' fly ups => ?_
  case kk => exact fun q => by cases q
  exact hret _ _ _ _ fly ups
end Mine
end
section
namespace Mine
section
variable {h₀ H h1 h' : Heap} {L L' : Addr} {m m1 : Str → Option Value} {news : Led} {e1 e2 : Env}
theorem down_fr (F : Fr h₀ L H m) (F' : Fr H L' h1 m1) : Fr h₀ L' h1 m1 := by
  obtain ⟨oL, _, _, hL, _⟩ := F.ns
  have := Heap.lt_size hL
  exact ⟨F'.ns, fun b o e => F'.keep b o (F.keep b o e), Nat.le_trans F.above (Nat.le_trans (Nat.le_of_lt this) F'.above)⟩
theorem down_bare (F : Fr h₀ L H m) (F' : Fr H L' h1 m1) (h1' : e1.frame = some L') (h2' : e2.frame = some L) : h₀.StaysIn (bare h1 [e1, e2]) := fun b o hb => by
  refine hideAll_get _ (F'.keep b o (F.keep b o hb)) fun hm => ?_
  have hm' : b = L' ∨ b = L := by
    simp only [List.filterMap_cons, h1', h2', List.filterMap_nil, List.mem_cons, List.not_mem_nil, or_false] at hm
    exact hm
  rcases hm' with rfl | rfl
  · rw [Heap.get?_none_of_le (down_fr F F').above] at hb; cases hb
  · rw [Heap.get?_none_of_le F.above] at hb; cases hb
theorem down_news (F : Fr h₀ L H m) (F' : Fr H L' h1 m1) (N : News h₀ L H news) (h1' : e1.frame = some L') (h2' : e2.frame = some L) (st : (bare h1 [e1, e2]).StaysIn h') : News h₀ L h' news := fun q hq => by
  obtain ⟨n1, n2, n3⟩ := N q hq
  refine ⟨st _ _ (hideAll_get _ (F'.keep _ _ n1) fun hm => ?_), n2, n3⟩
  have hm' : q.1 = L' ∨ q.1 = L := by
    simp only [List.filterMap_cons, h1', h2', List.filterMap_nil, List.mem_cons, List.not_mem_nil, or_false] at hm
    exact hm
  rcases hm' with h | h
  · rw [h, Heap.get?_none_of_le F'.above] at n1; cases n1
  · exact n2 h
theorem down_back (F : Fr h₀ L H m) (F' : Fr H L' h1 m1) (h1' : e1.frame = some L') (h2' : e2.frame = some L) (st : (bare h1 [e1, e2]).StaysIn h') (up : h1.UpToSlots h') : Fr h₀ L h' m :=
  F.of_stays (fun b o hb => st b o (down_bare F F' h1' h2' b o hb)) ((Heap.UpToSlots.of_keeps F'.keep).trans up)
end
set_option maxHeartbeats 4000000 in
theorem read_bad (b : Array UInt8) (tb : Tok) (ks : List Int) (news : Led) (hb : KBw.bInts b = ks) (hl0 : 18 ≤ ks.length) (hl : ks.length ≤ 30) (hbad : sumL (ks.take (ks.length - 4)) ≠ ks.drop (ks.length - 4)) :
    ∀ (w : World) (p : Program) (loose : List Str) (mean : ExcName → Option Value) (mg mb : Str → Option Value)
    (dp un : Nat) (gd : Option (List Code)) (cn : Str) (cs : Scope) (a : Addr) (ccd : Value) (cl : List (Str × Addr)) (A₀ : Around) (base h₀ : Heap) (L : Addr) (m : Str → Option Value) (s : Shared) (Q E : Value → Shared → Prop),
    Below A₀ base [] h₀ → Fr h₀ L s.heap m → (Mine.hd.heap_39 w.params).In h₀ → News h₀ L s.heap news → Top p loose mean mg mb h₀ → cs.kind = .function → dp + 24 < recursionLimit → un + 200 < cLine →
    (∀ h' tk, Fr h₀ L h' m → News h₀ L h' news → Q .none { s with heap := h', toks := tk }) →
      wpAny (model PySem.Challenge.rw_xw0327_01.row.prog w) (ktrTop dp un gd cn cs L a ccd cl []) (call (.ref 192) [.bytes b tb]) Q E s := by
  k_with_none
  k_fill
  intro w p loose mean mg mb dp un gd cn cs a ccd cl A₀ base h₀ L m s Q E B F X N T hk hd hu hret
  refine wpAny_call ?_
  k_dflt (refine' enterP ?k1 ?k2 ?k3 ?k5 ?kA ?kF ?kK ?k6 ?k7 ?k8 ?k9 ?kB ?_ ?c2 ?c3 ?c4 ?c5; (case kA => exact rfl); (case kF => exact rfl); (case kK => assumption); (case k1 => k_asm); (case k2 => k_asm); (case k3 => k_asm); (case k5 => k_asm); (case k6 => k_is); (case k7 => k_is); (case k8 => ktr_room); (case k9 => first | exact BindsTo.of_eq rfl | exact binds_K (by k_in) rfl (by k_is) rfl rfl rfl); (case c5 => decide); (case kB => exact locs rfl); (case c2 => exact rfl); (case c3 => exact rfl); (case c4 => exact rfl); k_whole)
  intro g' L' h' SG0 F' N' B' X' T'
  have SG' : s.heap.StaysIn g' := by rw [SG0]; exact fun _ _ e => e
  (try dsimp only)
  (try k_lift B')
  (try k_fold)
  k_steps
  subst SG0
  refine unpack_bad b tb ks hb hl0 hl hbad w p loose mean mg mb _ _ _ _ _ _ _ _ _ _ _ _ _ _ _ _ _ B' F' X' T' rfl ?hdd ?huu fun h2 tk2 e t fly ups => ?_
  case hdd => ktr_room
  case huu => ktr_units
  k_dflt (refine' caught_form (K := Mine.hd.heap_39 w.params) (C := 70) (h₀ := h₀) ?cA ?cf fly ?cB (down_fr F F') ups X ?cn ?cl ?cb ?_; (case cl => k_is); (case cA => exact rfl); (case cf => exact rfl); (case cB => exact down_bare F F' rfl rfl); (case cb => exact rfl))
  case cn => exact fun F'' hQ => nameX_K F'' X (topRead_of T) (by k_is) hQ rfl rfl (by decide)
  intro h3 st up
  refine wpAny_execs_cons (wpAny_Return_some ?_)
  k_steps
  exact hret _ _ (down_back F F' rfl rfl st up) (down_news F F' N rfl rfl st)
end Mine
end
section
namespace Mine
local macro_rules | `(tactic| k_room) => `(tactic| ktr_room)
local macro_rules | `(tactic| kba_size) => `(tactic| ((simp only [len16, len32, len48, lenS, List.length_append, List.length_cons, List.length_nil]); omega))
theorem tail14 {ks : List Int} (h : 14 ≤ ks.length) : List.take (ks.length - clipAt ks.length 14) (List.drop (clipAt ks.length 14) ks) = ks.drop 14 := by
  have e : clipAt ks.length 14 = 14 := by unfold clipAt; simp; omega
  rw [e]
  exact List.take_of_length_le (by rw [List.length_drop]; omega)
set_option maxHeartbeats 4000000 in
theorem read_good (b : Array UInt8) (tb : Tok) (ks : List Int) (hb : KBw.bInts b = ks) (hl0 : 18 ≤ ks.length) (hl : ks.length ≤ 30) (hgood : sumL (ks.take (ks.length - 4)) = ks.drop (ks.length - 4)) :
    OkP 25 192 [.bytes b tb] (fun old v h' => ∃ l n tT tS tK b' tb', v = .ref l ∧ old.get? l = none ∧ h'.get? l = some { cls := .type "tuple", data := .seq #[.int (gb48 (ks.take (ks.length - 4)) 0) tT, .int (gb48 (ks.take (ks.length - 4)) 6) tS, .int (gb16 (ks.take (ks.length - 4)) 12) tK, .bytes b' tb'] n } ∧ KBw.bInts b' = (ks.take (ks.length - 4)).drop 14) := by
  k_with_none
  (k_with "my binaryOp RShift int int" => (k_here; (with_reducible refine rshift_int ?q88kb1 ?_); (case q88kb1 => decide)))
  (k_with "my call ref" => (k_here; (with_reducible show wpAny _ _ (call (Value.ref 156) [Value.bytes _ _]) _ _ _); k_dflt (refine' use_ok (sum_octets_ok _ _ _ _ ?q89hb ?q89hl) ?q89k1 ?q89k2 ?q89k3 ?q89k4 ?q89k5 ?q89kK ?q89kd ?q89ku ?_; (case q89k1 => k_asm); (case q89k2 => k_asm); (case q89k3 => k_asm); (case q89k4 => k_asm); (case q89k5 => k_asm); (case q89kK => first | exact rfl | assumption); (case q89kd => ktr_room); (case q89ku => ktr_units); (case q89hb => kba_ints); (case q89hl => kba_size)); intro v9 n9 h9 tk9 R9 F9 N9; (obtain ⟨e9, b9, t9, e8, hb9⟩ := R9); subst e9; subst e8; (try dsimp only); (try k_fold)))
  (k_with "my call ref" => (k_here; (with_reducible show wpAny _ _ (call (Value.ref 107) [Value.bytes _ _, Value.int _ _]) _ _ _); k_dflt (refine' use_ok (get16_ok _ _ _ _ _ _ ?q90hb ?q90hl ?q90h0 ?q90h1) ?q90k1 ?q90k2 ?q90k3 ?q90k4 ?q90k5 ?q90kK ?q90kd ?q90ku ?_; (case q90k1 => k_asm); (case q90k2 => k_asm); (case q90k3 => k_asm); (case q90k4 => k_asm); (case q90k5 => k_asm); (case q90kK => first | exact rfl | assumption); (case q90kd => ktr_room); (case q90ku => ktr_units); (case q90hb => kba_ints); (case q90hl => kba_size); (case q90h0 => first | assumption | omega | decide); (case q90h1 => first | assumption | omega | kba_idx)); intro v9 n9 h9 tk9 R9 F9 N9; (obtain ⟨e9, t9, e8, lo9, hi9⟩ := R9); subst e9; subst e8; (try dsimp only); (try k_fold)))
  (k_with "my call ref" => (k_here; (with_reducible show wpAny _ _ (call (Value.ref 121) [Value.bytes _ _, Value.int _ _]) _ _ _); k_dflt (refine' use_ok (get48_ok _ _ _ _ _ _ ?q91hb ?q91hl ?q91h0 ?q91h1) ?q91k1 ?q91k2 ?q91k3 ?q91k4 ?q91k5 ?q91kK ?q91kd ?q91ku ?_; (case q91k1 => k_asm); (case q91k2 => k_asm); (case q91k3 => k_asm); (case q91k4 => k_asm); (case q91k5 => k_asm); (case q91kK => first | exact rfl | assumption); (case q91kd => ktr_room); (case q91ku => ktr_units); (case q91hb => kba_ints); (case q91hl => kba_size); (case q91h0 => first | assumption | omega | decide); (case q91h1 => first | assumption | omega | kba_idx)); intro v9 n9 h9 tk9 R9 F9 N9; (obtain ⟨e9, t9, e8, lo9, hi9⟩ := R9); subst e9; subst e8; (try dsimp only); (try k_fold)))
  (k_with "my compareOp NotEq bytes bytes" => (k_here; refine ne_false (by kba_ints) (by kba_ints) (by assumption) ?_))
  unfold OkP
  k_fill
  intro w p loose mean mg mb dp un gd cn cs a ccd cl outer A₀ base h₀ L m s Q E B F X T hk hd hu hret
  refine wpAny_call ?_
  k_dflt (refine' enterP ?k1 ?k2 ?k3 ?k5 ?kA ?kF ?kK ?k6 ?k7 ?k8 ?k9 ?kB ?_ ?c2 ?c3 ?c4 ?c5; (case kA => exact rfl); (case kF => exact rfl); (case kK => assumption); (case k1 => k_asm); (case k2 => k_asm); (case k3 => k_asm); (case k5 => k_asm); (case k6 => k_is); (case k7 => k_is); (case k8 => ktr_room); (case k9 => first | exact BindsTo.of_eq rfl | exact binds_K (by k_in) rfl (by k_is) rfl rfl rfl); (case c5 => decide); (case kB => exact locs rfl); (case c2 => exact rfl); (case c3 => exact rfl); (case c4 => exact rfl); k_whole)
  intro g' L' h' SG0 F' N' B' X' T'
  have SG' : s.heap.StaysIn g' := by rw [SG0]; exact fun _ _ e => e
  (try dsimp only)
  (try k_lift B')
  (try k_fold)
  have heq : sumL (List.take (clipAt ks.length (-4)) ks) = List.take (ks.length - clipAt ks.length (-4)) (List.drop (clipAt ks.length (-4)) ks) := by
    rw [tail4 (by omega), clip4 (by omega)]
    exact hgood
  have hcl : clipAt ks.length (-4) = ks.length - 4 := clip4 (by omega)
  k_steps
  refine hret _ _ _ ?zR ?zS
  case zS => exact fun b o e => by (with_reducible rename Fr _ _ _ _ => F9); exact F9.keep b o (SG' b o e)
  case zR =>
    (with_reducible rename News _ _ _ _ => N9)
    obtain ⟨h8, h9⟩ := new_not_old SG' N9 (List.Mem.head _)
    have h7 : KBw.bInts (KBy.picked (KBy.picked b none (some (-4))) (some 14) none) = List.take ((List.take (clipAt ks.length (-4)) ks).length - clipAt (List.take (clipAt ks.length (-4)) ks).length 14) (List.drop (clipAt (List.take (clipAt ks.length (-4)) ks).length 14) (List.take (clipAt ks.length (-4)) ks)) := by assumption
    rw [hcl] at h9
    refine ⟨_, _, _, _, _, _, _, rfl, h8, h9, h7.trans ?_⟩
    rw [hcl]
    exact tail14 (by rw [List.length_take]; omega)
end Mine
end
section
namespace Mine
theorem turnI_len (ks : List Int) (m g : Int) : (turnI ks m g).length = ks.length := by simp [turnI, rangeKs]
def bitsI (ks : List Int) (p0 p1 p2 : Int) : List Int :=
  if [p0, p1].any (fun x => x == p2) then (if [p0].any (fun x => x == p1) then turnI ks 1 p0 else turnI (turnI ks 1 p0) 1 p1)
  else turnI (if [p0].any (fun x => x == p1) then turnI ks 1 p0 else turnI (turnI ks 1 p0) 1 p1) 1 p2
theorem bits_ff {ks l : List Int} {p0 p1 p2 : Int} (h1 : ([p0].any fun x => x == p1) = false) (h2 : ([p0, p1].any fun x => x == p2) = false) (h : l = turnI (turnI (turnI ks 1 p0) 1 p1) 1 p2) : l = bitsI ks p0 p1 p2 := by
  unfold bitsI; rw [h1, h2]; exact h
theorem bits_ft {ks l : List Int} {p0 p1 p2 : Int} (h1 : ([p0].any fun x => x == p1) = false) (h2 : ([p0, p1].any fun x => x == p2) = true) (h : l = turnI (turnI ks 1 p0) 1 p1) : l = bitsI ks p0 p1 p2 := by
  unfold bitsI; rw [h1, h2]; exact h
theorem bits_tf {ks l : List Int} {p0 p1 p2 : Int} (h1 : ([p0].any fun x => x == p1) = true) (h2 : ([p0, p1].any fun x => x == p2) = false) (h : l = turnI (turnI ks 1 p0) 1 p2) : l = bitsI ks p0 p1 p2 := by
  unfold bitsI; rw [h1, h2]; exact h
theorem bits_tt {ks l : List Int} {p0 p1 p2 : Int} (h1 : ([p0].any fun x => x == p1) = true) (h2 : ([p0, p1].any fun x => x == p2) = true) (h : l = turnI ks 1 p0) : l = bitsI ks p0 p1 p2 := by
  unfold bitsI; rw [h1, h2]; exact h
theorem offL {pl I : Addr} {o : Obj} {rest : Led} (h : pl < I ∧ AllLt I rest) : ∀ p ∈ (pl, o) :: rest, p.1 ≠ I := by
  have key : ∀ {r : Led}, AllLt I r → ∀ p ∈ r, p.1 ≠ I := by
    intro r
    induction r with
    | nil => exact fun _ p hp => nomatch hp
    | cons q r ih =>
      intro h p hp
      rcases List.mem_cons.mp hp with rfl | hp
      · exact Nat.ne_of_lt h.1
      · exact ih h.2 p hp
  intro p hp
  rcases List.mem_cons.mp hp with rfl | hp
  · exact Nat.ne_of_lt h.1
  · exact key h.2 p hp
local macro_rules | `(tactic| kba_size) => `(tactic| ((simp only [turnI_len]); omega))
set_option maxHeartbeats 4000000 in
theorem bitsturn_ok (b : Array UInt8) (tb : Tok) (ks : List Int) (pl : Addr) (n : Nat) (p0 p1 p2 : Int) (t0 t1 t2 : Tok) (rest : Led) (hb : KBw.bInts b = ks) (hl : ks.length ≤ 30) (h00 : 0 ≤ p0) (h01 : p0 < 240) (h10 : 0 ≤ p1) (h11 : p1 < 240) (h20 : 0 ≤ p2) (h21 : p2 < 240) :
    Ok 10 204 [.bytes b tb, .ref pl] ((pl, W.listOf #[.int p0 t0, .int p1 t1, .int p2 t2] n) :: rest) (fun v news' => ((pl, W.listOf #[.int p0 t0, .int p1 t1, .int p2 t2] n) :: rest) = news' ∧ ∃ b' t, v = .bytes b' t ∧ KBw.bInts b' = bitsI ks p0 p1 p2) := by
  k_with_none
  (k_with "my UnrEnd" => ((with_reducible rename Fr _ _ _ _ => F9); (with_reducible rename News _ _ _ _ => N9); (refine UnrEnd.intro F9 N9 _ (fun q hq => List.Mem.tail _ hq) (offL (by assumption)) ?_); clear F9 N9))
  (k_with "place0" => assumption)
  (k_with "place1" => assumption)
  (k_with "my binaryOp RShift int int" => (k_here; (with_reducible refine rshift_int ?q96kb1 ?_); (case q96kb1 => decide)))
  (k_with "my call ref" => (k_here; (with_reducible show wpAny _ _ (call (Value.ref 197) [Value.bytes _ _, Value.int _ _, Value.int _ _]) _ _ _); k_dflt (refine' use_okP (turned_ok _ _ _ _ _ _ _ ?q97hb ?q97hl ?q97m0 ?q97m1 ?q97g0 ?q97g1) ?q97k1 ?q97k2 ?q97k3 ?q97k4 ?q97k5 ?q97kK ?q97kd ?q97ku ?_; (case q97k1 => k_asm); (case q97k2 => k_asm); (case q97k3 => k_asm); (case q97k4 => k_asm); (case q97k5 => k_asm); (case q97kK => first | exact rfl | assumption); (case q97kd => ktr_room); (case q97ku => ktr_units); (case q97hb => kba_ints); (case q97hl => kba_size); (case q97m0 => first | assumption | decide | omega); (case q97m1 => first | assumption | decide | omega); (case q97g0 => k_extra "place0"); (case q97g1 => k_extra "place1")); intro v9 h9 tk9 R9 F9 N9 S9; clear S9; (obtain ⟨b9, t9, e8, hb9⟩ := R9); subst e8; (try dsimp only); (try k_fold)))
  unfold Ok
  k_fill
  intro w p loose mean mg mb dp un gd cn cs a ccd cl outer A₀ base h₀ L m s Q E B F X N T hk hd hu hret
  refine wpAny_call ?_
  k_dflt (refine' code_def ?k1 ?k2 ?k3 ?k4 ?k5 ?kA ?kF ?kK ?k6 ?k7 ?k8 ?k9 ?kB ?_ ?c2 ?c3 ?c4 ?c5; (case kA => exact rfl); (case kF => exact rfl); (case kK => assumption); (case k1 => k_asm); (case k2 => k_asm); (case k3 => k_asm); (case k4 => k_asm); (case k5 => k_asm); (case k6 => k_is); (case k7 => k_is); (case k8 => ktr_room); (case k9 => first | exact BindsTo.of_eq rfl | exact binds_K (by k_in) rfl (by k_is) rfl rfl rfl); (case c5 => decide); (case kB => exact locs rfl); (case c2 => exact rfl); (case c3 => exact rfl); (case c4 => exact rfl); k_whole)
  intro g' L' h' FG' F' N' B' X' T'
  (try dsimp only)
  (try k_lift B')
  (try k_fold)
  k_steps
  all_goals
    refine' hret _ _ _ _ ?r ?f ?n
    case f => k_asm
    case n => k_asm
    case r => exact ⟨rfl, _, _, rfl, by first | exact bits_ff (by assumption) (by assumption) (by assumption) | exact bits_ft (by assumption) (by assumption) (by assumption) | exact bits_tf (by assumption) (by assumption) (by assumption) | exact bits_tt (by assumption) (by assumption) (by assumption)⟩
end Mine
end
section
namespace Mine
theorem noPylong_top {a top : Int} (h0 : 0 < top) (h1 : top ≤ 281474976710656) : Builtin.divisionGoesByPylong a top = false :=
  PyProof.noPylong_of_log2 (by
    have h : top.natAbs < 2 ^ 49 := by omega
    have := (Nat.log2_lt (by omega : top.natAbs ≠ 0)).mpr h
    omega)
theorem bits_fmod (a x : Int) : Builtin.Int.intBits ([a, x.fmod 2147483647].getD (Int.toNat 1) 0) ≤ 64 := by
  have h0 : 0 ≤ x.fmod 2147483647 := Int.fmod_nonneg_of_pos _ (by decide)
  have h1 : x.fmod 2147483647 < 2147483647 := Int.fmod_lt_of_pos _ (by decide)
  exact PySem.intBits_le_64 (by show _ ≤ x.fmod 2147483647; omega) (by show x.fmod 2147483647 < _; omega)
local macro_rules | `(tactic| k_all) => `(tactic| assumption)
local macro_rules | `(tactic| kba_size) => `(tactic| ((simp only [len16, len32, len48, lenS, List.length_append, List.length_cons, List.length_nil]); omega))

set_option maxHeartbeats 4000000 in
theorem take_ok (l : Addr) (n : Nat) (a b top : Int) (ta tb tt : Tok) (rest : Led) (ht0 : 0 < top) (ht1 : top ≤ 281474976710656) (hb0 : 0 ≤ b) (hb1 : b < 2147483647) (hne : ∀ p ∈ rest, p.1 ≠ l) :
    Ok 10 185 [.ref l, .int top tt] ((l, W.listOf #[.int a ta, .int b tb] n) :: rest) (fun v news' => ∃ a' b' ta' tb' r tr, ((l, W.listOf #[.int a' ta', .int b' tb'] n) :: rest) = news' ∧ 0 ≤ b' ∧ b' < 2147483647 ∧ v = .int r tr ∧ 0 ≤ r ∧ r < top) := by
  k_with_none
  (k_with "my binaryOp Mult int int" => (k_here; (refine PyProof.Rows.mul_int ?_ (IntMulOk.of_left (bits_fmod _ _)))))
  (k_with "my binaryOp FloorDiv int int" => (k_here; (refine floordiv_int (by assumption) ?_ (Or.inl (noPylong_top (by assumption) (by assumption))))))
  (k_with "my binaryOp RShift int int" => (k_here; (with_reducible refine rshift_int ?q100kb1 ?_); (case q100kb1 => decide)))
  unfold Ok
  k_fill
  intro w p loose mean mg mb dp un gd cn cs a ccd cl outer A₀ base h₀ L m s Q E B F X N T hk hd hu hret
  refine wpAny_call ?_
  k_dflt (refine' code_def ?k1 ?k2 ?k3 ?k4 ?k5 ?kA ?kF ?kK ?k6 ?k7 ?k8 ?k9 ?kB ?_ ?c2 ?c3 ?c4 ?c5; (case kA => exact rfl); (case kF => exact rfl); (case kK => assumption); (case k1 => k_asm); (case k2 => k_asm); (case k3 => k_asm); (case k4 => k_asm); (case k5 => k_asm); (case k6 => k_is); (case k7 => k_is); (case k8 => ktr_room); (case k9 => first | exact BindsTo.of_eq rfl | exact binds_K (by k_in) rfl (by k_is) rfl rfl rfl); (case c5 => decide); (case kB => exact locs rfl); (case c2 => exact rfl); (case c3 => exact rfl); (case c4 => exact rfl); k_whole)
  intro g' L' h' FG' F' N' B' X' T'
  (try dsimp only)
  (try k_lift B')
  (try k_fold)
  have htn : top ≠ 0 := by omega
  k_steps
  · refine' hret _ _ _ _ ?r1 ?f1 ?n1
    case f1 => k_asm
    case n1 => k_asm
    case r1 => exact ⟨_, _, _, _, _, _, rfl, hb0, hb1, rfl, Int.fmod_nonneg_of_pos _ ht0, Int.fmod_lt_of_pos _ ht0⟩
  · refine' hret _ _ _ _ ?r2 ?f2 ?n2
    case f2 => k_asm
    case n2 => k_asm
    case r2 => exact ⟨_, _, _, _, _, _, rfl, Int.fmod_nonneg_of_pos _ (by decide), Int.fmod_lt_of_pos _ (by decide), rfl, Int.fmod_nonneg_of_pos _ ht0, Int.fmod_lt_of_pos _ ht0⟩
end Mine
end
section
namespace Mine
theorem use_take {w : World} {p : Program} {loose : List Str} {mean : ExcName → Option Value} {mg mb : Str → Option Value} {news : Led} {g : Obj → Led}
    {dp un : Nat} {gd : Option (List Code)} {cn : Str} {cs : Scope} {ad : Addr} {ccd : Value} {cl : List (Str × Addr)} {outer : List Env} {A₀ : Around} {base h₀ : Heap} {L : Addr} {m : Str → Option Value} {s : Shared} {Q E : Value → Shared → Prop}
    {l : Addr} {n : Nat} {a b top : Int} {ta tb tt : Tok}
    (B : Below A₀ base outer h₀) (F : Fr h₀ L s.heap m) (X : (Mine.hd.heap_39 w.params).In h₀) (N : News h₀ L s.heap news) (T : Top p loose mean mg mb h₀) (hk : cs.kind = .function)
    (U : UpdF l (W.listOf #[.int a ta, .int b tb] n) news g) (ht0 : 0 < top) (ht1 : top ≤ 281474976710656) (hb0 : 0 ≤ b) (hb1 : b < 2147483647) (hd : dp + 10 < recursionLimit) (hu : un + 8 * 10 < cLine)
    (ret : ∀ a' b' ta' tb' r tr h' tk', 0 ≤ b' → b' < 2147483647 → 0 ≤ r → r < top → Fr h₀ L h' m → News h₀ L h' (g (W.listOf #[.int a' ta', .int b' tb'] n)) → Q (.int r tr) { s with heap := h', toks := tk' }) :
      wpAny (model PySem.Challenge.rw_xw0327_01.row.prog w) (ktrTop dp un gd cn cs L ad ccd cl outer) (call (.ref 185) [.ref l, .int top tt]) Q E s := by
  obtain ⟨pre, post, e1, e2, n1, n2⟩ := U.split
  refine use_ok (news := (l, W.listOf #[.int a ta, .int b tb] n) :: (pre ++ post)) (take_ok l n a b top ta tb tt (pre ++ post) ht0 ht1 hb0 hb1 (fun q hq => ?_)) B F X (fun q hq => N q ?_) T hk hd hu fun v news' h' tk' r F' N' => ?_
  · rcases List.mem_append.mp hq with hq | hq
    · exact n1 q hq
    · exact n2 q hq
  · rw [e1]
    rcases List.mem_cons.mp hq with rfl | hq
    · exact List.mem_append.mpr (.inr (.head _))
    · rcases List.mem_append.mp hq with hq | hq
      · exact List.mem_append.mpr (.inl hq)
      · exact List.mem_append.mpr (.inr (.tail _ hq))
  · obtain ⟨a', b', ta', tb', r, tr, rfl, h1, h2, rfl, h3, h4⟩ := r
    refine ret a' b' ta' tb' r tr h' tk' h1 h2 h3 h4 F' fun q hq => N' q ?_
    rw [e2] at hq
    rcases List.mem_append.mp hq with hq | hq
    · exact .tail _ (List.mem_append.mpr (.inl hq))
    · rcases List.mem_cons.mp hq with rfl | hq
      · exact .head _
      · exact .tail _ (List.mem_append.mpr (.inr hq))
local macro_rules | `(tactic| kba_size) => `(tactic| ((simp only [len16, len32, len48, lenS, List.length_append, List.length_cons, List.length_nil]); omega))

set_option maxHeartbeats 4000000 in
theorem pool_ok (sl : Addr) (ws : List Value) (ns : List Int) (t0 : Tok) (hI : IntsAre ws ns) :
  ∀ (w : World) (p : Program) (loose : List Str) (mean : ExcName → Option Value) (mg mb : Str → Option Value) (dp un : Nat) (gd : Option (List Code)) (cn : Str) (cs : Scope) (a : Addr) (ccd : Value) (cl : List (Str × Addr)) (outer : List Env) (A₀ : Around) (base h₀ : Heap) (L : Addr) (m : Str → Option Value) (s : Shared) (Q E : Value → Shared → Prop),
    Below A₀ base outer h₀ → Fr h₀ L s.heap m → (Mine.hd.heap_39 w.params).In h₀ → Top p loose mean mg mb h₀ → cs.kind = .function → dp + 10 < recursionLimit → un + 8 * 10 < cLine → ws.length ≤ 63 → s.heap.IsList sl ws.toArray →
    (∀ l a' b' ta' tb' n h' tk', 0 ≤ b' → b' < 2147483647 → s.heap.get? l = none → h'.get? l = some (W.listOf #[.int a' ta', .int b' tb'] n) → s.heap.StaysIn h' → Q (.ref l) { s with heap := h', toks := tk' }) →
      wpAny (model PySem.Challenge.rw_xw0327_01.row.prog w) (ktrTop dp un gd cn cs L a ccd cl outer) (call (.ref 178) [.ref sl, .int 0 t0]) Q E s := by
  k_with_none
  (k_with "my call builtin:len" => (k_here; (with_reducible rename Fr _ _ _ _ => F9); (with_reducible rename Array.size _ = _ => hz8); (refine PyProof.Rows.len_list (F9.lst (by assumption)) (by rw [hz8]; omega) ?_); rw [hz8]))
  (k_with "my subscriptTail" => (k_here; (with_reducible rename Fr _ _ _ _ => F9); (refine item_listL (F9.lst (by assumption)) (by decide) (by decide) (x := _) (by rfl) ?_)))
  (k_with "my binaryOp RShift int int" => (k_here; (with_reducible refine rshift_int ?q103kb1 ?_); (case q103kb1 => decide)))
  k_fill
  intro w p loose mean mg mb dp un gd cn cs a ccd cl outer A₀ base h₀ L m s Q E B F X T hk hd hu hz0 hl hret
  refine wpAny_call ?_
  k_dflt (refine' enterP ?k1 ?k2 ?k3 ?k5 ?kA ?kF ?kK ?k6 ?k7 ?k8 ?k9 ?kB ?_ ?c2 ?c3 ?c4 ?c5; (case kA => exact rfl); (case kF => exact rfl); (case kK => assumption); (case k1 => k_asm); (case k2 => k_asm); (case k3 => k_asm); (case k5 => k_asm); (case k6 => k_is); (case k7 => k_is); (case k8 => ktr_room); (case k9 => first | exact BindsTo.of_eq rfl | exact binds_K (by k_in) rfl (by k_is) rfl rfl rfl); (case c5 => decide); (case kB => exact locs rfl); (case c2 => exact rfl); (case c3 => exact rfl); (case c4 => exact rfl); k_whole)
  intro g' L' h' SG0 F' N' B' X' T'
  have SG' : s.heap.StaysIn g' := by rw [SG0]; exact fun _ _ e => e
  (try dsimp only)
  (try k_lift B')
  (try k_fold)
  have hl' : g'.IsList sl ws.toArray := by rw [← SG0]; exact hl
  have hz : ws.toArray.size = ns.length := by rw [List.size_toArray]; first | exact hI.length | exact hI.length.symm
  have hz9 : ns.length ≤ 63 := by rw [← hz, List.size_toArray]; exact hz0
  cases hI with
  | nil =>
    k_steps
    (with_reducible rename News _ _ _ _ => N9)
    (with_reducible rename Fr _ _ _ _ => F9)
    obtain ⟨h8, h9⟩ := new_not_old SG' N9 (List.Mem.head _)
    refine hret _ _ _ _ _ _ _ _ ?_ ?_ h8 h9 (fun b o e => F9.keep b o (SG' b o e))
    · exact Int.fmod_nonneg_of_pos _ (by decide)
    · exact Int.fmod_lt_of_pos _ (by decide)
  | cons i0 t1 rI =>
    rw [List.length_cons] at hz hz9
    k_steps
    (with_reducible rename News _ _ _ _ => N9)
    (with_reducible rename Fr _ _ _ _ => F9)
    obtain ⟨h8, h9⟩ := new_not_old SG' N9 (List.Mem.head _)
    refine hret _ _ _ _ _ _ _ _ ?_ ?_ h8 h9 (fun b o e => F9.keep b o (SG' b o e))
    · exact Int.fmod_nonneg_of_pos _ (by decide)
    · exact Int.fmod_lt_of_pos _ (by decide)
end Mine
end
section
namespace Mine
def DrawEl (g : Obj → Led) (q : Nat) (top : Int) (y : Value) (news' : Led) : Prop :=
  ∃ a b ta tb r tr, news' = g (W.listOf #[.int a ta, .int b tb] q) ∧ 0 ≤ b ∧ b < 2147483647 ∧ y = .int r tr ∧ 0 ≤ r ∧ r < top
theorem ints_snoc {y : Int} {t : Tok} : ∀ {vs : List Value} {ys : List Int}, IntsAre vs ys → IntsAre (vs ++ [.int y t]) (ys ++ [y])
  | _, _, .nil => .cons y t .nil
  | _, _, .cons z u r => .cons z u (ints_snoc r)
section
variable {prog : Program} {w : World} {A : Around} {h₀ : Heap} {L : Addr} {m : Str → Option Value} {env : Env} {elt : PySem.Expr} {x : Str} {scope : Scope} {cl : List (Str × Addr)} {s : Shared} {P : Nat → Value → Prop} {Fin : List Value → List (Addr × Obj) → Prop} {news : List (Addr × Obj)}
theorem draw_rest {n q : Nat} {sl : Addr} {a b : Int} {ta tb : Tok} {g : Obj → Led} (U : UpdF sl (W.listOf #[.int a ta, .int b tb] q) news g) (hb0 : 0 ≤ b) (hb1 : b < 2147483647)
    (turn : ∀ a b ta tb I oI C oC D m₂ ys h tk (E' : Value → Shared → Prop), 0 ≤ b → b < 2147483647 → LCg.NsObj oC m₂ → Fr h₀ L h m → News h₀ L h ((I, oI) :: (C, oC) :: (D, LCg.lst ys) :: g (W.listOf #[.int a ta, .int b tb] q)) → LCg.Off3 I C D (g (W.listOf #[.int a ta, .int b tb] q)) → ((@Ne Nat I C) ∧ (@Ne Nat I D) ∧ (@Ne Nat C D)) →
      wpAny (model prog w) A (eval elt (compEnvC scope cl C env)) (LCg.CompEnd h₀ L m { s with heap := h, toks := tk } I oI C oC D (LCg.lst ys) (fun _ => True) (fun y news' => DrawEl g q 256 y news')) E' { s with heap := h, toks := tk })
    (fin : ∀ ys rs a b ta tb, IntsAre ys rs → rs.length = n → KBa.In rs → 0 ≤ b → b < 2147483647 → Fin ys (g (W.listOf #[.int a ta, .int b tb] q))) :
    LCg.CompRest prog w A h₀ L m env elt x scope cl s (fun _ => True) P Fin n 0 [] news := by
  have e0 : news = g (W.listOf #[.int a ta, .int b tb] q) := by
    obtain ⟨pre, post, e1, e2, _, _⟩ := U.split
    rw [e1, e2]
  rw [e0]
  have key : ∀ (j i : Nat) (ys : List Value) (rs : List Int) (a b : Int) (ta tb : Tok), i + j = n → IntsAre ys rs → rs.length = i → KBa.In rs → 0 ≤ b → b < 2147483647 →
      LCg.CompRest prog w A h₀ L m env elt x scope cl s (fun _ => True) P Fin j i ys (g (W.listOf #[.int a ta, .int b tb] q)) := by
    intro j
    induction j with
    | zero =>
      intro i ys rs a b ta tb hi hy hl hin h0 h1
      exact LCg.CompRest.zero (fin ys rs a b ta tb hy (by omega) hin h0 h1)
    | succ j ih =>
      intro i ys rs a b ta tb hi hy hl hin h0 h1
      refine LCg.CompRest.succ ?_
      intro v I oI C oC D m₂ h tk E' hv hC hx F N off ne
      refine wpAny_mono (turn a b ta tb I oI C oC D m₂ ys h tk E' h0 h1 hC F N off ne) (fun y s₂ hq => ?_) fun _ _ e => e
      obtain ⟨h', tk', nw, e, F', N', off', hS, a', b', ta', tb', r, tr, hn, h0', h1', hy', r0, r1⟩ := hq
      subst hn
      subst hy'
      refine ⟨h', tk', _, e, F', N', off', trivial, ?_⟩
      refine ih (i + 1) _ (rs ++ [r]) a' b' ta' tb' (by omega) (ints_snoc hy) (by simp [hl]) (fun k hk => ?_) h0' h1'
      rcases List.mem_append.mp hk with hk | hk
      · exact hin k hk
      · rw [List.mem_singleton.mp hk]; exact ⟨r0, r1⟩
  exact key n 0 [] [] a b ta tb (by omega) .nil rfl (fun _ hk => nomatch hk) hb0 hb1
end
end Mine
end
section
namespace Mine
theorem body_len (T S K : Int) (ps : List Int) : (bodyI T S K ps).length = 14 + ps.length := by
  simp only [bodyI, be48, be32, be16, List.length_append, List.length_cons, List.length_nil]
theorem frame_len (T S K : Int) (ps : List Int) : (frameI T S K ps).length = 18 + ps.length := by
  simp only [frameI, sumL, List.length_append, body_len, List.length_cons, List.length_nil]
  omega
theorem frame_take (T S K : Int) (ps : List Int) : (frameI T S K ps).take ((frameI T S K ps).length - 4) = bodyI T S K ps := by
  have e : (frameI T S K ps).length - 4 = (bodyI T S K ps).length := by rw [frame_len, body_len]; omega
  rw [e, frameI]
  exact List.take_left' rfl
theorem frame_drop (T S K : Int) (ps : List Int) : (frameI T S K ps).drop ((frameI T S K ps).length - 4) = sumL (bodyI T S K ps) := by
  have e : (frameI T S K ps).length - 4 = (bodyI T S K ps).length := by rw [frame_len, body_len]; omega
  rw [e, frameI]
  exact List.drop_left' rfl
theorem frame_good (T S K : Int) (ps : List Int) : sumL ((frameI T S K ps).take ((frameI T S K ps).length - 4)) = (frameI T S K ps).drop ((frameI T S K ps).length - 4) := by
  rw [frame_take, frame_drop]
theorem body_T {T S K : Int} {ps : List Int} (h0 : 0 ≤ T) (h1 : T < 281474976710656) : gb48 (bodyI T S K ps) 0 = T := by
  show (T / 4294967296 / 256 % 256 * 256 + T / 4294967296 % 256) * 4294967296 + ((T / 65536 / 256 % 256 * 256 + T / 65536 % 256) * 65536 + (T / 256 % 256 * 256 + T % 256)) = T
  omega
theorem body_S {T S K : Int} {ps : List Int} (h0 : 0 ≤ S) (h1 : S < 281474976710656) : gb48 (bodyI T S K ps) 6 = S := by
  show (S / 4294967296 / 256 % 256 * 256 + S / 4294967296 % 256) * 4294967296 + ((S / 65536 / 256 % 256 * 256 + S / 65536 % 256) * 65536 + (S / 256 % 256 * 256 + S % 256)) = S
  omega
theorem body_K {T S K : Int} {ps : List Int} (h0 : 0 ≤ K) (h1 : K < 65536) : gb16 (bodyI T S K ps) 12 = K := by
  show K / 256 % 256 * 256 + K % 256 = K
  omega
theorem body_P (T S K : Int) (ps : List Int) : (bodyI T S K ps).drop 14 = ps := rfl
theorem be16_in (n : Int) : KBa.In (be16 n) := by
  intro k hk
  simp only [be16, List.mem_cons, List.not_mem_nil, or_false] at hk
  rcases hk with rfl | rfl <;> omega
theorem in_append {l r : List Int} (h1 : KBa.In l) (h2 : KBa.In r) : KBa.In (l ++ r) := fun k hk => (List.mem_append.mp hk).elim (h1 k) (h2 k)
theorem be48_in (n : Int) : KBa.In (be48 n) := in_append (be16_in _) (in_append (be16_in _) (be16_in _))
theorem body_in {T S K : Int} {ps : List Int} (h : KBa.In ps) : KBa.In (bodyI T S K ps) := in_append (in_append (in_append (be48_in _) (be48_in _)) (be16_in _)) h
theorem frame_in {T S K : Int} {ps : List Int} (h : KBa.In ps) : KBa.In (frameI T S K ps) := in_append (body_in h) (sumL_in (body_in h))
end Mine
end
section
namespace Mine
theorem in_take {ks : List Int} (n : Nat) (h : KBa.In ks) : KBa.In (ks.take n) := fun k hk => h k (List.mem_of_mem_take hk)
theorem in_drop {ks : List Int} (n : Nat) (h : KBa.In ks) : KBa.In (ks.drop n) := fun k hk => h k (List.mem_of_mem_drop hk)
theorem xor_cancel (a b : Nat) : a ^^^ (b ^^^ a) = b := by rw [Nat.xor_comm b a, ← Nat.xor_assoc, Nat.xor_self, Nat.zero_xor]
theorem valid_iter {fs : List Int} {n : Nat} (h : KBa.In fs) (hn : n ≤ fs.length) (hv : sumL (fs.take n) = fs.drop n) : iter shN (8 * n) (allOnes ^^^ leN fs) = allOnes := by
  have e : leN fs = leN (fs.take n) ^^^ 2 ^ (8 * n) * leN (fs.drop n) := by
    have l : (fs.take n).length = n := by rw [List.length_take]; omega
    have h1 := leN_append (fs.drop n) (in_take n h)
    have h2 := leN_lt (in_take n h)
    rw [List.take_append_drop, l] at h1
    rw [l] at h2
    rw [h1, add_xor _ _ _ h2]
  have l : (fs.take n).length = n := by rw [List.length_take]; omega
  rw [e, ← Nat.xor_assoc, iter_xor, iter_pow, ← hv, leN_sumL (in_take n h)]
  unfold crcN
  rw [l, ← Nat.xor_assoc, Nat.xor_self, Nat.zero_xor]
/-- the octets turned by the octets of M -/
def turnN : List Int → Nat → List Int
  | [], _ => []
  | k :: r, M => Builtin.bitXor k ((M % 256 : Nat) : Int) :: turnN r (M / 256)
theorem turnN_in : ∀ {ks : List Int} (M : Nat), KBa.In ks → KBa.In (turnN ks M) ∧ leN (turnN ks M) = leN ks ^^^ (M % 2 ^ (8 * ks.length))
  | [], M, _ => by
    refine And.intro (fun k hk => by cases hk) ?_
    show 0 = 0 ^^^ (M % 2 ^ (8 * 0))
    rw [Nat.mul_zero, Nat.pow_zero, Nat.mod_one, Nat.xor_self]
  | k :: r, M, h => by
    obtain ⟨i1, i2⟩ := turnN_in (ks := r) (M / 256) fun x hx => h x (List.mem_cons_of_mem _ hx)
    have hk := h k (List.mem_cons_self ..)
    have ek : (k : Int) = ((k.toNat : Nat) : Int) := (Int.toNat_of_nonneg hk.1).symm
    have hk2 : k.toNat < 2 ^ 8 := by omega
    have hm2 : M % 256 < 2 ^ 8 := Nat.mod_lt _ (by decide)
    have hx : k.toNat ^^^ M % 256 < 2 ^ 8 := Nat.xor_lt_two_pow hk2 hm2
    have ex : Builtin.bitXor k ((M % 256 : Nat) : Int) = ((k.toNat ^^^ M % 256 : Nat) : Int) := by
      conv => lhs; rw [ek]
      rw [bitXor_nat]
    refine ⟨?_, ?_⟩
    · intro x hx'
      rcases List.mem_cons.mp hx' with rfl | hx'
      · rw [ex]; omega
      · exact i1 x hx'
    · have e256 : 2 ^ (8 * (k :: r).length) = 256 * 2 ^ (8 * r.length) := by
        rw [List.length_cons, Nat.mul_add, Nat.pow_add, Nat.mul_comm]
      have em : M % 2 ^ (8 * (k :: r).length) = M % 256 + 256 * (M / 256 % 2 ^ (8 * r.length)) := by
        rw [e256, Nat.mod_mul]
      have a1 : ∀ x y : Nat, x < 2 ^ 8 → x + 256 * y = x ^^^ 256 * y := fun x y hx => add_xor x y 8 hx
      have a2 : ∀ x y : Nat, 256 * (x ^^^ y) = 256 * x ^^^ 256 * y := fun x y => by
        have h3 := @Nat.shiftLeft_xor_distrib 8 x y
        rw [Nat.shiftLeft_eq, Nat.shiftLeft_eq, Nat.shiftLeft_eq] at h3
        rw [Nat.mul_comm 256, Nat.mul_comm 256, Nat.mul_comm 256]
        exact h3
      show (Builtin.bitXor k ((M % 256 : Nat) : Int)).toNat + 256 * leN (turnN r (M / 256)) = _
      rw [ex, Int.toNat_natCast, i2, a1 _ _ hx, a2, em, a1 _ _ hm2]
      show _ = (k.toNat + 256 * leN r) ^^^ _
      rw [a1 _ _ hk2]
      ac_rfl
end Mine
end
section
namespace Mine
theorem turnN_map : ∀ (ks : List Int) (M : Nat), turnN ks M = (List.range ks.length).map fun i => Builtin.bitXor (ks.getD i 0) ((M / 256 ^ i % 256 : Nat) : Int)
  | [], _ => rfl
  | k :: r, M => by
    rw [turnN, turnN_map r, List.length_cons, List.range_succ_eq_map, List.map_cons, List.map_map]
    have h0 : Builtin.bitXor k ((M % 256 : Nat) : Int) = Builtin.bitXor ((k :: r).getD 0 0) ((M / 256 ^ 0 % 256 : Nat) : Int) := by
      rw [Nat.pow_zero, Nat.div_one]; rfl
    rw [h0]
    refine congrArg _ ?_
    apply List.map_congr_left
    intro i _
    show Builtin.bitXor (r.getD i 0) _ = Builtin.bitXor ((k :: r).getD (i + 1) 0) ((M / 256 ^ (i + 1) % 256 : Nat) : Int)
    rw [Nat.div_div_eq_div_mul, Nat.pow_succ, Nat.mul_comm (256 ^ i) 256]
    rfl
theorem turnI_N (ks : List Int) (m b : Nat) : turnI ks (m : Int) (b : Int) = turnN ks (m * 2 ^ b) := by
  rw [turnN_map]
  unfold turnI rangeKs
  rw [List.map_map]
  apply List.map_congr_left
  intro i _
  show Builtin.bitXor (ks.getD ((0 : Int) + (i : Int)).toNat 0) ((((m : Int) * 2 ^ ((b : Int)).toNat).fdiv (256 ^ ((0 : Int) + (i : Int)).toNat)).fmod 256) = _
  have e1 : ((0 : Int) + (i : Int)).toNat = i := by omega
  rw [e1, Int.toNat_natCast]
  congr 1
  have e2 : ((m : Int) * 2 ^ b) = ((m * 2 ^ b : Nat) : Int) := by simp
  have e3 : ((256 : Int) ^ i) = ((256 ^ i : Nat) : Int) := by simp
  rw [e2, e3, Int.fdiv_eq_ediv_of_nonneg _ (Int.natCast_nonneg _), Int.fmod_eq_emod_of_nonneg _ (by decide)]
  omega
/-- an error that the sum sees -/
theorem bad_of {T S K : Int} {ps fs : List Int} {E : Nat} (hp : KBa.In ps) (hl : fs.length = 18 + ps.length) (hf : KBa.In fs) (he : leN fs = leN (frameI T S K ps) ^^^ E) (h : iter shN (8 * (14 + ps.length)) E ≠ 0) :
    sumL (fs.take (fs.length - 4)) ≠ fs.drop (fs.length - 4) := by
  intro hv
  have l1 : fs.length - 4 = 14 + ps.length := by omega
  have l2 : (frameI T S K ps).length - 4 = 14 + ps.length := by rw [frame_len]; omega
  rw [l1] at hv
  have g := frame_good T S K ps
  rw [l2] at g
  have v1 := valid_iter hf (by omega) hv
  have v2 := valid_iter (frame_in (T := T) (S := S) (K := K) hp) (by rw [frame_len]; omega) g
  rw [he, ← Nat.xor_assoc, iter_xor, v2] at v1
  have v3 : allOnes ^^^ (allOnes ^^^ iter shN (8 * (14 + ps.length)) E) = 0 := by rw [v1, Nat.xor_self]
  rw [← Nat.xor_assoc, Nat.xor_self, Nat.zero_xor] at v3
  exact h v3
theorem burst_ne {m b n : Nat} (ho : m % 2 = 1) (hm : m < 2 ^ 32) (hb : b < 8 * n + 32) : iter shN (8 * n) (m * 2 ^ b % 2 ^ (8 * n + 32)) ≠ 0 := by
  have e : m * 2 ^ b % 2 ^ (8 * n + 32) = 2 ^ b * (m % 2 ^ (8 * n + 32 - b)) := by
    have e1 : 2 ^ (8 * n + 32) = 2 ^ b * 2 ^ (8 * n + 32 - b) := by rw [← Nat.pow_add]; congr 1; omega
    rw [e1, Nat.mul_comm m, Nat.mul_mod_mul_left]
  have o : m % 2 ^ (8 * n + 32 - b) ≠ 0 := by
    obtain ⟨k, hk⟩ : ∃ k, 8 * n + 32 - b = k + 1 := ⟨8 * n + 32 - b - 1, by omega⟩
    rw [hk]
    intro h0
    have h1 : m % 2 ^ (k + 1) % 2 = m % 2 := Nat.mod_mod_of_dvd _ ⟨2 ^ k, by rw [Nat.pow_succ, Nat.mul_comm]⟩
    rw [h0] at h1
    omega
  have lt : m % 2 ^ (8 * n + 32 - b) < 2 ^ 32 := Nat.lt_of_le_of_lt (Nat.mod_le _ _) hm
  rw [e]
  by_cases h : b ≤ 8 * n
  · have e2 : 8 * n = b + (8 * n - b) := by omega
    rw [e2, iter_add, iter_pow, ← e2]
    exact iter_ne _ lt o
  · have e2 : 2 ^ b * (m % 2 ^ (8 * n + 32 - b)) = 2 ^ (8 * n) * (2 ^ (b - 8 * n) * (m % 2 ^ (8 * n + 32 - b))) := by
      rw [← Nat.mul_assoc, ← Nat.pow_add]
      congr 2
      omega
    rw [e2, iter_pow]
    exact Nat.mul_ne_zero (Nat.ne_of_gt (Nat.two_pow_pos _)) o
end Mine
end
section
namespace Mine
def gs : Nat → Nat → List Nat
  | 0, _ => []
  | n + 1, x => x :: gs n (shN x)
def okL : List Nat → Bool
  | [] => true
  | x :: r => x != 2147483648 && (r.all fun y => x ^^^ y != 2147483648) && okL r
set_option maxRecDepth 100000 in
theorem ok240 : okL (gs 240 (shN 2147483648)) = true := by decide +kernel
theorem gs_mem : ∀ (n j x : Nat), j < n → iter shN j x ∈ gs n x
  | 0, _, _, h => absurd h (Nat.not_lt_zero _)
  | n + 1, 0, x, _ => List.mem_cons_self ..
  | n + 1, j + 1, x, h => List.mem_cons_of_mem _ (gs_mem n j (shN x) (by omega))
theorem ok_one : ∀ (n i x : Nat), okL (gs n x) = true → i < n → iter shN i x ≠ 2147483648
  | 0, _, _, _, h => absurd h (Nat.not_lt_zero _)
  | n + 1, 0, x, h, _ => by
    simp only [gs, okL, Bool.and_eq_true] at h
    exact bne_iff_ne.mp h.1.1
  | n + 1, i + 1, x, h, hi => by
    simp only [gs, okL, Bool.and_eq_true] at h
    exact ok_one n i (shN x) h.2 (by omega)
theorem ok_two : ∀ (n i j x : Nat), okL (gs n x) = true → i < j → j < n → iter shN i x ^^^ iter shN j x ≠ 2147483648
  | 0, _, _, _, _, _, h => absurd h (Nat.not_lt_zero _)
  | n + 1, 0, 0, x, h, hi, _ => absurd hi (Nat.lt_irrefl _)
  | n + 1, 0, j + 1, x, h, _, hj => by
    simp only [gs, okL, Bool.and_eq_true] at h
    exact bne_iff_ne.mp (List.all_eq_true.mp h.1.2 _ (gs_mem n j (shN x) (by omega)))
  | n + 1, i + 1, 0, x, h, hi, _ => absurd hi (Nat.not_lt_zero _)
  | n + 1, i + 1, j + 1, x, h, hi, hj => by
    simp only [gs, okL, Bool.and_eq_true] at h
    exact ok_two n i j (shN x) h.2 (by omega) (by omega)
/-- one bit, d steps above the top bit's end -/
def gT (d : Nat) : Nat := iter shN d 2147483648
theorem gT_lt (d : Nat) : gT d < 2 ^ 32 := iter_lt d (by decide)
theorem gT_one {d : Nat} (h0 : 0 < d) (h1 : d < 240) : gT d ≠ 2147483648 := by
  obtain ⟨k, rfl⟩ : ∃ k, d = k + 1 := ⟨d - 1, by omega⟩
  exact ok_one 240 k _ ok240 (by omega)
theorem gT_two {i j : Nat} (hi : 0 < i) (hij : i < j) (hj : j < 240) : gT i ^^^ gT j ≠ 2147483648 := by
  obtain ⟨k, rfl⟩ : ∃ k, i = k + 1 := ⟨i - 1, by omega⟩
  obtain ⟨l, rfl⟩ : ∃ l, j = l + 1 := ⟨j - 1, by omega⟩
  exact ok_two 240 k l _ ok240 (by omega) (by omega)
theorem gT_add (c d : Nat) : gT (c + d) = iter shN c (gT d) := by
  unfold gT
  rw [Nat.add_comm, iter_add]
/-- a bit of the frame, n steps on -/
theorem bit_gT {n p : Nat} (h : p < n + 32) : iter shN n (2 ^ p) = gT (n + 31 - p) := by
  unfold gT
  by_cases hp : p ≤ n
  · have e : n + 31 - p = 31 + (n - p) := by omega
    have e1 : iter shN 31 2147483648 = 1 := by
      have := iter_pow 31 1
      exact this
    have e2 : n = p + (n - p) := by omega
    rw [e, iter_add, e1]
    conv => lhs; rw [e2, iter_add]
    have := iter_pow p 1
    rw [Nat.mul_one] at this
    rw [this]
  · have e : 2 ^ p = 2 ^ n * 2 ^ (p - n) := by rw [← Nat.pow_add]; congr 1; omega
    rw [e, iter_pow]
    have e2 : 2147483648 = 2 ^ (n + 31 - p) * 2 ^ (p - n) := by
      rw [← Nat.pow_add, show n + 31 - p + (p - n) = 31 by omega]
    rw [e2, iter_pow]
theorem eq_of_xor {a b : Nat} (h : a ^^^ b = 0) : a = b := by
  have h2 : a ^^^ b ^^^ b = b := by rw [h, Nat.zero_xor]
  rw [Nat.xor_assoc, Nat.xor_self, Nat.xor_zero] at h2
  exact h2
theorem two_ne {a b : Nat} (h : a < b) (hb : b < 240) : gT a ^^^ gT b ≠ 0 := by
  have e : gT b = iter shN a (gT (b - a)) := by rw [← gT_add]; congr 1; omega
  have e1 : gT a = iter shN a 2147483648 := rfl
  rw [e, e1, ← iter_xor]
  refine iter_ne a (Nat.xor_lt_two_pow (by decide) (gT_lt _)) (fun z => ?_)
  exact gT_one (d := b - a) (by omega) (by omega) (eq_of_xor z).symm
theorem three_ne {a b c : Nat} (h : a < b) (h2 : b < c) (hc : c < 240) : gT a ^^^ (gT b ^^^ gT c) ≠ 0 := by
  have eb : gT b = iter shN a (gT (b - a)) := by rw [← gT_add]; congr 1; omega
  have ec : gT c = iter shN a (gT (c - a)) := by rw [← gT_add]; congr 1; omega
  have e1 : gT a = iter shN a 2147483648 := rfl
  rw [eb, ec, e1, ← iter_xor, ← iter_xor]
  refine iter_ne a (Nat.xor_lt_two_pow (by decide) (Nat.xor_lt_two_pow (gT_lt _) (gT_lt _))) (fun z => ?_)
  exact gT_two (i := b - a) (j := c - a) (by omega) (by omega) (by omega) (eq_of_xor z).symm
end Mine
end
section
namespace Mine
theorem turnI_length (ks : List Int) (m g : Int) : (turnI ks m g).length = ks.length := by simp [turnI, rangeKs]
theorem bitsI_length (ks : List Int) (a b c : Int) : (bitsI ks a b c).length = ks.length := by
  unfold bitsI
  split <;> split <;> simp only [turnI_length]
theorem turnI_le {ks : List Int} (h : KBa.In ks) (m b : Nat) : KBa.In (turnI ks (m : Int) (b : Int)) ∧ leN (turnI ks (m : Int) (b : Int)) = leN ks ^^^ (m * 2 ^ b % 2 ^ (8 * ks.length)) := by
  rw [turnI_N]
  exact turnN_in _ h
theorem bad_burst {T S K : Int} {ps : List Int} {x y begin : Int} (hp : KBa.In ps) (_hl : ps.length ≤ 12) (x0 : 0 ≤ x) (x1 : x < 65536) (y0 : 0 ≤ y) (y1 : y < 32768) (b0 : 0 ≤ begin) (b1 : begin < 8 * (18 + ps.length)) :
    sumL ((turnI (frameI T S K ps) (1 + 2 * (x * 32768 + y)) begin).take ((turnI (frameI T S K ps) (1 + 2 * (x * 32768 + y)) begin).length - 4)) ≠ (turnI (frameI T S K ps) (1 + 2 * (x * 32768 + y)) begin).drop ((turnI (frameI T S K ps) (1 + 2 * (x * 32768 + y)) begin).length - 4) := by
  obtain ⟨m, hm⟩ : ∃ m : Nat, 1 + 2 * (x * 32768 + y) = (m : Int) := ⟨(1 + 2 * (x * 32768 + y)).toNat, by omega⟩
  obtain ⟨b, rfl⟩ : ∃ b : Nat, begin = (b : Int) := ⟨begin.toNat, by omega⟩
  rw [hm]
  obtain ⟨i1, i2⟩ := turnI_le (frame_in (T := T) (S := S) (K := K) hp) m b
  refine bad_of hp (by rw [turnI_length, frame_len]) i1 i2 ?_
  rw [frame_len, show 8 * (18 + ps.length) = 8 * (14 + ps.length) + 32 by omega]
  exact burst_ne (by omega) (by omega) (by omega)
theorem bad_first {T S K : Int} {ps : List Int} {begin : Int} (hp : KBa.In ps) (hl : ps.length ≤ 12) (b0 : 0 ≤ begin) (b1 : begin < 8 * (18 + ps.length)) :
    sumL ((turnI (frameI T S K ps) 1 begin).take ((turnI (frameI T S K ps) 1 begin).length - 4)) ≠ (turnI (frameI T S K ps) 1 begin).drop ((turnI (frameI T S K ps) 1 begin).length - 4) :=
  bad_burst (x := 0) (y := 0) hp hl (by decide) (by decide) (by decide) (by decide) b0 b1
theorem bit_turn {ks : List Int} (h : KBa.In ks) {p : Nat} (hp : p < 8 * ks.length) : KBa.In (turnI ks 1 (p : Int)) ∧ leN (turnI ks 1 (p : Int)) = leN ks ^^^ 2 ^ p := by
  have h1 := turnI_le h 1 p
  rw [Nat.one_mul, Nat.mod_eq_of_lt (Nat.pow_lt_pow_right (by decide) hp)] at h1
  exact h1
theorem gT_sym2 {a b : Nat} (h : a ≠ b) (ha : a < 240) (hb : b < 240) : gT a ^^^ gT b ≠ 0 := by
  rcases Nat.lt_or_gt_of_ne h with h | h
  · exact two_ne h hb
  · rw [Nat.xor_comm]; exact two_ne h ha
theorem gT_sym3 {a b c : Nat} (h : a ≠ b) (h2 : a ≠ c) (h3 : b ≠ c) (ha : a < 240) (hb : b < 240) (hc : c < 240) : gT a ^^^ gT b ^^^ gT c ≠ 0 := by
  rw [Nat.xor_assoc]
  have key : ∀ x y z : Nat, x < y → y < z → z < 240 → gT x ^^^ (gT y ^^^ gT z) ≠ 0 := fun x y z => three_ne
  rcases Nat.lt_or_gt_of_ne h with h | h <;> rcases Nat.lt_or_gt_of_ne h2 with h2 | h2 <;> rcases Nat.lt_or_gt_of_ne h3 with h3 | h3
  · exact key a b c h h3 hc
  · exact fun z => key a c b h2 h3 hb (Eq.trans (by ac_rfl) z)
  · omega
  · exact fun z => key c a b h2 h hb (Eq.trans (by ac_rfl) z)
  · exact fun z => key b a c h h2 hc (Eq.trans (by ac_rfl) z)
  · omega
  · exact fun z => key b c a h3 h2 ha (Eq.trans (by ac_rfl) z)
  · exact fun z => key c b a h3 h ha (Eq.trans (by ac_rfl) z)
theorem bits_err {T S K : Int} {ps : List Int} {p q r : Nat} (hp : KBa.In ps) (hl : ps.length ≤ 12) (p1 : p < 8 * (18 + ps.length)) (q1 : q < 8 * (18 + ps.length)) (r1 : r < 8 * (18 + ps.length)) :
    ∃ E, KBa.In (bitsI (frameI T S K ps) p q r) ∧ leN (bitsI (frameI T S K ps) p q r) = leN (frameI T S K ps) ^^^ E ∧ iter shN (8 * (14 + ps.length)) E ≠ 0 := by
  have hi := frame_in (T := T) (S := S) (K := K) hp
  have hlen := frame_len T S K ps
  have bp := bit_gT (n := 8 * (14 + ps.length)) (p := p) (by omega)
  have bq := bit_gT (n := 8 * (14 + ps.length)) (p := q) (by omega)
  have br := bit_gT (n := 8 * (14 + ps.length)) (p := r) (by omega)
  have dq : ([(p : Int)].any fun x => x == (q : Int)) = decide (p = q) := by
    rw [Bool.eq_iff_iff]; simp; omega
  have dr : ([(p : Int), (q : Int)].any fun x => x == (r : Int)) = decide (p = r ∨ q = r) := by
    rw [Bool.eq_iff_iff]; simp; omega
  obtain ⟨a1, a2⟩ := bit_turn hi (p := p) (by rw [hlen]; exact p1)
  have gne : ∀ d, gT d ≠ 0 := fun d => iter_ne d (by decide) (by decide)
  unfold bitsI
  rw [dq, dr]
  by_cases h1 : p = q
  · rw [decide_eq_true h1]
    by_cases h2 : p = r ∨ q = r
    · rw [decide_eq_true h2]
      exact ⟨2 ^ p, a1, a2, by rw [bp]; exact gne _⟩
    · rw [decide_eq_false h2]
      obtain ⟨c1, c2⟩ := bit_turn a1 (p := r) (by rw [turnI_length, hlen]; exact r1)
      refine ⟨2 ^ p ^^^ 2 ^ r, c1, ?_, ?_⟩
      · show leN (turnI (turnI (frameI T S K ps) 1 p) 1 r) = _
        rw [c2, a2, Nat.xor_assoc]
      · rw [iter_xor, bp, br]
        exact gT_sym2 (by omega) (by omega) (by omega)
  · rw [decide_eq_false h1]
    obtain ⟨b1, b2⟩ := bit_turn a1 (p := q) (by rw [turnI_length, hlen]; exact q1)
    by_cases h2 : p = r ∨ q = r
    · rw [decide_eq_true h2]
      refine ⟨2 ^ p ^^^ 2 ^ q, b1, ?_, ?_⟩
      · show leN (turnI (turnI (frameI T S K ps) 1 p) 1 q) = _
        rw [b2, a2, Nat.xor_assoc]
      · rw [iter_xor, bp, bq]
        exact gT_sym2 (by omega) (by omega) (by omega)
    · rw [decide_eq_false h2]
      obtain ⟨c1, c2⟩ := bit_turn b1 (p := r) (by rw [turnI_length, turnI_length, hlen]; exact r1)
      refine ⟨2 ^ p ^^^ 2 ^ q ^^^ 2 ^ r, c1, ?_, ?_⟩
      · show leN (turnI (turnI (turnI (frameI T S K ps) 1 p) 1 q) 1 r) = _
        rw [c2, b2, a2, Nat.xor_assoc, Nat.xor_assoc, Nat.xor_assoc]
      · rw [iter_xor, iter_xor, bp, bq, br]
        exact gT_sym3 (by omega) (by omega) (by omega) (by omega) (by omega) (by omega)
theorem bad_bits {T S K : Int} {ps : List Int} {p q r : Int} (hp : KBa.In ps) (hl : ps.length ≤ 12) (p0 : 0 ≤ p) (p1 : p < 8 * (18 + ps.length)) (q0 : 0 ≤ q) (q1 : q < 8 * (18 + ps.length)) (r0 : 0 ≤ r) (r1 : r < 8 * (18 + ps.length)) :
    sumL ((bitsI (frameI T S K ps) p q r).take ((bitsI (frameI T S K ps) p q r).length - 4)) ≠ (bitsI (frameI T S K ps) p q r).drop ((bitsI (frameI T S K ps) p q r).length - 4) := by
  obtain ⟨a, rfl⟩ : ∃ a : Nat, p = (a : Int) := ⟨p.toNat, by omega⟩
  obtain ⟨b, rfl⟩ : ∃ b : Nat, q = (b : Int) := ⟨q.toNat, by omega⟩
  obtain ⟨c, rfl⟩ : ∃ c : Nat, r = (c : Int) := ⟨r.toNat, by omega⟩
  obtain ⟨E, h1, h2, h3⟩ := bits_err (T := T) (S := S) (K := K) (p := a) (q := b) (r := c) hp hl (by omega) (by omega) (by omega)
  exact bad_of hp (by rw [bitsI_length, frame_len]) h1 h2 h3
end Mine
end
section
namespace Mine
theorem read_frame (b : Array UInt8) (tb : Tok) (T S K : Int) (ps : List Int) (hb : KBw.bInts b = frameI T S K ps) (hp : KBa.In ps) (hl : ps.length ≤ 12) (hT0 : 0 ≤ T) (hT1 : T < 281474976710656) (hS0 : 0 ≤ S) (hS1 : S < 281474976710656) (hK0 : 0 ≤ K) (hK1 : K < 65536) :
    OkP 25 192 [.bytes b tb] (fun old v h' => ∃ l n tT tS tK tb', v = .ref l ∧ old.get? l = none ∧ h'.get? l = some { cls := .type "tuple", data := .seq #[.int T tT, .int S tS, .int K tK, .bytes (byteArr ps) tb'] n }) := by
  unfold OkP
  intro w p loose mean mg mb dp un gd cn cs a ccd cl outer A₀ base h₀ L m s Q E B F X T' hk hd hu hret
  refine read_good b tb _ hb (by rw [frame_len]; omega) (by rw [frame_len]; omega) (by with_reducible exact frame_good T S K ps) w p loose mean mg mb dp un gd cn cs a ccd cl outer A₀ base h₀ L m s Q E B F X T' hk hd hu ?_
  intro v h' tk' R st
  refine hret v h' tk' ?_ st
  obtain ⟨l, n, tT, tS, tK, b', tb', e1, e2, e3, e4⟩ := R
  rw [frame_take, body_P] at e4
  have e5 : b' = byteArr ps := bInts_inj (e4.trans (KBa.ints_make hp).symm)
  rw [frame_take, body_T hT0 hT1, body_S hS0 hS1, body_K hK0 hK1, e5] at e3
  exact ⟨l, n, tT, tS, tK, tb', e1, e2, e3⟩
end Mine
end
section
namespace Mine
section
variable {prog : Program} {w : World} {A : Around} {E : Value → Shared → Prop} {s : Shared} {env : Env} {h₀ : Heap} {x : Str} {body : List Stmt} {Q : Flow → Shared → Prop}
/-- what a turn of the law's loops leaves: the source, drawn from; the names but two as they were -/
def DrawnJ (sl : Addr) (q : Nat) (c : Addr) (o : Obj) (x y : Str) (m₀ m' : Str → Option Value) (nx : Led) : Prop :=
  ∃ a b ta tb, nx = [(sl, W.listOf #[.int a ta, .int b tb] q), (c, o)] ∧ 0 ≤ b ∧ b < 2147483647 ∧ ∀ z, z ≠ x → z ≠ y → m' z = m₀ z
theorem iter_draws {r sl L c : Addr} {o : Obj} {a₀ b₀ : Int} {t₀ u₀ v₀ : Tok} {n q : Nat} {m₀ : Str → Option Value} {a b : Int} {ta tb : Tok} (y : Str)
    (hL : env.locals = L) (hh : A.handled = none) (hr : IsRange s.heap r a₀ b₀ 1 t₀ u₀ v₀) (hsmall : Builtin.Range.small a₀ b₀ 1 = true) (hn : Builtin.Range.rangeSize a₀ b₀ 1 = (n : Int)) (F : Fr h₀ L s.heap m₀) (N : News h₀ L s.heap [(sl, W.listOf #[.int a ta, .int b tb] q), (c, o)]) (hb0 : 0 ≤ b) (hb1 : b < 2147483647)
    (turn : ∀ k t (u : Str → Option Value) a b ta tb h tk own, 0 ≤ b → b < 2147483647 → (∀ p ∈ own, p.1 ≠ sl) → Fr h₀ L h (fun z => if z = x then some (.int k t) else if z = y then u z else m₀ z) → News h₀ L h ((sl, W.listOf #[.int a ta, .int b tb] q) :: (c, o) :: own) →
      wpAny (model prog w) A (execs body env) (InvPostN h₀ L (DrawnJ sl q c o x y m₀) own [sl, c] { s with heap := h, toks := tk } Q) E { s with heap := h, toks := tk })
    (done : ∀ (u v : Str → Option Value) a b ta tb h tk, 0 ≤ b → b < 2147483647 → Fr h₀ L h (fun z => if z = x then u z else if z = y then v z else m₀ z) → News h₀ L h [(sl, W.listOf #[.int a ta, .int b tb] q), (c, o)] → Q .next { s with heap := h, toks := tk }) :
    wpAny (model prog w) A (pyIter (.ref r)) (fun it s₂ => LoopAtV prog w A h₀ env x body Q E it s₂) E s := by
  subst hL
  refine iter_rangeS (σ := Unit) (fun _ m nx => DrawnJ sl q c o x y m₀ m nx) (fun _ _ => ()) () hh hr hsmall hn F N ⟨a, b, ta, tb, rfl, hb0, hb1, fun _ _ _ => rfl⟩ ?_ ?_
  · rintro k t _ m₁ nx h tk own _ hsep ⟨a, b, ta, tb, rfl, b0, b1, hm⟩ F₁ N₁
    have e : (fun z => if z = x then some (Value.int k t) else m₁ z) = fun z => if z = x then some (Value.int k t) else if z = y then m₁ z else m₀ z := by
      funext z
      by_cases h1 : z = x
      · simp only [if_pos h1]
      · by_cases h2 : z = y
        · simp only [if_neg h1, if_pos h2]
        · simp only [if_neg h1, if_neg h2]; exact hm z h1 h2
    rw [e] at F₁
    exact turn k t m₁ a b ta tb h tk own b0 b1 (fun p hp => hsep p hp sl (List.mem_cons_self ..)) F₁ N₁
  · rintro m₁ nx h tk ⟨a, b, ta, tb, rfl, b0, b1, hm⟩ F₁ N₁
    have e : m₁ = fun z => if z = x then m₁ z else if z = y then m₁ z else m₀ z := by
      funext z
      by_cases h1 : z = x
      · simp only [if_pos h1]
      · by_cases h2 : z = y
        · simp only [if_neg h1, if_pos h2]
        · simp only [if_neg h1, if_neg h2]; exact hm z h1 h2
    rw [e] at F₁
    exact done m₁ m₁ a b ta tb h tk b0 b1 F₁ N₁
theorem draws_end {L sl c : Addr} {o : Obj} {q : Nat} {x y : Str} {m₀ m' : Str → Option Value} {own news' : Led} {s₁ : Shared} {h' : Heap} {tk : Nat} {a b : Int} {ta tb : Tok} (F : Fr h₀ L h' m') (N : News h₀ L h' news') (hi : (sl, W.listOf #[.int a ta, .int b tb] q) ∈ news') (hi' : (c, o) ∈ news') (ho : ∀ p ∈ own, p ∈ news') (hb0 : 0 ≤ b) (hb1 : b < 2147483647) (same : ∀ z, z ≠ x → z ≠ y → m' z = m₀ z) :
    InvEndN h₀ L (DrawnJ sl q c o x y m₀) own [sl, c] s₁ { s₁ with heap := h', toks := tk } :=
  InvEndN.intro F N ⟨a, b, ta, tb, rfl, hb0, hb1, same⟩ rfl (fun p hp => by
    rcases List.mem_cons.mp hp with rfl | hp
    · exact hi
    · rw [List.mem_singleton.mp hp]; exact hi') ho
theorem pick2 {L : Addr} {news : Led} {h : Heap} {p q : Addr × Obj} (N : News h₀ L h news) (hp : p ∈ news) (hq : q ∈ news) : News h₀ L h [p, q] := fun r hr => by
  rcases List.mem_cons.mp hr with rfl | hr
  · exact N _ hp
  · rw [List.mem_singleton.mp hr]; exact N _ hq
end
end Mine
end
section
namespace Mine
section
open PySem.SeqAt
variable {prog : Program} {w : World} {A : Around} {E : Value → Shared → Prop} {s : Shared} {Q : Value → Shared → Prop}
theorem bytesAt (b : Array UInt8) (t u : Tok) : EqAt A s (.bytes b t) (.bytes b u) true := fun prog w E Q h => by
  unfold eqBool
  refine wpAny_holding ?_
  refine wpAny_ite_split (fun hab => ?_) (fun _ => ?_)
  · exact wpAny_bind (wpAny_rule (wpAny_pure h))
  · refine wpAny_bind (richCompare_gives (op := .Eq) (typeIs_bytes s b t) (typeIs_bytes s b u) FB.slot_bytes_eq FB.entry_bytes_eq (FB.args_bytes_eq_2 _ _) (gives_bytes_eq b b t u) (fun x => nomatch x) (wpAny_truthy_bool ?_))
    rw [beq_self_eq_true]; exact h
theorem ne_frames {l l' : Addr} {T S K : Int} {p : Array UInt8} {t1 t2 t3 t4 u1 u2 u3 u4 : Tok} (hl : s.heap.IsTuple l #[.int T t1, .int S t2, .int K t3, .bytes p t4]) (hl' : s.heap.IsTuple l' #[.int T u1, .int S u2, .int K u3, .bytes p u4]) (hu : A.units < cLine) (h : Q (.bool false) s) :
    wpAny (model prog w) A (compareOp .NotEq (.ref l) (.ref l')) Q E s := by
  refine RcNeAt.tuples (e := fun _ => true) hl hl' hu (fun j j1 j2 => ?_) prog w E Q h
  match j, j1, j2 with
  | 0, _, _ => have := EqAt.int_int (A := A.in1) (s := s) T t1 T u1; rw [beq_self_eq_true] at this; exact this
  | 1, _, _ => have := EqAt.int_int (A := A.in1) (s := s) S t2 S u2; rw [beq_self_eq_true] at this; exact this
  | 2, _, _ => have := EqAt.int_int (A := A.in1) (s := s) K t3 K u3; rw [beq_self_eq_true] at this; exact this
  | 3, _, _ => exact bytesAt p t4 u4
  | j + 4, h1, _ => exact absurd h1 (by simp)
end
theorem in_frame {r T S K : Int} {ps : List Int} (h : r < 8 * ((frameI T S K ps).length : Int)) : r < 8 * (18 + (ps.length : Int)) := by
  rw [frame_len] at h; omega
theorem place_lt {r T S K : Int} {ps : List Int} (h : r < 8 * ((frameI T S K ps).length : Int)) (hl : ps.length ≤ 12) : r < 240 := by
  rw [frame_len] at h; omega
end Mine
end
section
namespace Mine
theorem ab_ints : KBw.bInts #[97, 98] = [97, 98] := rfl
theorem len_ab : ([97, 98] : List Int).length ≤ 12 := by decide
theorem in_ab : KBa.In [97, 98] := by
  intro k hk
  simp only [List.mem_cons, List.not_mem_nil, or_false] at hk
  rcases hk with rfl | rfl <;> decide
theorem ne_new {h : Heap} {p l : Addr} {o : Obj} (h1 : h.get? p = some o) (h2 : h.get? l = none) : @Ne Nat p l := fun e => by
  have e' : p = l := e
  rw [e', h2] at h1; cases h1
local macro_rules | `(tactic| kba_size) => `(tactic| ((try simp only [frame_len, turnI_length, bitsI_length, List.length_append, List.length_cons, List.length_nil]) <;> omega))
def Stop (P : Prop) : Prop := P
theorem stopHere {P : Prop} (h : Stop P) : P := h
local macro_rules | `(tactic| k_all) => `(tactic| with_reducible assumption)
set_option maxHeartbeats 16000000 in
theorem law_holds : PySem.Challenge.rw_xw0327_01.Holds := Mine.hd (by
  k_with_none
  (k_with "octs" => first | (with_reducible assumption) | exact in_ab)
  (k_with "sides" => first | (with_reducible assumption) | exact in_frame (by with_reducible assumption) | ((try simp only [frame_len, turnI_length, bitsI_length, List.length_append, List.length_cons, List.length_nil]) <;> omega))
  (k_with "tops" => first | (with_reducible assumption) | ((try simp only [frame_len, turnI_length, bitsI_length, List.length_append, List.length_cons, List.length_nil]) <;> omega) | decide)
  (k_with "place0" => k_extra "sides")
  (k_with "place1" => first | exact place_lt (by with_reducible assumption) (by omega) | k_extra "sides")
  (k_with "my CompEnd" => ((with_reducible rename Fr _ _ _ _ => F7); (with_reducible rename News _ _ _ _ => N7); (refine LCg.CompEnd.intro F7 N7 _ (fun p hp => hp) (by assumption) trivial ?_)))
  (k_with "my DrawEl" => exact ⟨_, _, _, _, _, _, rfl, by assumption, by assumption, rfl, by assumption, by assumption⟩)
  (k_with "my CompSrc" => (k_here; refine stopHere ?_))
  (k_with "my binaryOp RShift int int" => (k_here; (with_reducible refine rshift_int ?q112kb1 ?_); (case q112kb1 => decide)))
  (k_with "my call ref" => (k_here; (with_reducible show wpAny _ _ (call (Value.ref 197) [Value.bytes _ _, Value.int _ _, Value.int _ _]) _ _ _); k_dflt (refine' use_okP (turned_ok _ _ _ _ _ _ _ ?q113hb ?q113hl ?q113m0 ?q113m1 ?q113g0 ?q113g1) ?q113k1 ?q113k2 ?q113k3 ?q113k4 ?q113k5 ?q113kK ?q113kd ?q113ku ?_; (case q113k1 => k_asm); (case q113k2 => k_asm); (case q113k3 => k_asm); (case q113k4 => k_asm); (case q113k5 => k_asm); (case q113kK => first | exact rfl | assumption); (case q113kd => ktr_room); (case q113ku => ktr_units); (case q113hb => kba_ints); (case q113hl => kba_size); (case q113m0 => first | assumption | decide | omega); (case q113m1 => first | assumption | decide | omega); (case q113g0 => k_extra "place0"); (case q113g1 => k_extra "place1")); intro v9 h9 tk9 R9 F9 N9 S9; clear S9; (obtain ⟨b9, t9, e8, hb9⟩ := R9); subst e8; (try dsimp only); (try k_fold)))
  (k_with "my call ref" => (k_here; (with_reducible show wpAny _ _ (call (Value.ref 164) [Value.ref _]) _ _ _); k_dflt (refine' use_pack ?q114k1 ?q114k2 ?q114k3 ?q114k4 ?q114k5 ?q114kK ?q114kx ?q114kdx ?q114hb ?q114hl ?q114kd ?q114ku ?_; (case q114k1 => k_asm); (case q114k2 => k_asm); (case q114k3 => k_asm); (case q114k4 => k_asm); (case q114k5 => k_asm); (case q114kK => first | exact rfl | assumption); (case q114kx => k_mem); (case q114kdx => k_mem); (case q114hb => first | exact ab_ints | kba_ints); (case q114hl => first | exact len_ab | kba_size); (case q114kd => first | ktr_room | decide); (case q114ku => first | ktr_units | decide)); intro b9 t9 h9 tk9 hb9 F9 N9; (try dsimp only); (try k_fold)))
  (k_with "my call ref" => (k_here; (with_reducible show wpAny _ _ (call (Value.ref 192) [Value.bytes _ _]) _ _ _); k_dflt (refine' read_bad _ _ _ _ ?q115hb ?q115hl0 ?q115hl1 ?q115hbad _ _ _ _ _ _ _ _ _ _ _ _ _ _ _ _ _ _ _ _ _ _ ?q115k1 ?q115k2 ?q115k3 ?q115k4 ?q115k5 ?q115kK ?q115kd ?q115ku ?_; (case q115k1 => k_asm); (case q115k2 => k_asm); (case q115k3 => k_asm); (case q115k4 => k_asm); (case q115k5 => k_asm); (case q115kK => first | exact rfl | assumption); (case q115hb => kba_ints); (case q115hl0 => kba_size); (case q115hl1 => kba_size); (case q115hbad => first | ((with_reducible refine bad_first ?_ ?_ ?_ ?_) <;> first | k_extra "octs" | k_extra "sides") | ((with_reducible refine bad_burst ?_ ?_ ?_ ?_ ?_ ?_ ?_ ?_) <;> first | k_extra "octs" | k_extra "sides") | ((with_reducible refine bad_bits ?_ ?_ ?_ ?_ ?_ ?_ ?_ ?_) <;> first | k_extra "octs" | k_extra "sides")); (case q115kd => first | ktr_room | decide); (case q115ku => first | ktr_units | decide)); intro h9 tk9 F9 N9; (try dsimp only); (try k_fold)))
  (k_with "my call ref" => (k_here; (with_reducible show wpAny _ _ (call (Value.ref 192) [Value.bytes _ _]) _ _ _); k_dflt (refine' use_okP (read_frame _ _ _ _ _ _ ?q116hb ?q116hp ?q116hl ?q116T0 ?q116T1 ?q116S0 ?q116S1 ?q116K0 ?q116K1) ?q116k1 ?q116k2 ?q116k3 ?q116k4 ?q116k5 ?q116kK ?q116kd ?q116ku ?_; (case q116k1 => k_asm); (case q116k2 => k_asm); (case q116k3 => k_asm); (case q116k4 => k_asm); (case q116k5 => k_asm); (case q116kK => first | exact rfl | assumption); (case q116hb => with_reducible assumption); (case q116hp => k_extra "octs"); (case q116hl => omega); (case q116T0 => assumption); (case q116T1 => assumption); (case q116S0 => assumption); (case q116S1 => assumption); (case q116K0 => assumption); (case q116K1 => assumption); (case q116kd => first | ktr_room | decide); (case q116ku => first | ktr_units | decide)); intro v9 h9 tk9 R9 F9 N9 S9; (obtain ⟨l9, n9, tT9, tS9, tK9, tb8, e8, new9, at9⟩ := R9); subst e8; (have N8 := news_new (by k_asm) N9 new9 at9); clear S9 N9; (try dsimp only); (try k_fold)))
  (k_with "my call ref" => (k_here; (with_reducible show wpAny _ _ (call (Value.ref 185) [Value.ref _, Value.int _ _]) _ _ _); k_dflt (refine' use_take ?q117k1 ?q117k2 ?q117k3 ?q117k4 ?q117k5 ?q117kK ?q117kU ?q117t0 ?q117t1 ?q117b0 ?q117b1 ?q117kd ?q117ku ?_; (case q117k1 => k_asm); (case q117k2 => k_asm); (case q117k3 => k_asm); (case q117k4 => k_asm); (case q117k5 => k_asm); (case q117kK => first | exact rfl | assumption); (case q117kU => k_updF); (case q117t0 => k_extra "tops"); (case q117t1 => k_extra "tops"); (case q117b0 => assumption); (case q117b1 => assumption); (case q117kd => first | ktr_room | decide); (case q117ku => first | ktr_units | decide)); intro a9 b9 ta9 tb9 r9 tr9 h9 tk9 b09 b19 r09 r19 F9 N9; (try dsimp only at N9); (try dsimp only); (try k_fold)))
  (k_with "my call ref" => (k_here; (with_reducible show wpAny _ _ (call (Value.ref 178) _) _ _ _); refine stopHere ?_))
  (k_with "my compareOp NotEq ref ref" => (k_here; (with_reducible show wpAny _ _ (compareOp CmpOp.NotEq (Value.ref _) (Value.ref _)) _ _ _); k_dflt (refine' ne_frames ?q119a ?q119b ?q119u ?_; (case q119a => exact ⟨_, News.get (by k_asm) (by k_mem), rfl, _, rfl⟩); (case q119b => exact ⟨_, News.get (by k_asm) (by k_mem), rfl, _, rfl⟩); (case q119u => ke_room))))
  (k_with "my pyIter ref" => (k_here; (with_reducible show wpAny _ _ (pyIter (Value.ref _)) (fun it s₂ => LoopAtV _ _ _ _ _ _ _ _ _ it s₂) _ _); refine stopHere ?_))
  (k_with "my InvEndN" => ((with_reducible rename Fr _ _ _ _ => F7); (with_reducible rename News _ _ _ _ => N7); (refine' draws_end F7 N7 ?q121i ?q121j ?q121o ?q121b0 ?q121b1 ?q121sm; (case q121i => k_mem); (case q121j => k_mem); (case q121o => (intro p hp; k_ownIn)); (case q121b0 => assumption); (case q121b1 => assumption); (case q121sm => k_same2))))
  (k_with "my call ref" => (k_here; (with_reducible show wpAny _ _ (call (Value.ref 204) [Value.bytes _ _, Value.ref _]) _ _ _); k_dflt (refine' use_ok (bitsturn_ok _ _ _ _ _ _ _ _ _ _ _ _ ?q122hb ?q122hl ?q122g0 ?q122g1 ?q122g2 ?q122g3 ?q122g4 ?q122g5) ?q122k1 ?q122k2 ?q122k3 ?q122k4 ?q122k5 ?q122kK ?q122kd ?q122ku ?_; (case q122k1 => k_asm); (case q122k2 => k_asm); (case q122k3 => k_asm); (case q122k4 => k_asm); (case q122k5 => k_asm); (case q122kK => first | exact rfl | assumption); (case q122hb => with_reducible assumption); (case q122hl => kba_size); (case q122g0 => assumption); (case q122g1 => k_extra "place1"); (case q122g2 => assumption); (case q122g3 => k_extra "place1"); (case q122g4 => assumption); (case q122g5 => k_extra "place1"); (case q122kd => first | ktr_room | decide); (case q122ku => first | ktr_units | decide)); intro v9 n9 h9 tk9 R9 F9 N9; (obtain ⟨e9, b9, t9, e8, hb9⟩ := R9); subst e9; subst e8; (try dsimp only); (try k_fold)))
  k_go0
  (all_goals try k_fold)
  k_steps
  unfold Stop
  (with_reducible rename Fr _ _ _ _ => F5)
  (with_reducible rename News _ _ _ _ => N5)
  (with_reducible rename IntsAre _ _ => I5)
  have len5 := I5.length
  refine' pool_ok _ _ _ _ I5 _ _ _ _ _ _ _ _ _ _ _ _ _ _ _ _ _ _ _ _ _ _ _ ?k1 ?k2 ?k3 ?k4 ?kK ?kd ?ku ?kz ?kl ?_
  case k1 => k_asm
  case k2 => k_asm
  case k3 => k_asm
  case k4 => k_asm
  case kK => exact rfl
  case kd => first | ktr_room | decide
  case ku => first | ktr_units | decide
  case kz => omega
  case kl => exact F5.lst (by assumption)
  intro sl a5 b5 ta5 tb5 n5 h5 tk5 b50 b51 new5 at5 st5
  have l5 := ne_new (N5 _ (List.Mem.tail _ (List.Mem.tail _ (List.Mem.head _)))).1 new5
  have N6 := news_new F5 ((fun q hq => N5.grown st5 q (List.Mem.tail _ (List.Mem.tail _ hq)) : News _ _ h5 [_])) new5 at5
  have F6 := F5.keptAll st5
  clear N5 F5 new5 at5 st5
  k_steps
  unfold Stop
  refine' LCg.CompSrc.range ?z1 ?z2 ?z3 ?z4 ?z5 ?z6 ?z7 ?_
  case z1 => rfl
  case z2 => k_asm
  case z3 => k_asm
  case z4 => assumption
  case z5 => exact small_one (by kcf_bnd) (by kcf_bnd) (by kcf_bnd) (by kcf_bnd)
  case z6 => exact rangeSize_nat _ _
  case z7 => rw [PySem.sizeLine_eq]; omega
  intro g'
  refine' draw_rest (sl := sl) ?kU ?kb0 ?kb1 (fun a9 b9 ta9 tb9 I9 oI9 C9 oC9 D9 m9 ys9 h9 tk9 E9 b09 b19 hC9 F9 N9 off9 ne9 => ?_) (fun ys9 rs9 a9 b9 ta9 tb9 hI9 hl9 hin9 b09 b19 => ?_)
  case kU => k_updF
  case kb0 => assumption
  case kb1 => assumption
  all_goals (try dsimp only at N9 off9)
  all_goals (try have off8 := off9)
  all_goals (try simp only [LCg.Off3, and_true] at off9)
  kcf_last
  k_steps
  unfold Stop
  (with_reducible rename Fr _ _ _ _ => F5)
  (with_reducible rename News _ _ _ _ => N5)
  (with_reducible rename IsRange _ _ _ _ _ _ _ _ => R5)
  k_dflt (refine' iter_draws (sl := sl) (Str.ofString "mask") ?z0 ?z1 ?z2 ?z3 ?z4 ?z5 ?z6 ?z7 ?z8 (fun k9 t9 u9 a9 b9 ta9 tb9 h9 tk9 own9 b09 b19 off9 F9 N9 => ?zT) (fun u9 v9 a9 b9 ta9 tb9 h9 tk9 b09 b19 F9 N9 => ?zD))
  case z5 => k_asm
  case z0 => rfl
  case z1 => rfl
  case z2 => k_asm
  case z3 => exact small_one (by kcf_bnd) (by kcf_bnd) (by kcf_bnd) (by kcf_bnd)
  case z4 => exact rangeSize_nat _ _
  case z6 => exact pick2 (by k_asm) (by k_mem) (.tail _ (.tail _ (.tail _ (.tail _ (.tail _ (.tail _ (.tail _ (.head _))))))))
  case z7 => assumption
  case z8 => assumption
  all_goals clear N5 F5
  case zT =>
    (try dsimp only)
    (try k_fold)
    k_steps
  case zD =>
    (try dsimp only)
    (try k_fold)
    k_steps
    unfold Stop
    (with_reducible rename Fr _ _ _ _ => F5)
    (with_reducible rename News _ _ _ _ => N5)
    (with_reducible rename IsRange _ _ _ _ _ _ _ _ => R5)
    k_dflt (refine' iter_draws (sl := sl) (Str.ofString "places") ?z0 ?z1 ?z2 ?z3 ?z4 ?z5 ?z6 ?z7 ?z8 (fun k9 t9 u9 a9 b9 ta9 tb9 h9 tk9 own9 b09 b19 off9 F9 N9 => ?zT) (fun u9 v9 a9 b9 ta9 tb9 h9 tk9 b09 b19 F9 N9 => ?zD))
    case z5 => k_asm
    case z0 => rfl
    case z1 => rfl
    case z2 => k_asm
    case z3 => exact small_one (by kcf_bnd) (by kcf_bnd) (by kcf_bnd) (by kcf_bnd)
    case z4 => exact rangeSize_nat _ _
    case z6 => k_asm
    case z7 => assumption
    case z8 => assumption
    all_goals clear N5 F5
    case zT =>
      (try dsimp only)
      (try k_fold)
      k_steps
    case zD =>
      (try dsimp only)
      (try k_fold)
      k_steps)
end Mine
end
theorem PySem.Challenge.cw_xw0327_01_holds : PySem.Challenge.rw_xw0327_01.Holds :=
  Mine.law_holds
