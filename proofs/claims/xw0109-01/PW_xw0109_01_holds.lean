import PyProof.Rows.All
import Wide.All
import OpenK.AllK
import Wide.FinOn
import KE.BitLaws
import KE.IntBitsLaws
import PySem.Challenge.RW_xw0109_01
set_option Elab.async false
set_option compiler.extract_closed false
set_option hygiene false
section
set_option linter.unusedVariables false
namespace Mine
open PySem
def val (B : Int) : List Int → Int
  | [] => 0
  | n :: r => n + B * val B r
def Ok (B : Int) (ns : List Int) : Prop := ∀ n ∈ ns, 0 ≤ n ∧ n < B
def Nrm (ns : List Int) : Prop := ∀ x, ns.getLast? = some x → x ≠ 0
/-- the limbs of a number -/
def Lim (B : Int) (ns : List Int) (n : Int) : Prop := Ok B ns ∧ Nrm ns ∧ val B ns = n

theorem val_append (B : Int) (xs ys : List Int) : val B (xs ++ ys) = val B xs + B ^ xs.length * val B ys := by
  induction xs with
  | nil => simp [val]
  | cons x r ih => simp only [List.cons_append, val, ih, List.length_cons, Int.pow_succ]; grind
theorem val_snoc (B : Int) (xs : List Int) (c : Int) : val B (xs ++ [c]) = val B xs + B ^ xs.length * c := by
  rw [val_append]; simp [val]
theorem pw_pos {B : Int} (h : 0 < B) (n : Nat) : 0 < B ^ n := Int.pow_pos h
theorem Ok.nil {B : Int} : Ok B [] := fun _ h => nomatch h
theorem Ok.snoc {B : Int} {xs : List Int} {c : Int} (h : Ok B xs) (h0 : 0 ≤ c) (h1 : c < B) : Ok B (xs ++ [c]) := by
  intro n hn
  rcases List.mem_append.mp hn with hn | hn
  · exact h n hn
  · rw [List.mem_singleton.mp hn]; exact ⟨h0, h1⟩
theorem Ok.take {B : Int} {xs : List Int} (h : Ok B xs) (i : Nat) : Ok B (xs.take i) := fun n hn => h n (List.mem_of_mem_take hn)
theorem Ok.tail {B x : Int} {xs : List Int} (h : Ok B (x :: xs)) : Ok B xs := fun n hn => h n (.tail _ hn)
theorem val_nonneg {B : Int} (hB : 0 < B) : ∀ {xs : List Int}, Ok B xs → 0 ≤ val B xs
  | [], _ => Int.le_refl _
  | x :: r, h => by
    have h1 := val_nonneg hB h.tail
    have h2 := (h x (.head _)).1
    have h3 := Int.mul_nonneg (Int.le_of_lt hB) h1
    simp only [val]; omega
theorem val_lt {B : Int} (hB : 0 < B) : ∀ {xs : List Int}, Ok B xs → val B xs < B ^ xs.length
  | [], _ => by simp [val]
  | x :: r, h => by
    have h1 := val_lt hB h.tail
    have h2 := (h x (.head _)).2
    have h3 : B * (val B r + 1) ≤ B * B ^ r.length := Int.mul_le_mul_of_nonneg_left (by omega) (by omega)
    simp only [val, List.length_cons, Int.pow_succ]
    rw [Int.mul_comm (B ^ r.length) B]
    rw [Int.mul_add] at h3
    omega
theorem val_take_succ {B : Int} {xs : List Int} {i : Nat} (h : i < xs.length) : val B (xs.take (i + 1)) = val B (xs.take i) + B ^ i * xs.getD i 0 := by
  rw [List.take_add_one, List.getElem?_eq_getElem h]
  simp only [Option.toList_some]
  rw [val_snoc, List.length_take, Nat.min_eq_left (Nat.le_of_lt h)]
  simp [List.getD, h]
theorem val_take_all {B : Int} {xs : List Int} {i : Nat} (h : xs.length ≤ i) : val B (xs.take i) = val B xs := by rw [List.take_of_length_le h]
theorem Ok.getD {B : Int} {xs : List Int} (h : Ok B xs) (hB : 0 < B) (i : Nat) : 0 ≤ xs.getD i 0 ∧ xs.getD i 0 < B := by
  by_cases hi : i < xs.length
  · have : xs.getD i 0 = xs[i] := by simp [List.getD, hi]
    rw [this]; exact h _ (List.getElem_mem hi)
  · have : xs.getD i 0 = 0 := by simp [List.getD, Nat.le_of_not_lt hi]
    rw [this]; exact ⟨Int.le_refl _, hB⟩
theorem snoc_of_ne {xs : List Int} (h : xs ≠ []) : ∃ ys c, xs = ys ++ [c] := ⟨xs.dropLast, xs.getLast h, (List.dropLast_concat_getLast h).symm⟩
theorem Nrm.snoc {xs : List Int} {c : Int} (h : c ≠ 0) : Nrm (xs ++ [c]) := by
  intro x hx; simp at hx; omega
theorem Nrm.last {xs : List Int} {c : Int} (h : Nrm (xs ++ [c])) : c ≠ 0 := h c (by simp)
theorem Nrm.nil : Nrm [] := by intro x hx; simp at hx
/-- what is normal is as great as its length says -/
theorem val_ge {B : Int} (hB : 0 < B) {xs : List Int} (ho : Ok B xs) (hn : Nrm xs) (h : xs ≠ []) : B ^ (xs.length - 1) ≤ val B xs := by
  obtain ⟨ys, c, rfl⟩ := snoc_of_ne h
  have hc := hn.last
  have h1 := ho c (by simp)
  have h2 := val_nonneg hB (xs := ys) (fun n hn => ho n (List.mem_append_left _ hn))
  rw [val_snoc, List.length_append]
  have h3 := pw_pos hB ys.length
  have h4 : B ^ ys.length * 1 ≤ B ^ ys.length * c := Int.mul_le_mul_of_nonneg_left (by omega) (Int.le_of_lt h3)
  simp only [List.length_singleton, Nat.add_sub_cancel]
  omega
theorem nrm_of {B : Int} (hB : 0 < B) {xs : List Int} (ho : Ok B xs) (h : xs ≠ [] → B ^ (xs.length - 1) ≤ val B xs) : Nrm xs := by
  by_cases he : xs = []
  · subst he; exact Nrm.nil
  · obtain ⟨ys, c, rfl⟩ := snoc_of_ne he
    have h1 := h he
    refine Nrm.snoc fun hc => ?_
    subst hc
    have h2 := val_lt hB (xs := ys) (fun n hn => ho n (List.mem_append_left _ hn))
    rw [val_snoc, List.length_append] at h1
    simp only [List.length_singleton, Nat.add_sub_cancel] at h1
    omega
theorem Lim.nonneg {B : Int} (hB : 0 < B) {xs : List Int} {n : Int} (h : Lim B xs n) : 0 ≤ n := h.2.2 ▸ val_nonneg hB h.1
theorem Lim.nil {B : Int} : Lim B [] 0 := ⟨Ok.nil, Nrm.nil, rfl⟩
theorem Lim.len_iff {B : Int} (hB : 0 < B) {xs : List Int} {n : Int} (h : Lim B xs n) : (0 < xs.length ↔ 0 < n) := by
  obtain ⟨h1, h2, rfl⟩ := h
  constructor
  · intro hl
    have := val_ge hB h1 h2 (by intro e; subst e; cases hl)
    have := pw_pos hB (xs.length - 1)
    omega
  · intro hv
    cases xs with
    | nil => simp [val] at hv
    | cons x r => simp
theorem pw_mono {B : Int} (hB : 1 ≤ B) {a b : Nat} (h : a ≤ b) : B ^ a ≤ B ^ b := by
  obtain ⟨c, rfl⟩ := Nat.le.dest h
  rw [Int.pow_add]
  have h1 := pw_pos (by omega : 0 < B) a
  have h2 := pw_pos (by omega : 0 < B) c
  have := Int.mul_le_mul_of_nonneg_left (show (1 : Int) ≤ B ^ c by omega) (Int.le_of_lt h1)
  omega
/-- the greater number has as many limbs or more -/
theorem Lim.len_le {B : Int} (hB : 1 ≤ B) {xs ys : List Int} {a b : Int} (hx : Lim B xs a) (hy : Lim B ys b) (h : a ≤ b) : xs.length ≤ ys.length := by
  obtain ⟨h1, h2, rfl⟩ := hx
  obtain ⟨h3, h4, rfl⟩ := hy
  refine Nat.le_of_not_lt fun hl => ?_
  have h5 := val_ge (by omega) h1 h2 (by intro e; subst e; simp at hl)
  have h6 := val_lt (by omega : 0 < B) h3
  have h7 := pw_mono hB (show ys.length ≤ xs.length - 1 by omega)
  omega
theorem Lim.len_bound {B : Int} (hB : 2 ≤ B) {xs : List Int} {n : Int} {k : Nat} (h : Lim B xs n) (hn : n < B ^ k) : xs.length ≤ k := by
  obtain ⟨h1, h2, rfl⟩ := h
  refine Nat.le_of_not_lt fun hl => ?_
  have h5 := val_ge (by omega) h1 h2 (by intro e; subst e; simp at hl)
  have h7 := pw_mono (show 1 ≤ B by omega) (show k ≤ xs.length - 1 by omega)
  omega

/-! bits -/
theorem fdiv_pos {x B : Int} (_hx : 0 ≤ x) (hB : 0 < B) : x.fdiv B = x / B := by rw [Int.fdiv_eq_ediv_of_nonneg _ (Int.le_of_lt hB)]
theorem and_mask {x : Int} {K : Nat} (hx : 0 ≤ x) : Builtin.bitAnd x (1 * 2 ^ K - 1) = x % 2 ^ K := by
  have hp : (0 : Int) < 2 ^ K := Int.pow_pos (by decide)
  have hm : (0 : Int) ≤ 1 * 2 ^ K - 1 := by omega
  unfold Builtin.bitAnd
  simp only [hx, hm, decide_true]
  have e : (1 * 2 ^ K - 1 : Int).toNat = 2 ^ K - 1 := by
    have : ((2 ^ K : Nat) : Int) = 2 ^ K := by simp
    omega
  rw [e, Nat.and_two_pow_sub_one_eq_mod]
  simp only [Int.natCast_emod, Int.natCast_pow]
  rw [Int.toNat_of_nonneg hx]
  rfl

/-! the sum, limb by limb -/
theorem carry_step {B : Int} (hB : 0 < B) {found : List Int} {i : Nat} {carry S c : Int} (hl : found.length = i) (h : val B found + B ^ i * carry = S) (hc : 0 ≤ c) :
    val B (found ++ [c % B]) + B ^ (i + 1) * (c / B) = S + B ^ i * (c - carry) := by
  have e := Int.emod_add_mul_ediv c B
  rw [val_snoc, hl, Int.pow_succ]
  grind
end Mine
end
section
open PySem PySem.W PyProof.Rows
namespace Mine
set_option maxRecDepth 100000 in
set_option maxHeartbeats 8000000 in
open_top hd for PySem.Challenge.rw_xw0109_01
end Mine
end
namespace Mine
open PySem PySem.W PyProof.Rows PySem.Calls
section
open PySem PySem.W PyProof.Rows PySem.Calls
set_option linter.unusedVariables false
theorem w_off_Bas : True := by
  w_top off
  trivial

theorem k_nn {k : Int} (h : 8 ≤ k) : 0 ≤ k := by omega
theorem i_ge {a b c : Int} (h : b ≤ c) (h' : a ≤ b) : a ≤ c := Int.le_trans h' h
theorem ne_lt {a b : Nat} (e : a = b) (h : a < b) : False := Nat.ne_of_lt h e
theorem ne_gt {a b : Nat} (e : a = b) (h : b < a) : False := Nat.ne_of_lt h e.symm
theorem by_fin {n : Nat} {P : Int → Prop} (h : ∀ x : Fin n, P (x.val : Int)) {v : Int} (h0 : 0 ≤ v) (h1 : v < (n : Int)) : P v := by
  obtain ⟨x, rfl⟩ := Int.eq_ofNat_of_zero_le h0
  exact h ⟨x, Int.ofNat_lt.mp h1⟩
theorem lin_le {k n m c b : Nat} (h : n ≤ m) (hd : k * m + c ≤ b) : k * n + c ≤ b := Nat.le_trans (Nat.add_le_add_right (Nat.mul_le_mul_left k h) c) hd
theorem cmp_le {z a b : Int} (h : z < 0 ↔ a < b) (hz : z < 0) : a ≤ b := Int.le_of_lt (h.mp hz)
theorem cmp_ge {z a b : Int} (h : z < 0 ↔ a < b) (hz : ¬ z < 0) : b ≤ a := Int.not_lt.mp fun x => hz (h.mpr x)
theorem nat_room {a b : Nat} {c d : Int} (h : a + c.toNat ≤ b) (hd : d.toNat < c.toNat) : a + 1 + d.toNat ≤ b := by
  rw [Nat.add_assoc, Nat.add_comm 1]
  exact Nat.le_trans (Nat.add_le_add_left hd a) h
theorem nat_len {a b c : Nat} (e : a = b) (h : b + c ≤ 1000) : a ≤ 16777216 := e ▸ Nat.le_trans (Nat.le_add_right _ _) (Nat.le_trans h (by decide))
theorem nat_0 {n : Int} (h : n ≤ 1000) : 0 + n.toNat ≤ 1000 := by rw [Nat.zero_add]; exact Int.toNat_le.mpr h
theorem abs_if {n : Int} : (n.natAbs : Int) = if n < 0 then -n else n := by
  by_cases h : n < 0
  · rw [if_pos h, Int.ofNat_natAbs_of_nonpos (Int.le_of_lt h)]
  · rw [if_neg h, Int.natAbs_of_nonneg (Int.not_lt.mp h)]
theorem abs_0 {n : Int} : 0 ≤ (if n < 0 then -n else n) := abs_if ▸ Int.natCast_nonneg _
theorem abs_1 {n : Int} (h0 : -1000 ≤ n) (h1 : n ≤ 1000) : (if n < 0 then -n else n) ≤ 1000 := by
  by_cases h : n < 0
  · rw [if_pos h]; exact Int.neg_le_of_neg_le h0
  · rw [if_neg h]; exact h1
theorem k_2 {k : Int} (h : 8 ≤ k) : 2 ≤ k := by omega
theorem k_big {k : Int} (h : k ≤ 12) : k ≤ 1000000 := by omega
theorem k_n1 {k : Int} (h : 8 ≤ k) : 1 ≤ k.toNat := by omega
theorem k_n12 {k : Int} (h : k ≤ 12) : k.toNat ≤ 12 := by omega
theorem l_62 {l : Nat} (h : l ≤ 4000) : l < 2 ^ 62 := by omega
theorem l_i62 {l : Nat} (h : l ≤ 4000) : (l : Int) < 2 ^ 62 := by omega
theorem l_m62 {l : Nat} : -2 ^ 62 ≤ (l : Int) := by omega
theorem l_4 {l : Nat} (h : l ≤ 1000) : l ≤ 4000 := by omega
theorem dp_lt {dp d c : Nat} (h : dp + d < c) : dp < c := by omega
theorem lp_nn {n : Int} {p : Nat} (e : n = 0 + (p : Int)) : 0 ≤ n := by omega
theorem lp_lt {n : Int} {p l : Nat} (e : n = 0 + (p : Int)) (h : p < ((l : Int) - 0).toNat) : n < l := by omega
theorem lp_p {p l : Nat} (h : p < ((l : Int) - 0).toNat) : p < l := by omega
theorem lp_63 {n : Int} {l : Nat} (h : n < l) (hl : l ≤ 4000) : n < 2 ^ 63 := by omega
theorem lp_len {a b p l : Nat} (h1 : a = b) (h2 : b = p) (h : p < l) (hl : l ≤ 4000) : a ≤ 16777216 := by omega
theorem lp_len2 {a b : Nat} (h1 : a = b) (hl : b ≤ 4000) : a ≤ 16777216 := by omega
theorem lq_nn {n : Int} {a p : Nat} (e : n = (a : Int) + (p : Int)) : 0 ≤ n := by omega
theorem lq_lt {n : Int} {a p l : Nat} (e : n = (a : Int) + (p : Int)) (h : p < ((l : Int) - (a : Int)).toNat) : n < l := by omega
theorem lq_p {a p l : Nat} (h : p < ((l : Int) - (a : Int)).toNat) : a + p < l := by omega
abbrev PR : Program := PySem.Challenge.rw_xw0109_01.row.prog
abbrev TopL (mean : ExcName → Option Value) (mg mb : Str → Option Value) (h : Heap) : Prop := Top Mine.hd.view_39 (looseW Mine.hd.view_39 []) mean mg mb h

/-- enter a def over the whole heap of the caller: what stood stands -/
theorem enter_pure {prog : Program} {w : World} {A A₀ : Around} {s : Shared} {K : Frag} {L : Addr} {h₀ base : Heap} {m mg mb : Str → Option Value} {p : Program} {loose : List Str} {mean : ExcName → Option Value}
    {env : Env} {outer : List Env} {R : Result → Shared → Prop} {name qual : Str} {params : Arguments} {body : List Stmt} {scope : Scope} {dV kV doc pm cdv ct oc : Value} {an od : Option Addr} {osl : Array (Option Value)} {f : Addr} {args : Args} {binds : List (Str × Value)}
    (B : Below A₀ base outer h₀) (F : Fr h₀ L s.heap m) (X₀ : K.In h₀) (T : Top p loose mean mg mb h₀) (hA : A.frames = some (env :: outer)) (hf : env.frame = some L) (hke : env.scope.kind = .function)
    (ho : K.lookup f = some ⟨oc, od, .func (fnOf name qual params body scope dV kV doc pm an cdv ct), osl⟩) (hcd : codeIn K cdv qual = true) (hroom : A.depth < recursionLimit)
    (hbind : BindsTo s (fnOf name qual params body scope dV kV doc pm an cdv ct) args binds) (hloc : ∀ y ∈ binds, scope.names.lookup y.1 = some .local)
    (h : ∀ L' h₁ tk, Fr s.heap L' h₁ (fun y => binds.reverse.lookup y) → News s.heap L' h₁ [] → Below A base (env :: outer) s.heap → K.In s.heap → Top p loose mean mg mb s.heap →
      wpAny (model prog w) (A.deeper (envOf qual scope L' f cdv)) (execs body (envOf qual scope L' f cdv))
        (fun fl s' => LeaveK h₀ L m s.heap R (match fl with | .ret v => v | _ => .none) s')
        (fun e s' => wpAny (model prog w) (A.deeper (envOf qual scope L' f cdv)) (leaving (envOf qual scope L' f cdv) e) (fun _ s'' => R (.error e) s'') (fun e' s'' => R (.error e') s'') s')
        { s with heap := h₁, toks := tk })
    (hco : scope.isCoroutine = false) (hgen : scope.isGenerator = false) (hk : scope.kind = .function)
    (hcell : ∀ x ∈ scope.names, x.2 ≠ .cell) : codeAny (model prog w) A (.call (.ref f) args) R s := by
  obtain ⟨FG, BG, st, lv⟩ := groundX (R := R) B F (News.nil) hA hf hke
  refine codeAny_call_def (fd := fnX name qual params body scope [] dV kV doc pm an cdv ct) (body := body) (binds := binds) hroom ((X₀.keeps F.keep) _ _ ho) rfl (T.nolimit.keeps F.keep) (codeRec_of (X₀.keeps F.keep) hcd) rfl hbind hcell hloc (fun h₁ hns hk₁ => ?_) hco hgen hk
  exact wpAny_mono (h s.heap.objs.size h₁ _ ⟨hns, fun b o e => hk₁ b o e, Nat.le_refl _⟩ News.nil BG (X₀.keeps st) (T.keeps st)) (fun fl s' hl => lv _ _ hl) fun _ _ y => y

/-- a def's contract: it reads alone what stood; what it gives back is told by Post -/
structure Ct (w : World) (f : Addr) (vs : List Value) (d : Nat) (Pre : Heap → Prop) (Post : Heap → Heap → Value → Prop) : Prop where
  go :  ∀ (mean : ExcName → Option Value) (mg mb : Str → Option Value) (dp un : Nat) (gd : Option (List Code)) (cn : Str) (cs : Scope) (a : Addr) (ccd : Value) (cl : List (Str × Addr)) (outer : List Env) (A₀ : Around) (base h₀ : Heap) (L : Addr) (m : Str → Option Value) (s : Shared) (Q E : Value → Shared → Prop),
    Below A₀ base outer h₀ → Fr h₀ L s.heap m → (Mine.hd.heap_39 w.params).In h₀ → TopL mean mg mb h₀ → cs.kind = .function → Pre s.heap → dp + d < recursionLimit → un + 8 * d < cLine →
    (∀ (r : Value) (h' : Heap) (tk' : Nat), s.heap.StaysIn h' → Post s.heap h' r → Q r { s with heap := h', toks := tk' }) →
    wpAny (model PySem.Challenge.rw_xw0109_01.row.prog w) (ktrTop dp un gd cn cs L a ccd cl outer) (call (.ref f) vs) Q E s

theorem Fr.stays {h₀ h h' : Heap} {L : Addr} {m : Str → Option Value} (F : Fr h₀ L h m) (hk : h.StaysIn h') : Fr h₀ L h' m := F.after hk
theorem News.stays {h₀ h h' : Heap} {L : Addr} {news : List (Addr × Obj)} (N : News h₀ L h news) (hk : h.StaysIn h') : News h₀ L h' news := fun p hp => ⟨hk _ _ (N p hp).1, (N p hp).2⟩

theorem lookup_kstB : ∀ ps : List (Str × Value), (fun y => List.lookup y ps) = kstB (fun _ => none) ps
  | [] => rfl
  | p :: r => by
    funext y
    have ih := congrFun (lookup_kstB r) y
    obtain ⟨x, v⟩ := p
    show List.lookup y ((x, v) :: r) = if y = x then some v else kstB (fun _ => none) r y
    rw [List.lookup_cons]
    by_cases h : y = x
    · rw [if_pos h, beq_iff_eq.mpr h]
    · rw [if_neg h, beq_eq_false_iff_ne.mpr h]; exact ih
theorem fr_lookup {h₀ h : Heap} {L : Addr} (ps : List (Str × Value)) (F : Fr h₀ L h fun y => List.lookup y ps) : Fr h₀ L h (kstB (fun _ => none) ps) := lookup_kstB ps ▸ F
/-- a list of ints that stands -/
def LAt (h : Heap) (l : Addr) (ns : List Int) : Prop := ∃ vs, h.IsList l vs.toArray ∧ IntsAre vs ns
theorem LAt.keeps {h h' : Heap} {l : Addr} {ns : List Int} (x : LAt h l ns) (k : ∀ b o, h.get? b = some o → h'.get? b = some o) : LAt h' l ns := let ⟨vs, a, b⟩ := x; ⟨vs, a.at fun o e => k l o e, b⟩
theorem LAt.of {h₀ h : Heap} {L : Addr} {news : List (Addr × Obj)} {l : Addr} {vs : List Value} {c : Nat} {ns : List Int} (N : News h₀ L h news) (hm : (l, W.listOf vs.toArray c) ∈ news) (hI : IntsAre vs ns) : LAt h l ns :=
  ⟨vs, ⟨_, (N _ hm).1, rfl, c, rfl⟩, hI⟩
theorem LAt.base {h₀ h : Heap} {L : Addr} {m : Str → Option Value} {l : Addr} {vs : List Value} {ns : List Int} (F : Fr h₀ L h m) (hl : h₀.IsList l vs.toArray) (hI : IntsAre vs ns) : LAt h l ns :=
  LAt.keeps ⟨vs, hl, hI⟩ F.keep
/-- what comes back: a new list of ints -/
def LNew (h h' : Heap) (r : Value) (ns : List Int) : Prop := ∃ l vs c, r = .ref l ∧ h.get? l = none ∧ h'.get? l = some (W.listOf (List.toArray vs) c) ∧ IntsAre vs ns
theorem LNew.of {h h' : Heap} {L : Addr} {news : List (Addr × Obj)} {l : Addr} {vs : List Value} {c : Nat} {ns : List Int} (N : News h L h' news) (hm : (l, W.listOf (List.toArray vs) c) ∈ news) (hI : IntsAre vs ns) : LNew h h' (.ref l) ns :=
  ⟨l, vs, c, rfl, (N _ hm).2.2, (N _ hm).1, hI⟩
/-- the ledger gets what a call has made -/
theorem News.got {h₀ h h' : Heap} {L : Addr} {m : Str → Option Value} {news : List (Addr × Obj)} {a : Addr} {o : Obj} (F : Fr h₀ L h m) (N : News h₀ L h' news) (hn : h.get? a = none) (ho : h'.get? a = some o) : News h₀ L h' ((a, o) :: news) := by
  intro p hp
  rcases List.mem_cons.mp hp with rfl | hp
  · refine ⟨ho, fun e => ?_, ?_⟩
    · obtain ⟨oL, _, _, hL, _⟩ := F.ns
      rw [← e] at hL
      dsimp only at hL hn
      rw [hn] at hL; cases hL
    · cases hq : h₀.get? a with
      | none => rfl
      | some o' => rw [F.keep _ _ hq] at hn; cases hn
  · exact N p hp
theorem close_listQ {s : Shared} {Q : Value → Shared → Prop} {P : List Int → Prop} {h' : Heap} {L' l : Addr} {m' : Str → Option Value} {news : List (Addr × Obj)} {vs : List Value} {c tk : Nat} {ns : List Int}
    (hret : ∀ (r : Value) (h' : Heap) (tk' : Nat), s.heap.StaysIn h' → (∃ rs, LNew s.heap h' r rs ∧ P rs) → Q r { s with heap := h', toks := tk' })
    (F : Fr s.heap L' h' m') (N : News s.heap L' h' news) (hm : (l, W.listOf (List.toArray vs) c) ∈ news) (hI : IntsAre vs ns) (hP : P ns) : Q (.ref l) { s with heap := h', toks := tk } :=
  hret _ _ _ F.keep ⟨ns, .of N hm hI, hP⟩
theorem intsAre_snoc {vs : List Value} {ns : List Int} {c : Int} {t : Tok} (h : IntsAre vs ns) : IntsAre (vs ++ [.int c t]) (ns ++ [c]) := h.append (.cons _ _ .nil)
/-- a contract in use -/
theorem ct_use {w : World} {f : Addr} {vs : List Value} {d : Nat} {Pre : Heap → Prop} {Post : Heap → Heap → Value → Prop} (C : Ct w f vs d Pre Post)
    {mean : ExcName → Option Value} {mg mb : Str → Option Value} {dp un : Nat} {gd : Option (List Code)} {cn : Str} {cs : Scope} {a : Addr} {ccd : Value} {cl : List (Str × Addr)} {outer : List Env} {A₀ : Around} {base h₀ : Heap} {L : Addr} {m : Str → Option Value} {news : List (Addr × Obj)} {s : Shared} {Q E : Value → Shared → Prop}
    (B : Below A₀ base outer h₀) (F : Fr h₀ L s.heap m) (X : (Mine.hd.heap_39 w.params).In h₀) (N : News h₀ L s.heap news) (T : TopL mean mg mb h₀) (hk : cs.kind = .function) (hpre : Pre s.heap) (hdp : dp + d < recursionLimit) (hun : un + 8 * d < cLine)
    (h : ∀ (r : Value) (h' : Heap) (tk' : Nat), Fr h₀ L h' m → News h₀ L h' news → s.heap.StaysIn h' → (∀ a o, s.heap.get? a = none → h'.get? a = some o → ∀ ns, News h₀ L h' ns → News h₀ L h' ((a, o) :: ns)) → Post s.heap h' r → Q r { s with heap := h', toks := tk' }) :
    wpAny (model PySem.Challenge.rw_xw0109_01.row.prog w) (ktrTop dp un gd cn cs L a ccd cl outer) (call (.ref f) vs) Q E s := by
  exact C.go mean mg mb dp un gd cn cs a ccd cl outer A₀ base h₀ L m s Q E B F X T hk hpre hdp hun fun r h' tk' st p => h r h' tk' (Mine.Fr.stays F st) (Mine.News.stays N st) st (fun a o hn ho ns N' => News.got F N' hn ho) p
/-- what follows, unseen -/
theorem hideQE {α : Type} {M : Model} {A : Around} {c : Sem α} {Q : α → Shared → Prop} {E : Value → Shared → Prop} {s : Shared} (h : ∀ (Q' : α → Shared → Prop), (∀ v s', Q v s' → Q' v s') → wpAny M A c Q' (fun _ _ => False) s) : wpAny M A c Q E s := wpAny_noRaise (h Q fun _ _ x => x)
theorem Fr.ext {h₀ h : Heap} {L : Addr} {m m' : Str → Option Value} (F : Fr h₀ L h m) (e : ∀ z, m z = m' z) : Fr h₀ L h m' := (funext e : m = m') ▸ F
/-- the first statement by what it leaves -/
theorem cut_first {prog : Program} {w : World} {A : Around} {st : Stmt} {rest : List Stmt} {env : Env} {Q : Flow → Shared → Prop} {E : Value → Shared → Prop} {s : Shared} (J : Shared → Prop) (h1 : ∀ Qf : Flow → Shared → Prop, (∀ s', J s' → Qf .next s') → wpAny (model prog w) A (exec st env) Qf E s)
    (h2 : ∀ s', J s' → wpAny (model prog w) A (execs rest env) Q E s') : wpAny (model prog w) A (execs (st :: rest) env) Q E s :=
  wpAny_execs_cons (wpAny_mono (h1 (fun fl s' => fl = .next ∧ J s') fun _ j => ⟨rfl, j⟩) (fun fl s' j => by obtain ⟨rfl, j⟩ := j; exact h2 s' j) fun _ _ e => e)
/-- a statement that leaves an int in a name: its ways meet -/
theorem cut_store {prog : Program} {w : World} {A : Around} {st : Stmt} {rest : List Stmt} {env : Env} {Q : Flow → Shared → Prop} {E : Value → Shared → Prop} {s : Shared} {h₀ : Heap} {L : Addr} {m : Str → Option Value} {news : List (Addr × Obj)} (x : Str) (P : Int → Prop) (F : Fr h₀ L s.heap m) (N : News h₀ L s.heap news)
    (h1 : ∀ Qf : Flow → Shared → Prop, (∀ v t h' tk', P v → Fr h₀ L h' (fun z => if z = x then some (.int v t) else m z) → News h₀ L h' news → Qf .next { s with heap := h', toks := tk' }) → wpAny (model prog w) A (exec st env) Qf (fun _ _ => False) s)
    (h2 : ∀ v t h' tk', P v → Fr h₀ L h' (fun z => if z = x then some (.int v t) else m z) → News h₀ L h' news → wpAny (model prog w) A (execs rest env) Q E { s with heap := h', toks := tk' }) : wpAny (model prog w) A (execs (st :: rest) env) Q E s :=
  cut_first (fun s' => ∃ v t h' tk', s' = { s with heap := h', toks := tk' } ∧ P v ∧ Fr h₀ L h' (fun z => if z = x then some (.int v t) else m z) ∧ News h₀ L h' news)
    (fun Qf hq => wpAny_noRaise (h1 Qf fun v t h' tk' p f n => hq _ ⟨v, t, h', tk', rfl, p, f, n⟩))
    (fun s' j => by obtain ⟨v, t, h', tk', rfl, p, f, n⟩ := j; exact h2 v t h' tk' p f n)
end
section
open PySem PySem.W PyProof.Rows PySem.Calls
set_option linter.unusedVariables false
theorem w_off_Sig : True := by
  w_top off
  trivial
/-- a number of at most j bits -/
def Sm (j : Nat) (z : Int) : Prop := z.natAbs < 2 ^ j
theorem Sm.mono {i j : Nat} {z : Int} (h : Sm i z) (hij : i ≤ j) : Sm j z := Nat.lt_of_lt_of_le h (Nat.pow_le_pow_right (by decide) hij)
theorem Sm.neg {j : Nat} {z : Int} (h : Sm j z) : Sm j (-z) := by unfold Sm at *; rwa [Int.natAbs_neg]
theorem Sm.mul {i j : Nat} {x y : Int} (hx : Sm i x) (hy : Sm j y) : Sm (i + j) (x * y) := by
  unfold Sm at *
  rw [Int.natAbs_mul, Nat.pow_add]
  exact Nat.mul_lt_mul'' hx hy
theorem Sm.add {j : Nat} {x y : Int} (hx : Sm j x) (hy : Sm j y) : Sm (j + 1) (x + y) := by
  unfold Sm at *
  rw [Nat.pow_succ, Nat.mul_two]
  exact Nat.lt_of_le_of_lt (Int.natAbs_add_le x y) (Nat.add_lt_add hx hy)
theorem Sm.sub {j : Nat} {x y : Int} (hx : Sm j x) (hy : Sm j y) : Sm (j + 1) (x - y) := by
  rw [Int.sub_eq_add_neg]; exact hx.add hy.neg
theorem Sm.half {j : Nat} {x : Int} (hx : Sm j (2 * x)) : Sm j x := by unfold Sm at *; rw [Int.natAbs_mul, show (2 : Int).natAbs = 2 from rfl] at hx; exact Nat.lt_of_le_of_lt (Nat.le_mul_of_pos_left _ (by decide)) hx
theorem Lim.len_sm {K : Nat} (hK : 1 ≤ K) {ns : List Int} {z : Int} {j : Nat} (h : Lim (2 ^ K) ns (z.natAbs : Int)) (hz : Sm j z) : ns.length ≤ j := by
  have hB : (2 : Int) ≤ 2 ^ K := pw_mono (a := 1) (by decide) hK
  refine h.len_bound hB ?_
  have h1 : ((z.natAbs : Nat) : Int) < ((2 ^ j : Nat) : Int) := Int.ofNat_lt.mpr hz
  have h2 : (((2 ^ j : Nat) : Int)) = 2 ^ j := Int.natCast_pow 2 j
  have h3 : ∀ j : Nat, (2 : Int) ^ j ≤ (2 ^ K) ^ j := by
    intro j
    induction j with
    | zero => simp
    | succ j ih =>
      rw [Int.pow_succ, Int.pow_succ]
      exact Int.mul_le_mul ih hB (by decide) (Int.le_of_lt (Int.pow_pos (Int.lt_of_lt_of_le (by decide) hB)))
  exact Int.lt_of_lt_of_le (h2 ▸ h1) (h3 j)
/-- the limbs and the sign of a number -/
def Sg (B : Int) (b : Bool) (ns : List Int) (z : Int) : Prop := Lim B ns (z.natAbs : Int) ∧ b = decide (z < 0)
theorem Sg.len {K : Nat} (hK : 1 ≤ K) {b : Bool} {ns : List Int} {z : Int} {j : Nat} (h : Sg (2 ^ K) b ns z) (hz : Sm j z) : ns.length ≤ j := h.1.len_sm hK hz
theorem sg_of {B : Int} (hB : 0 < B) {b : Bool} {ns : List Int} {n z : Int} (h : Lim B ns n) (hz : z = if b then -n else n) : Sg B (b && decide (0 < ns.length)) ns z := by
  have h0 := h.nonneg hB
  have hl := h.len_iff hB
  subst hz
  cases b with
  | false => exact ⟨by rw [show ((if false = true then -n else n).natAbs : Int) = n from Int.natAbs_of_nonneg h0]; exact h, (decide_eq_false (Int.not_lt.mpr h0)).symm⟩
  | true => exact ⟨by rw [show ((if true = true then -n else n).natAbs : Int) = n from by rw [if_pos rfl, Int.natAbs_neg]; exact Int.natAbs_of_nonneg h0]; exact h, by simp [hl]⟩
/-- the number by its sign -/
theorem sg_v {B : Int} {b : Bool} {ns : List Int} {z : Int} (h : Sg B b ns z) : z = if b then -(z.natAbs : Int) else z.natAbs := by
  obtain ⟨_, rfl⟩ := h
  by_cases c : z < 0
  · rw [if_pos (decide_eq_true c), Int.ofNat_natAbs_of_nonpos (Int.le_of_lt c), Int.neg_neg]
  · rw [if_neg (by rw [decide_eq_false c]; decide), Int.natAbs_of_nonneg (Int.not_lt.mp c)]
theorem Sm.abs {j : Nat} {z : Int} (h : Sm j z) : Sm j (z.natAbs : Int) := by unfold Sm at *; rwa [Int.natAbs_natCast]
theorem lim_len {K : Nat} {ns : List Int} {n : Int} {j : Nat} (h : Lim (2 ^ K) ns n) (hz : Sm j n) (hK : 1 ≤ K) (hj : j ≤ 4000) : ns.length ≤ 4000 := by
  have h0 := h.nonneg (Int.pow_pos (by decide))
  have := Lim.len_sm (z := n) hK (by rw [Int.natAbs_of_nonneg h0]; exact h) hz
  exact Nat.le_trans this hj
theorem sg_add {B : Int} (hB : 0 < B) {bx bY : Bool} {xs ys rs : List Int} {zx zy : Int} (hx : Sg B bx xs zx) (hy : Sg B bY ys zy) (hb : (bx == bY) = true) (h : Lim B rs ((zx.natAbs : Int) + zy.natAbs)) : Sg B (bx && decide (0 < rs.length)) rs (zx + zy) := by
  have hbb : bx = bY := eq_of_beq hb
  subst hbb
  refine sg_of hB h ?_
  have e1 := sg_v hx
  have e2 := sg_v hy
  clear hx hy h
  generalize (zx.natAbs : Int) = p at *
  generalize (zy.natAbs : Int) = q at *
  subst e1 e2
  cases bx
  · rfl
  · exact Int.neg_add.symm
theorem sg_sub1 {B : Int} (hB : 0 < B) {bx bY : Bool} {xs ys rs : List Int} {zx zy : Int} (hx : Sg B bx xs zx) (hy : Sg B bY ys zy) (hb : (bx == bY) = false) (h : Lim B rs ((zx.natAbs : Int) - zy.natAbs)) : Sg B (bx && decide (0 < rs.length)) rs (zx + zy) := by
  refine sg_of hB h ?_
  have e1 := sg_v hx
  have e2 := sg_v hy
  clear hx hy h
  generalize (zx.natAbs : Int) = p at *
  generalize (zy.natAbs : Int) = q at *
  subst e1 e2
  cases bx <;> cases bY
  · cases hb
  · rfl
  · exact (by rw [Int.neg_sub, Int.sub_eq_add_neg, Int.add_comm] : -p + q = -(p - q))
  · cases hb
theorem sg_sub2 {B : Int} (hB : 0 < B) {bx bY : Bool} {xs ys rs : List Int} {zx zy : Int} (hx : Sg B bx xs zx) (hy : Sg B bY ys zy) (hb : (bx == bY) = false) (h : Lim B rs ((zy.natAbs : Int) - zx.natAbs)) : Sg B (bY && decide (0 < rs.length)) rs (zx + zy) := by
  have := sg_sub1 hB hy hx (by cases bx <;> cases bY <;> simp at hb ⊢) h
  rwa [Int.add_comm]
theorem sg_neg {B : Int} (hB : 0 < B) {b : Bool} {ns : List Int} {z : Int} (h : Sg B b ns z) : Sg B (!b && decide (0 < ns.length)) ns (-z) := by
  refine sg_of hB h.1 ?_
  have e1 := sg_v h
  clear h
  generalize (z.natAbs : Int) = p at *
  subst e1
  cases b
  · rfl
  · exact Int.neg_neg p
theorem sg_mul {B : Int} (hB : 0 < B) {bx bY : Bool} {xs ys rs : List Int} {zx zy : Int} (hx : Sg B bx xs zx) (hy : Sg B bY ys zy) (h : Lim B rs ((zx.natAbs : Int) * zy.natAbs)) : Sg B ((bx != bY) && decide (0 < rs.length)) rs (zx * zy) := by
  refine sg_of hB h ?_
  have h1 := hx.2
  have h2 := hy.2
  have e1 := sg_v hx
  have e2 := sg_v hy
  clear hx hy h h1 h2
  generalize (zx.natAbs : Int) = p at *
  generalize (zy.natAbs : Int) = q at *
  subst e1 e2
  cases bx <;> cases bY
  · rfl
  · exact Int.mul_neg p q
  · exact Int.neg_mul p q
  · exact Int.neg_mul_neg p q
theorem sg_half {B : Int} (hB : 0 < B) {b : Bool} {ns rs : List Int} {z : Int} (hx : Sg B b ns (2 * z)) (h : Lim B rs (((2 * z).natAbs : Int) / 2)) : Sg B (b && decide (0 < rs.length)) rs z := by
  refine sg_of hB h ?_
  have e1 := sg_v hx
  have e2 : ((2 * z).natAbs : Int) = 2 * (z.natAbs : Int) := by rw [Int.natAbs_mul, Int.natCast_mul]; rfl
  clear hx h
  rw [e2] at e1 ⊢
  rw [Int.mul_ediv_cancel_left _ (by decide)]
  generalize (z.natAbs : Int) = p at *
  cases b
  · exact Int.eq_of_mul_eq_mul_left (by decide) e1
  · exact Int.eq_of_mul_eq_mul_left (by decide) (e1.trans (Int.mul_neg 2 p).symm)
/-- a signed number at x -/
def SAt (h : Heap) (x : Addr) (b : Bool) (ns : List Int) : Prop := ∃ l, IsTup h x [Value.bool b, Value.ref l].toArray ∧ LAt h l ns
theorem SAt.keeps {h h' : Heap} {x : Addr} {b : Bool} {ns : List Int} (y : SAt h x b ns) (k : ∀ b o, h.get? b = some o → h'.get? b = some o) : SAt h' x b ns := let ⟨l, t, a⟩ := y; ⟨l, t.keeps k, a.keeps k⟩
abbrev tupO (vs : List Value) : Obj := { cls := .type "tuple", data := .seq vs.toArray }
theorem SAt.of {h₀ h : Heap} {L : Addr} {news : List (Addr × Obj)} {x l : Addr} {b : Bool} {ns : List Int} (N : News h₀ L h news) (hm : (x, tupO [.bool b, .ref l]) ∈ news) (hl : LAt h l ns) : SAt h x b ns := ⟨l, News.isTup N hm, hl⟩
theorem SAt.base {h₀ h : Heap} {L : Addr} {m : Str → Option Value} {x l : Addr} {b : Bool} {ns : List Int} (F : Fr h₀ L h m) (ht : IsTup h₀ x [Value.bool b, Value.ref l].toArray) (hl : LAt h₀ l ns) : SAt h x b ns := SAt.keeps ⟨l, ht, hl⟩ F.keep
theorem LAt.up {h₀ h : Heap} {L : Addr} {m : Str → Option Value} {l : Addr} {ns : List Int} (F : Fr h₀ L h m) (hl : LAt h₀ l ns) : LAt h l ns := hl.keeps F.keep
theorem base_tup {h₀ h : Heap} {L : Addr} {m : Str → Option Value} {x : Addr} {its : Array Value} (F : Fr h₀ L h m) (ht : IsTup h₀ x its) : IsTup h x its := ht.keeps F.keep
/-- a new signed number comes back -/
def SNew (h h' : Heap) (r : Value) (b : Bool) (ns : List Int) : Prop := ∃ x l vs c, r = .ref x ∧ h.get? x = none ∧ h.get? l = none ∧ h'.get? x = some (tupO [.bool b, .ref l]) ∧ h'.get? l = some (W.listOf (List.toArray vs) c) ∧ IntsAre vs ns
theorem close_sgQ {s : Shared} {Q : Value → Shared → Prop} {P : Bool → List Int → Prop} {h' : Heap} {L' x l : Addr} {m' : Str → Option Value} {news : List (Addr × Obj)} {vs : List Value} {c tk : Nat} {b : Bool} {ns : List Int}
    (hret : ∀ (r : Value) (h' : Heap) (tk' : Nat), s.heap.StaysIn h' → (∃ b rs, SNew s.heap h' r b rs ∧ P b rs) → Q r { s with heap := h', toks := tk' })
    (F : Fr s.heap L' h' m') (N : News s.heap L' h' news) (hx : (x, tupO [.bool b, .ref l]) ∈ news) (hm : (l, W.listOf (List.toArray vs) c) ∈ news) (hI : IntsAre vs ns) (hP : P b ns) : Q (.ref x) { s with heap := h', toks := tk } :=
  hret _ _ _ F.keep ⟨b, ns, ⟨x, l, vs, c, rfl, (N _ hx).2.2, (N _ hm).2.2, (N _ hx).1, (N _ hm).1, hI⟩, hP⟩
end
section
open PySem PySem.W PyProof.Rows PySem.Calls
set_option linter.unusedVariables false
theorem w_off_Use : True := by
  w_top off
  trivial
theorem room_of {dp d d' : Nat} (h : dp + d < recursionLimit) (hd : d' + 1 ≤ d) : dp + 1 + d' < recursionLimit := by omega
theorem units_of {un d d' : Nat} (h : un + 8 * d < cLine) (hd : d' + 1 ≤ d) : un + 3 + 8 * d' < cLine := by omega
/-- what is to be shown behind a call -/
def After (h₀ : Heap) (L : Addr) (m : Str → Option Value) (news : List (Addr × Obj)) (s : Shared) (Q : Value → Shared → Prop) (Post : Heap → Heap → Value → Prop) : Prop :=
  ∀ (r : Value) (h' : Heap) (tk' : Nat), Fr h₀ L h' m → News h₀ L h' news → (∀ a o, s.heap.get? a = none → h'.get? a = some o → ∀ ns, News h₀ L h' ns → News h₀ L h' ((a, o) :: ns)) → Post s.heap h' r → Q r { s with heap := h', toks := tk' }
section
variable {w : World} {f : Addr} {vs : List Value} {d : Nat} {Pre : Heap → Prop} {Post : Heap → Heap → Value → Prop}
    {mean : ExcName → Option Value} {mg mb : Str → Option Value} {dp un : Nat} {gd : Option (List Code)} {cn : Str} {cs : Scope} {a : Addr} {ccd : Value} {cl : List (Str × Addr)} {outer : List Env} {A₀ : Around} {base h₀ : Heap} {L : Addr} {m : Str → Option Value} {news : List (Addr × Obj)} {s : Shared} {Q E : Value → Shared → Prop}
/-- a contract that serves a call -/
def Go (w : World) (f : Addr) (vs : List Value) (dp un : Nat) (h₀ : Heap) (L : Addr) (m : Str → Option Value) (news : List (Addr × Obj)) (s : Shared) (Q : Value → Shared → Prop) : Prop :=
  ∃ d Pre Post, Ct w f vs d Pre Post ∧ Pre s.heap ∧ dp + d < recursionLimit ∧ un + 8 * d < cLine ∧ After h₀ L m news s Q Post
theorem go_by (C : Ct w f vs d Pre Post) (hpre : Pre s.heap) (hdp : dp + d < recursionLimit) (hun : un + 8 * d < cLine) (h : After h₀ L m news s Q Post) : Go w f vs dp un h₀ L m news s Q := ⟨d, Pre, Post, C, hpre, hdp, hun, h⟩
/-- a contract in use: what it wants of the frame is sought by itself -/
theorem ct_go (G : Go w f vs dp un h₀ L m news s Q)
    (B : Below A₀ base outer h₀ := by k_asm) (F : Fr h₀ L s.heap m := by k_asm) (X : (Mine.hd.heap_39 w.params).In h₀ := by k_asm) (N : News h₀ L s.heap news := by k_asm) (T : TopL mean mg mb h₀ := by k_asm) (hk : cs.kind = .function := by walk_at "kind") :
    wpAny (model PySem.Challenge.rw_xw0109_01.row.prog w) (ktrTop dp un gd cn cs L a ccd cl outer) (call (.ref f) vs) Q E s := by
  obtain ⟨d, Pre, Post, C, hpre, hdp, hun, h⟩ := G
  exact ct_use C B F X N T hk hpre hdp hun fun r h' tk' F N _ got hp => h r h' tk' F N got hp
/-- a new signed number comes back -/
theorem use_sg {P : Bool → List Int → Prop}
    (h : ∀ (b : Bool) (rs : List Int) (x l : Addr) (us : List Value) (c : Nat) (h' : Heap) (tk' : Nat), Fr h₀ L h' m → News h₀ L h' ((x, tupO [.bool b, .ref l]) :: (l, W.listOf (List.toArray us) c) :: news) → IntsAre us rs → P b rs → Q (.ref x) { s with heap := h', toks := tk' }) :
    After h₀ L m news s Q (fun h h' r => ∃ b rs, SNew h h' r b rs ∧ P b rs) := by
  rintro r h' tk' F N got ⟨b, rs, ⟨x, l, us, c, rfl, hn, hm, ho, hq, hI⟩, hP⟩
  exact h b rs x l us c h' tk' F (got _ _ hn ho _ (got _ _ hm hq _ N)) hI hP
/-- a new list comes back -/
theorem use_list {P : List Int → Prop}
    (h : ∀ (rs : List Int) (l : Addr) (us : List Value) (c : Nat) (h' : Heap) (tk' : Nat), Fr h₀ L h' m → News h₀ L h' ((l, W.listOf (List.toArray us) c) :: news) → IntsAre us rs → P rs → Q (.ref l) { s with heap := h', toks := tk' }) :
    After h₀ L m news s Q (fun h h' r => ∃ rs, LNew h h' r rs ∧ P rs) := by
  rintro r h' tk' F N got ⟨rs, ⟨l, us, c, rfl, hn, ho, hI⟩, hP⟩
  exact h rs l us c h' tk' F (got _ _ hn ho _ N) hI hP
/-- one new object comes back -/
theorem use_obj {o : Obj} (h : ∀ (x : Addr) (h' : Heap) (tk' : Nat), Fr h₀ L h' m → News h₀ L h' ((x, o) :: news) → Q (.ref x) { s with heap := h', toks := tk' }) :
    After h₀ L m news s Q (fun h h' r => ∃ x, r = .ref x ∧ h.get? x = none ∧ h'.get? x = some o) := by
  rintro r h' tk' F N got ⟨x, rfl, hn, ho⟩
  exact h x h' tk' F (got _ _ hn ho _ N)
/-- a known value comes back -/
theorem use_val {v : Value} (h : ∀ (h' : Heap) (tk' : Nat), Fr h₀ L h' m → News h₀ L h' news → Q v { s with heap := h', toks := tk' }) : After h₀ L m news s Q (fun h h' r => r = v) := by
  rintro r h' tk' F N got rfl
  exact h h' tk' F N
/-- a known int comes back -/
theorem use_int {z : Int} (h : ∀ (t : Tok) (h' : Heap) (tk' : Nat), Fr h₀ L h' m → News h₀ L h' news → Q (.int z t) { s with heap := h', toks := tk' }) : After h₀ L m news s Q (fun h h' r => ∃ t, r = .int z t) := by
  rintro r h' tk' F N got ⟨t, rfl⟩
  exact h t h' tk' F N
/-- an int of which something is told comes back -/
theorem use_intP {P : Int → Prop} (h : ∀ (z : Int) (t : Tok) (h' : Heap) (tk' : Nat), Fr h₀ L h' m → News h₀ L h' news → P z → Q (.int z t) { s with heap := h', toks := tk' }) : After h₀ L m news s Q (fun h h' r => ∃ c t, r = .int c t ∧ P c) := by
  rintro r h' tk' F N got ⟨z, t, rfl, hP⟩
  exact h z t h' tk' F N hP
end
end
local macro_rules | `(tactic| omega) => `(tactic| first | (with_reducible first | assumption | decide | exact k_n1 (by assumption) | exact k_n12 (by assumption) | exact dp_lt (by assumption) | exact cmp_le (by assumption) (by assumption) | exact cmp_ge (by assumption) (by assumption) | exact i_ge (by assumption) (by decide) | exact Nat.le_trans (by assumption) (by decide) | exact Nat.lt_of_le_of_lt (by assumption) (by decide) | exact Int.le_trans (by assumption) (by decide) | exact Int.lt_of_le_of_lt (by assumption) (by decide)) | (intro e; with_reducible ((repeat cases ‹_ ∧ _›); first | exact ne_lt e (by assumption) | exact ne_gt e (by assumption) | exact absurd e (by assumption) | exact absurd (Eq.symm e) (by assumption))) | fail)
local macro_rules | `(tactic| walk_at "pad0") => `(tactic| skip)
section
open PySem PySem.W PyProof.Rows PySem.Calls
set_option linter.unusedVariables false
theorem w_off_Add : True := by
  w_top off
  trivial
def AddI1 (B : Int) (as bs pre found : List Int) (carry : Int) : Prop := Ok B found ∧ 0 ≤ carry ∧ carry ≤ 1 ∧ val B found + B ^ pre.length * carry = val B (as.take pre.length) + val B (bs.take pre.length)
def AddI2 (B : Int) (as bs found : List Int) (carry : Int) : Prop := Ok B found ∧ 0 ≤ carry ∧ carry ≤ 1 ∧ val B found + B ^ found.length * carry = val B as + val B (bs.take found.length)
theorem addI1_start {B : Int} {as bs : List Int} : AddI1 B as bs [] [] 0 := ⟨Ok.nil, by decide, by decide, by simp [val]⟩
theorem addI2_start {B : Int} {as bs pre found : List Int} {carry : Int} (h : AddI1 B as bs pre found carry) (hl : found.length = pre.length) (hp : pre.length = as.length) : AddI2 B as bs found carry := by
  obtain ⟨h1, h2, h3, h4⟩ := h
  refine ⟨h1, h2, h3, ?_⟩
  rw [← hl] at h4
  rw [h4, val_take_all (xs := as) (Nat.le_of_eq (hl.trans hp).symm)]
theorem half_le {B c : Int} (hp : 0 < B) (hc0 : 0 ≤ c) (hlt : c < 2 * B) : 0 ≤ c / B ∧ c / B ≤ 1 := by
  exact ⟨Int.ediv_nonneg hc0 (Int.le_of_lt hp), Int.le_of_lt_add_one (Int.ediv_lt_of_lt_mul hp hlt)⟩
theorem carry_lt {c a x y B : Int} (hc : c = a + (x + y)) (h : a ≤ 1) (hx : x < B) (hy : y < B) : c < 2 * B := by omega
theorem carry_lt2 {c a x B : Int} (hc : c = a + x) (h : a ≤ 1) (h0 : 0 ≤ x) (hx : x < B) : c < 2 * B := by omega
theorem addI1_turn {K : Nat} {as bs pre found : List Int} {carry c z : Int} (hi : AddI1 (2 ^ K) as bs pre found carry) (hl : found.length = pre.length) (ha : pre.length < as.length) (hb : pre.length < bs.length) (hA : Ok (2 ^ K) as) (hB : Ok (2 ^ K) bs)
    (hc : c = carry + (bs.getD pre.length 0 + as.getD pre.length 0)) : AddI1 (2 ^ K) as bs (pre ++ [z]) (found ++ [Builtin.bitAnd c (1 * 2 ^ K - 1)]) (c.fdiv (2 ^ K)) := by
  obtain ⟨h1, h2, h3, h4⟩ := hi
  have hp : (0 : Int) < 2 ^ K := Int.pow_pos (by decide)
  have hx := hA.getD hp pre.length
  have hy := hB.getD hp pre.length
  have hc0 : 0 ≤ c := hc ▸ Int.add_nonneg h2 (Int.add_nonneg hy.1 hx.1)
  rw [and_mask hc0, fdiv_pos hc0 hp]
  have hd := half_le hp hc0 (carry_lt hc h3 hy.2 hx.2)
  refine ⟨h1.snoc (Int.emod_nonneg _ (Int.ne_of_gt hp)) (Int.emod_lt_of_pos _ hp), hd.1, hd.2, ?_⟩
  simp only [List.length_append, List.length_singleton]
  rw [carry_step hp hl h4 hc0, val_take_succ ha, val_take_succ hb]
  grind
theorem addI2_turn {K : Nat} {as bs found : List Int} {carry c : Int} {i : Nat} (hi : AddI2 (2 ^ K) as bs found carry) (hil : i = found.length) (hb : found.length < bs.length) (hB : Ok (2 ^ K) bs)
    (hc : c = carry + bs.getD i 0) : AddI2 (2 ^ K) as bs (found ++ [Builtin.bitAnd c (1 * 2 ^ K - 1)]) (c.fdiv (2 ^ K)) := by
  obtain ⟨h1, h2, h3, h4⟩ := hi
  subst hil
  have hp : (0 : Int) < 2 ^ K := Int.pow_pos (by decide)
  have hy := hB.getD hp found.length
  have hc0 : 0 ≤ c := hc ▸ Int.add_nonneg h2 hy.1
  rw [and_mask hc0, fdiv_pos hc0 hp]
  have hd := half_le hp hc0 (carry_lt2 hc h3 hy.1 hy.2)
  refine ⟨h1.snoc (Int.emod_nonneg _ (Int.ne_of_gt hp)) (Int.emod_lt_of_pos _ hp), hd.1, hd.2, ?_⟩
  simp only [List.length_append, List.length_singleton]
  rw [carry_step hp rfl h4 hc0, val_take_succ hb]
  grind
theorem addI1_step {kN k carry : Int} {kPre found as bs : List Int} (e : kN = 0 + (kPre.length : Int)) (h : kPre.length < as.length) (hab : as.length ≤ bs.length) (hl : found.length = kPre.length) (hi : AddI1 (2 ^ k.toNat) as bs kPre found carry) (hA : Ok (2 ^ k.toNat) as) (hB : Ok (2 ^ k.toNat) bs) :
    (found ++ [Builtin.bitAnd (carry + (bs.getD kN.toNat 0 + as.getD kN.toNat 0)) (1 * 2 ^ k.toNat - 1)]).length = (kPre ++ [kN]).length ∧
    AddI1 (2 ^ k.toNat) as bs (kPre ++ [kN]) (found ++ [Builtin.bitAnd (carry + (bs.getD kN.toNat 0 + as.getD kN.toNat 0)) (1 * 2 ^ k.toNat - 1)]) ((carry + (bs.getD kN.toNat 0 + as.getD kN.toNat 0)).fdiv (2 ^ k.toNat)) := by
  have e1 : kN.toNat = kPre.length := by rw [e, Int.zero_add, Int.toNat_natCast]
  exact ⟨by rw [List.length_append, List.length_append, hl]; rfl, addI1_turn hi hl h (Nat.lt_of_lt_of_le h hab) hA hB (by rw [e1])⟩
theorem addI2_step {kN k carry : Int} {kPre found as bs : List Int} (e : kN = (as.length : Int) + (kPre.length : Int)) (h : as.length + kPre.length < bs.length) (hl : found.length = as.length + kPre.length) (hi : AddI2 (2 ^ k.toNat) as bs found carry) (hB : Ok (2 ^ k.toNat) bs) :
    (found ++ [Builtin.bitAnd (carry + bs.getD kN.toNat 0) (1 * 2 ^ k.toNat - 1)]).length = as.length + (kPre ++ [kN]).length ∧
    AddI2 (2 ^ k.toNat) as bs (found ++ [Builtin.bitAnd (carry + bs.getD kN.toNat 0) (1 * 2 ^ k.toNat - 1)]) ((carry + bs.getD kN.toNat 0).fdiv (2 ^ k.toNat)) :=
  ⟨by rw [List.length_append, List.length_append, hl]; rfl, addI2_turn hi (by rw [e, hl, ← Int.natCast_add, Int.toNat_natCast]) (hl ▸ h) hB rfl⟩
theorem add_len {f a b : Nat} (h : f = a + ((b : Int) - (a : Int)).toNat) (hab : a ≤ b) : f = b := by omega
theorem add_end1 {K : Nat} {as bs found : List Int} {carry a b : Int} (hK : 1 ≤ K) (hi : AddI2 (2 ^ K) as bs found carry) (hl : found.length = bs.length) (ha : Lim (2 ^ K) as a) (hb : Lim (2 ^ K) bs b) (hc : carry > 0) : Lim (2 ^ K) (found ++ [carry]) (a + b) := by
  obtain ⟨h1, h2, h3, h4⟩ := hi
  have h2 : (2 : Int) ≤ 2 ^ K := pw_mono (a := 1) (by decide) hK
  refine ⟨h1.snoc (Int.le_of_lt hc) (Int.lt_of_le_of_lt h3 (Int.lt_of_lt_of_le (by decide) h2)), Nrm.snoc (Int.ne_of_gt hc), ?_⟩
  rw [val_snoc, h4, ha.2.2, val_take_all (Nat.le_of_eq hl.symm), hb.2.2]
theorem add_end0 {K : Nat} {as bs found : List Int} {carry a b : Int} (hi : AddI2 (2 ^ K) as bs found carry) (hl : found.length = bs.length) (ha : Lim (2 ^ K) as a) (hb : Lim (2 ^ K) bs b) (hc : ¬ carry > 0) : Lim (2 ^ K) found (a + b) := by
  obtain ⟨h1, h2, h3, h4⟩ := hi
  have hp : (0 : Int) < 2 ^ K := Int.pow_pos (by decide)
  have hc : carry = 0 := Int.le_antisymm (Int.not_lt.mp hc) h2
  subst hc
  have hv : val (2 ^ K) found = a + b := by
    rw [Int.mul_zero, Int.add_zero] at h4
    rw [h4, ha.2.2, val_take_all (Nat.le_of_eq hl.symm), hb.2.2]
  refine ⟨h1, nrm_of hp h1 fun hne => ?_, hv⟩
  have h5 : bs ≠ [] := by intro e; subst e; exact hne (List.length_eq_zero_iff.mp (by simpa using hl))
  have := val_ge hp hb.1 hb.2.1 h5
  have h6 := ha.nonneg hp
  rw [hb.2.2] at this
  rw [hl, hv]; exact Int.le_trans this (Int.le_add_of_nonneg_left h6)
set_option maxRecDepth 100000 in
set_option maxHeartbeats 4000000 in
theorem t_add {w : World} {la lb : Addr} {k : Int} {kt : Tok} {as bs : List Int} {na nb : Int} : Ct w 86 [.ref la, .ref lb, .int k kt] 20
    (fun h => LAt h la as ∧ LAt h lb bs ∧ 8 ≤ k ∧ k ≤ 12 ∧ as.length ≤ 1000 ∧ bs.length ≤ 1000 ∧ Lim (2 ^ k.toNat) as na ∧ Lim (2 ^ k.toNat) bs nb)
    (fun h h' r => ∃ rs, LNew h h' r rs ∧ Lim (2 ^ k.toNat) rs (na + nb)) := by
  refine Ct.mk ?_
  k_fill
  intro mean mg mb dp un gd cn cs a ccd cl outer A₀ base h₀ L m s Q E B F X T hk hpre hdp hun hret
  refine wpAny_call ?_
  obtain ⟨⟨va, hA, hIA⟩, ⟨vb, hB, hIB⟩, h8, h12, hla, hlb, hLa, hLb⟩ := hpre
  have hk0 := k_nn h8
  have hkb := k_big h12
  have hk1 := k_n1 h8
  have hq1 := l_62 (l_4 hla)
  have hq2 := l_62 (l_4 hlb)
  have hdp1 := dp_lt hdp
  k_dflt (refine' enter_pure ?k1 ?k2 ?k3 ?k5 ?kA ?kF ?kK ?k6 ?k7 ?k8 ?k9 ?kB ?_ ?c2 ?c3 ?c4 ?c5; (case kA => exact rfl); (case kF => exact rfl); (case kK => assumption); (case k1 => k_asm); (case k2 => k_asm); (case k3 => k_asm); (case k5 => k_asm); (case k6 => k_is); (case k7 => k_is); (case k8 => ktr_room); (case k9 => exact BindsTo.of_eq rfl); (case c5 => decide); (case kB => exact locs rfl); (case c2 => exact rfl); (case c3 => exact rfl); (case c4 => exact rfl); k_whole)
  intro L' h' tk0 F' N' B' X' T'
  replace F' := fr_lookup [(Str.ofString "w", Value.int k kt), (Str.ofString "b", Value.ref lb), (Str.ofString "a", Value.ref la)] F'
  dsimp only [kstB] at F'
  (try dsimp only)
  (try k_fold)
  (refine hideQE ?_; intro Qb hqb)
  refine cut_first (fun s' => ∃ (x y : Addr) (vx vy : List Value) (xs ys : List Int) (nx ny : Int) (h2 : Heap) (tk2 : Nat), s' = { s with heap := h2, toks := tk2 } ∧ Fr s.heap L' h2 (kstB (fun _ => none) [(Str.ofString "w", Value.int k kt), (Str.ofString "b", Value.ref y), (Str.ofString "a", Value.ref x)]) ∧
      s.heap.IsList x vx.toArray ∧ IntsAre vx xs ∧ s.heap.IsList y vy.toArray ∧ IntsAre vy ys ∧ xs.length ≤ 1000 ∧ ys.length ≤ xs.length ∧ Lim (2 ^ k.toNat) xs nx ∧ Lim (2 ^ k.toNat) ys ny ∧ na + nb = ny + nx) ?_ ?_
  · intro Qf hqf
    repeat' (first | ((fail_if_success (with_reducible show wpAny _ _ (pyIter _) _ _ _)); (fail_if_success (with_reducible show wpAny _ _ (exec (Stmt.While _ _ _ _) _) _ _ _)); (fail_if_success (with_reducible show InvEndN _ _ _ _ _ _ _)); (fail_if_success (with_reducible show LedEnd _ _ _ _ _ _)); (fail_if_success (with_reducible show wpAny _ _ (PySem.call (Value.type "enumerate") _) _ _ _)); (fail_if_success (with_reducible show KswEnd _ _ _ _ _ _ _ _ _ _ _ _)); (first | (k_unfold; (try dsimp only)) | (k_end; wrow_close) | walk1 | (dsimp only; walk1) | (leave1; walk_say "STEP leave1"; try dsimp only))) | fail "no step")
    · refine hqf _ ⟨lb, la, vb, va, bs, as, nb, na, _, _, rfl, ?_, hB, hIB, hA, hIA, hlb, Nat.le_of_lt (Int.ofNat_lt.mp (by assumption)), hLb, hLa, rfl⟩
      refine Fr.ext (by assumption) fun z => ?_
      dsimp only [kstB]
      by_cases h1 : z = Str.ofString "a"
      · subst h1; with_unfolding_all rfl
      by_cases h2 : z = Str.ofString "b"
      · subst h2; with_unfolding_all rfl
      simp only [if_neg h1, if_neg h2]
    · exact hqf _ ⟨la, lb, va, vb, as, bs, na, nb, _, _, rfl, by assumption, hA, hIA, hB, hIB, hla, Nat.le_of_not_lt (fun hh => absurd (Int.ofNat_lt.mpr hh) (by assumption)), hLa, hLb, Int.add_comm _ _⟩
  clear F' N' hla hlb hLa hLb hIA hIB hA hB
  rintro _ ⟨x, y, vx, vy, xs, ys, nx, ny, h2, tk2, rfl, F2, hA, hIA, hB, hIB, hlx, hxy, hX, hY, hsum⟩
  have N2 : News s.heap L' h2 [] := News.nil
  clear hq1 hq2
  have hlx4 := l_4 hlx
  have hly4 := Nat.le_trans hxy hlx4
  have hq1 := l_62 hlx4
  have hq2 := l_62 hly4
  have hq3 := l_i62 hlx4
  have hq4 := l_i62 hly4
  have hq5 := l_m62 (l := xs.length)
  have hq6 := l_m62 (l := ys.length)
  dsimp only [kstB] at F2
  repeat' (first | ((fail_if_success (with_reducible show wpAny _ _ (pyIter _) _ _ _)); (fail_if_success (with_reducible show wpAny _ _ (exec (Stmt.While _ _ _ _) _) _ _ _)); (fail_if_success (with_reducible show InvEndN _ _ _ _ _ _ _)); (fail_if_success (with_reducible show LedEnd _ _ _ _ _ _)); (fail_if_success (with_reducible show wpAny _ _ (PySem.call (Value.type "enumerate") _) _ _ _)); (fail_if_success (with_reducible show KswEnd _ _ _ _ _ _ _ _ _ _ _ _)); (first | (k_unfold; (try dsimp only)) | (k_end; wrow_close) | walk1 | (dsimp only; walk1) | (leave1; walk_say "STEP leave1"; try dsimp only))) | fail "no step")
  k_with "state" => (refine ⟨rfl, ?_⟩; exact addI1_start)
  k_state (fun pre found carry => found.length = pre.length ∧ AddI1 (2^k.toNat) ys xs pre found carry) "found" "carry"
  · k_with_none
    (with_reducible rename AddI1 _ _ _ _ _ _ => hi9)
    (with_reducible rename _ = 0 + (List.length kPre : Int) => hkN)
    have hf0 := lp_p (l := ys.length) kLt
    have hf1 := lp_nn hkN
    have hf2 := lp_lt (l := ys.length) hkN kLt
    have hf3 := lp_63 hf2 hly4
    have hf5 := Int.lt_of_lt_of_le hf2 (Int.ofNat_le.mpr hxy)
    (with_reducible rename IntsAre _ _ => hI9)
    (with_reducible rename List.length _ = List.length kPre => hl9)
    have hf4 := lp_len hI9.length hl9 hf0 hly4
    repeat' (first | ((fail_if_success (with_reducible show wpAny _ _ (pyIter _) _ _ _)); (fail_if_success (with_reducible show wpAny _ _ (exec (Stmt.While _ _ _ _) _) _ _ _)); (fail_if_success (with_reducible show InvEndN _ _ _ _ _ _ _)); (fail_if_success (with_reducible show LedEnd _ _ _ _ _ _)); (fail_if_success (with_reducible show wpAny _ _ (PySem.call (Value.type "enumerate") _) _ _ _)); (fail_if_success (with_reducible show KswEnd _ _ _ _ _ _ _ _ _ _ _ _)); (first | (k_unfold; (try dsimp only)) | (k_end; wrow_close) | walk1 | (dsimp only; walk1) | (leave1; walk_say "STEP leave1"; try dsimp only))) | fail "no step")
    ((rename News _ _ _ _ => nE'); (try simp only [List.push_toArray] at nE'); (refine' kst_end ⟨_, _, _, _, _⟩ (by assumption) nE' (by first | kst_in | kst_inAny) (by first | (intro p hp; kst_mem) | kst_anyIn) (by rfl) (by kst_facts) (by kst_all) (by kst_same) ?_); (try dsimp only))
    exact addI1_step hkN hf0 hxy hl9 hi9 hY.1 hX.1
  · k_with_none
    (with_reducible rename AddI1 _ _ _ _ _ _ => hi9)
    (with_reducible rename List.length _ = List.length (rangeKs _ _) => hl9)
    have hi10 := addI2_start hi9 hl9 (by simp [rangeKs_length])
    simp only [rangeKs_length, Int.sub_zero, Int.toNat_natCast] at hl9
    repeat' (first | ((fail_if_success (with_reducible show wpAny _ _ (pyIter _) _ _ _)); (fail_if_success (with_reducible show wpAny _ _ (exec (Stmt.While _ _ _ _) _) _ _ _)); (fail_if_success (with_reducible show InvEndN _ _ _ _ _ _ _)); (fail_if_success (with_reducible show LedEnd _ _ _ _ _ _)); (fail_if_success (with_reducible show wpAny _ _ (PySem.call (Value.type "enumerate") _) _ _ _)); (fail_if_success (with_reducible show KswEnd _ _ _ _ _ _ _ _ _ _ _ _)); (first | (k_unfold; (try dsimp only)) | (k_end; wrow_close) | walk1 | (dsimp only; walk1) | (leave1; walk_say "STEP leave1"; try dsimp only))) | fail "no step")
    k_with "state" => (refine ⟨?_, ?_⟩; (simp only [List.length_nil]; exact hl9); exact hi10)
    k_state (fun pre found carry => found.length = ys.length + pre.length ∧ AddI2 (2^k.toNat) ys xs found carry) "found" "carry"
    · k_with_none
      (with_reducible rename AddI2 _ _ _ _ _ => hi11)
      (with_reducible rename _ = (List.length ys : Int) + (List.length kPre : Int) => hkN)
      have hf0 := lq_p (l := xs.length) kLt
      have hf1 := lq_nn hkN
      have hf2 := lq_lt (l := xs.length) hkN kLt
      have hf3 := lp_63 hf2 hlx4
      (with_reducible rename IntsAre _ _ => hI9)
      (with_reducible rename List.length _ = List.length ys + List.length kPre => hl11)
      have hf4 := lp_len hI9.length hl11 hf0 hlx4
      repeat' (first | ((fail_if_success (with_reducible show wpAny _ _ (pyIter _) _ _ _)); (fail_if_success (with_reducible show wpAny _ _ (exec (Stmt.While _ _ _ _) _) _ _ _)); (fail_if_success (with_reducible show InvEndN _ _ _ _ _ _ _)); (fail_if_success (with_reducible show LedEnd _ _ _ _ _ _)); (fail_if_success (with_reducible show wpAny _ _ (PySem.call (Value.type "enumerate") _) _ _ _)); (fail_if_success (with_reducible show KswEnd _ _ _ _ _ _ _ _ _ _ _ _)); (first | (k_unfold; (try dsimp only)) | (k_end; wrow_close) | walk1 | (dsimp only; walk1) | (leave1; walk_say "STEP leave1"; try dsimp only))) | fail "no step")
      ((rename News _ _ _ _ => nE'); (try simp only [List.push_toArray] at nE'); (refine' kst_end ⟨_, _, _, _, _⟩ (by assumption) nE' (by first | kst_in | kst_inAny) (by first | (intro p hp; kst_mem) | kst_anyIn) (by rfl) (by kst_facts) (by kst_all) (by kst_same) ?_); (try dsimp only))
      exact addI2_step hkN hf0 hl11 hi11 hX.1
    · k_with_none
      (with_reducible rename AddI2 _ _ _ _ _ => hi11)
      (with_reducible rename List.length _ = List.length _ + List.length (rangeKs _ _) => hl11)
      rw [rangeKs_length] at hl11
      have hl12 := add_len hl11 hxy
      (with_reducible rename IntsAre _ _ => hI9)
      have hf4 := lp_len2 hI9.length (hl12 ▸ hlx4)
      repeat' (first | ((fail_if_success (with_reducible show wpAny _ _ (pyIter _) _ _ _)); (fail_if_success (with_reducible show wpAny _ _ (exec (Stmt.While _ _ _ _) _) _ _ _)); (fail_if_success (with_reducible show InvEndN _ _ _ _ _ _ _)); (fail_if_success (with_reducible show LedEnd _ _ _ _ _ _)); (fail_if_success (with_reducible show wpAny _ _ (PySem.call (Value.type "enumerate") _) _ _ _)); (fail_if_success (with_reducible show KswEnd _ _ _ _ _ _ _ _ _ _ _ _)); (first | (k_unfold; (try dsimp only)) | (k_end; wrow_close) | walk1 | (dsimp only; walk1) | (leave1; walk_say "STEP leave1"; try dsimp only))) | fail "no step")
      · (((refine hqb _ _ ?_); (try dsimp only); repeat' (first | ((fail_if_success (with_reducible show wpAny _ _ (pyIter _) _ _ _)); (fail_if_success (with_reducible show wpAny _ _ (exec (Stmt.While _ _ _ _) _) _ _ _)); (fail_if_success (with_reducible show InvEndN _ _ _ _ _ _ _)); (fail_if_success (with_reducible show LedEnd _ _ _ _ _ _)); (fail_if_success (with_reducible show wpAny _ _ (PySem.call (Value.type "enumerate") _) _ _ _)); (fail_if_success (with_reducible show KswEnd _ _ _ _ _ _ _ _ _ _ _ _)); (first | (k_unfold; (try dsimp only)) | (k_end; wrow_close) | walk1 | (dsimp only; walk1) | (leave1; walk_say "STEP leave1"; try dsimp only))) | fail "no step")); (try simp only [List.push_toArray] at *); (refine' close_listQ hret ?cF ?cN ?cM ?cI ?cP; (case cF => assumption); (case cN => assumption); (case cM => k_mem); (case cI => first | assumption | exact intsAre_snoc (by assumption))))
        (case cP => rw [hsum]; exact add_end1 hk1 hi11 hl12 hY hX (by assumption))
      · (((refine hqb _ _ ?_); (try dsimp only); repeat' (first | ((fail_if_success (with_reducible show wpAny _ _ (pyIter _) _ _ _)); (fail_if_success (with_reducible show wpAny _ _ (exec (Stmt.While _ _ _ _) _) _ _ _)); (fail_if_success (with_reducible show InvEndN _ _ _ _ _ _ _)); (fail_if_success (with_reducible show LedEnd _ _ _ _ _ _)); (fail_if_success (with_reducible show wpAny _ _ (PySem.call (Value.type "enumerate") _) _ _ _)); (fail_if_success (with_reducible show KswEnd _ _ _ _ _ _ _ _ _ _ _ _)); (first | (k_unfold; (try dsimp only)) | (k_end; wrow_close) | walk1 | (dsimp only; walk1) | (leave1; walk_say "STEP leave1"; try dsimp only))) | fail "no step")); (try simp only [List.push_toArray] at *); (refine' close_listQ hret ?cF ?cN ?cM ?cI ?cP; (case cF => assumption); (case cN => assumption); (case cM => k_mem); (case cI => first | assumption | exact intsAre_snoc (by assumption))))
        (case cP => rw [hsum]; exact add_end0 hi11 hl12 hY hX (by assumption))
end
local macro_rules | `(tactic| walk_at "pad1") => `(tactic| skip)
section
open PySem PySem.W PyProof.Rows PySem.Calls
set_option linter.unusedVariables false
set_option linter.unusedSimpArgs false
theorem w_off_NatOf : True := by
  w_top off
  trivial
def NatI (B n : Int) (found : List Int) (number : Int) : Prop := Ok B found ∧ 0 ≤ number ∧ val B found + B ^ found.length * number = n ∧ (number = 0 → Nrm found)
theorem natI_start {B n : Int} (h : 0 ≤ n) : NatI B n [] n := ⟨Ok.nil, h, by simp [val], fun _ => Nrm.nil⟩
theorem natI_turn {K : Nat} {n number : Int} {found : List Int} (hK : 1 ≤ K) (h : NatI (2 ^ K) n found number) (hp : 0 < number) :
    NatI (2 ^ K) n (found ++ [Builtin.bitAnd number (1 * 2 ^ K - 1)]) (number.fdiv (2 ^ K)) ∧ (number.fdiv (2 ^ K)).toNat < number.toNat := by
  obtain ⟨h1, h2, h3, h4⟩ := h
  have hB : (2 : Int) ≤ 2 ^ K := pw_mono (a := 1) (by decide) hK
  rw [and_mask h2, fdiv_pos h2 (by omega)]
  have hd : 0 ≤ number / 2 ^ K := Int.ediv_nonneg h2 (by omega)
  have hm := Int.emod_nonneg number (show (2 : Int) ^ K ≠ 0 by omega)
  have hm' := Int.emod_lt_of_pos number (show (0 : Int) < 2 ^ K by omega)
  have e := Int.emod_add_mul_ediv number (2 ^ K)
  have hlt : number / 2 ^ K < number := by
    have : 2 * (number / 2 ^ K) ≤ 2 ^ K * (number / 2 ^ K) := Int.mul_le_mul_of_nonneg_right hB hd
    omega
  refine ⟨⟨h1.snoc hm hm', hd, ?_, fun hz => Nrm.snoc ?_⟩, by omega⟩
  · simp only [List.length_append, List.length_singleton]
    rw [carry_step (i := found.length) (by omega) rfl h3 h2]; grind
  · rw [hz] at e; intro h0; rw [h0] at e; simp at e; omega
theorem natI_end {B n number : Int} {found : List Int} (h : NatI B n found number) (hc : ¬ 0 < number) : Lim B found n := by
  obtain ⟨h1, h2, h3, h4⟩ := h
  have h0 : number = 0 := by omega
  subst h0
  exact ⟨h1, h4 rfl, by simpa using h3⟩
set_option maxRecDepth 100000 in
set_option maxHeartbeats 4000000 in
theorem t_nat_of {w : World} {k n : Int} {kt nt : Tok} : Ct w 65 [.int n nt, .int k kt] 20
    (fun h => 8 ≤ k ∧ k ≤ 12 ∧ 0 ≤ n ∧ n ≤ 1000)
    (fun h h' r => ∃ rs, LNew h h' r rs ∧ Lim (2 ^ k.toNat) rs n) := by
  refine Ct.mk ?_
  k_fill
  intro mean mg mb dp un gd cn cs a ccd cl outer A₀ base h₀ L m s Q E B F X T hk hpre hdp hun hret
  refine wpAny_call ?_
  obtain ⟨h8, h12, hn0, hn1⟩ := hpre
  k_dflt (refine' enter_pure ?k1 ?k2 ?k3 ?k5 ?kA ?kF ?kK ?k6 ?k7 ?k8 ?k9 ?kB ?_ ?c2 ?c3 ?c4 ?c5; (case kA => exact rfl); (case kF => exact rfl); (case kK => assumption); (case k1 => k_asm); (case k2 => k_asm); (case k3 => k_asm); (case k5 => k_asm); (case k6 => k_is); (case k7 => k_is); (case k8 => ktr_room); (case k9 => exact BindsTo.of_eq rfl); (case c5 => decide); (case kB => exact locs rfl); (case c2 => exact rfl); (case c3 => exact rfl); (case c4 => exact rfl); k_whole)
  intro L' h' tk0 F' N' B' X' T'
  replace F' := fr_lookup [(Str.ofString "w", Value.int k kt), (Str.ofString "number", Value.int n nt)] F'
  dsimp only [kstB] at F'
  (try dsimp only)
  (try k_fold)
  (refine hideQE ?_; intro Qb hqb)
  repeat' (first | ((fail_if_success (with_reducible show wpAny _ _ (pyIter _) _ _ _)); (fail_if_success (with_reducible show wpAny _ _ (exec (Stmt.While _ _ _ _) _) _ _ _)); (fail_if_success (with_reducible show InvEndN _ _ _ _ _ _ _)); (fail_if_success (with_reducible show LedEnd _ _ _ _ _ _)); (fail_if_success (with_reducible show wpAny _ _ (PySem.call (Value.type "enumerate") _) _ _ _)); (fail_if_success (with_reducible show KswEnd _ _ _ _ _ _ _ _ _ _ _ _)); (first | (k_unfold; (try dsimp only)) | (k_end; wrow_close) | walk1 | (dsimp only; walk1) | (leave1; walk_say "STEP leave1"; try dsimp only))) | fail "no step")
  k_with "state" => exact ⟨by simp only [List.length_nil]; exact nat_0 hn1, natI_start hn0⟩
  have hI0 : IntsAre [] [] := IntsAre.nil
  k_while (fun _ found number => found.length + number.toNat ≤ 1000 ∧ NatI (2 ^ k.toNat) n found number) (fun _ found number => number.toNat) "found" "number"
  k_with_none
  (with_reducible rename NatI _ _ _ _ => hi9)
  (with_reducible rename IntsAre _ _ => hI9)
  (with_reducible rename _ + _ ≤ 1000 => hr9)
  have hf4 := nat_len hI9.length hr9
  have hk1 := k_n1 h8
  repeat' (first | ((fail_if_success (with_reducible show wpAny _ _ (pyIter _) _ _ _)); (fail_if_success (with_reducible show wpAny _ _ (exec (Stmt.While _ _ _ _) _) _ _ _)); (fail_if_success (with_reducible show InvEndN _ _ _ _ _ _ _)); (fail_if_success (with_reducible show LedEnd _ _ _ _ _ _)); (fail_if_success (with_reducible show wpAny _ _ (PySem.call (Value.type "enumerate") _) _ _ _)); (fail_if_success (with_reducible show KswEnd _ _ _ _ _ _ _ _ _ _ _ _)); (first | (k_unfold; (try dsimp only)) | (k_end; wrow_close) | walk1 | (dsimp only; walk1) | (leave1; walk_say "STEP leave1"; try dsimp only))) | fail "no step")
  · ((rename News _ _ _ _ => nE'); (try simp only [List.push_toArray] at nE'); (refine' ksw_end ⟨_, _, _, _, _⟩ (by assumption) nE' (by kst_in) (by kst_facts) (by kst_all) (by ksw_same) ?kP ?kM); (try dsimp only))
    · have hi10 := natI_turn hk1 hi9 (by assumption)
      refine ⟨?_, hi10.1⟩
      rw [List.length_append, List.length_singleton]
      exact nat_room hr9 hi10.2
    · exact (natI_turn hk1 hi9 (by assumption)).2
  · (((refine hqb _ _ ?_); (try dsimp only); repeat' (first | ((fail_if_success (with_reducible show wpAny _ _ (pyIter _) _ _ _)); (fail_if_success (with_reducible show wpAny _ _ (exec (Stmt.While _ _ _ _) _) _ _ _)); (fail_if_success (with_reducible show InvEndN _ _ _ _ _ _ _)); (fail_if_success (with_reducible show LedEnd _ _ _ _ _ _)); (fail_if_success (with_reducible show wpAny _ _ (PySem.call (Value.type "enumerate") _) _ _ _)); (fail_if_success (with_reducible show KswEnd _ _ _ _ _ _ _ _ _ _ _ _)); (first | (k_unfold; (try dsimp only)) | (k_end; wrow_close) | walk1 | (dsimp only; walk1) | (leave1; walk_say "STEP leave1"; try dsimp only))) | fail "no step")); (try simp only [List.push_toArray] at *); (refine' close_listQ hret ?cF ?cN ?cM ?cI ?cP; (case cF => assumption); (case cN => assumption); (case cM => k_mem); (case cI => first | assumption | exact intsAre_snoc (by assumption))))
    (case cP => exact natI_end hi9 (by omega))
end
local macro_rules | `(tactic| walk_at "pad2") => `(tactic| skip)
section
open PySem PySem.W PyProof.Rows PySem.Calls
set_option linter.unusedVariables false
set_option linter.unusedSimpArgs false
theorem w_off_Normal : True := by
  w_top off
  trivial
def NorI (ns : List Int) (e : Int) : Prop := ∀ i : Nat, e ≤ i → i < ns.length → ns.getD i 0 = 0
theorem norI_turn {ns : List Int} {e : Int} (h : NorI ns e) (h0 : 0 < e) (hz : ns.getD (e - 1).toNat 0 = 0) (hl : e ≤ ns.length := by omega) : 0 ≤ e - 1 ∧ e - 1 ≤ (ns.length : Int) ∧ NorI ns (e - 1) := by
  refine ⟨by omega, by omega, fun i h1 h2 => ?_⟩
  by_cases he : e ≤ i
  · exact h i he h2
  · have : i = (e - 1).toNat := by omega
    rw [this]; exact hz
theorem norI_end {ns : List Int} {e : Int} (h : NorI ns e) (h0 : 0 ≤ e) (hl : e ≤ ns.length) (hz : ¬ 0 < e ∨ ns.getD (e - 1).toNat 0 ≠ 0) :
    ∃ j : Nat, j ≤ ns.length ∧ ns.take e.toNat = ns.take j ∧ NorI ns j ∧ (j = 0 ∨ ns.getD (j - 1) 0 ≠ 0) := by
  refine ⟨e.toNat, by omega, rfl, by rw [Int.toNat_of_nonneg h0]; exact h, ?_⟩
  rcases hz with hz | hz
  · exact .inl (by omega)
  · exact .inr (by have : e.toNat - 1 = (e - 1).toNat := by omega
                   rw [this]; exact hz)
/-- what normal leaves has the same value, and is normal -/
theorem nor_lim {B : Int} (hB : 0 < B) {ns : List Int} (ho : Ok B ns) {j : Nat} (hj : j ≤ ns.length) (hz : NorI ns j) (hl : j = 0 ∨ ns.getD (j - 1) 0 ≠ 0) : Lim B (ns.take j) (val B ns) := by
  have hdrop : ∀ (xs : List Int), (∀ i, i < xs.length → xs.getD i 0 = 0) → val B xs = 0 := by
    intro xs
    induction xs with
    | nil => intro _; rfl
    | cons x r ih =>
      intro h
      have h0 := h 0 (by simp)
      have h1 := ih fun i hi => by have := h (i + 1) (by simpa using hi); simpa using this
      simp at h0
      simp [val, h0, h1]
  refine ⟨ho.take j, ?_, ?_⟩
  · rcases hl with rfl | hl
    · exact Nrm.nil
    · intro x hx
      by_cases hj0 : j = 0
      · subst hj0; simp at hx
      rw [List.getLast?_eq_getElem?, List.length_take, Nat.min_eq_left hj, List.getElem?_take_of_lt (by omega)] at hx
      rw [List.getD_eq_getElem?_getD, hx] at hl
      simpa using hl
  · have e := val_append B (ns.take j) (ns.drop j)
    rw [List.take_append_drop] at e
    rw [e, hdrop (ns.drop j)]
    · simp
    · intro i hi
      have := hz (j + i) (by omega) (by simp at hi; omega)
      simpa [List.getD_eq_getElem?_getD] using this
set_option maxRecDepth 100000 in
set_option maxHeartbeats 4000000 in
theorem t_normal {w : World} {la : Addr} {ns : List Int} : Ct w 58 [.ref la] 20
    (fun h => LAt h la ns ∧ ns.length ≤ 4000)
    (fun h h' r => ∃ rs, LNew h h' r rs ∧ ∃ j : Nat, j ≤ ns.length ∧ rs = ns.take j ∧ NorI ns j ∧ (j = 0 ∨ ns.getD (j - 1) 0 ≠ 0)) := by
  refine Ct.mk ?_
  k_fill
  intro mean mg mb dp un gd cn cs a ccd cl outer A₀ base h₀ L m s Q E B F X T hk hpre hdp hun hret
  refine wpAny_call ?_
  obtain ⟨⟨va, hA, hIA⟩, hla⟩ := hpre
  k_dflt (refine' enter_pure ?k1 ?k2 ?k3 ?k5 ?kA ?kF ?kK ?k6 ?k7 ?k8 ?k9 ?kB ?_ ?c2 ?c3 ?c4 ?c5; (case kA => exact rfl); (case kF => exact rfl); (case kK => assumption); (case k1 => k_asm); (case k2 => k_asm); (case k3 => k_asm); (case k5 => k_asm); (case k6 => k_is); (case k7 => k_is); (case k8 => ktr_room); (case k9 => exact BindsTo.of_eq rfl); (case c5 => decide); (case kB => exact locs rfl); (case c2 => exact rfl); (case c3 => exact rfl); (case c4 => exact rfl); k_whole)
  intro L' h' tk0 F' N' B' X' T'
  replace F' := fr_lookup [(Str.ofString "a", Value.ref la)] F'
  dsimp only [kstB] at F'
  (try dsimp only)
  (try k_fold)
  (refine hideQE ?_; intro Qb hqb)
  repeat' (first | ((fail_if_success (with_reducible show wpAny _ _ (pyIter _) _ _ _)); (fail_if_success (with_reducible show wpAny _ _ (exec (Stmt.While _ _ _ _) _) _ _ _)); (fail_if_success (with_reducible show InvEndN _ _ _ _ _ _ _)); (fail_if_success (with_reducible show LedEnd _ _ _ _ _ _)); (fail_if_success (with_reducible show wpAny _ _ (PySem.call (Value.type "enumerate") _) _ _ _)); (fail_if_success (with_reducible show KswEnd _ _ _ _ _ _ _ _ _ _ _ _)); (first | (k_unfold; (try dsimp only)) | (k_end; wrow_close) | walk1 | (dsimp only; walk1) | (leave1; walk_say "STEP leave1"; try dsimp only))) | fail "no step")
  k_with "state" => exact ⟨by omega, by omega, fun i h1 h2 => by omega⟩
  k_while (fun _ e => 0 ≤ e ∧ e ≤ (ns.length : Int) ∧ NorI ns e) (fun _ e => e.toNat) "end"
  k_with_none
  (with_reducible rename NorI _ _ => hi9)
  repeat' (first | ((fail_if_success (with_reducible show wpAny _ _ (pyIter _) _ _ _)); (fail_if_success (with_reducible show wpAny _ _ (exec (Stmt.While _ _ _ _) _) _ _ _)); (fail_if_success (with_reducible show InvEndN _ _ _ _ _ _ _)); (fail_if_success (with_reducible show LedEnd _ _ _ _ _ _)); (fail_if_success (with_reducible show wpAny _ _ (PySem.call (Value.type "enumerate") _) _ _ _)); (fail_if_success (with_reducible show KswEnd _ _ _ _ _ _ _ _ _ _ _ _)); (first | (k_unfold; (try dsimp only)) | (k_end; wrow_close) | walk1 | (dsimp only; walk1) | (leave1; walk_say "STEP leave1"; try dsimp only))) | fail "no step")
  · ((rename News _ _ _ _ => nE'); (try simp only [List.push_toArray] at nE'); (refine' ksw_end ⟨_, _⟩ (by assumption) nE' (by kst_in) (by kst_facts) (by kst_all) (by ksw_same) ?kP ?kM); (try dsimp only))
    · exact norI_turn hi9 (by assumption) (by assumption)
    · omega
  · (((refine hqb _ _ ?_); (try dsimp only); repeat' (first | ((fail_if_success (with_reducible show wpAny _ _ (pyIter _) _ _ _)); (fail_if_success (with_reducible show wpAny _ _ (exec (Stmt.While _ _ _ _) _) _ _ _)); (fail_if_success (with_reducible show InvEndN _ _ _ _ _ _ _)); (fail_if_success (with_reducible show LedEnd _ _ _ _ _ _)); (fail_if_success (with_reducible show wpAny _ _ (PySem.call (Value.type "enumerate") _) _ _ _)); (fail_if_success (with_reducible show KswEnd _ _ _ _ _ _ _ _ _ _ _ _)); (first | (k_unfold; (try dsimp only)) | (k_end; wrow_close) | walk1 | (dsimp only; walk1) | (leave1; walk_say "STEP leave1"; try dsimp only))) | fail "no step")); (try simp only [List.push_toArray] at *); (refine' close_listQ hret ?cF ?cN ?cM ?cI ?cP; (case cF => assumption); (case cN => assumption); (case cM => k_mem); (case cI => first | assumption | exact intsAre_snoc (by assumption))))
    (case cP => exact norI_end hi9 (by omega) (by omega) (.inr (by assumption)))
  · (((refine hqb _ _ ?_); (try dsimp only); repeat' (first | ((fail_if_success (with_reducible show wpAny _ _ (pyIter _) _ _ _)); (fail_if_success (with_reducible show wpAny _ _ (exec (Stmt.While _ _ _ _) _) _ _ _)); (fail_if_success (with_reducible show InvEndN _ _ _ _ _ _ _)); (fail_if_success (with_reducible show LedEnd _ _ _ _ _ _)); (fail_if_success (with_reducible show wpAny _ _ (PySem.call (Value.type "enumerate") _) _ _ _)); (fail_if_success (with_reducible show KswEnd _ _ _ _ _ _ _ _ _ _ _ _)); (first | (k_unfold; (try dsimp only)) | (k_end; wrow_close) | walk1 | (dsimp only; walk1) | (leave1; walk_say "STEP leave1"; try dsimp only))) | fail "no step")); (try simp only [List.push_toArray] at *); (refine' close_listQ hret ?cF ?cN ?cM ?cI ?cP; (case cF => assumption); (case cN => assumption); (case cM => k_mem); (case cI => first | assumption | exact intsAre_snoc (by assumption))))
    (case cP => exact norI_end hi9 (by omega) (by omega) (.inl (by omega)))
end
local macro_rules | `(tactic| walk_at "pad3") => `(tactic| skip)
section
open PySem PySem.W PyProof.Rows PySem.Calls
set_option linter.unusedVariables false
set_option linter.unusedSimpArgs false
theorem w_off_Even : True := by
  w_top off
  trivial
theorem even_val {K : Nat} (hK : 1 ≤ K) {ns : List Int} {n : Int} (h : Lim (2 ^ K) ns n) : n % 2 = ns.getD 0 0 % 2 := by
  obtain ⟨_, _, rfl⟩ := h
  cases ns with
  | nil => rfl
  | cons x r =>
    obtain ⟨c, rfl⟩ := Nat.le.dest hK
    have : (2 : Int) ^ (1 + c) = 2 * 2 ^ c := by rw [Int.pow_add]; rfl
    simp only [val, this, List.getD_cons_zero]
    rw [Int.mul_assoc, Int.add_mul_emod_self_left]
set_option maxRecDepth 100000 in
set_option maxHeartbeats 4000000 in
theorem t_even {w : World} {la : Addr} {ns : List Int} {n : Int} {K : Nat} : Ct w 72 [.ref la] 20
    (fun h => LAt h la ns ∧ ns.length ≤ 4000 ∧ Lim (2 ^ K) ns n ∧ 1 ≤ K)
    (fun h h' r => r = .bool (decide (n % 2 = 0))) := by
  refine Ct.mk ?_
  k_fill
  intro mean mg mb dp un gd cn cs a ccd cl outer A₀ base h₀ L m s Q E B F X T hk hpre hdp hun hret
  refine wpAny_call ?_
  obtain ⟨⟨va, hA, hIA⟩, hla, hL, hK⟩ := hpre
  k_dflt (refine' enter_pure ?k1 ?k2 ?k3 ?k5 ?kA ?kF ?kK ?k6 ?k7 ?k8 ?k9 ?kB ?_ ?c2 ?c3 ?c4 ?c5; (case kA => exact rfl); (case kF => exact rfl); (case kK => assumption); (case k1 => k_asm); (case k2 => k_asm); (case k3 => k_asm); (case k5 => k_asm); (case k6 => k_is); (case k7 => k_is); (case k8 => ktr_room); (case k9 => exact BindsTo.of_eq rfl); (case c5 => decide); (case kB => exact locs rfl); (case c2 => exact rfl); (case c3 => exact rfl); (case c4 => exact rfl); k_whole)
  intro L' h' tk0 F' N' B' X' T'
  replace F' := fr_lookup [(Str.ofString "a", Value.ref la)] F'
  dsimp only [kstB] at F'
  (try dsimp only)
  (try k_fold)
  (refine hideQE ?_; intro Qb hqb)
  have he := even_val hK hL
  have hl := hL.len_iff (Int.pow_pos (by decide))
  repeat' (first | ((fail_if_success (with_reducible show wpAny _ _ (pyIter _) _ _ _)); (fail_if_success (with_reducible show wpAny _ _ (exec (Stmt.While _ _ _ _) _) _ _ _)); (fail_if_success (with_reducible show InvEndN _ _ _ _ _ _ _)); (fail_if_success (with_reducible show LedEnd _ _ _ _ _ _)); (fail_if_success (with_reducible show wpAny _ _ (PySem.call (Value.type "enumerate") _) _ _ _)); (fail_if_success (with_reducible show KswEnd _ _ _ _ _ _ _ _ _ _ _ _)); (first | (k_unfold; (try dsimp only)) | (k_end; wrow_close) | walk1 | (dsimp only; walk1) | (leave1; walk_say "STEP leave1"; try dsimp only))) | fail "no step")
  · ((refine hqb _ _ ?_); (try dsimp only); repeat' (first | ((fail_if_success (with_reducible show wpAny _ _ (pyIter _) _ _ _)); (fail_if_success (with_reducible show wpAny _ _ (exec (Stmt.While _ _ _ _) _) _ _ _)); (fail_if_success (with_reducible show InvEndN _ _ _ _ _ _ _)); (fail_if_success (with_reducible show LedEnd _ _ _ _ _ _)); (fail_if_success (with_reducible show wpAny _ _ (PySem.call (Value.type "enumerate") _) _ _ _)); (fail_if_success (with_reducible show KswEnd _ _ _ _ _ _ _ _ _ _ _ _)); (first | (k_unfold; (try dsimp only)) | (k_end; wrow_close) | walk1 | (dsimp only; walk1) | (leave1; walk_say "STEP leave1"; try dsimp only))) | fail "no step"))
    refine hret _ _ _ (Fr.keep (by assumption)) ?_
    have h1 : ns.length = 0 := Int.natCast_eq_zero.mp (by assumption)
    have h0 : n = 0 := Int.le_antisymm (Int.not_lt.mp fun x => absurd (hl.mpr x) (by rw [h1]; decide)) (hL.nonneg (Int.pow_pos (by decide)))
    simp [h0, h1]
  · ((refine hqb _ _ ?_); (try dsimp only); repeat' (first | ((fail_if_success (with_reducible show wpAny _ _ (pyIter _) _ _ _)); (fail_if_success (with_reducible show wpAny _ _ (exec (Stmt.While _ _ _ _) _) _ _ _)); (fail_if_success (with_reducible show InvEndN _ _ _ _ _ _ _)); (fail_if_success (with_reducible show LedEnd _ _ _ _ _ _)); (fail_if_success (with_reducible show wpAny _ _ (PySem.call (Value.type "enumerate") _) _ _ _)); (fail_if_success (with_reducible show KswEnd _ _ _ _ _ _ _ _ _ _ _ _)); (first | (k_unfold; (try dsimp only)) | (k_end; wrow_close) | walk1 | (dsimp only; walk1) | (leave1; walk_say "STEP leave1"; try dsimp only))) | fail "no step"))
    refine hret _ _ _ (Fr.keep (by assumption)) ?_
    rw [bitAnd_m1, he, show Int.toNat 0 = 0 from rfl]
    generalize ns.getD 0 0 % 2 = z
    by_cases h : z = 0 <;> simp [h]
end
local macro_rules | `(tactic| walk_at "pad4") => `(tactic| skip)
section
open PySem PySem.W PyProof.Rows PySem.Calls
set_option linter.unusedVariables false
set_option linter.unusedSimpArgs false
theorem w_off_Cmp : True := by
  w_top off
  trivial
def CmpI (as bs : List Int) (k : Nat) : Prop := ∀ i : Nat, as.length ≤ i + k → i < as.length → as.getD i 0 = bs.getD i 0
theorem cmp_len {K : Nat} {as bs : List Int} {na nb : Int} (ha : Lim (2 ^ K) as na) (hb : Lim (2 ^ K) bs nb) (h : as.length < bs.length) : na < nb := by
  refine Int.not_le.mp fun hl => ?_
  have := hb.len_le (Int.pow_pos (by decide) : (0:Int) < 2 ^ K) ha hl
  omega
theorem val_getD {B : Int} : ∀ {xs ys : List Int}, xs.length = ys.length → (∀ i, i < xs.length → xs.getD i 0 = ys.getD i 0) → xs = ys
  | [], [], _, _ => rfl
  | x :: r, y :: q, hl, h => by
    have h0 := h 0 (by simp)
    have h1 := val_getD (B := B) (xs := r) (ys := q) (by simpa using hl) fun i hi => by have := h (i + 1) (by simpa using hi); simpa using this
    simp at h0
    rw [h0, h1]
theorem cmp_lt {B : Int} (hB : 0 < B) {as bs : List Int} (hA : Ok B as) (hO : Ok B bs) (hl : as.length = bs.length) {i : Nat} (hi : i < as.length) (he : ∀ j, i < j → j < as.length → as.getD j 0 = bs.getD j 0) (hlt : as.getD i 0 < bs.getD i 0) : val B as < val B bs := by
  have e1 := val_append B (as.take (i + 1)) (as.drop (i + 1))
  have e2 := val_append B (bs.take (i + 1)) (bs.drop (i + 1))
  rw [List.take_append_drop, List.length_take, Nat.min_eq_left (by first | exact hi | exact hl ▸ hi)] at e1 e2
  have hd : as.drop (i + 1) = bs.drop (i + 1) := by
    refine val_getD (B := B) (by simp [hl]) fun j hj => ?_
    have := he (i + 1 + j) (Nat.lt_of_lt_of_le (Nat.lt_succ_self i) (Nat.le_add_right _ _)) (by rw [List.length_drop] at hj; exact Nat.add_lt_of_lt_sub' hj)
    simpa [List.getD_eq_getElem?_getD] using this
  rw [e1, e2, hd, val_take_succ hi, val_take_succ (hl ▸ hi)]
  have h1 := val_lt hB (hA.take i)
  have h2 := val_nonneg hB (hO.take i)
  rw [List.length_take, Nat.min_eq_left (Nat.le_of_lt hi)] at h1
  have h3 := pw_pos hB i
  have h4 : B ^ i * (as.getD i 0 + 1) ≤ B ^ i * bs.getD i 0 := Int.mul_le_mul_of_nonneg_left (Int.add_one_le_of_lt hlt) (Int.le_of_lt h3)
  rw [Int.mul_add, Int.mul_one] at h4
  omega
theorem cmp_at {as bs : List Int} {k i : Nat} (hl : as.length = bs.length) (hi : CmpI as bs k) (hn : i + 1 + k = as.length) :
    (∀ {K : Nat} {na nb : Int}, Lim (2 ^ K) as na → Lim (2 ^ K) bs nb → as.getD i 0 < bs.getD i 0 → na < nb) ∧
    (∀ {K : Nat} {na nb : Int}, Lim (2 ^ K) as na → Lim (2 ^ K) bs nb → bs.getD i 0 < as.getD i 0 → nb < na) ∧
    (as.getD i 0 = bs.getD i 0 → ∀ {z : Int} {pre : List Int}, pre.length = k → CmpI as bs (pre ++ [z]).length) := by
  have hlt : i < as.length := by omega
  have hge : ∀ j, i < j → as.length ≤ j + k := fun j h => by omega
  refine ⟨?_, ?_, ?_⟩
  · intro K na nb ha hb h
    rw [← ha.2.2, ← hb.2.2]
    exact cmp_lt (Int.pow_pos (by decide)) ha.1 hb.1 hl hlt (fun j h1 h2 => hi j (hge j h1) h2) h
  · intro K na nb ha hb h
    rw [← ha.2.2, ← hb.2.2]
    exact cmp_lt (Int.pow_pos (by decide)) hb.1 ha.1 hl.symm (hl ▸ hlt) (fun j h1 h2 => (hi j (hge j h1) (hl ▸ h2)).symm) h
  · intro h z pre hp j h1 h2
    rw [List.length_append, hp] at h1
    by_cases hj : i < j
    · exact hi j (hge j hj) h2
    · have : j = i := by simp at h1; omega
      rw [this]; exact h
theorem cp_p {l p : Nat} (h : p < ((l : Int) - 1 - -1).toNat) : p < l := by omega
theorem cp_nn {n : Int} {l p : Nat} (e : n = (l : Int) - 1 - (p : Int)) (h : p < l) : 0 ≤ n := by omega
theorem cp_lt {n : Int} {l p : Nat} (e : n = (l : Int) - 1 - (p : Int)) : n < l := by omega
theorem cp_i {n : Int} {l p : Nat} (e : n = (l : Int) - 1 - (p : Int)) (h : p < l) : n.toNat + 1 + p = l := by omega
theorem cp_m1 {l : Nat} : -2 ^ 62 ≤ (l : Int) - 1 := by omega
theorem cp_m2 {l : Nat} (h : l ≤ 4000) : (l : Int) - 1 < 2 ^ 62 := by omega
theorem cp_d {l : Nat} : l ≤ ((l : Int) - 1 - -1).toNat := by omega
theorem cp_k {l i : Nat} (h1 : l ≤ i + ([] : List Int).length) (h2 : i < l) : False := by simp at h1; omega
theorem iffm {a b : Int} (h : a < b) : (-1 : Int) < 0 ↔ a < b := ⟨fun _ => h, fun _ => by decide⟩
theorem iffp {a b : Int} (h : b < a) : (1 : Int) < 0 ↔ a < b := ⟨fun h' => absurd h' (by decide), fun h' => absurd h' (Int.lt_asymm h)⟩
theorem iff0 {a b : Int} (h : a = b) : (0 : Int) < 0 ↔ a < b := ⟨fun h' => absurd h' (by decide), fun h' => absurd (h ▸ h') (Int.lt_irrefl _)⟩
theorem lt3 {a b : Int} (h1 : a ≠ b) (h2 : ¬ a < b) : b < a := Int.lt_iff_le_and_ne.mpr ⟨Int.not_lt.mp h2, Ne.symm h1⟩
theorem cmp_all {as bs : List Int} {k : Nat} (hl : as.length = bs.length) (hi : CmpI as bs k) (hk : as.length ≤ k) {K : Nat} {na nb : Int} (ha : Lim (2 ^ K) as na) (hb : Lim (2 ^ K) bs nb) : na = nb := by
  rw [← ha.2.2, ← hb.2.2, val_getD (B := 0) (xs := as) (ys := bs) hl fun i h => hi i (Nat.le_trans hk (Nat.le_add_left _ _)) h]
set_option maxRecDepth 100000 in
set_option maxHeartbeats 4000000 in
theorem t_compare {w : World} {la lb : Addr} {as bs : List Int} {na nb : Int} {K : Nat} : Ct w 79 [.ref la, .ref lb] 20
    (fun h => LAt h la as ∧ LAt h lb bs ∧ as.length ≤ 4000 ∧ bs.length ≤ 4000 ∧ Lim (2 ^ K) as na ∧ Lim (2 ^ K) bs nb)
    (fun h h' r => ∃ c t, r = .int c t ∧ (c < 0 ↔ na < nb)) := by
  refine Ct.mk ?_
  k_fill
  intro mean mg mb dp un gd cn cs a ccd cl outer A₀ base h₀ L m s Q E B F X T hk hpre hdp hun hret
  refine wpAny_call ?_
  obtain ⟨⟨va, hA, hIA⟩, ⟨vb, hB, hIB⟩, hla, hlb, hLa, hLb⟩ := hpre
  have hq1 := l_62 hla
  have hq2 := l_62 hlb
  have hq3 := cp_m1 (l := as.length)
  have hq4 := cp_m2 hla
  have hdp1 := dp_lt hdp
  k_dflt (refine' enter_pure ?k1 ?k2 ?k3 ?k5 ?kA ?kF ?kK ?k6 ?k7 ?k8 ?k9 ?kB ?_ ?c2 ?c3 ?c4 ?c5; (case kA => exact rfl); (case kF => exact rfl); (case kK => assumption); (case k1 => k_asm); (case k2 => k_asm); (case k3 => k_asm); (case k5 => k_asm); (case k6 => k_is); (case k7 => k_is); (case k8 => ktr_room); (case k9 => exact BindsTo.of_eq rfl); (case c5 => decide); (case kB => exact locs rfl); (case c2 => exact rfl); (case c3 => exact rfl); (case c4 => exact rfl); k_whole)
  intro L' h' tk0 F' N' B' X' T'
  replace F' := fr_lookup [(Str.ofString "b", Value.ref lb), (Str.ofString "a", Value.ref la)] F'
  dsimp only [kstB] at F'
  (try dsimp only)
  (try k_fold)
  (refine hideQE ?_; intro Qb hqb)
  repeat' (first | ((fail_if_success (with_reducible show wpAny _ _ (pyIter _) _ _ _)); (fail_if_success (with_reducible show wpAny _ _ (exec (Stmt.While _ _ _ _) _) _ _ _)); (fail_if_success (with_reducible show InvEndN _ _ _ _ _ _ _)); (fail_if_success (with_reducible show LedEnd _ _ _ _ _ _)); (fail_if_success (with_reducible show wpAny _ _ (PySem.call (Value.type "enumerate") _) _ _ _)); (fail_if_success (with_reducible show KswEnd _ _ _ _ _ _ _ _ _ _ _ _)); (first | (k_unfold; (try dsimp only)) | (k_end; wrow_close) | walk1 | (dsimp only; walk1) | (leave1; walk_say "STEP leave1"; try dsimp only))) | fail "no step")
  · ((refine hqb _ _ ?_); (try dsimp only); repeat' (first | ((fail_if_success (with_reducible show wpAny _ _ (pyIter _) _ _ _)); (fail_if_success (with_reducible show wpAny _ _ (exec (Stmt.While _ _ _ _) _) _ _ _)); (fail_if_success (with_reducible show InvEndN _ _ _ _ _ _ _)); (fail_if_success (with_reducible show LedEnd _ _ _ _ _ _)); (fail_if_success (with_reducible show wpAny _ _ (PySem.call (Value.type "enumerate") _) _ _ _)); (fail_if_success (with_reducible show KswEnd _ _ _ _ _ _ _ _ _ _ _ _)); (first | (k_unfold; (try dsimp only)) | (k_end; wrow_close) | walk1 | (dsimp only; walk1) | (leave1; walk_say "STEP leave1"; try dsimp only))) | fail "no step"))
    exact hret _ _ _ (Fr.keep (by assumption)) ⟨_, _, rfl, iffm (cmp_len hLa hLb (Int.ofNat_lt.mp (by assumption)))⟩
  · ((refine hqb _ _ ?_); (try dsimp only); repeat' (first | ((fail_if_success (with_reducible show wpAny _ _ (pyIter _) _ _ _)); (fail_if_success (with_reducible show wpAny _ _ (exec (Stmt.While _ _ _ _) _) _ _ _)); (fail_if_success (with_reducible show InvEndN _ _ _ _ _ _ _)); (fail_if_success (with_reducible show LedEnd _ _ _ _ _ _)); (fail_if_success (with_reducible show wpAny _ _ (PySem.call (Value.type "enumerate") _) _ _ _)); (fail_if_success (with_reducible show KswEnd _ _ _ _ _ _ _ _ _ _ _ _)); (first | (k_unfold; (try dsimp only)) | (k_end; wrow_close) | walk1 | (dsimp only; walk1) | (leave1; walk_say "STEP leave1"; try dsimp only))) | fail "no step"))
    exact hret _ _ _ (Fr.keep (by assumption)) ⟨_, _, rfl, iffp (cmp_len hLb hLa (Int.ofNat_lt.mp (lt3 (by assumption) (by assumption))))⟩
  · (with_reducible rename Fr _ _ _ _ => lF')
    (with_reducible rename News _ _ _ _ => lN')
    (with_reducible rename IsRange _ _ _ _ _ _ _ _ => rgX)
    (with_reducible rename (as.length : Int) = _ => hlen)
    replace hlen := Int.ofNat.inj hlen
    (with_unfolding_all refine' kst_rangeD (σ := Unit) (fun _ => []) (fun _ => []) (fun _ => True) [] (fun pre _ => CmpI as bs pre.length) () (by rfl) rgX (small_down (by omega) (by omega) (by omega) (by omega)) (rangeSize_downNat _ _) lF' lN' trivial ?kk ?kp ?_ ?_)
    case kk => exact List.forall_mem_nil _
    case kp => exact fun i h1 h2 => (cp_k h1 h2).elim
    · rintro ⟨⟩ kPre kN kT kU kH kTk kOwn kEq kLt kOff - kInv kFr kNews
      dsimp only [kstB] at kFr
      simp only [List.nil_append] at kNews
      have hf0 := cp_p kLt
      have hi9 := cmp_at hlen kInv (cp_i kEq hf0)
      have hf1 := cp_nn kEq hf0
      have hf2 := cp_lt kEq
      have hf3 := lp_63 hf2 hla
      have hf4 : kN < (bs.length : Int) := hlen ▸ hf2
      repeat' (first | ((fail_if_success (with_reducible show wpAny _ _ (pyIter _) _ _ _)); (fail_if_success (with_reducible show wpAny _ _ (exec (Stmt.While _ _ _ _) _) _ _ _)); (fail_if_success (with_reducible show InvEndN _ _ _ _ _ _ _)); (fail_if_success (with_reducible show LedEnd _ _ _ _ _ _)); (fail_if_success (with_reducible show wpAny _ _ (PySem.call (Value.type "enumerate") _) _ _ _)); (fail_if_success (with_reducible show KswEnd _ _ _ _ _ _ _ _ _ _ _ _)); (first | (k_unfold; (try dsimp only)) | (k_end; wrow_close) | walk1 | (dsimp only; walk1) | (leave1; walk_say "STEP leave1"; try dsimp only))) | fail "no step")
      · ((refine hqb _ _ ?_); (try dsimp only); repeat' (first | ((fail_if_success (with_reducible show wpAny _ _ (pyIter _) _ _ _)); (fail_if_success (with_reducible show wpAny _ _ (exec (Stmt.While _ _ _ _) _) _ _ _)); (fail_if_success (with_reducible show InvEndN _ _ _ _ _ _ _)); (fail_if_success (with_reducible show LedEnd _ _ _ _ _ _)); (fail_if_success (with_reducible show wpAny _ _ (PySem.call (Value.type "enumerate") _) _ _ _)); (fail_if_success (with_reducible show KswEnd _ _ _ _ _ _ _ _ _ _ _ _)); (first | (k_unfold; (try dsimp only)) | (k_end; wrow_close) | walk1 | (dsimp only; walk1) | (leave1; walk_say "STEP leave1"; try dsimp only))) | fail "no step"))
        exact hret _ _ _ (Fr.keep (by assumption)) ⟨_, _, rfl, iffm (hi9.1 hLa hLb (by assumption))⟩
      · ((refine hqb _ _ ?_); (try dsimp only); repeat' (first | ((fail_if_success (with_reducible show wpAny _ _ (pyIter _) _ _ _)); (fail_if_success (with_reducible show wpAny _ _ (exec (Stmt.While _ _ _ _) _) _ _ _)); (fail_if_success (with_reducible show InvEndN _ _ _ _ _ _ _)); (fail_if_success (with_reducible show LedEnd _ _ _ _ _ _)); (fail_if_success (with_reducible show wpAny _ _ (PySem.call (Value.type "enumerate") _) _ _ _)); (fail_if_success (with_reducible show KswEnd _ _ _ _ _ _ _ _ _ _ _ _)); (first | (k_unfold; (try dsimp only)) | (k_end; wrow_close) | walk1 | (dsimp only; walk1) | (leave1; walk_say "STEP leave1"; try dsimp only))) | fail "no step"))
        exact hret _ _ _ (Fr.keep (by assumption)) ⟨_, _, rfl, iffp (hi9.2.1 hLa hLb (lt3 (by assumption) (by assumption)))⟩
      · ((rename News _ _ _ _ => nE'); (try simp only [List.push_toArray] at nE'); (refine' kst_end () (by assumption) nE' (by first | kst_in | kst_inAny) (by first | (intro p hp; kst_mem) | kst_anyIn) (by rfl) (by kst_facts) (by kst_all) (by kst_same) ?_); (try dsimp only))
        exact hi9.2.2 (by assumption) rfl
    · rintro ⟨⟩ kU kH kTk - kInv kFr kNews
      dsimp only [kstB] at kFr
      repeat' (first | ((fail_if_success (with_reducible show wpAny _ _ (pyIter _) _ _ _)); (fail_if_success (with_reducible show wpAny _ _ (exec (Stmt.While _ _ _ _) _) _ _ _)); (fail_if_success (with_reducible show InvEndN _ _ _ _ _ _ _)); (fail_if_success (with_reducible show LedEnd _ _ _ _ _ _)); (fail_if_success (with_reducible show wpAny _ _ (PySem.call (Value.type "enumerate") _) _ _ _)); (fail_if_success (with_reducible show KswEnd _ _ _ _ _ _ _ _ _ _ _ _)); (first | (k_unfold; (try dsimp only)) | (k_end; wrow_close) | walk1 | (dsimp only; walk1) | (leave1; walk_say "STEP leave1"; try dsimp only))) | fail "no step")
      ((refine hqb _ _ ?_); (try dsimp only); repeat' (first | ((fail_if_success (with_reducible show wpAny _ _ (pyIter _) _ _ _)); (fail_if_success (with_reducible show wpAny _ _ (exec (Stmt.While _ _ _ _) _) _ _ _)); (fail_if_success (with_reducible show InvEndN _ _ _ _ _ _ _)); (fail_if_success (with_reducible show LedEnd _ _ _ _ _ _)); (fail_if_success (with_reducible show wpAny _ _ (PySem.call (Value.type "enumerate") _) _ _ _)); (fail_if_success (with_reducible show KswEnd _ _ _ _ _ _ _ _ _ _ _ _)); (first | (k_unfold; (try dsimp only)) | (k_end; wrow_close) | walk1 | (dsimp only; walk1) | (leave1; walk_say "STEP leave1"; try dsimp only))) | fail "no step"))
      exact hret _ _ _ (Fr.keep (by assumption)) ⟨_, _, rfl, iff0 (cmp_all hlen kInv (by rw [downKs_length]; exact cp_d) hLa hLb)⟩
end
local macro_rules | `(tactic| walk_at "room") => `(tactic| first | exact room_of (by assumption) (by decide) | exact Nat.le_of_ble_eq_true rfl | ktr_room)
local macro_rules | `(tactic| walk_at "units") => `(tactic| first | exact units_of (by assumption) (by decide) | exact Nat.le_of_ble_eq_true rfl | ktr_units)
local macro_rules | `(tactic| walk_at "kind") => `(tactic| first | exact rfl | assumption)
local macro_rules | `(tactic| walk_at "fin") => `(tactic| (intros; (try ((with_reducible rename News _ _ _ _ => N9); (dsimp only [List.cons_append, List.nil_append] at N9))); (try dsimp only); (try k_fold)))
local macro_rules | `(tactic| walk_at "sub") => `(tactic| first | assumption | exact List.mem_append_right _ (by walk_at "sub") | exact List.mem_append_left _ (by walk_at "sub") | exact List.mem_cons_of_mem _ (by walk_at "sub"))
local macro_rules | `(tactic| walk_at "pre") => `(tactic| repeat' (first | (with_reducible refine And.intro ?_ ?_) | assumption | exact LAt.up (by assumption) (by assumption) | exact LAt.of (by assumption) (by k_mem) (by assumption) | exact LAt.base (by assumption) (by assumption) (by assumption) | exact SAt.base (by assumption) (by assumption) (by assumption) | exact SAt.of (by assumption) (by k_mem) (by walk_at "pre") | exact NumL.num (by assumption) (by assumption) (fun p hp => by walk_at "sub") | exact Num.up (by assumption) (by assumption) | exact base_tup (by assumption) (by assumption) | exact lim_len (by assumption) (by assumption) (by omega) (by decide) | omega))
local macro_rules | `(tactic| walk_at "use") => `(tactic| with_reducible first | refine use_num ?_ | refine use_npair ?_ | refine use_rule ?_ | refine use_list ?_ | refine use_sg ?_ | refine use_obj ?_ | refine use_val ?_ | refine use_intP ?_ | refine use_int ?_)
local macro_rules | `(tactic| walk_at "call ref") => `(tactic| (k_here; (with_reducible show wpAny _ _ (PySem.call (Value.ref _) _) _ _ _); k_dflt (refine ct_go ?_; (first | refine' go_by t_lucas ?gA ?gB ?gC ?_ | refine' go_by t_lplain' ?gA ?gB ?gC ?_ | refine' go_by t_lsigned ?gA ?gB ?gC ?_ | refine' go_by t_lrule ?gA ?gB ?gC ?_ | refine' go_by t_llimbs ?gA ?gB ?gC ?_ | refine' go_by t_shalf' ?gA ?gB ?gC ?_ | refine' go_by t_smul' ?gA ?gB ?gC ?_ | refine' go_by t_ssub' ?gA ?gB ?gC ?_ | refine' go_by t_sadd' ?gA ?gB ?gC ?_ | refine' go_by t_sof ?gA ?gB ?gC ?_ | refine' go_by t_shift ?gA ?gB ?gC ?_ | refine' go_by t_even ?gA ?gB ?gC ?_ | refine' go_by t_mul ?gA ?gB ?gC ?_ | refine' go_by t_sadd ?gA ?gB ?gC ?_ | refine' go_by t_sneg ?gA ?gB ?gC ?_ | refine' go_by t_sub ?gA ?gB ?gC ?_ | refine' go_by t_add ?gA ?gB ?gC ?_ | refine' go_by t_nat_of ?gA ?gB ?gC ?_ | refine' go_by t_signed ?gA ?gB ?gC ?_ | refine' go_by t_normal ?gA ?gB ?gC ?_ | refine' go_by t_compare ?gA ?gB ?gC ?_); (case gA => walk_at "pre"); (case gB => walk_at "room"); (case gC => walk_at "units"); k_whole); walk_at "use"; walk_at "fin"))
section
open PySem PySem.W PyProof.Rows PySem.Calls
set_option linter.unusedVariables false
set_option linter.unusedSimpArgs false
theorem w_off_Sub : True := by
  w_top off
  trivial
def SubI (B : Int) (as bs : List Int) (i : Nat) (found : List Int) (borrow : Int) : Prop := found.length = i ∧ Ok B found ∧ 0 ≤ borrow ∧ borrow ≤ 1 ∧ val B found - B ^ i * borrow = val B (as.take i) - val B (bs.take i)
theorem val_take_succ' {B : Int} {xs : List Int} (i : Nat) : val B (xs.take (i + 1)) = val B (xs.take i) + B ^ i * xs.getD i 0 := by
  by_cases h : i < xs.length
  · exact val_take_succ h
  · rw [val_take_all (by omega), val_take_all (by omega)]
    simp [List.getD, Nat.le_of_not_lt h]
theorem sub_lo {a b y B : Int} (ha : 0 ≤ a) (hb : b ≤ 1) (hy : y < B) : 0 ≤ a - b - y + 1 * B := by omega
theorem sub_hi {z B : Int} (h : z < 0) : z + 1 * B < B := by omega
theorem sub_hi' {a b y B : Int} (ha : a < B) (hb : 0 ≤ b) (hy : 0 ≤ y) : a - b - y < B := by omega
theorem subI_turn {K : Nat} {as bs found : List Int} {i : Nat} {borrow y : Int} (hi : SubI (2 ^ K) as bs i found borrow) (ha : i < as.length) (hA : Ok (2 ^ K) as) (hB : Ok (2 ^ K) bs) (hy : y = bs.getD i 0) :
    (as.getD i 0 - borrow - y < 0 → SubI (2 ^ K) as bs (i + 1) (found ++ [as.getD i 0 - borrow - y + 1 * 2 ^ K]) 1) ∧
    (¬ as.getD i 0 - borrow - y < 0 → SubI (2 ^ K) as bs (i + 1) (found ++ [as.getD i 0 - borrow - y]) 0) := by
  obtain ⟨h0, h1, h2, h3, h4⟩ := hi
  have hp : (0 : Int) < 2 ^ K := Int.pow_pos (by decide)
  have hx := hA.getD hp i
  have hz := hB.getD hp i
  rw [← hy] at hz
  constructor
  · intro hlt
    refine ⟨by rw [List.length_append, h0]; rfl, h1.snoc (sub_lo hx.1 h3 hz.2) (sub_hi hlt), by decide, by decide, ?_⟩
    rw [val_snoc, h0, val_take_succ', val_take_succ', ← hy, Int.pow_succ]
    grind
  · intro hlt
    refine ⟨by rw [List.length_append, h0]; rfl, h1.snoc (Int.not_lt.mp hlt) (sub_hi' hx.2 h2 hz.1), by decide, by decide, ?_⟩
    rw [val_snoc, h0, val_take_succ', val_take_succ', ← hy, Int.pow_succ]
    grind
theorem getD_out {bs : List Int} {i : Nat} (h : ¬ (i : Int) < bs.length) : (0 : Int) = bs.getD i 0 := by simp [List.getD, show bs.length ≤ i by omega]
abbrev SubY {B : Int} {as bs found : List Int} {i : Nat} {bo : Int} (_h : SubI B as bs i found bo) (y : Int) : Prop := y = as.getD i 0 - bo - bs.getD i 0
theorem sub_y1 {kN b : Int} {p : Nat} {as bs : List Int} (e : kN = 0 + (p : Int)) : as.getD kN.toNat 0 - b - bs.getD kN.toNat 0 = as.getD p 0 - b - bs.getD p 0 := by rw [e, Int.zero_add, Int.toNat_natCast]
theorem sub_y2 {kN b : Int} {p : Nat} {as bs : List Int} (e : kN = 0 + (p : Int)) (h : ¬ kN < (bs.length : Int)) : as.getD kN.toNat 0 - b - 0 = as.getD p 0 - b - bs.getD p 0 := by
  rw [e, Int.zero_add] at h ⊢
  rw [← getD_out h, Int.toNat_natCast]
theorem sub_end {K : Nat} {as bs found : List Int} {i : Nat} {borrow na nb : Int} (hi : SubI (2 ^ K) as bs i found borrow) (h : i = as.length) (ha : Lim (2 ^ K) as na) (hb : Lim (2 ^ K) bs nb) (hle : nb ≤ na) : Ok (2 ^ K) found ∧ val (2 ^ K) found = na - nb := by
  obtain ⟨h0, h1, h2, h3, h4⟩ := hi
  have hp : (0 : Int) < 2 ^ K := Int.pow_pos (by decide)
  have hlen := hb.len_le (by omega) ha hle
  rw [val_take_all (by omega), val_take_all (by omega), ha.2.2, hb.2.2] at h4
  have hv := val_lt hp h1
  rw [h0] at hv
  refine ⟨h1, ?_⟩
  have hbz : borrow = 0 ∨ borrow = 1 := by omega
  rcases hbz with rfl | rfl
  · simpa using h4
  · simp at h4; omega
set_option maxRecDepth 100000 in
set_option maxHeartbeats 4000000 in
theorem t_sub {w : World} {la lb : Addr} {k : Int} {kt : Tok} {as bs : List Int} {na nb : Int} : Ct w 93 [.ref la, .ref lb, .int k kt] 50
    (fun h => LAt h la as ∧ LAt h lb bs ∧ 8 ≤ k ∧ k ≤ 12 ∧ as.length ≤ 1000 ∧ bs.length ≤ 1000 ∧ Lim (2 ^ k.toNat) as na ∧ Lim (2 ^ k.toNat) bs nb ∧ nb ≤ na)
    (fun h h' r => ∃ rs, LNew h h' r rs ∧ Lim (2 ^ k.toNat) rs (na - nb)) := by
  refine Ct.mk ?_
  k_fill
  intro mean mg mb dp un gd cn cs a ccd cl outer A₀ base h₀ L m s Q E B F X T hk hpre hdp hun hret
  refine wpAny_call ?_
  obtain ⟨⟨va, hA, hIA⟩, ⟨vb, hB, hIB⟩, h8, h12, hla, hlb, hLa, hLb, hle⟩ := hpre
  have hk0 := k_nn h8
  have hkb := k_big h12
  have hla4 := l_4 hla
  have hlb4 := l_4 hlb
  have hq1 := l_62 hla4
  have hq2 := l_62 hlb4
  have hq3 := l_i62 hla4
  have hq4 := l_m62 (l := as.length)
  have hdp1 := dp_lt hdp
  k_dflt (refine' enter_pure ?k1 ?k2 ?k3 ?k5 ?kA ?kF ?kK ?k6 ?k7 ?k8 ?k9 ?kB ?_ ?c2 ?c3 ?c4 ?c5; (case kA => exact rfl); (case kF => exact rfl); (case kK => assumption); (case k1 => k_asm); (case k2 => k_asm); (case k3 => k_asm); (case k5 => k_asm); (case k6 => k_is); (case k7 => k_is); (case k8 => ktr_room); (case k9 => exact BindsTo.of_eq rfl); (case c5 => decide); (case kB => exact locs rfl); (case c2 => exact rfl); (case c3 => exact rfl); (case c4 => exact rfl); k_whole)
  intro L' h' tk0 F' N' B' X' T'
  replace F' := fr_lookup [(Str.ofString "w", Value.int k kt), (Str.ofString "b", Value.ref lb), (Str.ofString "a", Value.ref la)] F'
  dsimp only [kstB] at F'
  (try dsimp only)
  (try k_fold)
  (refine hideQE ?_; intro Qb hqb)
  repeat' (first | ((fail_if_success (with_reducible show wpAny _ _ (pyIter _) _ _ _)); (fail_if_success (with_reducible show wpAny _ _ (exec (Stmt.While _ _ _ _) _) _ _ _)); (fail_if_success (with_reducible show InvEndN _ _ _ _ _ _ _)); (fail_if_success (with_reducible show LedEnd _ _ _ _ _ _)); (fail_if_success (with_reducible show wpAny _ _ (PySem.call (Value.type "enumerate") _) _ _ _)); (fail_if_success (with_reducible show KswEnd _ _ _ _ _ _ _ _ _ _ _ _)); (first | (k_unfold; (try dsimp only)) | (k_end; wrow_close) | walk1 | (dsimp only; walk1) | (leave1; walk_say "STEP leave1"; try dsimp only))) | fail "no step")
  k_with "state" => exact ⟨rfl, rfl, Ok.nil, by omega, by omega, by simp [val]⟩
  have hI0 : IntsAre [] [] := IntsAre.nil
  k_state (fun pre found borrow => found.length = pre.length ∧ SubI (2 ^ k.toNat) as bs pre.length found borrow) "found" "borrow"
  · k_with_none
    (with_reducible rename SubI _ _ _ _ _ _ => hi9)
    have hf0 := lp_p (l := as.length) (by assumption)
    have hf1 := lp_nn (by assumption)
    have hf2 := lp_lt (l := as.length) (by assumption) (by assumption)
    have hf3 := lp_63 hf2 hla4
    (with_reducible rename IntsAre _ _ => hI9)
    have hf4 := lp_len hI9.length (by assumption) hf0 hla4
    (with_reducible rename _ = 0 + (List.length kPre : Int) => hkN)
    (with_reducible rename Fr _ _ _ _ => lF')
    (with_reducible rename News _ _ _ _ => lN')
    refine cut_store (Str.ofString "limb") (SubY hi9) lF' lN' ?_ ?_
    ·
      intro Qf hqf
      repeat' (first | ((fail_if_success (with_reducible show wpAny _ _ (pyIter _) _ _ _)); (fail_if_success (with_reducible show wpAny _ _ (exec (Stmt.While _ _ _ _) _) _ _ _)); (fail_if_success (with_reducible show InvEndN _ _ _ _ _ _ _)); (fail_if_success (with_reducible show LedEnd _ _ _ _ _ _)); (fail_if_success (with_reducible show wpAny _ _ (PySem.call (Value.type "enumerate") _) _ _ _)); (fail_if_success (with_reducible show KswEnd _ _ _ _ _ _ _ _ _ _ _ _)); (first | (k_unfold; (try dsimp only)) | (k_end; wrow_close) | walk1 | (dsimp only; walk1) | (leave1; walk_say "STEP leave1"; try dsimp only))) | fail "no step")
      · exact hqf _ _ _ _ (sub_y1 hkN) (by assumption) (by assumption)
      · exact hqf _ _ _ _ (sub_y2 hkN (by assumption)) (by assumption) (by assumption)
    ·
      intro y t9 h9 tk9 hy9 F9 N9
      clear lF' lN'
      have hst := subI_turn hi9 hf0 hLa.1 hLb.1 rfl
      dsimp only [SubY] at hy9
      rw [← hy9] at hst
      clear hy9
      have hfl := hi9.1
      repeat' (first | ((fail_if_success (with_reducible show wpAny _ _ (pyIter _) _ _ _)); (fail_if_success (with_reducible show wpAny _ _ (exec (Stmt.While _ _ _ _) _) _ _ _)); (fail_if_success (with_reducible show InvEndN _ _ _ _ _ _ _)); (fail_if_success (with_reducible show LedEnd _ _ _ _ _ _)); (fail_if_success (with_reducible show wpAny _ _ (PySem.call (Value.type "enumerate") _) _ _ _)); (fail_if_success (with_reducible show KswEnd _ _ _ _ _ _ _ _ _ _ _ _)); (first | (k_unfold; (try dsimp only)) | (k_end; wrow_close) | walk1 | (dsimp only; walk1) | (leave1; walk_say "STEP leave1"; try dsimp only))) | fail "no step")
      all_goals (
        ((rename News _ _ _ _ => nE'); (try simp only [List.push_toArray] at nE'); (refine' kst_end ⟨_, _, _, _, _⟩ (by assumption) nE' (by first | kst_in | kst_inAny) (by first | (intro p hp; kst_mem) | kst_anyIn) (by rfl) (by kst_facts) (by kst_all) (by kst_same) ?_); (try dsimp only))
        rw [List.length_append, List.length_append, List.length_singleton, List.length_singleton, hfl])
      · exact ⟨rfl, hst.1 (by assumption)⟩
      · exact ⟨rfl, hst.2 (by assumption)⟩
  · k_with_none
    (with_reducible rename SubI _ _ _ _ _ _ => hi9)
    (with_reducible rename List.length _ = List.length (rangeKs _ _) => hl9)
    simp only [rangeKs_length, Int.sub_zero, Int.toNat_natCast] at hl9 hi9
    have hi10 := sub_end hi9 rfl hLa hLb hle
    repeat' (first | ((fail_if_success (with_reducible show wpAny _ _ (pyIter _) _ _ _)); (fail_if_success (with_reducible show wpAny _ _ (exec (Stmt.While _ _ _ _) _) _ _ _)); (fail_if_success (with_reducible show InvEndN _ _ _ _ _ _ _)); (fail_if_success (with_reducible show LedEnd _ _ _ _ _ _)); (fail_if_success (with_reducible show wpAny _ _ (PySem.call (Value.type "enumerate") _) _ _ _)); (fail_if_success (with_reducible show KswEnd _ _ _ _ _ _ _ _ _ _ _ _)); (first | (k_unfold; (try dsimp only)) | (k_end; wrow_close) | walk1 | (dsimp only; walk1) | (leave1; walk_say "STEP leave1"; try dsimp only))) | fail "no step")
    (((refine hqb _ _ ?_); (try dsimp only); repeat' (first | ((fail_if_success (with_reducible show wpAny _ _ (pyIter _) _ _ _)); (fail_if_success (with_reducible show wpAny _ _ (exec (Stmt.While _ _ _ _) _) _ _ _)); (fail_if_success (with_reducible show InvEndN _ _ _ _ _ _ _)); (fail_if_success (with_reducible show LedEnd _ _ _ _ _ _)); (fail_if_success (with_reducible show wpAny _ _ (PySem.call (Value.type "enumerate") _) _ _ _)); (fail_if_success (with_reducible show KswEnd _ _ _ _ _ _ _ _ _ _ _ _)); (first | (k_unfold; (try dsimp only)) | (k_end; wrow_close) | walk1 | (dsimp only; walk1) | (leave1; walk_say "STEP leave1"; try dsimp only))) | fail "no step")); (try simp only [List.push_toArray] at *); (refine' close_listQ hret ?cF ?cN ?cM ?cI ?cP; (case cF => assumption); (case cN => assumption); (case cM => k_mem); (case cI => first | assumption | exact intsAre_snoc (by assumption))))
    case cP =>
      (rename ∃ _, _ => hR9)
      obtain ⟨j9, hj9, e9, hz9, hl9⟩ := hR9
      subst e9
      rw [← hi10.2]
      exact nor_lim (Int.pow_pos (by decide)) hi10.1 hj9 hz9 hl9
end
section
open PySem PySem.W PyProof.Rows PySem.Calls
set_option linter.unusedVariables false
set_option linter.unusedSimpArgs false
theorem w_off_Shift : True := by
  w_top off
  trivial
theorem fdiv_one {A : Around} {E : Value → Shared → Prop} {s : Shared} {prog : Program} {w : World} {t u : Tok} {k : Int} {Q : Value → Shared → Prop} (hk : 2 ≤ k) (hk2 : k ≤ 12) (h : Q (.int 0 s.toks) { s with toks := s.toks + 1 }) : wpAny (model prog w) A (binaryOp .FloorDiv (.int 1 t) (.int k u)) Q E s := by
  refine floordiv_int (by omega) ?_ (Or.inl (PyProof.noPylong_small (by omega)))
  have : (1 : Int).fdiv k = 0 := by rw [fdiv_pos (by omega) (by omega)]; exact Int.ediv_eq_zero_of_lt (by omega) (by omega)
  rw [this]; exact h
theorem fmod_one {A : Around} {E : Value → Shared → Prop} {s : Shared} {prog : Program} {w : World} {t u : Tok} {k : Int} {Q : Value → Shared → Prop} (hk : 2 ≤ k) (h : Q (.int 1 s.toks) { s with toks := s.toks + 1 }) : wpAny (model prog w) A (binaryOp .Mod (.int 1 t) (.int k u)) Q E s := by
  refine mod_int' (by omega) ?_
  have : (1 : Int).fmod k = 1 := by rw [Int.fmod_eq_emod_of_nonneg _ (by omega)]; exact Int.emod_eq_of_lt (by omega) (by omega)
  rw [this]; exact h
theorem limb_small {K i : Nat} {xs : List Int} {n : Int} (hl : Lim (2 ^ K) xs n) (hK : K ≤ 12) : (xs.getD i 0).natAbs < 2 ^ 64 := by
  have hp : (0 : Int) < 2 ^ K := Int.pow_pos (by decide)
  have h1 := hl.1.getD hp i
  have h2 : (2 : Int) ^ K ≤ 2 ^ 12 := pw_mono (by decide) hK
  omega
local macro_rules | `(tactic| walk_at "binaryOp FloorDiv int int") => `(tactic| (k_here; refine fdiv_one (by omega) (by omega) ?_))
local macro_rules | `(tactic| walk_at "binaryOp Mod int int") => `(tactic| (k_here; refine fmod_one (by omega) ?_))
local macro_rules | `(tactic| walk_at "binaryOp LShift int int") => `(tactic| (k_here; (refine lshift_int_small (by omega) (by omega) ?kb3 ?_); (case kb3 => first | decide | assumption | exact limb_small (by assumption) (by omega))))
theorem bitOr_nat {x y : Int} (hx : 0 ≤ x) (hy : 0 ≤ y) : Builtin.bitOr x y = ((x.toNat ||| y.toNat : Nat) : Int) := by
  unfold Builtin.bitOr Builtin.bitAnd Builtin.bitNot
  simp only [show ¬ (0 ≤ -x - 1) by omega, show ¬ (0 ≤ -y - 1) by omega, decide_false]
  have h1 : -(-x - 1) - 1 = x := by omega
  have h2 : -(-y - 1) - 1 = y := by omega
  rw [h1, h2]; omega
/-- half of a limb, and the next limb's last bit above it -/
theorem half_nat {c x y : Nat} (h : x / 2 < 2 ^ c) : (x / 2 + 2 ^ c * y) % 2 ^ (c + 1) = x / 2 + 2 ^ c * (y % 2) := by
  rw [Nat.pow_succ, Nat.mod_mul, Nat.add_mul_mod_self_left, Nat.mod_eq_of_lt h, Nat.add_mul_div_left _ _ (Nat.two_pow_pos c), Nat.div_eq_of_lt h, Nat.zero_add]
theorem pow_cast (c : Nat) : ((2 ^ c : Nat) : Int) = 2 ^ c := Int.natCast_pow 2 c
theorem half_limb {K : Nat} (hK : 1 ≤ K) {x y : Int} (hx : 0 ≤ x) (hxl : x < 2 ^ K) (hy : 0 ≤ y) :
    let c := Builtin.bitAnd (Builtin.bitOr (x.fdiv (2 ^ 1)) (y * 2 ^ (K - 1))) (1 * 2 ^ K - 1)
    0 ≤ c ∧ c < 2 ^ K ∧ 2 * c = x - x % 2 + 2 ^ K * (y % 2) := by
  obtain ⟨c, rfl⟩ : ∃ c, K = c + 1 := ⟨K - 1, (Nat.sub_add_cancel hK).symm⟩
  obtain ⟨x, rfl⟩ := Int.eq_ofNat_of_zero_le hx
  obtain ⟨y, rfl⟩ := Int.eq_ofNat_of_zero_le hy
  have hlt : x / 2 < 2 ^ c := Nat.div_lt_of_lt_mul (by rw [Nat.mul_comm, ← Nat.pow_succ]; exact Int.ofNat_lt.mp (by rw [pow_cast]; exact hxl))
  have hor : Builtin.bitOr ((x : Int).fdiv (2 ^ 1)) ((y : Int) * 2 ^ (c + 1 - 1)) = ((x / 2 + 2 ^ c * y : Nat) : Int) := by
    have e : (y : Int) * 2 ^ (c + 1 - 1) = ((2 ^ c * y : Nat) : Int) := by rw [Nat.add_sub_cancel, Int.natCast_mul, pow_cast, Int.mul_comm]
    have e2 : (x : Int).fdiv (2 ^ 1) = ((x / 2 : Nat) : Int) := fdiv_pos hx (by decide)
    rw [e, e2, bitOr_nat (Int.natCast_nonneg _) (Int.natCast_nonneg _), Int.toNat_natCast, Int.toNat_natCast, Nat.or_comm, ← Nat.two_pow_add_eq_or_of_lt hlt, Nat.add_comm]
  intro c'
  have hc : c' = (x / 2 : Nat) + 2 ^ c * (y % 2 : Nat) := by
    show Builtin.bitAnd (Builtin.bitOr ((x : Int).fdiv (2 ^ 1)) ((y : Int) * 2 ^ (c + 1 - 1))) _ = _
    rw [hor, and_mask (Int.natCast_nonneg _), ← pow_cast, ← Int.natCast_emod, half_nat hlt, Int.natCast_add, Int.natCast_mul, pow_cast]
  have hp : (0 : Int) < 2 ^ (c + 1) := Int.pow_pos (by decide)
  have hm : c' = ((x / 2 + 2 ^ c * y : Nat) : Int) % 2 ^ (c + 1) := by
    show Builtin.bitAnd (Builtin.bitOr ((x : Int).fdiv (2 ^ 1)) ((y : Int) * 2 ^ (c + 1 - 1))) _ = _
    rw [hor, and_mask (Int.natCast_nonneg _)]
  refine ⟨hm ▸ Int.emod_nonneg _ (Int.ne_of_gt hp), hm ▸ Int.emod_lt_of_pos _ hp, ?_⟩
  rw [hc, Int.mul_add, Int.pow_succ, Int.mul_assoc, Int.mul_left_comm 2 (2 ^ c), Int.natCast_emod]
  congr 1
  exact (Int.sub_eq_iff_eq_add.mpr (Int.mul_ediv_add_emod (x : Int) 2).symm).symm
def ShI (B : Int) (as : List Int) (i : Nat) (found : List Int) : Prop := found.length = i ∧ Ok B found ∧ 2 * val B found = val B (as.take i) - as.getD 0 0 % 2 + B ^ i * (as.getD i 0 % 2)
theorem shI_start {B : Int} {as : List Int} : ShI B as 0 [] := ⟨rfl, Ok.nil, by simp [val]; omega⟩
theorem shI_turn {K i : Nat} {as found : List Int} {y : Int} (hK : 1 ≤ K) (hi : ShI (2 ^ K) as i found) (hO : Ok (2 ^ K) as) (hy : y = as.getD (i + 1) 0) :
    ShI (2 ^ K) as (i + 1) (found ++ [Builtin.bitAnd (Builtin.bitOr ((as.getD i 0).fdiv (2 ^ 1)) (y * 2 ^ (K - 1))) (1 * 2 ^ K - 1)]) := by
  obtain ⟨h0, h1, h2⟩ := hi
  have hp : (0 : Int) < 2 ^ K := Int.pow_pos (by decide)
  have hx := hO.getD hp i
  have hz := hO.getD hp (i + 1)
  have hc := half_limb hK hx.1 hx.2 (hy ▸ hz.1)
  refine ⟨by simp [h0], h1.snoc hc.1 hc.2.1, ?_⟩
  rw [val_snoc, h0, Int.mul_add, h2]
  have := hc.2.2
  generalize Builtin.bitAnd _ _ = c at this ⊢
  rw [val_take_succ', ← hy, Int.pow_succ]
  have e : 2 * ((2 ^ K) ^ i * c) = (2 ^ K) ^ i * (2 * c) := by rw [Int.mul_left_comm]
  rw [e, this]
  grind
theorem shI_step {kN k y : Int} {kPre found as : List Int} (e : kN = 0 + (kPre.length : Int)) (h8 : 8 ≤ k) (hi : ShI (2 ^ k.toNat) as kPre.length found) (hO : Ok (2 ^ k.toNat) as) (hy : y = as.getD (kPre.length + 1) 0) :
    (found ++ [Builtin.bitAnd (Builtin.bitOr ((as.getD kN.toNat 0).fdiv (2 ^ Int.toNat 1)) (y * 2 ^ (k - 1).toNat)) (1 * 2 ^ k.toNat - 1)]).length = (kPre ++ [kN]).length ∧
    ShI (2 ^ k.toNat) as (kPre ++ [kN]).length (found ++ [Builtin.bitAnd (Builtin.bitOr ((as.getD kN.toNat 0).fdiv (2 ^ Int.toNat 1)) (y * 2 ^ (k - 1).toNat)) (1 * 2 ^ k.toNat - 1)]) := by
  have e1 : kN.toNat = kPre.length := by omega
  have e2 : (k - 1).toNat = k.toNat - 1 := by omega
  have h0 := hi.1
  rw [e1, e2, show Int.toNat 1 = 1 from rfl, List.length_append, List.length_append, List.length_singleton, List.length_singleton]
  exact ⟨by rw [h0], shI_turn (by omega) hi hO hy⟩
theorem sh_y1 {kN : Int} {p : Nat} {as : List Int} (e : kN = 0 + (p : Int)) : as.getD (kN + 1).toNat 0 = as.getD (p + 1) 0 := by rw [show (kN + 1).toNat = p + 1 by omega]
theorem sh_y2 {kN : Int} {p : Nat} {as : List Int} (e : kN = 0 + (p : Int)) (h : ¬ kN + 1 < (as.length : Int)) : (0 : Int) = as.getD (p + 1) 0 := getD_out (by omega)
theorem sh_nn {kN : Int} (h : 0 ≤ kN) : 0 ≤ kN + 1 := by omega
theorem sh_k {k : Int} (h8 : 8 ≤ k) : 0 ≤ k - 1 := by omega
theorem sh_k' {k : Int} (h12 : k ≤ 12) : k - 1 ≤ 1000000 := by omega
theorem shI_end {K : Nat} {as found : List Int} {na : Int} (hK : 1 ≤ K) (hi : ShI (2 ^ K) as as.length found) (ha : Lim (2 ^ K) as na) : Ok (2 ^ K) found ∧ val (2 ^ K) found = na / 2 := by
  obtain ⟨h0, h1, h2⟩ := hi
  refine ⟨h1, ?_⟩
  have e := even_val hK ha
  rw [val_take_all (by omega), ha.2.2, ← e] at h2
  have : as.getD as.length 0 = 0 := by simp [List.getD]
  rw [this] at h2
  simp at h2
  omega
set_option maxRecDepth 100000 in
set_option maxHeartbeats 4000000 in
theorem t_shift {w : World} {la : Addr} {k : Int} {kt nt : Tok} {as : List Int} {na : Int} : Ct w 100 [.ref la, .int 1 nt, .int k kt] 50
    (fun h => LAt h la as ∧ 8 ≤ k ∧ k ≤ 12 ∧ as.length ≤ 1000 ∧ Lim (2 ^ k.toNat) as na)
    (fun h h' r => ∃ rs, LNew h h' r rs ∧ Lim (2 ^ k.toNat) rs (na / 2)) := by
  refine Ct.mk ?_
  k_fill
  intro mean mg mb dp un gd cn cs a ccd cl outer A₀ base h₀ L m s Q E B F X T hk hpre hdp hun hret
  refine wpAny_call ?_
  obtain ⟨⟨va, hA, hIA⟩, h8, h12, hla, hLa⟩ := hpre
  have hk0 := k_nn h8
  have hk2 := k_2 h8
  have hkb := k_big h12
  have hkn := k_n12 h12
  have hk1 := k_n1 h8
  have hkm := sh_k h8
  have hkm' := sh_k' h12
  have hla4 := l_4 hla
  have hq1 := l_62 hla4
  have hq2 := l_i62 hla4
  have hq3 := l_m62 (l := as.length)
  have hdp1 := dp_lt hdp
  k_dflt (refine' enter_pure ?k1 ?k2 ?k3 ?k5 ?kA ?kF ?kK ?k6 ?k7 ?k8 ?k9 ?kB ?_ ?c2 ?c3 ?c4 ?c5; (case kA => exact rfl); (case kF => exact rfl); (case kK => assumption); (case k1 => k_asm); (case k2 => k_asm); (case k3 => k_asm); (case k5 => k_asm); (case k6 => k_is); (case k7 => k_is); (case k8 => ktr_room); (case k9 => exact BindsTo.of_eq rfl); (case c5 => decide); (case kB => exact locs rfl); (case c2 => exact rfl); (case c3 => exact rfl); (case c4 => exact rfl); k_whole)
  intro L' h' tk0 F' N' B' X' T'
  replace F' := fr_lookup [(Str.ofString "w", Value.int k kt), (Str.ofString "n", Value.int 1 nt), (Str.ofString "a", Value.ref la)] F'
  dsimp only [kstB] at F'
  (try dsimp only)
  (try k_fold)
  (refine hideQE ?_; intro Qb hqb)
  repeat' (first | ((fail_if_success (with_reducible show wpAny _ _ (pyIter _) _ _ _)); (fail_if_success (with_reducible show wpAny _ _ (exec (Stmt.While _ _ _ _) _) _ _ _)); (fail_if_success (with_reducible show InvEndN _ _ _ _ _ _ _)); (fail_if_success (with_reducible show LedEnd _ _ _ _ _ _)); (fail_if_success (with_reducible show wpAny _ _ (PySem.call (Value.type "enumerate") _) _ _ _)); (fail_if_success (with_reducible show KswEnd _ _ _ _ _ _ _ _ _ _ _ _)); (first | (k_unfold; (try dsimp only)) | (k_end; wrow_close) | walk1 | (dsimp only; walk1) | (leave1; walk_say "STEP leave1"; try dsimp only))) | fail "no step")
  k_with "state" => exact ⟨rfl, shI_start⟩
  have hI0 : IntsAre [] [] := IntsAre.nil
  k_state (fun pre found => found.length = pre.length ∧ ShI (2 ^ k.toNat) as pre.length found) "found"
  · k_with_none
    (with_reducible rename ShI _ _ _ _ => hi9)
    (with_reducible rename _ = 0 + (List.length kPre : Int) => hkN)
    have hf0 := lp_p (l := as.length) kLt
    have hf1 := lp_nn hkN
    have hf2 := lp_lt (l := as.length) hkN kLt
    have hf3 := lp_63 hf2 hla4
    have hf5 := sh_nn hf1
    (with_reducible rename IntsAre _ _ => hI9)
    have hf4 := lp_len hI9.length (by assumption) hf0 hla4
    (with_reducible rename Fr _ _ _ _ => lF')
    (with_reducible rename News _ _ _ _ => lN')
    refine cut_store (Str.ofString "above") (fun y => y = as.getD (kPre.length + 1) 0) lF' lN' ?_ ?_
    · intro Qf hqf
      repeat' (first | ((fail_if_success (with_reducible show wpAny _ _ (subscriptTail _ _ _ _) _ _ _)); (first | (k_unfold; (try dsimp only)) | (k_end; wrow_close) | walk1 | (dsimp only; walk1) | (leave1; walk_say "STEP leave1"; try dsimp only))) | fail "no step")
      · have hf6 := lp_63 (by assumption) hla4
        repeat' (first | ((fail_if_success (with_reducible show wpAny _ _ (pyIter _) _ _ _)); (fail_if_success (with_reducible show wpAny _ _ (exec (Stmt.While _ _ _ _) _) _ _ _)); (fail_if_success (with_reducible show InvEndN _ _ _ _ _ _ _)); (fail_if_success (with_reducible show LedEnd _ _ _ _ _ _)); (fail_if_success (with_reducible show wpAny _ _ (PySem.call (Value.type "enumerate") _) _ _ _)); (fail_if_success (with_reducible show KswEnd _ _ _ _ _ _ _ _ _ _ _ _)); (first | (k_unfold; (try dsimp only)) | (k_end; wrow_close) | walk1 | (dsimp only; walk1) | (leave1; walk_say "STEP leave1"; try dsimp only))) | fail "no step")
        exact hqf _ _ _ _ (sh_y1 hkN) (by assumption) (by assumption)
      · exact hqf _ _ _ _ (sh_y2 hkN (by assumption)) (by assumption) (by assumption)
    intro y t9 h9 tk9 hy9 F9 N9
    have hyb : y.natAbs < 2 ^ 64 := hy9 ▸ limb_small hLa hkn
    clear lF' lN'
    repeat' (first | ((fail_if_success (with_reducible show wpAny _ _ (pyIter _) _ _ _)); (fail_if_success (with_reducible show wpAny _ _ (exec (Stmt.While _ _ _ _) _) _ _ _)); (fail_if_success (with_reducible show InvEndN _ _ _ _ _ _ _)); (fail_if_success (with_reducible show LedEnd _ _ _ _ _ _)); (fail_if_success (with_reducible show wpAny _ _ (PySem.call (Value.type "enumerate") _) _ _ _)); (fail_if_success (with_reducible show KswEnd _ _ _ _ _ _ _ _ _ _ _ _)); (first | (k_unfold; (try dsimp only)) | (k_end; wrow_close) | walk1 | (dsimp only; walk1) | (leave1; walk_say "STEP leave1"; try dsimp only))) | fail "no step")
    ((rename News _ _ _ _ => nE'); (try simp only [List.push_toArray] at nE'); (refine' kst_end ⟨_, _, _⟩ (by assumption) nE' (by first | kst_in | kst_inAny) (by first | (intro p hp; kst_mem) | kst_anyIn) (by rfl) (by kst_facts) (by kst_all) (by kst_same) ?_); (try dsimp only))
    exact shI_step hkN h8 hi9 hLa.1 hy9
  · k_with_none
    (with_reducible rename ShI _ _ _ _ => hi9)
    (with_reducible rename List.length _ = List.length (rangeKs _ _) => hl9)
    simp only [rangeKs_length, Int.sub_zero, Int.toNat_natCast] at hl9 hi9
    have hi10 := shI_end hk1 hi9 hLa
    repeat' (first | ((fail_if_success (with_reducible show wpAny _ _ (pyIter _) _ _ _)); (fail_if_success (with_reducible show wpAny _ _ (exec (Stmt.While _ _ _ _) _) _ _ _)); (fail_if_success (with_reducible show InvEndN _ _ _ _ _ _ _)); (fail_if_success (with_reducible show LedEnd _ _ _ _ _ _)); (fail_if_success (with_reducible show wpAny _ _ (PySem.call (Value.type "enumerate") _) _ _ _)); (fail_if_success (with_reducible show KswEnd _ _ _ _ _ _ _ _ _ _ _ _)); (first | (k_unfold; (try dsimp only)) | (k_end; wrow_close) | walk1 | (dsimp only; walk1) | (leave1; walk_say "STEP leave1"; try dsimp only))) | fail "no step")
    (((refine hqb _ _ ?_); (try dsimp only); repeat' (first | ((fail_if_success (with_reducible show wpAny _ _ (pyIter _) _ _ _)); (fail_if_success (with_reducible show wpAny _ _ (exec (Stmt.While _ _ _ _) _) _ _ _)); (fail_if_success (with_reducible show InvEndN _ _ _ _ _ _ _)); (fail_if_success (with_reducible show LedEnd _ _ _ _ _ _)); (fail_if_success (with_reducible show wpAny _ _ (PySem.call (Value.type "enumerate") _) _ _ _)); (fail_if_success (with_reducible show KswEnd _ _ _ _ _ _ _ _ _ _ _ _)); (first | (k_unfold; (try dsimp only)) | (k_end; wrow_close) | walk1 | (dsimp only; walk1) | (leave1; walk_say "STEP leave1"; try dsimp only))) | fail "no step")); (try simp only [List.push_toArray] at *); (refine' close_listQ hret ?cF ?cN ?cM ?cI ?cP; (case cF => assumption); (case cN => assumption); (case cM => k_mem); (case cI => first | assumption | exact intsAre_snoc (by assumption))))
    case cP =>
      (rename ∃ _, _ => hR9)
      obtain ⟨j9, hj9, e9, hz9, hl9⟩ := hR9
      subst e9
      rw [← hi10.2]
      exact nor_lim (Int.pow_pos (by decide)) hi10.1 hj9 hz9 hl9
end
section
open PySem PySem.W PyProof.Rows PySem.Calls PyProof.V
set_option linter.unusedVariables false
theorem w_off_Enum : True := by
  w_top off
  trivial
section
variable {prog : Program} {w : World} {A : Around} {E : Value → Shared → Prop} {s : Shared} {env : Env} {h₀ : Heap} {body : List Stmt} {Q : Flow → Shared → Prop}
/-- for i, n in enumerate(l): by an invariant over the frame's map and the ledger -/
theorem enum_inv {l : Addr} {vs : List Value} {ns : List Int} {xi xv : Str} {pi pv pt : Pos} {k : Nat} {m₀ : Str → Option Value} {news : List (Addr × Obj)} (J : Nat → (Str → Option Value) → List (Addr × Obj) → Prop)
    (hh : A.handled = none) (hl : h₀.IsList l vs.toArray) (hi : IntsAre vs ns) (F : Fr h₀ env.locals s.heap m₀) (N : News h₀ env.locals s.heap news) (hj : J 0 m₀ news)
    (hxi : env.kindOf xi = some .local) (hxv : env.kindOf xv = some .local) (hp : (env.scope.kind == .class || (env.scope.kind == .module && env.locals != env.globals)) = false)
    (turn : ∀ i n ti tn m₁ news₁ h tk own, ns[i]? = some n → news₁.map (·.1) = news.map (·.1) → OwnOff own (news.map (·.1)) → J i m₁ news₁ → Fr h₀ env.locals h (fun y => if y = xv then some (.int n tn) else if y = xi then some (.int (i : Nat) ti) else m₁ y) → News h₀ env.locals h (news₁ ++ own) →
      wpAny (model prog w) A (execs body env) (InvPostN h₀ env.locals (J (i + 1)) own (news.map (·.1)) { s with heap := h, toks := tk } Q) E { s with heap := h, toks := tk })
    (done : ∀ m₁ news₁ h tk, J ns.length m₁ news₁ → Fr h₀ env.locals h m₁ → News h₀ env.locals h news₁ → Q .next { s with heap := h, toks := tk }) :
    wpAny (model prog w) A (call (.type "enumerate") [.ref l]) (fun xv' s₁ => wpAny (model prog w) A (pyIter xv') (fun it s₂ => TurnsAt prog w A h₀ env (.Tuple [.Name xi pi, .Name xv pv] k pt) body Q E it s₂) E s₁) E s := by
  have hls : s.heap.IsList l vs.toArray := hl.at fun o e => F.keep l o e
  obtain ⟨ol, hol, _⟩ := id hl
  have hlt0 : l < h₀.objs.size := Heap.lt_size hol
  have hlt : l < s.heap.objs.size := Nat.lt_trans (Nat.lt_of_lt_of_le hlt0 F.above) F.ns.lt
  have hLs : env.locals < s.heap.objs.size := F.ns.lt
  refine call_enumerate_list hls fun h' hE hI hsz hk => ?_
  refine wpAny_pyIter_enum hE ?_
  have W := KTurns.ofWalksU (elts := [.Name xi pi, .Name xv pv]) (k := k) (pos := pt) (WalksT.enumerate (prog := prog) (w := w) hh (s.heap.objs.size + 1) s.heap.objs.size l (Nat.succ_ne_self _) (ktu_ne 1 hlt) (Nat.ne_of_lt hlt) vs.toArray).toU
  have hlen : vs.toArray.size = ns.length := by simp [hi.length]
  rw [hlen] at W
  let J' : Nat → (Str → Option Value) → List (Addr × Obj) → Prop := fun i m₁ news₁ => news₁.map (·.1) = news.map (·.1) ∧ J i m₁ news₁
  refine ⟨_, _, _, ns.length, _, _, _, m₀, news, J', rfl, W, ?_, ?_, ?_, ⟨⟨_, hE⟩, hI, hls.at fun o e => hk _ _ e⟩, F.keeps hk, N.grown hk, ⟨rfl, hj⟩, ?_, ?_⟩
  · intro hm
    have hm' : env.locals = s.heap.objs.size + 1 ∨ env.locals = s.heap.objs.size ∨ env.locals = l := by simpa using hm
    rcases hm' with e | e | e
    · exact absurd hLs (by rw [e]; exact Nat.not_lt.mpr (Nat.le_succ _))
    · exact absurd hLs (by rw [e]; exact Nat.lt_irrefl _)
    · exact absurd (Nat.lt_of_lt_of_le hlt0 F.above) (by rw [e]; exact Nat.lt_irrefl _)
  · intro b hb
    have hb' : b = s.heap.objs.size + 1 ∨ b = s.heap.objs.size := by simpa using hb
    rcases hb' with rfl | rfl
    · exact ktu_new F (Nat.le_add_right _ _)
    · exact ktu_new F (Nat.le_refl _)
  · intro p hp hI
    have hb' : p.1 = s.heap.objs.size + 1 ∨ p.1 = s.heap.objs.size := by simpa using hI
    have := Heap.lt_size (N p hp).1
    rcases hb' with e | e <;> rw [e] at this
    · exact absurd this (Nat.not_lt.mpr (Nat.le_succ _))
    · exact absurd this (Nat.lt_irrefl _)
  · rintro i v m₁ news₁ h₁ tk₁ own hin ⟨T, vals, rfl, ⟨t, x, hx, rfl⟩, hT⟩ ⟨hadr, hJ⟩ hoff hown _ _ _ F₁ N₁
    have hsep : OwnOff own (news.map (·.1)) := by
      intro p hp b hb e
      obtain ⟨q, hq, rfl⟩ := List.mem_map.mp hb
      have h1 : p.1 = s.heap.objs.size + 1 ∨ p.1 = s.heap.objs.size ∨ p.1 = l := by simpa using hown p hp
      have hqs := Heap.lt_size (N q hq).1
      rcases h1 with h1 | h1 | h1
      · rw [← e, h1] at hqs; exact absurd hqs (Nat.not_lt.mpr (Nat.le_succ _))
      · rw [← e, h1] at hqs; exact absurd hqs (Nat.lt_irrefl _)
      · have h3 := (N q hq).2.2
        rw [← e, h1, hol] at h3
        cases h3
    obtain ⟨tn, hx'⟩ := hi.get i ns[i] (by simp [show i < ns.length from hin])
    have hv : x = .int ns[i] tn := by
      have hP' : vs[i]? = some x := by simpa using hx
      rw [hx'] at hP'; exact (Option.some.inj hP').symm
    subst hv
    have N₂ : News h₀ env.locals h₁ (news₁ ++ own) := fun p hp => N₁ p ((List.mem_append.mp hp).elim (fun h => List.mem_append.mpr (.inr h)) fun h => List.mem_append.mpr (.inl h))
    refine wpAny_assign_Tuple hh hT rfl rfl fun h₃ hx₃ => ?_
    have hk₃ : ∀ b o, h₁.get? b = some o → h₃.get? b = some o := fun b o e => hx₃ b o (Nat.ne_of_lt (Heap.lt_size e)) e
    have F₃ := F₁.keeps hk₃
    have N₃ := N₂.grown hk₃
    show wpAny _ A (do holding [.int ns[i] tn] (assign (.Name xi pi) env (.int i t)); do holding [] (assign (.Name xv pv) env (.int ns[i] tn)); pure ()) _ _ _
    refine wpAny_bind (wpAny_holding (wpAny_assign_Name (wpAny_storeName_local hxi F₃.ns (fun h₄ hn₄ hs₄ => ?_) hp)))
    have F₄ := F₃.set hn₄ hs₄
    have N₄ := N₃.set hs₄
    refine wpAny_bind (wpAny_holding (wpAny_assign_Name (wpAny_storeName_local hxv hn₄ (fun h₅ hn₅ hs₅ => wpAny_pure ?_) hp)))
    have F₅ := F₄.set hn₅ hs₅
    have N₅ := N₄.set hs₅
    refine wpAny_mono (turn i ns[i] t tn m₁ news₁ h₅ _ own (by simp [show i < ns.length from hin]) hadr hsep hJ F₅ N₅) (fun f s₂ p => ?_) fun _ _ e => e
    have fin : ∀ tk', InvEndN h₀ env.locals (J (i + 1)) own (news.map (·.1)) { s with heap := h₅, toks := tk' } s₂ → LoopStepU h₀ env.locals [s.heap.objs.size + 1, s.heap.objs.size] own (J' (i + 1)) { s with heap := h₁, toks := tk₁ } .next s₂ := by
      rintro tk' ⟨h', tk, m', news', nx, e, F', N', hn, ho, ha, hm⟩
      refine ⟨rfl, h', tk, m', nx, e, F', fun p hp => N' p ((List.mem_append.mp hp).elim (ho p) (hn p)), fun p hp hq => ?_, ha, hm⟩
      have h1 : p.1 ∈ nx.map (·.1) := List.mem_map.mpr ⟨p, hp, rfl⟩
      rw [ha, ← hadr] at h1
      obtain ⟨q, hq1, hq2⟩ := List.mem_map.mp h1
      exact hoff q hq1 (by rw [hq2]; exact hq)
    cases f with
    | ret v => exact .ret p
    | brk => exact .brk p
    | next => exact .next (fin _ p)
    | cont => exact .cont (fin _ p)
  · rintro h' tk m' news' F' N' _ ⟨_, hJ⟩
    exact done m' news' h' tk hJ F' N'
/-- the same, by what holds of the letters -/
theorem enum_state {σ : Type} {l : Addr} {vs : List Value} {ns : List Int} {xi xv : Str} {pi pv pt : Pos} {k : Nat} {m₀ : Str → Option Value} (Led : σ → List (Addr × Obj)) (ps : σ → List (Str × Value)) (Facts : σ → Prop) (stored : List Str) (P : Nat → σ → Prop) (c₀ : σ)
    (hh : A.handled = none) (hl : h₀.IsList l vs.toArray) (hi : IntsAre vs ns) (F : Fr h₀ env.locals s.heap m₀) (N : News h₀ env.locals s.heap (Led c₀))
    (hxi : env.kindOf xi = some .local) (hxv : env.kindOf xv = some .local) (hpl : (env.scope.kind == .class || (env.scope.kind == .module && env.locals != env.globals)) = false)
    (hsi : stored.contains xi = true) (hsv : stored.contains xv = true)
    (hf : Facts c₀) (hk : ∀ p ∈ ps c₀, m₀ p.1 = some p.2) (hp : P 0 c₀)
    (turn : ∀ (c : σ) (i : Nat) n ti tn (u : Str → Option Value) h tk own, ns[i]? = some n → OwnOff own ((Led c₀).map (·.1)) → Facts c → P i c →
      Fr h₀ env.locals h (fun y => if y = xv then some (.int n tn) else if y = xi then some (.int (i : Nat) ti) else kstB (fun z => if stored.contains z then u z else m₀ z) (ps c) y) → News h₀ env.locals h (Led c ++ own) →
      wpAny (model prog w) A (execs body env) (InvPostN h₀ env.locals (KstS Led ps Facts xv stored m₀ (fun p c => P p.length c) (List.replicate (i + 1) 0)) own ((Led c₀).map (·.1)) { s with heap := h, toks := tk } Q) E { s with heap := h, toks := tk })
    (done : ∀ (c : σ) (u : Str → Option Value) h tk, Facts c → P ns.length c → Fr h₀ env.locals h (kstB (fun z => if stored.contains z then u z else m₀ z) (ps c)) → News h₀ env.locals h (Led c) → Q .next { s with heap := h, toks := tk }) :
    wpAny (model prog w) A (call (.type "enumerate") [.ref l]) (fun xv' s₁ => wpAny (model prog w) A (pyIter xv') (fun it s₂ => TurnsAt prog w A h₀ env (.Tuple [.Name xi pi, .Name xv pv] k pt) body Q E it s₂) E s₁) E s := by
  have frame : ∀ {m₁ : Str → Option Value} {c : σ}, (∀ p ∈ ps c, m₁ p.1 = some p.2) → (∀ z, z ≠ xv → (∀ p ∈ ps c, z ≠ p.1) → stored.contains z = false → m₁ z = m₀ z) → kstB (fun z => if stored.contains z then m₁ z else m₀ z) (ps c) = m₁ := by
    intro m₁ c h1 h2
    funext y
    refine kstB_eq h1 fun hn => ?_
    show (if stored.contains y = true then m₁ y else m₀ y) = m₁ y
    cases h3 : stored.contains y with
    | true => simp
    | false =>
      simp only [Bool.false_eq_true, if_false]
      refine (h2 y (fun e => ?_) hn h3).symm
      rw [e, hsv] at h3; cases h3
  refine enum_inv (fun i m nx => KstS Led ps Facts xv stored m₀ (fun p c => P p.length c) (List.replicate i 0) m nx) hh hl hi F N ⟨c₀, rfl, hf, hk, fun _ _ _ _ => rfl, by simpa using hp⟩ hxi hxv hpl ?_ ?_
  · rintro i n ti tn m₁ nx h tk own hn _ hoff ⟨c, rfl, hf', h1, h2, hp'⟩ F₁ N₁
    rw [List.length_replicate] at hp'
    refine turn c i n ti tn m₁ h tk own hn hoff hf' hp' ?_ N₁
    rw [frame h1 h2]; exact F₁
  · rintro m₁ nx h tk ⟨c, rfl, hf', h1, h2, hp'⟩ F₁ N₁
    rw [List.length_replicate] at hp'
    refine done c m₁ h tk hf' hp' ?_ N₁
    rw [frame h1 h2]; exact F₁
/-- one list of the ledger's and one int name are turned -/
theorem enum_list1 {l : Addr} {vs : List Value} {ns : List Int} {xi xv : Str} {pi pv pt : Pos} {k : Nat} {m₀ : Str → Option Value} {p1 : Addr × Obj} {D : Addr} {rest : List (Addr × Obj)} {us : List Value} {ms : List Int} {c₀ : Nat} {y : Str} {a₀ : Int} {t₀ : Tok}
    (stored : List Str) (P : Nat → List Int → Int → Prop) (hh : A.handled = none) (hl : h₀.IsList l vs.toArray) (hi : IntsAre vs ns) (F : Fr h₀ env.locals s.heap m₀) (N : News h₀ env.locals s.heap (p1 :: (D, W.listOf us.toArray c₀) :: rest)) (hI : IntsAre us ms)
    (hxi : env.kindOf xi = some .local) (hxv : env.kindOf xv = some .local) (hpl : (env.scope.kind == .class || (env.scope.kind == .module && env.locals != env.globals)) = false)
    (hsi : stored.contains xi = true) (hsv : stored.contains xv = true) (hk : m₀ y = some (.int a₀ t₀)) (hp : P 0 ms a₀)
    (turn : ∀ (us : List Value) (ms : List Int) (c : Nat) (a : Int) (t : Tok) (i : Nat) n ti tn (u : Str → Option Value) h tk own, ns[i]? = some n → OwnOff own (p1.1 :: D :: rest.map (·.1)) → IntsAre us ms → P i ms a →
      Fr h₀ env.locals h (fun z => if z = xv then some (.int n tn) else if z = xi then some (.int (i : Nat) ti) else if z = y then some (.int a t) else if stored.contains z then u z else m₀ z) → News h₀ env.locals h (p1 :: (D, W.listOf us.toArray c) :: (rest ++ own)) →
      wpAny (model prog w) A (execs body env) (InvPostN h₀ env.locals (KstS (fun c : List Value × List Int × Nat × Int × Tok => p1 :: (D, W.listOf c.1.toArray c.2.2.1) :: rest) (fun c => [(y, .int c.2.2.2.1 c.2.2.2.2)]) (fun c => IntsAre c.1 c.2.1) xv stored m₀ (fun p c => P p.length c.2.1 c.2.2.2.1) (List.replicate (i + 1) 0)) own (p1.1 :: D :: rest.map (·.1)) { s with heap := h, toks := tk } Q) E { s with heap := h, toks := tk })
    (done : ∀ (us : List Value) (ms : List Int) (c : Nat) (a : Int) (t : Tok) (u : Str → Option Value) h tk, IntsAre us ms → P ns.length ms a → Fr h₀ env.locals h (fun z => if z = y then some (.int a t) else if stored.contains z then u z else m₀ z) → News h₀ env.locals h (p1 :: (D, W.listOf us.toArray c) :: rest) → Q .next { s with heap := h, toks := tk }) :
    wpAny (model prog w) A (call (.type "enumerate") [.ref l]) (fun xv' s₁ => wpAny (model prog w) A (pyIter xv') (fun it s₂ => TurnsAt prog w A h₀ env (.Tuple [.Name xi pi, .Name xv pv] k pt) body Q E it s₂) E s₁) E s :=
  enum_state (σ := List Value × List Int × Nat × Int × Tok) (fun c => p1 :: (D, W.listOf c.1.toArray c.2.2.1) :: rest) (fun c => [(y, .int c.2.2.2.1 c.2.2.2.2)]) (fun c => IntsAre c.1 c.2.1) stored (fun i c => P i c.2.1 c.2.2.2.1) (us, ms, c₀, a₀, t₀) hh hl hi F N hxi hxv hpl hsi hsv hI
    (fun p hp => by rw [List.mem_singleton.mp hp]; exact hk) hp
    (fun c i n ti tn u h tk own hn hoff hf hP F₁ N₁ => turn c.1 c.2.1 c.2.2.1 c.2.2.2.1 c.2.2.2.2 i n ti tn u h tk own hn hoff hf hP F₁ N₁)
    (fun c u h tk hf hP F₁ N₁ => done c.1 c.2.1 c.2.2.1 c.2.2.2.1 c.2.2.2.2 u h tk hf hP F₁ N₁)
/-- one list of the ledger's is turned -/
theorem enum_list0 {l : Addr} {vs : List Value} {ns : List Int} {xi xv : Str} {pi pv pt : Pos} {k : Nat} {m₀ : Str → Option Value} {p1 : Addr × Obj} {D : Addr} {rest : List (Addr × Obj)} {us : List Value} {ms : List Int} {c₀ : Nat}
    (stored : List Str) (P : Nat → List Int → Prop) (hh : A.handled = none) (hl : h₀.IsList l vs.toArray) (hi : IntsAre vs ns) (F : Fr h₀ env.locals s.heap m₀) (N : News h₀ env.locals s.heap (p1 :: (D, W.listOf us.toArray c₀) :: rest)) (hI : IntsAre us ms)
    (hxi : env.kindOf xi = some .local) (hxv : env.kindOf xv = some .local) (hpl : (env.scope.kind == .class || (env.scope.kind == .module && env.locals != env.globals)) = false)
    (hsi : stored.contains xi = true) (hsv : stored.contains xv = true) (hp : P 0 ms)
    (turn : ∀ (us : List Value) (ms : List Int) (c : Nat) (i : Nat) n ti tn (u : Str → Option Value) h tk own, ns[i]? = some n → OwnOff own (p1.1 :: D :: rest.map (·.1)) → IntsAre us ms → P i ms →
      Fr h₀ env.locals h (fun z => if z = xv then some (.int n tn) else if z = xi then some (.int (i : Nat) ti) else if stored.contains z then u z else m₀ z) → News h₀ env.locals h (p1 :: (D, W.listOf us.toArray c) :: (rest ++ own)) →
      wpAny (model prog w) A (execs body env) (InvPostN h₀ env.locals (KstS (fun c : List Value × List Int × Nat => p1 :: (D, W.listOf c.1.toArray c.2.2) :: rest) (fun c => []) (fun c => IntsAre c.1 c.2.1) xv stored m₀ (fun p c => P p.length c.2.1) (List.replicate (i + 1) 0)) own (p1.1 :: D :: rest.map (·.1)) { s with heap := h, toks := tk } Q) E { s with heap := h, toks := tk })
    (done : ∀ (us : List Value) (ms : List Int) (c : Nat) (u : Str → Option Value) h tk, IntsAre us ms → P ns.length ms → Fr h₀ env.locals h (fun z => if stored.contains z then u z else m₀ z) → News h₀ env.locals h (p1 :: (D, W.listOf us.toArray c) :: rest) → Q .next { s with heap := h, toks := tk }) :
    wpAny (model prog w) A (call (.type "enumerate") [.ref l]) (fun xv' s₁ => wpAny (model prog w) A (pyIter xv') (fun it s₂ => TurnsAt prog w A h₀ env (.Tuple [.Name xi pi, .Name xv pv] k pt) body Q E it s₂) E s₁) E s :=
  enum_state (σ := List Value × List Int × Nat) (fun c => p1 :: (D, W.listOf c.1.toArray c.2.2) :: rest) (fun c => []) (fun c => IntsAre c.1 c.2.1) stored (fun i c => P i c.2.1) (us, ms, c₀) hh hl hi F N hxi hxv hpl hsi hsv hI
    (fun p hp => nomatch hp) hp
    (fun c i n ti tn u h tk own hn hoff hf hP F₁ N₁ => turn c.1 c.2.1 c.2.2 i n ti tn u h tk own hn hoff hf hP F₁ N₁)
    (fun c u h tk hf hP F₁ N₁ => done c.1 c.2.1 c.2.2 u h tk hf hP F₁ N₁)
end
end
section
open PySem PySem.W PyProof.Rows PySem.Calls
set_option linter.unusedVariables false
set_option linter.unusedSimpArgs false
theorem w_off_Mul : True := by
  w_top off
  trivial
local macro_rules | `(tactic| walk_at "exec For Tuple Call") => `(tactic| (k_here; (rename Fr _ _ _ _ => lF'); (with_unfolding_all refine' For_turns lF' ?_ (fun _ => rfl) PySem.PassesOwn.never); k_whole))
theorem limb_bits {K : Nat} {n : Int} (h : 0 ≤ n ∧ n < 2 ^ K) (hK : K ≤ 12) : Builtin.Int.intBits n ≤ 12 := by
  rw [intBits_le_iff]
  have h2 : (2 : Int) ^ K ≤ 2 ^ 12 := pw_mono (by decide) hK
  omega
local macro_rules | `(tactic| walk_at "binaryOp Mult int int") => `(tactic| (k_here; (refine mul_int ?_ (IntMulOk.of_le (m := 12) (n := 12) (by assumption) (by assumption) (by decide)))))
def MulO (B nb : Int) (as : List Int) (lb i : Nat) (found : List Int) : Prop := Ok B found ∧ val B found = val B (as.take i) * nb ∧ ∀ t, i + lb ≤ t → found.getD t 0 = 0
def MulI (B V0 x : Int) (bs : List Int) (i j : Nat) (found : List Int) (carry : Int) : Prop := Ok B found ∧ 0 ≤ carry ∧ carry < B ∧ val B found + B ^ (i + j) * carry = V0 + x * B ^ i * val B (bs.take j) ∧ ∀ t, i + bs.length ≤ t → found.getD t 0 = 0
theorem rep0 {n : Nat} : (List.replicate n [(0 : Int)]).flatten = List.replicate n 0 := by
  induction n with
  | zero => rfl
  | succ n ih => simp [List.replicate_succ, ih]
theorem mulO_start {B nb : Int} (hB : 0 < B) {as : List Int} {lb n : Nat} : MulO B nb as lb 0 (List.replicate n [(0 : Int)]).flatten := by
  rw [rep0]
  refine ⟨fun x hx => ?_, ?_, fun t _ => ?_⟩
  · rw [List.eq_of_mem_replicate hx]; omega
  · have : ∀ n : Nat, val B (List.replicate n 0) = 0 := by
      intro n
      induction n with
      | zero => rfl
      | succ n ih => simp [List.replicate_succ, val, ih]
    rw [this]; simp [val]
  · by_cases h : t < n <;> simp [List.getD, h]
theorem val_set {B v : Int} : ∀ {xs : List Int} {i : Nat}, i < xs.length → val B (xs.set i v) = val B xs + B ^ i * (v - xs.getD i 0)
  | [], _, h => nomatch h
  | x :: r, 0, _ => by simp [val]; omega
  | x :: r, i + 1, h => by
    have ih := val_set (B := B) (v := v) (xs := r) (i := i) (by simpa using h)
    simp only [List.set_cons_succ, val, ih, List.getD_cons_succ, Int.pow_succ]
    grind
theorem Ok.set {B v : Int} {xs : List Int} (h : Ok B xs) (i : Nat) (h0 : 0 ≤ v) (h1 : v < B) : Ok B (xs.set i v) := by
  intro n hn
  rcases List.mem_or_eq_of_mem_set hn with hn | rfl
  · exact h n hn
  · exact ⟨h0, h1⟩
theorem getD_set_ne {xs : List Int} {i t : Nat} {v : Int} (h : i ≠ t) : (xs.set i v).getD t 0 = xs.getD t 0 := by
  simp [List.getD_eq_getElem?_getD, List.getElem?_set_ne h]
theorem mul_room {a f p B : Int} (ha : a < B) (hf : f < B) (hp : p ≤ (B - 1) * (B - 1)) : a + (f + p) < B * B := by
  rw [Int.sub_mul, Int.mul_sub] at hp
  omega
theorem ediv_eq (c B : Int) : B * (c / B) = c - c % B := (Int.sub_eq_iff_eq_add.mpr (Int.mul_ediv_add_emod c B).symm).symm
theorem mulI_turn {K : Nat} {V0 x y a : Int} {bs ms : List Int} {i j : Nat} (h : MulI (2 ^ K) V0 x bs i j ms a) (hl : i + j < ms.length) (hj : j < bs.length) (hx : 0 ≤ x ∧ x < 2 ^ K) (hyr : 0 ≤ y ∧ y < 2 ^ K) (hy : y = bs.getD j 0) :
    MulI (2 ^ K) V0 x bs i (j + 1) (ms.set (i + j) (Builtin.bitAnd (a + (ms.getD (i + j) 0 + x * y)) (1 * 2 ^ K - 1))) ((a + (ms.getD (i + j) 0 + x * y)).fdiv (2 ^ K)) := by
  obtain ⟨h1, h2, h3, h4, h5⟩ := h
  have hp : (0 : Int) < 2 ^ K := Int.pow_pos (by decide)
  have hf := h1.getD hp (i + j)
  have hxy0 : 0 ≤ x * y := Int.mul_nonneg hx.1 hyr.1
  have hxy : x * y ≤ (2 ^ K - 1) * (2 ^ K - 1) := Int.mul_le_mul (Int.le_sub_one_of_lt hx.2) (Int.le_sub_one_of_lt hyr.2) hyr.1 (Int.le_sub_one_of_lt hp)
  generalize hB : (2 : Int) ^ K = B at *
  generalize hfv : ms.getD (i + j) 0 = f at *
  have hc0 : 0 ≤ a + (f + x * y) := Int.add_nonneg h2 (Int.add_nonneg hf.1 hxy0)
  have hcl : a + (f + x * y) < B * B := mul_room h3 hf.2 hxy
  generalize hc : a + (f + x * y) = c at *
  have hand : Builtin.bitAnd c (1 * B - 1) = c % B := by rw [← hB]; exact and_mask hc0
  rw [hand, fdiv_pos hc0 hp]
  refine ⟨h1.set _ (Int.emod_nonneg _ (Int.ne_of_gt hp)) (Int.emod_lt_of_pos _ hp), Int.ediv_nonneg hc0 (Int.le_of_lt hp), Int.ediv_lt_of_lt_mul hp hcl, ?_, fun t ht => ?_⟩
  · rw [val_set hl, hfv, val_take_succ', ← hy]
    have e := Int.emod_add_mul_ediv c B
    have e1 : B ^ (i + (j + 1)) = B ^ (i + j) * B := by rw [← Nat.add_assoc, Int.pow_succ]
    have e2 : B ^ (i + j) = B ^ i * B ^ j := Int.pow_add ..
    rw [e1]
    have : B ^ (i + j) * B * (c / B) = B ^ (i + j) * (c - c % B) := by rw [Int.mul_assoc, ediv_eq]
    rw [this]
    have h6 : x * B ^ i * (val B (bs.take j) + B ^ j * y) = x * B ^ i * val B (bs.take j) + B ^ (i + j) * (x * y) := by rw [e2]; grind
    rw [h6]
    rw [← hc]
    grind
  · rw [getD_set_ne (Nat.ne_of_lt (Nat.lt_of_lt_of_le (Nat.add_lt_add_left hj i) ht))]; exact h5 t ht
theorem mulO_turn {K : Nat} {nb x a : Int} {as bs ms ms' : List Int} {i : Nat} (h0 : MulO (2 ^ K) nb as bs.length i ms) (h : MulI (2 ^ K) (val (2 ^ K) ms) x bs i bs.length ms' a) (hl : i + bs.length < ms'.length) (hx : x = as.getD i 0) (hb : Lim (2 ^ K) bs nb) :
    MulO (2 ^ K) nb as bs.length (i + 1) (ms'.set (i + bs.length) a) := by
  obtain ⟨_, g2, _⟩ := h0
  obtain ⟨h1, h2, h3, h4, h5⟩ := h
  refine ⟨h1.set _ h2 h3, ?_, fun t ht => by
    have ht' : i + bs.length < t := Nat.lt_of_lt_of_le (Nat.add_lt_add_right (Nat.lt_succ_self i) _) ht
    rw [getD_set_ne (Nat.ne_of_lt ht')]; exact h5 t (Nat.le_of_lt ht')⟩
  rw [val_set hl, h5 _ (Nat.le_refl _), val_take_succ', ← hx, Int.sub_zero, h4, g2, val_take_all (xs := bs) (Nat.le_refl _), hb.2.2]
  grind
theorem mulO_end {K : Nat} {nb na : Int} {as ms : List Int} {lb i : Nat} (h : MulO (2 ^ K) nb as lb i ms) (hi : i = as.length) (ha : Lim (2 ^ K) as na) : Ok (2 ^ K) ms ∧ val (2 ^ K) ms = na * nb := by
  obtain ⟨h1, h2, _⟩ := h
  refine ⟨h1, ?_⟩
  rw [h2, val_take_all (by omega), ha.2.2]
theorem mulI_step {k V0 x y a : Int} {bs ms : List Int} {i j n : Nat} (hn : ms.length = n + bs.length) (hi : i < n) (h : MulI (2 ^ k.toNat) V0 x bs i j ms a) (hj : j < bs.length) (hx : 0 ≤ x ∧ x < 2 ^ k.toNat) (hyr : 0 ≤ y ∧ y < 2 ^ k.toNat) (hy : y = bs.getD j 0) :
    (ms.set ((i : Int) + (j : Int)).toNat (Builtin.bitAnd (a + (ms.getD ((i : Int) + (j : Int)).toNat 0 + x * y)) (1 * 2 ^ k.toNat - 1))).length = n + bs.length ∧
    MulI (2 ^ k.toNat) V0 x bs i (j + 1) (ms.set ((i : Int) + (j : Int)).toNat (Builtin.bitAnd (a + (ms.getD ((i : Int) + (j : Int)).toNat 0 + x * y)) (1 * 2 ^ k.toNat - 1))) ((a + (ms.getD ((i : Int) + (j : Int)).toNat 0 + x * y)).fdiv (2 ^ k.toNat)) := by
  have e1 : ((i : Int) + (j : Int)).toNat = i + j := by omega
  rw [e1]
  exact ⟨by rw [List.length_set]; exact hn, mulI_turn h (by omega) hj hx hyr hy⟩
theorem mulO_step {k nb x a : Int} {as bs ms ms' : List Int} {i : Nat} (hn : ms'.length = as.length + bs.length) (hi : i < as.length) (h0 : MulO (2 ^ k.toNat) nb as bs.length i ms) (h : MulI (2 ^ k.toNat) (val (2 ^ k.toNat) ms) x bs i bs.length ms' a) (hx : x = as.getD i 0) (hb : Lim (2 ^ k.toNat) bs nb) :
    (ms'.set ((i : Int) + (bs.length : Int)).toNat a).length = as.length + bs.length ∧ MulO (2 ^ k.toNat) nb as bs.length (i + 1) (ms'.set ((i : Int) + (bs.length : Int)).toNat a) := by
  have e1 : ((i : Int) + (bs.length : Int)).toNat = i + bs.length := by omega
  rw [e1]
  exact ⟨by rw [List.length_set]; exact hn, mulO_turn h0 h (by omega) hx hb⟩
theorem ml_nn {i j : Nat} : (0 : Int) ≤ (i : Int) + (j : Int) := by omega
theorem ml_lt {i j a b l : Nat} (hi : i < a) (hj : j < b) (hl : l = a + b) : (i : Int) + (j : Int) < l := by omega
theorem ml_lt' {i a b l : Nat} (hi : i < a) (hl : l = a + b) : (i : Int) + (b : Int) < l := by omega
theorem ml_63 {n : Int} {l a b : Nat} (h : n < l) (hl : l = a + b) (ha : a ≤ 1000) (hb : b ≤ 1000) : n < 2 ^ 63 := by omega
theorem ml_len {l a b : Nat} (hl : l = a + b) (ha : a ≤ 1000) (hb : b ≤ 1000) : l ≤ 4000 := by omega
theorem ml_s1 {a b : Nat} : -2 ^ 63 ≤ (a : Int) + (b : Int) := by omega
theorem ml_s2 {a b : Nat} (ha : a ≤ 1000) (hb : b ≤ 1000) : (a : Int) + (b : Int) < 2 ^ 63 := by omega
theorem ml_s3 {a b : Nat} (ha : a ≤ 1000) (hb : b ≤ 1000) : (a : Int) + (b : Int) ≤ ((1048576 : Nat) : Int) := by omega
theorem ml_rep {a b : Nat} : (List.replicate ((a : Int) + (b : Int)).toNat [(0 : Int)]).flatten.length = a + b := by rw [rep0, List.length_replicate]; omega
set_option maxRecDepth 100000 in
set_option maxHeartbeats 4000000 in
theorem t_mul {w : World} {la lb : Addr} {k : Int} {kt : Tok} {as bs : List Int} {na nb : Int} : Ct w 163 [.ref la, .ref lb, .int k kt] 50
    (fun h => LAt h la as ∧ LAt h lb bs ∧ 8 ≤ k ∧ k ≤ 12 ∧ as.length ≤ 1000 ∧ bs.length ≤ 1000 ∧ Lim (2 ^ k.toNat) as na ∧ Lim (2 ^ k.toNat) bs nb)
    (fun h h' r => ∃ rs, LNew h h' r rs ∧ Lim (2 ^ k.toNat) rs (na * nb)) := by
  refine Ct.mk ?_
  k_fill
  intro mean mg mb dp un gd cn cs a ccd cl outer A₀ base h₀ L m s Q E B F X T hk hpre hdp hun hret
  refine wpAny_call ?_
  obtain ⟨⟨va, hA, hIA⟩, ⟨vb, hB, hIB⟩, h8, h12, hla, hlb, hLa, hLb⟩ := hpre
  have hk0 := k_nn h8
  have hkb := k_big h12
  have hkn := k_n12 h12
  have hq1 := l_62 (l_4 hla)
  have hq2 := l_62 (l_4 hlb)
  have hdp1 := dp_lt hdp
  have hs1 := ml_s1 (a := as.length) (b := bs.length)
  have hs2 := ml_s2 hla hlb
  have hs3 := ml_s3 hla hlb
  k_dflt (refine' enter_pure ?k1 ?k2 ?k3 ?k5 ?kA ?kF ?kK ?k6 ?k7 ?k8 ?k9 ?kB ?_ ?c2 ?c3 ?c4 ?c5; (case kA => exact rfl); (case kF => exact rfl); (case kK => assumption); (case k1 => k_asm); (case k2 => k_asm); (case k3 => k_asm); (case k5 => k_asm); (case k6 => k_is); (case k7 => k_is); (case k8 => ktr_room); (case k9 => exact BindsTo.of_eq rfl); (case c5 => decide); (case kB => exact locs rfl); (case c2 => exact rfl); (case c3 => exact rfl); (case c4 => exact rfl); k_whole)
  intro L' h' tk0 F' N' B' X' T'
  replace F' := fr_lookup [(Str.ofString "w", Value.int k kt), (Str.ofString "b", Value.ref lb), (Str.ofString "a", Value.ref la)] F'
  dsimp only [kstB] at F'
  (try dsimp only)
  (try k_fold)
  (refine hideQE ?_; intro Qb hqb)
  repeat' (first | ((fail_if_success (with_reducible show wpAny _ _ (pyIter _) _ _ _)); (fail_if_success (with_reducible show wpAny _ _ (exec (Stmt.While _ _ _ _) _) _ _ _)); (fail_if_success (with_reducible show InvEndN _ _ _ _ _ _ _)); (fail_if_success (with_reducible show LedEnd _ _ _ _ _ _)); (fail_if_success (with_reducible show wpAny _ _ (PySem.call (Value.type "enumerate") _) _ _ _)); (fail_if_success (with_reducible show KswEnd _ _ _ _ _ _ _ _ _ _ _ _)); (first | (k_unfold; (try dsimp only)) | (k_end; wrow_close) | walk1 | (dsimp only; walk1) | (leave1; walk_say "STEP leave1"; try dsimp only))) | fail "no step")
  (with_reducible rename Fr _ _ _ _ => lF')
  (with_reducible rename News _ _ _ _ => lN')
  (with_reducible rename IntsAre (List.flatten _) _ => lI')
  (with_unfolding_all refine' enum_list0 [Str.ofString "at", Str.ofString "limb", Str.ofString "carry", Str.ofString "spot", Str.ofString "other"] (fun i ms => ms.length = as.length + bs.length ∧ MulO (2 ^ k.toNat) nb as bs.length i ms) (by rfl) hA hIA lF' lN' lI' (by rfl) (by rfl) (by rfl) (by rfl) (by rfl) ?_ ?_ ?_)
  · exact ⟨ml_rep, mulO_start (Int.pow_pos (by decide))⟩
  · clear lI' lF' lN'
    intro us ms c i x ti tn u h tk own hx hoff hI hP kFr kNews
    have hlen := hP.1
    replace hP := hP.2
    have hkm := kstMark
    have hxb : x = as.getD i 0 := by simp [List.getD_eq_getElem?_getD, hx]
    have hil : i < as.length := (List.getElem?_eq_some_iff.mp hx).1
    have hxr : 0 ≤ x ∧ x < 2 ^ k.toNat := hLa.1 x (List.mem_of_getElem? hx)
    have hbx := limb_bits hxr hkn
    simp only [List.cons_append, List.nil_append] at kNews
    repeat' (first | ((fail_if_success (with_reducible show wpAny _ _ (pyIter _) _ _ _)); (fail_if_success (with_reducible show wpAny _ _ (exec (Stmt.While _ _ _ _) _) _ _ _)); (fail_if_success (with_reducible show InvEndN _ _ _ _ _ _ _)); (fail_if_success (with_reducible show LedEnd _ _ _ _ _ _)); (fail_if_success (with_reducible show wpAny _ _ (PySem.call (Value.type "enumerate") _) _ _ _)); (fail_if_success (with_reducible show KswEnd _ _ _ _ _ _ _ _ _ _ _ _)); (first | (k_unfold; (try dsimp only)) | (k_end; wrow_close) | walk1 | (dsimp only; walk1) | (leave1; walk_say "STEP leave1"; try dsimp only))) | fail "no step")
    (with_reducible rename Fr _ _ _ _ => lF')
    (with_reducible rename News _ _ _ _ => lN')
    (with_unfolding_all refine' enum_list1 (y := Str.ofString "carry") [Str.ofString "spot", Str.ofString "other"] (fun j ms' a => ms'.length = as.length + bs.length ∧ MulI (2 ^ k.toNat) (val (2 ^ k.toNat) ms) x bs i j ms' a) (by rfl) hB hIB lF' lN' hI (by rfl) (by rfl) (by rfl) (by rfl) (by rfl) (by rfl) ?_ ?_ ?_)
    · exact ⟨hlen, hP.1, Int.le_refl _, Int.pow_pos (by decide), by simp [val], hP.2.2⟩
    · clear lF' lN' hI
      intro us' ms' c' a' t' j y' tj ty u' h' tk' own' hy hoff' hI' hP' kFr' kNews'
      have hlen' := hP'.1
      replace hP' := hP'.2
      have hyb : y' = bs.getD j 0 := by simp [List.getD_eq_getElem?_getD, hy]
      have hjl : j < bs.length := (List.getElem?_eq_some_iff.mp hy).1
      have hyr : 0 ≤ y' ∧ y' < 2 ^ k.toNat := hLb.1 y' (List.mem_of_getElem? hy)
      have hby := limb_bits hyr hkn
      simp only [List.cons_append, List.nil_append, List.append_assoc] at kNews'
      have hg1 := ml_nn (i := i) (j := j)
      have hg2 := ml_lt hil hjl hlen'
      have hg3 := ml_63 hg2 hlen' hla hlb
      repeat' (first | ((fail_if_success (with_reducible show wpAny _ _ (pyIter _) _ _ _)); (fail_if_success (with_reducible show wpAny _ _ (exec (Stmt.While _ _ _ _) _) _ _ _)); (fail_if_success (with_reducible show InvEndN _ _ _ _ _ _ _)); (fail_if_success (with_reducible show LedEnd _ _ _ _ _ _)); (fail_if_success (with_reducible show wpAny _ _ (PySem.call (Value.type "enumerate") _) _ _ _)); (fail_if_success (with_reducible show KswEnd _ _ _ _ _ _ _ _ _ _ _ _)); (first | (k_unfold; (try dsimp only)) | (k_end; wrow_close) | walk1 | (dsimp only; walk1) | (leave1; walk_say "STEP leave1"; try dsimp only))) | fail "no step")
      ((rename News _ _ _ _ => nE'); (try simp only [List.push_toArray] at nE'); (refine' kst_end ⟨_, _, _, _, _⟩ (by assumption) nE' (by first | kst_in | kst_inAny) (by first | (intro p hp; kst_mem) | kst_anyIn) (by rfl) (by kst_facts) (by kst_all) (by kst_same) ?_); (try dsimp only))
      rw [List.length_replicate]
      exact mulI_step hlen' hil hP' hjl hxr hyr hyb
    · intro us' ms' c' a' t' u' h' tk' hI' hP' kFr' kNews'
      clear lF' lN' hI
      have hlen' := hP'.1
      replace hP' := hP'.2
      have hg1 := ml_nn (i := i) (j := bs.length)
      have hg2 := ml_lt' (b := bs.length) hil hlen'
      have hg3 := ml_63 hg2 hlen' hla hlb
      repeat' (first | ((fail_if_success (with_reducible show wpAny _ _ (pyIter _) _ _ _)); (fail_if_success (with_reducible show wpAny _ _ (exec (Stmt.While _ _ _ _) _) _ _ _)); (fail_if_success (with_reducible show InvEndN _ _ _ _ _ _ _)); (fail_if_success (with_reducible show LedEnd _ _ _ _ _ _)); (fail_if_success (with_reducible show wpAny _ _ (PySem.call (Value.type "enumerate") _) _ _ _)); (fail_if_success (with_reducible show KswEnd _ _ _ _ _ _ _ _ _ _ _ _)); (first | (k_unfold; (try dsimp only)) | (k_end; wrow_close) | walk1 | (dsimp only; walk1) | (leave1; walk_say "STEP leave1"; try dsimp only))) | fail "no step")
      ((rename News _ _ _ _ => nE'); (try simp only [List.push_toArray] at nE'); (refine' kst_end ⟨_, _, _⟩ (by assumption) nE' (by first | kst_in | kst_inAny) (by first | (intro p hp; kst_mem) | kst_anyIn) (by rfl) (by kst_facts) (by kst_all) (by kst_same) ?_); (try dsimp only))
      rw [List.length_replicate]
      exact mulO_step hlen' hil hP hP' hxb hLb
  · clear lI' lF' lN'
    intro us ms c u h tk hI hP kFr kNews
    have hi10 := mulO_end hP.2 rfl hLa
    have hms := ml_len hP.1 hla hlb
    repeat' (first | ((fail_if_success (with_reducible show wpAny _ _ (pyIter _) _ _ _)); (fail_if_success (with_reducible show wpAny _ _ (exec (Stmt.While _ _ _ _) _) _ _ _)); (fail_if_success (with_reducible show InvEndN _ _ _ _ _ _ _)); (fail_if_success (with_reducible show LedEnd _ _ _ _ _ _)); (fail_if_success (with_reducible show wpAny _ _ (PySem.call (Value.type "enumerate") _) _ _ _)); (fail_if_success (with_reducible show KswEnd _ _ _ _ _ _ _ _ _ _ _ _)); (first | (k_unfold; (try dsimp only)) | (k_end; wrow_close) | walk1 | (dsimp only; walk1) | (leave1; walk_say "STEP leave1"; try dsimp only))) | fail "no step")
    (((refine hqb _ _ ?_); (try dsimp only); repeat' (first | ((fail_if_success (with_reducible show wpAny _ _ (pyIter _) _ _ _)); (fail_if_success (with_reducible show wpAny _ _ (exec (Stmt.While _ _ _ _) _) _ _ _)); (fail_if_success (with_reducible show InvEndN _ _ _ _ _ _ _)); (fail_if_success (with_reducible show LedEnd _ _ _ _ _ _)); (fail_if_success (with_reducible show wpAny _ _ (PySem.call (Value.type "enumerate") _) _ _ _)); (fail_if_success (with_reducible show KswEnd _ _ _ _ _ _ _ _ _ _ _ _)); (first | (k_unfold; (try dsimp only)) | (k_end; wrow_close) | walk1 | (dsimp only; walk1) | (leave1; walk_say "STEP leave1"; try dsimp only))) | fail "no step")); (try simp only [List.push_toArray] at *); (refine' close_listQ hret ?cF ?cN ?cM ?cI ?cP; (case cF => assumption); (case cN => assumption); (case cM => k_mem); (case cI => first | assumption | exact intsAre_snoc (by assumption))))
    case cP =>
      (rename ∃ _, _ => hR9)
      obtain ⟨j9, hj9, e9, hz9, hl9⟩ := hR9
      subst e9
      rw [← hi10.2]
      exact nor_lim (Int.pow_pos (by decide)) hi10.1 hj9 hz9 hl9
end
section
open PySem PySem.W PyProof.Rows PySem.Calls
set_option linter.unusedVariables false
set_option linter.unusedSimpArgs false
theorem w_off_Signed : True := by
  w_top off
  trivial
set_option maxRecDepth 100000 in
set_option maxHeartbeats 4000000 in
theorem t_signed {w : World} {l : Addr} {b : Bool} {ns : List Int} : Ct w 107 [.bool b, .ref l] 20
    (fun h => LAt h l ns ∧ ns.length ≤ 4000)
    (fun h h' r => ∃ x, r = .ref x ∧ h.get? x = none ∧ h'.get? x = some (tupO [.bool (b && decide (0 < ns.length)), .ref l])) := by
  refine Ct.mk ?_
  k_fill
  intro mean mg mb dp un gd cn cs a ccd cl outer A₀ base h₀ L m s Q E B F X T hk hpre hdp hun hret
  refine wpAny_call ?_
  obtain ⟨⟨va, hA, hIA⟩, hla⟩ := hpre
  k_dflt (refine' enter_pure ?k1 ?k2 ?k3 ?k5 ?kA ?kF ?kK ?k6 ?k7 ?k8 ?k9 ?kB ?_ ?c2 ?c3 ?c4 ?c5; (case kA => exact rfl); (case kF => exact rfl); (case kK => assumption); (case k1 => k_asm); (case k2 => k_asm); (case k3 => k_asm); (case k5 => k_asm); (case k6 => k_is); (case k7 => k_is); (case k8 => ktr_room); (case k9 => exact BindsTo.of_eq rfl); (case c5 => decide); (case kB => exact locs rfl); (case c2 => exact rfl); (case c3 => exact rfl); (case c4 => exact rfl); k_whole)
  intro L' h' tk0 F' N' B' X' T'
  replace F' := fr_lookup [(Str.ofString "nat", Value.ref l), (Str.ofString "is_below", Value.bool b)] F'
  dsimp only [kstB] at F'
  (try dsimp only)
  (try k_fold)
  (refine hideQE ?_; intro Qb hqb)
  cases b
  all_goals repeat' (first | ((fail_if_success (with_reducible show wpAny _ _ (pyIter _) _ _ _)); (fail_if_success (with_reducible show wpAny _ _ (exec (Stmt.While _ _ _ _) _) _ _ _)); (fail_if_success (with_reducible show InvEndN _ _ _ _ _ _ _)); (fail_if_success (with_reducible show LedEnd _ _ _ _ _ _)); (fail_if_success (with_reducible show wpAny _ _ (PySem.call (Value.type "enumerate") _) _ _ _)); (fail_if_success (with_reducible show KswEnd _ _ _ _ _ _ _ _ _ _ _ _)); (first | (k_unfold; (try dsimp only)) | (k_end; wrow_close) | walk1 | (dsimp only; walk1) | (leave1; walk_say "STEP leave1"; try dsimp only))) | fail "no step")
  all_goals (
    ((refine hqb _ _ ?_); (try dsimp only); repeat' (first | ((fail_if_success (with_reducible show wpAny _ _ (pyIter _) _ _ _)); (fail_if_success (with_reducible show wpAny _ _ (exec (Stmt.While _ _ _ _) _) _ _ _)); (fail_if_success (with_reducible show InvEndN _ _ _ _ _ _ _)); (fail_if_success (with_reducible show LedEnd _ _ _ _ _ _)); (fail_if_success (with_reducible show wpAny _ _ (PySem.call (Value.type "enumerate") _) _ _ _)); (fail_if_success (with_reducible show KswEnd _ _ _ _ _ _ _ _ _ _ _ _)); (first | (k_unfold; (try dsimp only)) | (k_end; wrow_close) | walk1 | (dsimp only; walk1) | (leave1; walk_say "STEP leave1"; try dsimp only))) | fail "no step"))
    (with_reducible rename News s.heap _ _ _ => nE)
    refine hret _ _ _ (Fr.keep (by assumption)) ⟨_, rfl, (nE _ (List.Mem.head _)).2.2, ?_⟩
    have hg := (nE _ (List.Mem.head _)).1
    simpa using hg)
end
local macro_rules | `(tactic| walk_at "subscriptTail Name Constant ref int") => `(tactic| (k_here; (with_reducible show wpAny _ _ (subscriptTail _ _ (Value.ref _) (Value.int _ _)) _ _ _); k_dflt (refine item_tupleT (by first | exact base_tup (by assumption) (by assumption) | exact News.isTup (by assumption) (by k_mem)) (by decide) (by decide) rfl rfl ?_)))
section
open PySem PySem.W PyProof.Rows PySem.Calls
set_option linter.unusedVariables false
set_option linter.unusedSimpArgs false
theorem w_off_Sneg : True := by
  w_top off
  trivial
set_option maxRecDepth 100000 in
set_option maxHeartbeats 4000000 in
theorem t_sneg {w : World} {x : Addr} {b : Bool} {l : Addr} {ns : List Int} : Ct w 121 [.ref x] 50
    (fun h => IsTup h x [Value.bool b, Value.ref l].toArray ∧ LAt h l ns ∧ ns.length ≤ 4000)
    (fun h h' r => ∃ y, r = .ref y ∧ h.get? y = none ∧ h'.get? y = some (tupO [.bool (!b && decide (0 < ns.length)), .ref l])) := by
  refine Ct.mk ?_
  k_fill
  intro mean mg mb dp un gd cn cs a ccd cl outer A₀ base h₀ L m s Q E B F X T hk hpre hdp hun hret
  refine wpAny_call ?_
  obtain ⟨hT, hL, hla⟩ := hpre
  k_dflt (refine' enter_pure ?k1 ?k2 ?k3 ?k5 ?kA ?kF ?kK ?k6 ?k7 ?k8 ?k9 ?kB ?_ ?c2 ?c3 ?c4 ?c5; (case kA => exact rfl); (case kF => exact rfl); (case kK => assumption); (case k1 => k_asm); (case k2 => k_asm); (case k3 => k_asm); (case k5 => k_asm); (case k6 => k_is); (case k7 => k_is); (case k8 => ktr_room); (case k9 => exact BindsTo.of_eq rfl); (case c5 => decide); (case kB => exact locs rfl); (case c2 => exact rfl); (case c3 => exact rfl); (case c4 => exact rfl); k_whole)
  intro L' h' tk0 F' N' B' X' T'
  replace F' := fr_lookup [(Str.ofString "x", Value.ref x)] F'
  dsimp only [kstB] at F'
  (try dsimp only)
  (try k_fold)
  (refine hideQE ?_; intro Qb hqb)
  repeat' (first | ((fail_if_success (with_reducible show wpAny _ _ (pyIter _) _ _ _)); (fail_if_success (with_reducible show wpAny _ _ (exec (Stmt.While _ _ _ _) _) _ _ _)); (fail_if_success (with_reducible show InvEndN _ _ _ _ _ _ _)); (fail_if_success (with_reducible show LedEnd _ _ _ _ _ _)); (fail_if_success (with_reducible show wpAny _ _ (PySem.call (Value.type "enumerate") _) _ _ _)); (fail_if_success (with_reducible show KswEnd _ _ _ _ _ _ _ _ _ _ _ _)); (first | (k_unfold; (try dsimp only)) | (k_end; wrow_close) | walk1 | (dsimp only; walk1) | (leave1; walk_say "STEP leave1"; try dsimp only))) | fail "no step")
  ((refine hqb _ _ ?_); (try dsimp only); repeat' (first | ((fail_if_success (with_reducible show wpAny _ _ (pyIter _) _ _ _)); (fail_if_success (with_reducible show wpAny _ _ (exec (Stmt.While _ _ _ _) _) _ _ _)); (fail_if_success (with_reducible show InvEndN _ _ _ _ _ _ _)); (fail_if_success (with_reducible show LedEnd _ _ _ _ _ _)); (fail_if_success (with_reducible show wpAny _ _ (PySem.call (Value.type "enumerate") _) _ _ _)); (fail_if_success (with_reducible show KswEnd _ _ _ _ _ _ _ _ _ _ _ _)); (first | (k_unfold; (try dsimp only)) | (k_end; wrow_close) | walk1 | (dsimp only; walk1) | (leave1; walk_say "STEP leave1"; try dsimp only))) | fail "no step"))
  (with_reducible rename News s.heap _ _ _ => nE)
  exact hret _ _ _ (Fr.keep (by assumption)) ⟨_, rfl, (nE _ (List.Mem.head _)).2.2, (nE _ (List.Mem.head _)).1⟩
end
local macro_rules | `(tactic| walk_at "pad5") => `(tactic| skip)
section
open PySem PySem.W PyProof.Rows PySem.Calls
set_option linter.unusedVariables false
set_option linter.unusedSimpArgs false
theorem w_off_Sof : True := by
  w_top off
  trivial
set_option maxRecDepth 100000 in
set_option maxHeartbeats 4000000 in
theorem t_sof {w : World} {k n : Int} {kt nt : Tok} : Ct w 114 [.int n nt, .int k kt] 50
    (fun h => 8 ≤ k ∧ k ≤ 12 ∧ -1000 ≤ n ∧ n ≤ 1000)
    (fun h h' r => ∃ b rs, SNew h h' r b rs ∧ Sg (2 ^ k.toNat) b rs n) := by
  refine Ct.mk ?_
  k_fill
  intro mean mg mb dp un gd cn cs a ccd cl outer A₀ base h₀ L m s Q E B F X T hk hpre hdp hun hret
  refine wpAny_call ?_
  obtain ⟨h8, h12, hn0, hn1⟩ := hpre
  have ha0 := abs_0 (n := n)
  have ha1 := abs_1 hn0 hn1
  k_dflt (refine' enter_pure ?k1 ?k2 ?k3 ?k5 ?kA ?kF ?kK ?k6 ?k7 ?k8 ?k9 ?kB ?_ ?c2 ?c3 ?c4 ?c5; (case kA => exact rfl); (case kF => exact rfl); (case kK => assumption); (case k1 => k_asm); (case k2 => k_asm); (case k3 => k_asm); (case k5 => k_asm); (case k6 => k_is); (case k7 => k_is); (case k8 => ktr_room); (case k9 => exact BindsTo.of_eq rfl); (case c5 => decide); (case kB => exact locs rfl); (case c2 => exact rfl); (case c3 => exact rfl); (case c4 => exact rfl); k_whole)
  intro L' h' tk0 F' N' B' X' T'
  replace F' := fr_lookup [(Str.ofString "w", Value.int k kt), (Str.ofString "number", Value.int n nt)] F'
  dsimp only [kstB] at F'
  (try dsimp only)
  (try k_fold)
  (refine hideQE ?_; intro Qb hqb)
  repeat' (first | ((fail_if_success (with_reducible show wpAny _ _ (pyIter _) _ _ _)); (fail_if_success (with_reducible show wpAny _ _ (exec (Stmt.While _ _ _ _) _) _ _ _)); (fail_if_success (with_reducible show InvEndN _ _ _ _ _ _ _)); (fail_if_success (with_reducible show LedEnd _ _ _ _ _ _)); (fail_if_success (with_reducible show wpAny _ _ (PySem.call (Value.type "enumerate") _) _ _ _)); (fail_if_success (with_reducible show KswEnd _ _ _ _ _ _ _ _ _ _ _ _)); (first | (k_unfold; (try dsimp only)) | (k_end; wrow_close) | walk1 | (dsimp only; walk1) | (leave1; walk_say "STEP leave1"; try dsimp only))) | fail "no step")
  (((refine hqb _ _ ?_); (try dsimp only); repeat' (first | ((fail_if_success (with_reducible show wpAny _ _ (pyIter _) _ _ _)); (fail_if_success (with_reducible show wpAny _ _ (exec (Stmt.While _ _ _ _) _) _ _ _)); (fail_if_success (with_reducible show InvEndN _ _ _ _ _ _ _)); (fail_if_success (with_reducible show LedEnd _ _ _ _ _ _)); (fail_if_success (with_reducible show wpAny _ _ (PySem.call (Value.type "enumerate") _) _ _ _)); (fail_if_success (with_reducible show KswEnd _ _ _ _ _ _ _ _ _ _ _ _)); (first | (k_unfold; (try dsimp only)) | (k_end; wrow_close) | walk1 | (dsimp only; walk1) | (leave1; walk_say "STEP leave1"; try dsimp only))) | fail "no step")); (try simp only [List.push_toArray] at *); (refine' close_sgQ hret ?cF ?cN ?cX ?cM ?cI ?cP; (case cF => assumption); (case cN => assumption); (case cX => k_mem); (case cM => k_mem); (case cI => first | assumption | exact intsAre_snoc (by assumption))))
  (with_reducible rename Lim _ _ _ => hR9)
  (case cP => refine ⟨?_, rfl⟩; rw [abs_if]; exact hR9)
end
local macro_rules | `(tactic| walk_at "pad6") => `(tactic| skip)
section
open PySem PySem.W PyProof.Rows PySem.Calls
set_option linter.unusedVariables false
set_option linter.unusedSimpArgs false
theorem w_off_Sadd : True := by
  w_top off
  trivial
set_option maxRecDepth 100000 in
set_option maxHeartbeats 4000000 in
theorem t_sadd {w : World} {x y : Addr} {k : Int} {kt : Tok} {bx bY : Bool} {xs ys : List Int} {zx zy : Int} : Ct w 128 [.ref x, .ref y, .int k kt] 100
    (fun h => SAt h x bx xs ∧ SAt h y bY ys ∧ 8 ≤ k ∧ k ≤ 12 ∧ Sg (2 ^ k.toNat) bx xs zx ∧ Sg (2 ^ k.toNat) bY ys zy ∧ Sm 900 zx ∧ Sm 900 zy)
    (fun h h' r => ∃ b rs, SNew h h' r b rs ∧ Sg (2 ^ k.toNat) b rs (zx + zy)) := by
  refine Ct.mk ?_
  k_fill
  intro mean mg mb dp un gd cn cs a ccd cl outer A₀ base h₀ L m s Q E B F X T hk hpre hdp hun hret
  refine wpAny_call ?_
  obtain ⟨⟨lx, hTx, hLx⟩, ⟨ly, hTy, hLy⟩, h8, h12, hSx, hSy, hmx, hmy⟩ := hpre
  have hl1 := hSx.len (by omega) hmx
  have hl2 := hSy.len (by omega) hmy
  have hg1 := hSx.1
  have hg2 := hSy.1
  have hq1 := hmx.abs.add hmy.abs
  have hq2 := hmx.abs.sub hmy.abs
  have hq3 := hmy.abs.sub hmx.abs
  have hBp : (0 : Int) < 2 ^ k.toNat := Int.pow_pos (by decide)
  k_dflt (refine' enter_pure ?k1 ?k2 ?k3 ?k5 ?kA ?kF ?kK ?k6 ?k7 ?k8 ?k9 ?kB ?_ ?c2 ?c3 ?c4 ?c5; (case kA => exact rfl); (case kF => exact rfl); (case kK => assumption); (case k1 => k_asm); (case k2 => k_asm); (case k3 => k_asm); (case k5 => k_asm); (case k6 => k_is); (case k7 => k_is); (case k8 => ktr_room); (case k9 => exact BindsTo.of_eq rfl); (case c5 => decide); (case kB => exact locs rfl); (case c2 => exact rfl); (case c3 => exact rfl); (case c4 => exact rfl); k_whole)
  intro L' h' tk0 F' N' B' X' T'
  replace F' := fr_lookup [(Str.ofString "w", Value.int k kt), (Str.ofString "y", Value.ref y), (Str.ofString "x", Value.ref x)] F'
  dsimp only [kstB] at F'
  (try dsimp only)
  (try k_fold)
  (refine hideQE ?_; intro Qb hqb)
  repeat' (first | ((fail_if_success (with_reducible show wpAny _ _ (pyIter _) _ _ _)); (fail_if_success (with_reducible show wpAny _ _ (exec (Stmt.While _ _ _ _) _) _ _ _)); (fail_if_success (with_reducible show InvEndN _ _ _ _ _ _ _)); (fail_if_success (with_reducible show LedEnd _ _ _ _ _ _)); (fail_if_success (with_reducible show wpAny _ _ (PySem.call (Value.type "enumerate") _) _ _ _)); (fail_if_success (with_reducible show KswEnd _ _ _ _ _ _ _ _ _ _ _ _)); (first | (k_unfold; (try dsimp only)) | (k_end; wrow_close) | walk1 | (dsimp only; walk1) | (leave1; walk_say "STEP leave1"; try dsimp only))) | fail "no step")
  · (((refine hqb _ _ ?_); (try dsimp only); repeat' (first | ((fail_if_success (with_reducible show wpAny _ _ (pyIter _) _ _ _)); (fail_if_success (with_reducible show wpAny _ _ (exec (Stmt.While _ _ _ _) _) _ _ _)); (fail_if_success (with_reducible show InvEndN _ _ _ _ _ _ _)); (fail_if_success (with_reducible show LedEnd _ _ _ _ _ _)); (fail_if_success (with_reducible show wpAny _ _ (PySem.call (Value.type "enumerate") _) _ _ _)); (fail_if_success (with_reducible show KswEnd _ _ _ _ _ _ _ _ _ _ _ _)); (first | (k_unfold; (try dsimp only)) | (k_end; wrow_close) | walk1 | (dsimp only; walk1) | (leave1; walk_say "STEP leave1"; try dsimp only))) | fail "no step")); (try simp only [List.push_toArray] at *); (refine' close_sgQ hret ?cF ?cN ?cX ?cM ?cI ?cP; (case cF => assumption); (case cN => assumption); (case cX => k_mem); (case cM => k_mem); (case cI => first | assumption | exact intsAre_snoc (by assumption))))
    (case cP => exact sg_add hBp hSx hSy (by assumption) (by assumption))
  · (((refine hqb _ _ ?_); (try dsimp only); repeat' (first | ((fail_if_success (with_reducible show wpAny _ _ (pyIter _) _ _ _)); (fail_if_success (with_reducible show wpAny _ _ (exec (Stmt.While _ _ _ _) _) _ _ _)); (fail_if_success (with_reducible show InvEndN _ _ _ _ _ _ _)); (fail_if_success (with_reducible show LedEnd _ _ _ _ _ _)); (fail_if_success (with_reducible show wpAny _ _ (PySem.call (Value.type "enumerate") _) _ _ _)); (fail_if_success (with_reducible show KswEnd _ _ _ _ _ _ _ _ _ _ _ _)); (first | (k_unfold; (try dsimp only)) | (k_end; wrow_close) | walk1 | (dsimp only; walk1) | (leave1; walk_say "STEP leave1"; try dsimp only))) | fail "no step")); (try simp only [List.push_toArray] at *); (refine' close_sgQ hret ?cF ?cN ?cX ?cM ?cI ?cP; (case cF => assumption); (case cN => assumption); (case cX => k_mem); (case cM => k_mem); (case cI => first | assumption | exact intsAre_snoc (by assumption))))
    (case cP => exact sg_sub2 hBp hSx hSy (by assumption) (by assumption))
  · (((refine hqb _ _ ?_); (try dsimp only); repeat' (first | ((fail_if_success (with_reducible show wpAny _ _ (pyIter _) _ _ _)); (fail_if_success (with_reducible show wpAny _ _ (exec (Stmt.While _ _ _ _) _) _ _ _)); (fail_if_success (with_reducible show InvEndN _ _ _ _ _ _ _)); (fail_if_success (with_reducible show LedEnd _ _ _ _ _ _)); (fail_if_success (with_reducible show wpAny _ _ (PySem.call (Value.type "enumerate") _) _ _ _)); (fail_if_success (with_reducible show KswEnd _ _ _ _ _ _ _ _ _ _ _ _)); (first | (k_unfold; (try dsimp only)) | (k_end; wrow_close) | walk1 | (dsimp only; walk1) | (leave1; walk_say "STEP leave1"; try dsimp only))) | fail "no step")); (try simp only [List.push_toArray] at *); (refine' close_sgQ hret ?cF ?cN ?cX ?cM ?cI ?cP; (case cF => assumption); (case cN => assumption); (case cX => k_mem); (case cM => k_mem); (case cI => first | assumption | exact intsAre_snoc (by assumption))))
    (case cP => exact sg_sub1 hBp hSx hSy (by assumption) (by assumption))
end
local macro_rules | `(tactic| walk_at "pad7") => `(tactic| skip)
section
open PySem PySem.W PyProof.Rows PySem.Calls
set_option linter.unusedVariables false
set_option linter.unusedSimpArgs false
theorem w_off_Ssub : True := by
  w_top off
  trivial
set_option maxRecDepth 100000 in
set_option maxHeartbeats 4000000 in
theorem t_ssub {w : World} {x y : Addr} {k : Int} {kt : Tok} {bx bY : Bool} {xs ys : List Int} {zx zy : Int} : Ct w 135 [.ref x, .ref y, .int k kt] 150
    (fun h => SAt h x bx xs ∧ SAt h y bY ys ∧ 8 ≤ k ∧ k ≤ 12 ∧ Sg (2 ^ k.toNat) bx xs zx ∧ Sg (2 ^ k.toNat) bY ys zy ∧ Sm 900 zx ∧ Sm 900 zy)
    (fun h h' r => ∃ b rs, SNew h h' r b rs ∧ Sg (2 ^ k.toNat) b rs (zx - zy)) := by
  refine Ct.mk ?_
  k_fill
  intro mean mg mb dp un gd cn cs a ccd cl outer A₀ base h₀ L m s Q E B F X T hk hpre hdp hun hret
  refine wpAny_call ?_
  obtain ⟨⟨lx, hTx, hLx⟩, ⟨ly, hTy, hLy⟩, h8, h12, hSx, hSy, hmx, hmy⟩ := hpre
  have hl1 := hSx.len (by omega) hmx
  have hl2 := hSy.len (by omega) hmy
  have hBp : (0 : Int) < 2 ^ k.toNat := Int.pow_pos (by decide)
  have hSn := sg_neg hBp hSy
  have hmn := hmy.neg
  k_dflt (refine' enter_pure ?k1 ?k2 ?k3 ?k5 ?kA ?kF ?kK ?k6 ?k7 ?k8 ?k9 ?kB ?_ ?c2 ?c3 ?c4 ?c5; (case kA => exact rfl); (case kF => exact rfl); (case kK => assumption); (case k1 => k_asm); (case k2 => k_asm); (case k3 => k_asm); (case k5 => k_asm); (case k6 => k_is); (case k7 => k_is); (case k8 => ktr_room); (case k9 => exact BindsTo.of_eq rfl); (case c5 => decide); (case kB => exact locs rfl); (case c2 => exact rfl); (case c3 => exact rfl); (case c4 => exact rfl); k_whole)
  intro L' h' tk0 F' N' B' X' T'
  replace F' := fr_lookup [(Str.ofString "w", Value.int k kt), (Str.ofString "y", Value.ref y), (Str.ofString "x", Value.ref x)] F'
  dsimp only [kstB] at F'
  (try dsimp only)
  (try k_fold)
  (refine hideQE ?_; intro Qb hqb)
  repeat' (first | ((fail_if_success (with_reducible show wpAny _ _ (pyIter _) _ _ _)); (fail_if_success (with_reducible show wpAny _ _ (exec (Stmt.While _ _ _ _) _) _ _ _)); (fail_if_success (with_reducible show InvEndN _ _ _ _ _ _ _)); (fail_if_success (with_reducible show LedEnd _ _ _ _ _ _)); (fail_if_success (with_reducible show wpAny _ _ (PySem.call (Value.type "enumerate") _) _ _ _)); (fail_if_success (with_reducible show KswEnd _ _ _ _ _ _ _ _ _ _ _ _)); (first | (k_unfold; (try dsimp only)) | (k_end; wrow_close) | walk1 | (dsimp only; walk1) | (leave1; walk_say "STEP leave1"; try dsimp only))) | fail "no step")
  (((refine hqb _ _ ?_); (try dsimp only); repeat' (first | ((fail_if_success (with_reducible show wpAny _ _ (pyIter _) _ _ _)); (fail_if_success (with_reducible show wpAny _ _ (exec (Stmt.While _ _ _ _) _) _ _ _)); (fail_if_success (with_reducible show InvEndN _ _ _ _ _ _ _)); (fail_if_success (with_reducible show LedEnd _ _ _ _ _ _)); (fail_if_success (with_reducible show wpAny _ _ (PySem.call (Value.type "enumerate") _) _ _ _)); (fail_if_success (with_reducible show KswEnd _ _ _ _ _ _ _ _ _ _ _ _)); (first | (k_unfold; (try dsimp only)) | (k_end; wrow_close) | walk1 | (dsimp only; walk1) | (leave1; walk_say "STEP leave1"; try dsimp only))) | fail "no step")); (try simp only [List.push_toArray] at *); (refine' close_sgQ hret ?cF ?cN ?cX ?cM ?cI ?cP; (case cF => assumption); (case cN => assumption); (case cX => k_mem); (case cM => k_mem); (case cI => first | assumption | exact intsAre_snoc (by assumption))))
  (case cP => rw [Int.sub_eq_add_neg]; assumption)
end
local macro_rules | `(tactic| walk_at "pad8") => `(tactic| skip)
section
open PySem PySem.W PyProof.Rows PySem.Calls
set_option linter.unusedVariables false
set_option linter.unusedSimpArgs false
theorem w_off_Smul : True := by
  w_top off
  trivial
set_option maxRecDepth 100000 in
set_option maxHeartbeats 4000000 in
theorem t_smul {w : World} {x y : Addr} {k : Int} {kt : Tok} {bx bY : Bool} {xs ys : List Int} {zx zy : Int} : Ct w 142 [.ref x, .ref y, .int k kt, .ref 163] 100
    (fun h => SAt h x bx xs ∧ SAt h y bY ys ∧ 8 ≤ k ∧ k ≤ 12 ∧ Sg (2 ^ k.toNat) bx xs zx ∧ Sg (2 ^ k.toNat) bY ys zy ∧ Sm 900 zx ∧ Sm 900 zy)
    (fun h h' r => ∃ b rs, SNew h h' r b rs ∧ Sg (2 ^ k.toNat) b rs (zx * zy)) := by
  refine Ct.mk ?_
  k_fill
  intro mean mg mb dp un gd cn cs a ccd cl outer A₀ base h₀ L m s Q E B F X T hk hpre hdp hun hret
  refine wpAny_call ?_
  obtain ⟨⟨lx, hTx, hLx⟩, ⟨ly, hTy, hLy⟩, h8, h12, hSx, hSy, hmx, hmy⟩ := hpre
  have hl1 := hSx.len (by omega) hmx
  have hl2 := hSy.len (by omega) hmy
  have hBp : (0 : Int) < 2 ^ k.toNat := Int.pow_pos (by decide)
  have hg1 := hSx.1
  have hg2 := hSy.1
  have hq1 := hmx.abs.mul hmy.abs
  k_dflt (refine' enter_pure ?k1 ?k2 ?k3 ?k5 ?kA ?kF ?kK ?k6 ?k7 ?k8 ?k9 ?kB ?_ ?c2 ?c3 ?c4 ?c5; (case kA => exact rfl); (case kF => exact rfl); (case kK => assumption); (case k1 => k_asm); (case k2 => k_asm); (case k3 => k_asm); (case k5 => k_asm); (case k6 => k_is); (case k7 => k_is); (case k8 => ktr_room); (case k9 => exact BindsTo.of_eq rfl); (case c5 => decide); (case kB => exact locs rfl); (case c2 => exact rfl); (case c3 => exact rfl); (case c4 => exact rfl); k_whole)
  intro L' h' tk0 F' N' B' X' T'
  replace F' := fr_lookup [(Str.ofString "mul", Value.ref 163), (Str.ofString "w", Value.int k kt), (Str.ofString "y", Value.ref y), (Str.ofString "x", Value.ref x)] F'
  dsimp only [kstB] at F'
  (try dsimp only)
  (try k_fold)
  (refine hideQE ?_; intro Qb hqb)
  repeat' (first | ((fail_if_success (with_reducible show wpAny _ _ (pyIter _) _ _ _)); (fail_if_success (with_reducible show wpAny _ _ (exec (Stmt.While _ _ _ _) _) _ _ _)); (fail_if_success (with_reducible show InvEndN _ _ _ _ _ _ _)); (fail_if_success (with_reducible show LedEnd _ _ _ _ _ _)); (fail_if_success (with_reducible show wpAny _ _ (PySem.call (Value.type "enumerate") _) _ _ _)); (fail_if_success (with_reducible show KswEnd _ _ _ _ _ _ _ _ _ _ _ _)); (first | (k_unfold; (try dsimp only)) | (k_end; wrow_close) | walk1 | (dsimp only; walk1) | (leave1; walk_say "STEP leave1"; try dsimp only))) | fail "no step")
  (((refine hqb _ _ ?_); (try dsimp only); repeat' (first | ((fail_if_success (with_reducible show wpAny _ _ (pyIter _) _ _ _)); (fail_if_success (with_reducible show wpAny _ _ (exec (Stmt.While _ _ _ _) _) _ _ _)); (fail_if_success (with_reducible show InvEndN _ _ _ _ _ _ _)); (fail_if_success (with_reducible show LedEnd _ _ _ _ _ _)); (fail_if_success (with_reducible show wpAny _ _ (PySem.call (Value.type "enumerate") _) _ _ _)); (fail_if_success (with_reducible show KswEnd _ _ _ _ _ _ _ _ _ _ _ _)); (first | (k_unfold; (try dsimp only)) | (k_end; wrow_close) | walk1 | (dsimp only; walk1) | (leave1; walk_say "STEP leave1"; try dsimp only))) | fail "no step")); (try simp only [List.push_toArray] at *); (refine' close_sgQ hret ?cF ?cN ?cX ?cM ?cI ?cP; (case cF => assumption); (case cN => assumption); (case cX => k_mem); (case cM => k_mem); (case cI => first | assumption | exact intsAre_snoc (by assumption))))
  (case cP => exact sg_mul hBp hSx hSy (by assumption))
end
local macro_rules | `(tactic| walk_at "pad9") => `(tactic| skip)
section
open PySem PySem.W PyProof.Rows PySem.Calls
set_option linter.unusedVariables false
set_option linter.unusedSimpArgs false
theorem w_off_Shalf : True := by
  w_top off
  trivial
set_option maxRecDepth 100000 in
set_option maxHeartbeats 4000000 in
theorem t_shalf {w : World} {x : Addr} {k : Int} {kt : Tok} {bx : Bool} {xs : List Int} {y z : Int} : Ct w 149 [.ref x, .int k kt] 100
    (fun h => SAt h x bx xs ∧ 8 ≤ k ∧ k ≤ 12 ∧ Sg (2 ^ k.toNat) bx xs y ∧ y = 2 * z ∧ Sm 900 y)
    (fun h h' r => ∃ b rs, SNew h h' r b rs ∧ Sg (2 ^ k.toNat) b rs z) := by
  refine Ct.mk ?_
  k_fill
  intro mean mg mb dp un gd cn cs a ccd cl outer A₀ base h₀ L m s Q E B F X T hk hpre hdp hun hret
  refine wpAny_call ?_
  obtain ⟨⟨lx, hTx, hLx⟩, h8, h12, hSx, hyz, hmx⟩ := hpre
  subst hyz
  have hl1 := hSx.len (by omega) hmx
  have hBp : (0 : Int) < 2 ^ k.toNat := Int.pow_pos (by decide)
  have hg1 := hSx.1
  have hev : ((2 * z).natAbs : Int) % 2 = 0 := by rw [Int.natAbs_mul, Int.natCast_mul]; exact Int.mul_emod_right 2 _
  have hq1 : Sm 900 (((2 * z).natAbs : Int) / 2) := by rw [Int.natAbs_mul, Int.natCast_mul, show ((Int.natAbs 2 : Nat) : Int) = 2 from rfl, Int.mul_ediv_cancel_left _ (by decide)]; exact hmx.half.abs
  k_dflt (refine' enter_pure ?k1 ?k2 ?k3 ?k5 ?kA ?kF ?kK ?k6 ?k7 ?k8 ?k9 ?kB ?_ ?c2 ?c3 ?c4 ?c5; (case kA => exact rfl); (case kF => exact rfl); (case kK => assumption); (case k1 => k_asm); (case k2 => k_asm); (case k3 => k_asm); (case k5 => k_asm); (case k6 => k_is); (case k7 => k_is); (case k8 => ktr_room); (case k9 => exact BindsTo.of_eq rfl); (case c5 => decide); (case kB => exact locs rfl); (case c2 => exact rfl); (case c3 => exact rfl); (case c4 => exact rfl); k_whole)
  intro L' h' tk0 F' N' B' X' T'
  replace F' := fr_lookup [(Str.ofString "w", Value.int k kt), (Str.ofString "x", Value.ref x)] F'
  dsimp only [kstB] at F'
  (try dsimp only)
  (try k_fold)
  (refine hideQE ?_; intro Qb hqb)
  repeat' (first | ((fail_if_success (with_reducible show wpAny _ _ (pyIter _) _ _ _)); (fail_if_success (with_reducible show wpAny _ _ (exec (Stmt.While _ _ _ _) _) _ _ _)); (fail_if_success (with_reducible show InvEndN _ _ _ _ _ _ _)); (fail_if_success (with_reducible show LedEnd _ _ _ _ _ _)); (fail_if_success (with_reducible show wpAny _ _ (PySem.call (Value.type "enumerate") _) _ _ _)); (fail_if_success (with_reducible show KswEnd _ _ _ _ _ _ _ _ _ _ _ _)); (first | (k_unfold; (try dsimp only)) | (k_end; wrow_close) | walk1 | (dsimp only; walk1) | (leave1; walk_say "STEP leave1"; try dsimp only))) | fail "no step")
  (((refine hqb _ _ ?_); (try dsimp only); repeat' (first | ((fail_if_success (with_reducible show wpAny _ _ (pyIter _) _ _ _)); (fail_if_success (with_reducible show wpAny _ _ (exec (Stmt.While _ _ _ _) _) _ _ _)); (fail_if_success (with_reducible show InvEndN _ _ _ _ _ _ _)); (fail_if_success (with_reducible show LedEnd _ _ _ _ _ _)); (fail_if_success (with_reducible show wpAny _ _ (PySem.call (Value.type "enumerate") _) _ _ _)); (fail_if_success (with_reducible show KswEnd _ _ _ _ _ _ _ _ _ _ _ _)); (first | (k_unfold; (try dsimp only)) | (k_end; wrow_close) | walk1 | (dsimp only; walk1) | (leave1; walk_say "STEP leave1"; try dsimp only))) | fail "no step")); (try simp only [List.push_toArray] at *); (refine' close_sgQ hret ?cF ?cN ?cX ?cM ?cI ?cP; (case cF => assumption); (case cN => assumption); (case cX => k_mem); (case cM => k_mem); (case cI => first | assumption | exact intsAre_snoc (by assumption))))
  (case cP => exact sg_half hBp hSx (by assumption))
end
section
open PySem PySem.W PyProof.Rows PySem.Calls
set_option linter.unusedVariables false
theorem w_off_Num : True := by
  w_top off
  trivial
/-- a contract whose premise names what stands only by its being -/
theorem Ct.of {w : World} {f : Addr} {vs : List Value} {d : Nat} {ι : Type} {Pre : ι → Heap → Prop} {Pre' : Heap → Prop} {Post : Heap → Heap → Value → Prop} (C : ∀ i, Ct w f vs d (Pre i) Post) (hp : ∀ h, Pre' h → ∃ i, Pre i h) : Ct w f vs d Pre' Post := by
  refine ⟨?_⟩
  intro mean mg mb dp un gd cn cs a ccd cl outer A₀ base h₀ L m s Q E B F X T hk hpre
  obtain ⟨i, hi⟩ := hp _ hpre
  exact (C i).go mean mg mb dp un gd cn cs a ccd cl outer A₀ base h₀ L m s Q E B F X T hk hi
/-- a signed number of the value z at x -/
def Num (h : Heap) (x : Addr) (B z : Int) : Prop := ∃ b ns, SAt h x b ns ∧ Sg B b ns z
theorem Num.keeps {h h' : Heap} {x : Addr} {B z : Int} (y : Num h x B z) (k : ∀ b o, h.get? b = some o → h'.get? b = some o) : Num h' x B z := let ⟨b, ns, s, g⟩ := y; ⟨b, ns, s.keeps k, g⟩
theorem Num.up {h₀ h : Heap} {L : Addr} {m : Str → Option Value} {x : Addr} {B z : Int} (F : Fr h₀ L h m) (y : Num h₀ x B z) : Num h x B z := y.keeps F.keep
/-- a piece of the ledger that holds such a number -/
def NumL (g : List (Addr × Obj)) (x : Addr) (B z : Int) : Prop := (∀ p ∈ g, p.2.cls ≠ .type "range_iterator") ∧ ∃ b l us c ns, (x, tupO [.bool b, .ref l]) ∈ g ∧ (l, W.listOf (List.toArray us) c) ∈ g ∧ IntsAre us ns ∧ Sg B b ns z
theorem NumL.num {g : List (Addr × Obj)} {x : Addr} {B z : Int} {h₀ h : Heap} {L : Addr} {news : List (Addr × Obj)} (G : NumL g x B z) (N : News h₀ L h news) (hs : ∀ p ∈ g, p ∈ news) : Num h x B z := by
  obtain ⟨-, b, l, us, c, ns, h1, h2, hI, hS⟩ := G
  exact ⟨b, ns, .of N (hs _ h1) (.of N (hs _ h2) hI), hS⟩
theorem NumL.mono {g g' : List (Addr × Obj)} {x : Addr} {B z : Int} (G : NumL g x B z) (hs : ∀ p ∈ g, p ∈ g') (hc : ∀ p ∈ g', p.2.cls ≠ .type "range_iterator") : NumL g' x B z := by
  obtain ⟨-, b, l, us, c, ns, h1, h2, hI, hS⟩ := G
  exact ⟨hc, b, l, us, c, ns, hs _ h1, hs _ h2, hI, hS⟩
theorem t_sadd' {w : World} {x y : Addr} {k : Int} {kt : Tok} {zx zy : Int} : Ct w 128 [.ref x, .ref y, .int k kt] 100
    (fun h => Num h x (2 ^ k.toNat) zx ∧ Num h y (2 ^ k.toNat) zy ∧ 8 ≤ k ∧ k ≤ 12 ∧ Sm 900 zx ∧ Sm 900 zy) (fun h h' r => ∃ b rs, SNew h h' r b rs ∧ Sg (2 ^ k.toNat) b rs (zx + zy)) :=
  .of (fun i : Bool × List Int × Bool × List Int => t_sadd (bx := i.1) (xs := i.2.1) (bY := i.2.2.1) (ys := i.2.2.2)) fun _ ⟨⟨b, xs, hx, sx⟩, ⟨b', ys, hy, sy⟩, h8, h12, hz, hz'⟩ => ⟨⟨b, xs, b', ys⟩, hx, hy, h8, h12, sx, sy, hz, hz'⟩
theorem t_ssub' {w : World} {x y : Addr} {k : Int} {kt : Tok} {zx zy : Int} : Ct w 135 [.ref x, .ref y, .int k kt] 150
    (fun h => Num h x (2 ^ k.toNat) zx ∧ Num h y (2 ^ k.toNat) zy ∧ 8 ≤ k ∧ k ≤ 12 ∧ Sm 900 zx ∧ Sm 900 zy) (fun h h' r => ∃ b rs, SNew h h' r b rs ∧ Sg (2 ^ k.toNat) b rs (zx - zy)) :=
  .of (fun i : Bool × List Int × Bool × List Int => t_ssub (bx := i.1) (xs := i.2.1) (bY := i.2.2.1) (ys := i.2.2.2)) fun _ ⟨⟨b, xs, hx, sx⟩, ⟨b', ys, hy, sy⟩, h8, h12, hz, hz'⟩ => ⟨⟨b, xs, b', ys⟩, hx, hy, h8, h12, sx, sy, hz, hz'⟩
theorem t_smul' {w : World} {x y : Addr} {k : Int} {kt : Tok} {zx zy : Int} : Ct w 142 [.ref x, .ref y, .int k kt, .ref 163] 100
    (fun h => Num h x (2 ^ k.toNat) zx ∧ Num h y (2 ^ k.toNat) zy ∧ 8 ≤ k ∧ k ≤ 12 ∧ Sm 900 zx ∧ Sm 900 zy) (fun h h' r => ∃ b rs, SNew h h' r b rs ∧ Sg (2 ^ k.toNat) b rs (zx * zy)) :=
  .of (fun i : Bool × List Int × Bool × List Int => t_smul (bx := i.1) (xs := i.2.1) (bY := i.2.2.1) (ys := i.2.2.2)) fun _ ⟨⟨b, xs, hx, sx⟩, ⟨b', ys, hy, sy⟩, h8, h12, hz, hz'⟩ => ⟨⟨b, xs, b', ys⟩, hx, hy, h8, h12, sx, sy, hz, hz'⟩
theorem t_shalf' {w : World} {x : Addr} {k : Int} {kt : Tok} {y z : Int} : Ct w 149 [.ref x, .int k kt] 100
    (fun h => Num h x (2 ^ k.toNat) y ∧ 8 ≤ k ∧ k ≤ 12 ∧ y = 2 * z ∧ Sm 900 y) (fun h h' r => ∃ b rs, SNew h h' r b rs ∧ Sg (2 ^ k.toNat) b rs z) :=
  .of (fun i : Bool × List Int => t_shalf (bx := i.1) (xs := i.2) (y := y)) fun _ ⟨⟨b, xs, hx, sx⟩, h8, h12, e, hz⟩ => ⟨⟨b, xs⟩, hx, h8, h12, sx, e, hz⟩
section
variable {w : World} {f : Addr} {vs : List Value} {d : Nat} {Pre : Heap → Prop}
    {mean : ExcName → Option Value} {mg mb : Str → Option Value} {dp un : Nat} {gd : Option (List Code)} {cn : Str} {cs : Scope} {a : Addr} {ccd : Value} {cl : List (Str × Addr)} {outer : List Env} {A₀ : Around} {base h₀ : Heap} {L : Addr} {m : Str → Option Value} {news : List (Addr × Obj)} {s : Shared} {Q E : Value → Shared → Prop}
/-- a new signed number comes back -/
theorem use_num {B' z : Int}
    (h : ∀ (x : Addr) (g : List (Addr × Obj)) (h' : Heap) (tk' : Nat), Fr h₀ L h' m → News h₀ L h' (news ++ g) → NumL g x B' z → Q (.ref x) { s with heap := h', toks := tk' }) :
    After h₀ L m news s Q (fun h h' r => ∃ b rs, SNew h h' r b rs ∧ Sg B' b rs z) :=
  use_sg fun b rs x l us c h' tk' F N hI hS =>
    h x [(x, tupO [.bool b, .ref l]), (l, W.listOf (List.toArray us) c)] h' tk' F (fun p hp => N p (by
      rcases List.mem_append.mp hp with hp | hp
      · exact .tail _ (.tail _ hp)
      · rcases List.mem_cons.mp hp with rfl | hp
        · exact .head _
        · rw [List.mem_singleton.mp hp]; exact .tail _ (.head _))) ⟨fun p hp => by
          rcases List.mem_cons.mp hp with rfl | hp
          · simp
          · rw [List.mem_singleton.mp hp]; simp, b, l, us, c, rs, .head _, .tail _ (.head _), hI, hS⟩
end
end
section
set_option linter.unusedVariables false
theorem w_off_Luc : True := by
  w_top off
  trivial
def lucU (p q : Int) : Nat → Int
  | 0 => 0
  | 1 => 1
  | n + 2 => p * lucU p q (n + 1) - q * lucU p q n
def lucV (p q : Int) : Nat → Int
  | 0 => 2
  | 1 => p
  | n + 2 => p * lucV p q (n + 1) - q * lucV p q n
theorem luc_next (p q : Int) : ∀ n, 2 * lucU p q (n + 1) = p * lucU p q n + lucV p q n ∧ 2 * lucV p q (n + 1) = (p * p - 4 * q) * lucU p q n + p * lucV p q n
  | 0 => by simp [lucU, lucV]; omega
  | 1 => by simp [lucU, lucV]; grind
  | n + 2 => by
    obtain ⟨a1, a2⟩ := luc_next p q n
    obtain ⟨b1, b2⟩ := luc_next p q (n + 1)
    have e1 : lucU p q (n + 2 + 1) = p * lucU p q (n + 2) - q * lucU p q (n + 1) := rfl
    have e2 : lucV p q (n + 2 + 1) = p * lucV p q (n + 2) - q * lucV p q (n + 1) := rfl
    have e3 : lucU p q (n + 2) = p * lucU p q (n + 1) - q * lucU p q n := rfl
    have e4 : lucV p q (n + 2) = p * lucV p q (n + 1) - q * lucV p q n := rfl
    constructor <;> grind
theorem luc_norm (p q : Int) : ∀ n, lucV p q n * lucV p q n - (p * p - 4 * q) * (lucU p q n * lucU p q n) = 4 * q ^ n
  | 0 => by simp [lucU, lucV]
  | n + 1 => by
    have ih := luc_norm p q n
    obtain ⟨a1, a2⟩ := luc_next p q n
    have : 4 * (lucV p q (n + 1) * lucV p q (n + 1) - (p * p - 4 * q) * (lucU p q (n + 1) * lucU p q (n + 1))) = 4 * (4 * q ^ (n + 1)) := by
      have h1 : 4 * (lucV p q (n + 1) * lucV p q (n + 1)) = (2 * lucV p q (n + 1)) * (2 * lucV p q (n + 1)) := by grind
      have h2 : 4 * ((p * p - 4 * q) * (lucU p q (n + 1) * lucU p q (n + 1))) = (p * p - 4 * q) * ((2 * lucU p q (n + 1)) * (2 * lucU p q (n + 1))) := by grind
      rw [Int.mul_sub, h1, h2, a1, a2, Int.pow_succ]
      generalize lucU p q n = U at *
      generalize lucV p q n = V at *
      generalize q ^ n = P at *
      grind
    omega
theorem luc_sum (p q : Int) (n : Nat) : ∀ m, 2 * lucU p q (m + n) = lucU p q m * lucV p q n + lucV p q m * lucU p q n ∧ 2 * lucV p q (m + n) = lucV p q m * lucV p q n + (p * p - 4 * q) * (lucU p q m * lucU p q n)
  | 0 => by simp [lucU, lucV]
  | m + 1 => by
    obtain ⟨a1, a2⟩ := luc_sum p q n m
    obtain ⟨b1, b2⟩ := luc_next p q m
    obtain ⟨c1, c2⟩ := luc_next p q (m + n)
    have e : m + 1 + n = m + n + 1 := by omega
    rw [e]
    generalize lucU p q (m + n + 1) = X at *
    generalize lucV p q (m + n + 1) = Y at *
    generalize lucU p q (m + n) = x at *
    generalize lucV p q (m + n) = y at *
    generalize lucU p q (m + 1) = U1 at *
    generalize lucV p q (m + 1) = V1 at *
    generalize lucU p q m = U at *
    generalize lucV p q m = V at *
    generalize lucU p q n = u at *
    generalize lucV p q n = v at *
    constructor
    · have : 2 * (2 * X) = 2 * (U1 * v + V1 * u) := by grind
      omega
    · have : 2 * (2 * Y) = 2 * (V1 * v + (p * p - 4 * q) * (U1 * u)) := by grind
      omega
theorem luc_dbl (p q : Int) (n : Nat) : lucU p q n * lucV p q n = lucU p q (2 * n) ∧ lucV p q n * lucV p q n - (q ^ n + q ^ n) = lucV p q (2 * n) ∧ q ^ n * q ^ n = q ^ (2 * n) := by
  obtain ⟨a1, a2⟩ := luc_sum p q n n
  have h := luc_norm p q n
  have e : 2 * n = n + n := by omega
  rw [e]
  refine ⟨?_, ?_, (Int.pow_add ..).symm⟩
  · have : lucV p q n * lucU p q n = lucU p q n * lucV p q n := Int.mul_comm _ _
    omega
  · omega
theorem Sm.two {j : Nat} : Sm (j + 2) 2 := Sm.mono (i := 2) (by unfold Sm; decide) (by omega)
theorem luc_sm {p q : Int} {j : Nat} (hp : Sm j p) (hq : Sm j q) : ∀ n, Sm ((j + 1) * n + 2) (lucU p q n) ∧ Sm ((j + 1) * n + 2) (lucV p q n)
  | 0 => ⟨Sm.mono (i := 1) (by unfold Sm; simp [lucU]) (by omega), Sm.mono (i := 2) (by unfold Sm; simp [lucV]) (by omega)⟩
  | 1 => ⟨Sm.mono (i := 1) (by unfold Sm; simp [lucU]) (by omega), Sm.mono (show Sm j p from hp) (by omega)⟩
  | n + 2 => by
    obtain ⟨a1, a2⟩ := luc_sm hp hq n
    obtain ⟨b1, b2⟩ := luc_sm hp hq (n + 1)
    have e : (j + 1) * (n + 2) + 2 = j + ((j + 1) * (n + 1) + 2) + 1 := by rw [show n + 2 = (n + 1) + 1 from rfl, Nat.mul_add (j + 1) (n + 1) 1]; omega
    have h : (j + 1) * n ≤ (j + 1) * (n + 1) := Nat.mul_le_mul_left _ (by omega)
    rw [e]
    exact ⟨(hp.mul b1).sub ((hq.mul a1).mono (by omega)), (hp.mul b2).sub ((hq.mul a2).mono (by omega))⟩
theorem pow_sm {q : Int} {j : Nat} (hq : Sm j q) : ∀ n, Sm (j * n + 1) (q ^ n)
  | 0 => Sm.mono (i := 1) (by unfold Sm; simp) (by omega)
  | n + 1 => by
    rw [Int.pow_succ, Nat.mul_add]
    exact ((pow_sm hq n).mul hq).mono (by omega)
/-- a step by a row's product -/
theorem luc_far (p q : Int) (a m : Nat) : lucU p q (a + m + m) = lucV p q m * lucU p q (a + m) - q ^ m * lucU p q a ∧ lucV p q (a + m + m) = lucV p q m * lucV p q (a + m) - q ^ m * lucV p q a := by
  obtain ⟨a1, a2⟩ := luc_sum p q m a
  obtain ⟨b1, b2⟩ := luc_sum p q m (a + m)
  have h := luc_norm p q m
  generalize lucU p q (a + m + m) = X at *
  generalize lucV p q (a + m + m) = Y at *
  generalize lucU p q (a + m) = x at *
  generalize lucV p q (a + m) = y at *
  generalize lucU p q a = U at *
  generalize lucV p q a = V at *
  generalize lucU p q m = u at *
  generalize lucV p q m = v at *
  generalize q ^ m = P at *
  constructor
  · have : 4 * X = 4 * (v * x - P * U) := by
      have h1 : 4 * X = 2 * x * v + 2 * y * u := by grind
      have h2 : 4 * (v * x - P * U) = 2 * v * (2 * x) - (4 * P) * U := by grind
      rw [h1, h2, ← h, a1, a2]; grind
    omega
  · have : 4 * Y = 4 * (v * y - P * V) := by
      have h1 : 4 * Y = 2 * y * v + (p * p - 4 * q) * (2 * x * u) := by grind
      have h2 : 4 * (v * y - P * V) = 2 * v * (2 * y) - (4 * P) * V := by grind
      rw [h1, h2, ← h, a1, a2]; grind
    omega
theorem luc_comp (p q : Int) (m : Nat) : ∀ n, lucU (lucV p q m) (q ^ m) n * lucU p q m = lucU p q (m * n) ∧ lucV (lucV p q m) (q ^ m) n = lucV p q (m * n)
  | 0 => by simp [lucU, lucV]
  | 1 => by simp [lucU, lucV]
  | n + 2 => by
    obtain ⟨a1, a2⟩ := luc_comp p q m n
    obtain ⟨b1, b2⟩ := luc_comp p q m (n + 1)
    obtain ⟨c1, c2⟩ := luc_far p q (m * n) m
    have e1 : m * (n + 1) = m * n + m := by rw [Nat.mul_add]; omega
    have e2 : m * (n + 2) = m * n + m + m := by rw [Nat.mul_add]; omega
    rw [e1] at b1 b2
    rw [e2, c1, c2, ← a1, ← a2, ← b1, ← b2]
    have e3 : lucU (lucV p q m) (q ^ m) (n + 2) = lucV p q m * lucU (lucV p q m) (q ^ m) (n + 1) - q ^ m * lucU (lucV p q m) (q ^ m) n := rfl
    have e4 : lucV (lucV p q m) (q ^ m) (n + 2) = lucV p q m * lucV (lucV p q m) (q ^ m) (n + 1) - q ^ m * lucV (lucV p q m) (q ^ m) n := rfl
    rw [e3, e4]
    constructor <;> grind
end
section
open PySem PySem.W PyProof.Rows PySem.Calls PyProof.V
set_option linter.unusedVariables false
theorem w_off_LLoop : True := by
  w_top off
  trivial
def LedEnd (h₀ : Heap) (L : Addr) (J : (Str → Option Value) → List (Addr × Obj) → Prop) (own : List (Addr × Obj)) (s₁ s₂ : Shared) : Prop :=
  ∃ h' tk m' news' nx, s₂ = { s₁ with heap := h', toks := tk } ∧ Fr h₀ L h' m' ∧ News h₀ L h' news' ∧ (∀ p ∈ nx, p ∈ news') ∧ (∀ p ∈ own, p ∈ news') ∧ (∀ p ∈ nx, p.2.cls ≠ .type "range_iterator") ∧ J m' nx
def LedPost (h₀ : Heap) (L : Addr) (J : (Str → Option Value) → List (Addr × Obj) → Prop) (own : List (Addr × Obj)) (s₁ : Shared) (Q : Flow → Shared → Prop) (f : Flow) (s₂ : Shared) : Prop :=
  match f with
  | .ret v => Q (.ret v) s₂
  | .brk => Q .next s₂
  | _ => LedEnd h₀ L J own s₁ s₂
section
variable {prog : Program} {w : World} {A : Around} {E : Value → Shared → Prop} {s : Shared} {env : Env} {h₀ : Heap} {x : Str} {body : List Stmt} {Q : Flow → Shared → Prop}
/-- a range that goes down; what a turn makes may take the place of what stood in the ledger -/
theorem rangeD_led {r : Addr} {a₀ b₀ : Int} {t₀ u₀ v₀ : Tok} {n : Nat} {m₀ : Str → Option Value} {news : List (Addr × Obj)} (J : Nat → (Str → Option Value) → List (Addr × Obj) → Prop)
    (hh : A.handled = none) (hr : IsRange s.heap r a₀ b₀ (-1) t₀ u₀ v₀) (hsmall : Builtin.Range.small a₀ b₀ (-1) = true) (hn : Builtin.Range.rangeSize a₀ b₀ (-1) = (n : Int)) (F : Fr h₀ env.locals s.heap m₀) (N : News h₀ env.locals s.heap news) (hj : J 0 m₀ news)
    (turn : ∀ (i : Nat) m₁ news₁ t h tk own, i < n → J i m₁ news₁ → Fr h₀ env.locals h (fun y => if y = x then some (.int (a₀ - (i : Int)) t) else m₁ y) → News h₀ env.locals h (news₁ ++ own) →
      wpAny (model prog w) A (execs body env) (LedPost h₀ env.locals (J (i + 1)) own { s with heap := h, toks := tk } Q) E { s with heap := h, toks := tk })
    (done : ∀ m₁ news₁ h tk, J n m₁ news₁ → Fr h₀ env.locals h m₁ → News h₀ env.locals h news₁ → Q .next { s with heap := h, toks := tk }) :
    wpAny (model prog w) A (pyIter (.ref r)) (fun it s₂ => LoopAtV prog w A h₀ env x body Q E it s₂) E s := by
  refine wpAny_pyIter_range hr hsmall ?_
  have W : Walks prog w A s.heap.objs.size [s.heap.objs.size] [s.heap.objs.size] n (fun i v => i < n ∧ ∃ t, v = .int (a₀ + i * (-1)) t)
      (fun i h => IsRangeIter h s.heap.objs.size (a₀ + (i : Nat) * (-1)) ((n : Int) - (i : Nat)) (-1)) := (Walks.range hh _ a₀ (-1) n).bound
  refine ⟨_, _, _, n, _, _, m₀, news, J, rfl, W, ?_, ?_, ?_, (by show IsRangeIter _ _ _ _ _; rw [hn]; simpa using Heap.get?_push_size _ rfl), F.push _, (fun p hp => ⟨Heap.get?_push_of_some _ (N p hp).1, (N p hp).2⟩), hj, ?_, ?_⟩
  · intro hm
    exact absurd F.ns.lt ((List.mem_singleton.mp hm) ▸ Nat.lt_irrefl _)
  · intro b hb
    rw [List.mem_singleton.mp hb]
    exact next_is_new F
  · intro p hp hI
    exact absurd (Heap.lt_size (N p hp).1) ((List.mem_singleton.mp hI) ▸ Nat.lt_irrefl _)
  · rintro i v m₁ news₁ s₁ own ⟨hh', tk', rfl⟩ hin ⟨_, t, rfl⟩ hJ hoff hown _ hall hst F₁ N₁
    have e1 : a₀ + (i : Int) * (-1) = a₀ - (i : Int) := by omega
    rw [e1] at F₁
    have N₂ : News h₀ env.locals hh' (news₁ ++ own) := fun p hp => N₁ p ((List.mem_append.mp hp).elim (fun h => List.mem_append.mpr (.inr h)) fun h => List.mem_append.mpr (.inl h))
    have hIt := hall s.heap.objs.size (List.mem_singleton.mpr rfl) (next_is_new F) _ hst
    refine wpAny_mono (turn i m₁ news₁ t hh' tk' own hin hJ F₁ N₂) (fun f s₂ p => ?_) fun _ _ e => e
    have fin : LedEnd h₀ env.locals (J (i + 1)) own { s with heap := hh', toks := tk' } s₂ → LoopStepU h₀ env.locals [s.heap.objs.size] own (J (i + 1)) { s with heap := hh', toks := tk' } .next s₂ := by
      rintro ⟨h', tk, m', news', nx, e, F', N', hn', ho, hc, hm⟩
      refine ⟨rfl, h', tk, m', nx, e, F', fun p hp => N' p ((List.mem_append.mp hp).elim (ho p) (hn' p)), fun p hp hq => ?_, hm⟩
      have h1 := (N' p (hn' p hp)).1
      have h2 := (N' _ (ho _ hIt)).1
      rw [List.mem_singleton.mp hq] at h1
      dsimp only at h2
      rw [h1] at h2
      have h3 := Option.some.inj h2
      exact hc p hp (by rw [h3])
    cases f with
    | ret v => exact .ret p
    | brk => exact .brk p
    | next => exact .next (fin p)
    | cont => exact .cont (fin p)
  · rintro h' tk m' news' F' N' _ hJ
    exact done m' news' h' tk hJ F' N'

def LucJ (B : Int) (fu fv fp : Nat → Int) (m₀ : Str → Option Value) (rest : List (Addr × Obj)) (i : Nat) (m : Str → Option Value) (nx : List (Addr × Obj)) : Prop :=
  ∃ (xu : Addr) (gu : List (Addr × Obj)) (xv : Addr) (gv : List (Addr × Obj)) (xp : Addr) (gp : List (Addr × Obj)), nx = rest ++ (gu ++ (gv ++ gp)) ∧ NumL gu xu B (fu i) ∧ NumL gv xv B (fv i) ∧ NumL gp xp B (fp i) ∧
    m (Str.ofString "u") = some (.ref xu) ∧ m (Str.ofString "v") = some (.ref xv) ∧ m (Str.ofString "power") = some (.ref xp) ∧
    ∀ z, z ≠ Str.ofString "spot" → z ≠ Str.ofString "u" → z ≠ Str.ofString "v" → z ≠ Str.ofString "power" → z ≠ Str.ofString "first" → m z = m₀ z
theorem luc_frame {m₁ m₀ : Str → Option Value} {xu xv xp : Addr} (h1 : m₁ (Str.ofString "u") = some (.ref xu)) (h2 : m₁ (Str.ofString "v") = some (.ref xv)) (h3 : m₁ (Str.ofString "power") = some (.ref xp))
    (h : ∀ z, z ≠ Str.ofString "spot" → z ≠ Str.ofString "u" → z ≠ Str.ofString "v" → z ≠ Str.ofString "power" → z ≠ Str.ofString "first" → m₁ z = m₀ z) :
    m₁ = fun y => if y = Str.ofString "u" then some (.ref xu) else if y = Str.ofString "v" then some (.ref xv) else if y = Str.ofString "power" then some (.ref xp) else if y = Str.ofString "spot" then m₁ y else if y = Str.ofString "first" then m₁ y else m₀ y := by
  funext y
  by_cases e1 : y = Str.ofString "u"
  · rw [if_pos e1, e1, h1]
  · rw [if_neg e1]
    by_cases e2 : y = Str.ofString "v"
    · rw [if_pos e2, e2, h2]
    · rw [if_neg e2]
      by_cases e3 : y = Str.ofString "power"
      · rw [if_pos e3, e3, h3]
      · rw [if_neg e3]
        by_cases e4 : y = Str.ofString "spot"
        · rw [if_pos e4]
        · rw [if_neg e4]
          by_cases e5 : y = Str.ofString "first"
          · rw [if_pos e5]
          · rw [if_neg e5]; exact h y e4 e1 e2 e3 e5
/-- the loop of lucas_pair -/
theorem luc_loop {r : Addr} {a₀ b₀ : Int} {t₀ u₀ v₀ : Tok} {n : Nat} {m₀ : Str → Option Value} {news : List (Addr × Obj)} {B : Int} (fu fv fp : Nat → Int)
    (hx : x = Str.ofString "spot") (hh : A.handled = none) (hr : IsRange s.heap r a₀ b₀ (-1) t₀ u₀ v₀) (hsmall : Builtin.Range.small a₀ b₀ (-1) = true) (hn : Builtin.Range.rangeSize a₀ b₀ (-1) = (n : Int)) (F : Fr h₀ env.locals s.heap m₀) (N : News h₀ env.locals s.heap news)
    {xu : Addr} {gu : List (Addr × Obj)} {xv : Addr} {gv : List (Addr × Obj)} {xp : Addr} {gp : List (Addr × Obj)}
    (hu : m₀ (Str.ofString "u") = some (.ref xu)) (hv : m₀ (Str.ofString "v") = some (.ref xv)) (hp : m₀ (Str.ofString "power") = some (.ref xp))
    (hNu : ∀ p ∈ gu, p ∈ news) (hNv : ∀ p ∈ gv, p ∈ news) (hNp : ∀ p ∈ gp, p ∈ news) (hcls : ∀ p ∈ news, p.2.cls ≠ .type "range_iterator") (hSu : NumL gu xu B (fu 0)) (hSv : NumL gv xv B (fv 0)) (hSp : NumL gp xp B (fp 0))
    (turn : ∀ R : List (Addr × Obj), (∀ p ∈ news, p ∈ R) → (∀ p ∈ R, p.2.cls ≠ .type "range_iterator") → ∀ (i : Nat) (xu : Addr) (gu : List (Addr × Obj)) (xv : Addr) (gv : List (Addr × Obj)) (xp : Addr) (gp : List (Addr × Obj)) (m₁ : Str → Option Value) t h tk own, i < n → NumL gu xu B (fu i) → NumL gv xv B (fv i) → NumL gp xp B (fp i) →
      Fr h₀ env.locals h (fun y => if y = Str.ofString "spot" then some (.int (a₀ - (i : Int)) t) else if y = Str.ofString "u" then some (.ref xu) else if y = Str.ofString "v" then some (.ref xv) else if y = Str.ofString "power" then some (.ref xp) else if y = Str.ofString "spot" then m₁ y else if y = Str.ofString "first" then m₁ y else m₀ y) →
      News h₀ env.locals h (R ++ (gu ++ (gv ++ gp)) ++ own) →
      wpAny (model prog w) A (execs body env) (LedPost h₀ env.locals (LucJ B fu fv fp m₀ R (i + 1)) own { s with heap := h, toks := tk } Q) E { s with heap := h, toks := tk })
    (done : ∀ (xu : Addr) (gu : List (Addr × Obj)) (xv : Addr) (gv : List (Addr × Obj)) (xp : Addr) (gp : List (Addr × Obj)) (m₁ : Str → Option Value) h tk, NumL gu xu B (fu n) → NumL gv xv B (fv n) → NumL gp xp B (fp n) →
      Fr h₀ env.locals h (fun y => if y = Str.ofString "u" then some (.ref xu) else if y = Str.ofString "v" then some (.ref xv) else if y = Str.ofString "power" then some (.ref xp) else if y = Str.ofString "spot" then m₁ y else if y = Str.ofString "first" then m₁ y else m₀ y) →
      News h₀ env.locals h (gu ++ (gv ++ gp)) → Q .next { s with heap := h, toks := tk }) :
    wpAny (model prog w) A (pyIter (.ref r)) (fun it s₂ => LoopAtV prog w A h₀ env x body Q E it s₂) E s := by
  subst hx
  have N0 : News h₀ env.locals s.heap (news ++ (gu ++ (gv ++ gp))) := fun p hp => N p ((List.mem_append.mp hp).elim id fun hp => (List.mem_append.mp hp).elim (hNu p) fun hp => (List.mem_append.mp hp).elim (hNv p) (hNp p))
  refine rangeD_led (LucJ B fu fv fp m₀ news) hh hr hsmall hn F N0 ⟨xu, gu, xv, gv, xp, gp, rfl, hSu, hSv, hSp, hu, hv, hp, fun _ _ _ _ _ _ => rfl⟩ ?_ ?_
  · rintro i m₁ news₁ t h tk own hi ⟨xu, gu, xv, gv, xp, gp, rfl, hSu, hSv, hSp, hu, hv, hp, hm⟩ F₁ N₁
    rw [luc_frame hu hv hp hm] at F₁
    exact turn news (fun _ h => h) hcls i xu gu xv gv xp gp m₁ t h tk own hi hSu hSv hSp F₁ N₁
  · rintro m₁ news₁ h tk ⟨xu, gu, xv, gv, xp, gp, rfl, hSu, hSv, hSp, hu, hv, hp, hm⟩ F₁ N₁
    rw [luc_frame hu hv hp hm] at F₁
    exact done xu gu xv gv xp gp m₁ h tk hSu hSv hSp F₁ fun p hp => N₁ p (List.mem_append_right _ hp)
theorem led_end {B : Int} {fu fv fp : Nat → Int} {m₀ : Str → Option Value} {rest : List (Addr × Obj)} {i : Nat} {L : Addr} {m' : Str → Option Value} {own news' : List (Addr × Obj)} {s₁ : Shared} {h' : Heap} {tk : Nat}
    {xu : Addr} {gu : List (Addr × Obj)} {xv : Addr} {gv : List (Addr × Obj)} {xp : Addr} {gp : List (Addr × Obj)}
    (F : Fr h₀ L h' m') (N : News h₀ L h' news') (hu : m' (Str.ofString "u") = some (.ref xu)) (hv : m' (Str.ofString "v") = some (.ref xv)) (hp : m' (Str.ofString "power") = some (.ref xp))
    (hSu : NumL gu xu B (fu (i + 1))) (hSv : NumL gv xv B (fv (i + 1))) (hSp : NumL gp xp B (fp (i + 1)))
    (hNu : ∀ p ∈ gu, p ∈ news') (hNv : ∀ p ∈ gv, p ∈ news') (hNp : ∀ p ∈ gp, p ∈ news') (hrest : ∀ p ∈ rest, p ∈ news') (hown : ∀ p ∈ own, p ∈ news') (hcls : ∀ p ∈ rest, p.2.cls ≠ .type "range_iterator")
    (hm : ∀ z, z ≠ Str.ofString "spot" → z ≠ Str.ofString "u" → z ≠ Str.ofString "v" → z ≠ Str.ofString "power" → z ≠ Str.ofString "first" → m' z = m₀ z) :
    LedEnd h₀ L (LucJ B fu fv fp m₀ rest (i + 1)) own s₁ { s₁ with heap := h', toks := tk } :=
  ⟨h', tk, m', news', rest ++ (gu ++ (gv ++ gp)), rfl, F, N, fun p hp => (List.mem_append.mp hp).elim (hrest p) fun hp => (List.mem_append.mp hp).elim (hNu p) fun hp => (List.mem_append.mp hp).elim (hNv p) (hNp p), hown,
    fun p hp => (List.mem_append.mp hp).elim (hcls p) fun hp => (List.mem_append.mp hp).elim (hSu.1 p) fun hp => (List.mem_append.mp hp).elim (hSv.1 p) (hSp.1 p), xu, gu, xv, gv, xp, gp, rfl, hSu, hSv, hSp, hu, hv, hp, hm⟩
end
theorem bit_at {mm : Int} {n i : Nat} (h0 : 0 ≤ mm) (hi : i < n) : Builtin.bitAnd (mm.fdiv (2 ^ ((n : Int) - 1 - (i : Int)).toNat)) 1 = ((mm.toNat / 2 ^ (n - (i + 1)) % 2 : Nat) : Int) ∧
    mm.toNat / 2 ^ (n - (i + 1)) = 2 * (mm.toNat / 2 ^ (n - i)) + mm.toNat / 2 ^ (n - (i + 1)) % 2 := by
  obtain ⟨M, rfl⟩ := Int.eq_ofNat_of_zero_le h0
  have e1 : ((n : Int) - 1 - (i : Int)).toNat = n - (i + 1) := by omega
  have e2 : n - i = (n - (i + 1)) + 1 := by omega
  rw [e1, e2, bitAnd_m1, fdiv_pos h0 (Int.pow_pos (by decide))]
  simp only [Int.toNat_natCast]
  refine ⟨?_, ?_⟩
  · rw [Int.natCast_emod, Int.natCast_ediv, Int.natCast_pow]; rfl
  · rw [Nat.pow_succ, ← Nat.div_div_eq_div_mul]; omega
theorem bits_top {mm : Int} (h0 : 0 ≤ mm) : mm.toNat / 2 ^ (Builtin.Int.intBits mm - 0) = 0 := by
  have := (intBits_le_iff (m := Builtin.Int.intBits mm) (x := mm)).mp (Nat.le_refl _)
  rw [Nat.sub_zero]
  exact Nat.div_eq_of_lt (by omega)
/-- a new pair of signed numbers comes back -/
def PNum (B zu zv : Int) (h h' : Heap) (r : Value) : Prop := ∃ t xu gu xv gv, r = .ref t ∧ NumL gu xu B zu ∧ NumL gv xv B zv ∧ ∀ p ∈ (t, tupO [.ref xu, .ref xv]) :: (gu ++ gv), h.get? p.1 = none ∧ h'.get? p.1 = some p.2
theorem PNum.of {B zu zv : Int} {h h' : Heap} {L : Addr} {news : List (Addr × Obj)} {t xu xv : Addr} {gu gv : List (Addr × Obj)} (N : News h L h' news) (hu : NumL gu xu B zu) (hv : NumL gv xv B zv) (ht : (t, tupO [.ref xu, .ref xv]) ∈ news) (h1 : ∀ p ∈ gu, p ∈ news) (h2 : ∀ p ∈ gv, p ∈ news) : PNum B zu zv h h' (.ref t) :=
  ⟨t, xu, gu, xv, gv, rfl, hu, hv, fun p hp => by
    have hn : p ∈ news := (List.mem_cons.mp hp).elim (fun e => e ▸ ht) fun hp => (List.mem_append.mp hp).elim (h1 p) (h2 p)
    exact ⟨(N p hn).2.2, (N p hn).1⟩⟩
end
section
open PySem PySem.W PyProof.Rows PySem.Calls
set_option linter.unusedVariables false
set_option linter.unusedSimpArgs false
theorem w_off_LP : True := by
  w_top off
  trivial
theorem rng_len {b : Nat} : (((b : Int) - 1 - -1).toNat : Int) = b := by rw [Int.sub_neg, Int.sub_add_cancel, Int.toNat_natCast]
theorem rng_lo {b i : Nat} (h : i < b) : 0 ≤ (b : Int) - 1 - (i : Int) := Int.sub_nonneg_of_le (Int.le_sub_one_of_lt (Int.ofNat_lt.mpr h))
theorem bit_1 {M c : Nat} (e : (1 : Int) = ((M % 2 : Nat) : Int)) (h : M = 2 * c + M % 2) : M = 2 * c + 1 := by rw [← Int.ofNat_inj.mp e] at h; exact h
theorem bit_0 {M c : Nat} (e : ((M % 2 : Nat) : Int) ≠ 1) (h : M = 2 * c + M % 2) : M = 2 * c := by
  rcases Nat.mod_two_eq_zero_or_one M with h0 | h0
  · rw [h0] at h; exact h
  · rw [h0] at e; exact absurd rfl e
local macro_rules | `(tactic| walk_at "LedPost") => `(tactic| (dsimp only [LedPost]))
set_option maxRecDepth 100000 in
set_option maxHeartbeats 4000000 in
theorem t_lucas {w : World} {x y : Addr} {k mm : Int} {kt mt : Tok} {zp zq : Int} : Ct w 156 [.int mm mt, .ref x, .ref y, .int k kt, .ref 163] 200
    (fun h => Num h x (2 ^ k.toNat) zp ∧ Num h y (2 ^ k.toNat) zq ∧ 8 ≤ k ∧ k ≤ 12 ∧ Sm 20 zp ∧ Sm 20 zq ∧ 0 ≤ mm ∧ mm ≤ 12)
    (PNum (2 ^ k.toNat) (lucU zp zq mm.toNat) (lucV zp zq mm.toNat)) := by
  refine Ct.mk ?_
  k_fill
  intro mean mg mb dp un gd cn cs a ccd cl outer A₀ base h₀ L m s Q E B F X T hk hpre hdp hun hret
  refine wpAny_call ?_
  have hNx := hpre.1
  have hNy := hpre.2.1
  have h8 := hpre.2.2.1
  have h12 := hpre.2.2.2.1
  have hmx := hpre.2.2.2.2.1
  have hmy := hpre.2.2.2.2.2.1
  have hm0 := hpre.2.2.2.2.2.2.1
  have hm1 := hpre.2.2.2.2.2.2.2
  clear hpre
  have hdp1 := dp_lt hdp
  have hmx9 : Sm 900 zp := hmx.mono (by decide)
  have hmy9 : Sm 900 zq := hmy.mono (by decide)
  have hs4 : Sm 900 4 := Sm.mono (i := 3) (by unfold Sm; decide) (by decide)
  have hpp : Sm 900 (zp * zp) := (hmx.mul hmx).mono (by decide)
  have h4q : Sm 900 (4 * zq) := (Sm.mul (i := 3) (by unfold Sm; decide) hmy).mono (by decide)
  k_dflt (refine' enter_pure ?k1 ?k2 ?k3 ?k5 ?kA ?kF ?kK ?k6 ?k7 ?k8 ?k9 ?kB ?_ ?c2 ?c3 ?c4 ?c5; (case kA => exact rfl); (case kF => exact rfl); (case kK => assumption); (case k1 => k_asm); (case k2 => k_asm); (case k3 => k_asm); (case k5 => k_asm); (case k6 => k_is); (case k7 => k_is); (case k8 => ktr_room); (case k9 => exact BindsTo.of_eq rfl); (case c5 => decide); (case kB => exact locs rfl); (case c2 => exact rfl); (case c3 => exact rfl); (case c4 => exact rfl); k_whole)
  intro L' h' tk0 F' N' B' X' T'
  replace F' := fr_lookup [(Str.ofString "mul", Value.ref 163), (Str.ofString "w", Value.int k kt), (Str.ofString "q", Value.ref y), (Str.ofString "p", Value.ref x), (Str.ofString "m", Value.int mm mt)] F'
  dsimp only [kstB] at F'
  (try dsimp only)
  (try k_fold)
  (refine hideQE ?_; intro Qb hqb)
  repeat' (first | ((fail_if_success (with_reducible show wpAny _ _ (pyIter _) _ _ _)); (fail_if_success (with_reducible show wpAny _ _ (exec (Stmt.While _ _ _ _) _) _ _ _)); (fail_if_success (with_reducible show InvEndN _ _ _ _ _ _ _)); (fail_if_success (with_reducible show LedEnd _ _ _ _ _ _)); (fail_if_success (with_reducible show wpAny _ _ (PySem.call (Value.type "enumerate") _) _ _ _)); (fail_if_success (with_reducible show KswEnd _ _ _ _ _ _ _ _ _ _ _ _)); (first | (k_unfold; (try dsimp only)) | (k_end; wrow_close) | walk1 | (dsimp only; walk1) | (leave1; walk_say "STEP leave1"; try dsimp only))) | fail "no step")
  (with_reducible rename Fr _ _ _ _ => lF')
  (with_reducible rename News _ _ _ _ => lN')
  (with_reducible rename IsRange _ _ _ _ _ _ _ _ => rgX)
  have h0n := bits_top hm0
  have hbn : Builtin.Int.intBits mm ≤ 4 := by
    rw [intBits_le_iff]; exact by_fin (n := 13) (P := fun m => m.natAbs < 2 ^ 4) (by decide) hm0 (Int.lt_of_le_of_lt hm1 (by decide))
  (with_unfolding_all refine' luc_loop (B := 2 ^ k.toNat) (n := Builtin.Int.intBits mm) (fun i => lucU zp zq (mm.toNat / 2 ^ (Builtin.Int.intBits mm - i))) (fun i => lucV zp zq (mm.toNat / 2 ^ (Builtin.Int.intBits mm - i))) (fun i => zq ^ (mm.toNat / 2 ^ (Builtin.Int.intBits mm - i))) (by rfl) (by rfl) rgX (small_down (by omega) (by omega) (by omega) (by omega)) (by rw [rangeSize_downNat]; exact rng_len) lF' lN' (by rfl) (by rfl) (by rfl) ?n1 ?n2 ?n3 ?cls ?hu ?hv ?hp ?_ ?_)
  case hu => rw [h0n]; assumption
  case hv => rw [h0n]; assumption
  case hp => rw [h0n, Int.pow_zero]; assumption
  case n1 => exact fun p hp => by walk_at "sub"
  case n2 => exact fun p hp => by walk_at "sub"
  case n3 => exact fun p hp => by walk_at "sub"
  case cls => repeat' (first | exact List.forall_mem_nil _ | exact (by assumption : NumL _ _ _ _).1 | refine List.forall_mem_cons.mpr ⟨by simp, ?_⟩ | refine List.forall_mem_append.mpr ⟨?_, ?_⟩)
  · intro R hR hRc
    have hSd := NumL.mono (g' := R) (z := zp * zp - 4 * zq) (by assumption) (fun p hp => hR p (by walk_at "sub")) hRc
    clear lF' lN' rgX hR
    intro i xu gu xv gv xp gp m₁ t h tk own hi hSu hSv hSp kFr kNews
    have hbit := bit_at hm0 hi
    generalize hc : mm.toNat / 2 ^ (Builtin.Int.intBits mm - i) = c at *
    have hcm : c ≤ 12 := hc ▸ Nat.le_trans (Nat.div_le_self _ _) (k_n12 hm1)
    have hrl := rng_lo hi
    have hU := (luc_sm hmx hmy c).1.mono (lin_le (b := 260) hcm (by decide))
    have hV := (luc_sm hmx hmy c).2.mono (lin_le (b := 260) hcm (by decide))
    have hW := (pow_sm hmy c).mono (lin_le (b := 260) hcm (by decide))
    have hd1 := luc_dbl zp zq c
    have hx1 := luc_next zp zq (2 * c)
    have hpw : zq ^ c * zq ^ c * zq = zq ^ (2 * c + 1) := by rw [hd1.2.2, Int.pow_succ]
    generalize lucU zp zq c = U at *
    generalize lucV zp zq c = V at *
    generalize zq ^ c = W at *
    have hx2 : zp * (U * V) + (V * V - (W + W)) = 2 * lucU zp zq (2 * c + 1) := by rw [hd1.1, hd1.2.1]; exact hx1.1.symm
    have hx3 : (zp * zp - 4 * zq) * (U * V) + zp * (V * V - (W + W)) = 2 * lucV zp zq (2 * c + 1) := by rw [hd1.1, hd1.2.1]; exact hx1.2.symm
    have hUV := hU.mul hV
    have hVV := (hV.mul hV).sub ((hW.add hW).mono (show _ ≤ 260 + 260 by decide))
    have hdd := ((hmx.mul hmx).mono (show _ ≤ 40 by decide)).sub ((Sm.mul (i := 3) (show Sm 3 4 by unfold Sm; decide) hmy).mono (show _ ≤ 40 by decide))
    have hb01 : Sm 900 U := hU.mono (by decide)
    have hb02 : Sm 900 V := hV.mono (by decide)
    have hb03 : Sm 900 W := hW.mono (by decide)
    have hb04 : Sm 900 (V * V) := (hV.mul hV).mono (by decide)
    have hb05 : Sm 900 (W + W) := (hW.add hW).mono (by decide)
    have hb06 : Sm 900 (U * V) := hUV.mono (by decide)
    have hb07 : Sm 900 (V * V - (W + W)) := hVV.mono (by decide)
    have hb08 : Sm 900 (W * W) := (hW.mul hW).mono (by decide)
    have hb09 : Sm 900 (zp * (U * V)) := (hmx.mul hUV).mono (by decide)
    have hb10 : Sm 900 (zp * (U * V) + (V * V - (W + W))) := (((hmx.mul hUV).mono (show _ ≤ 600 by decide)).add (hVV.mono (show _ ≤ 600 by decide))).mono (by decide)
    have hb11 : Sm 900 (zp * zp - 4 * zq) := hdd.mono (by decide)
    have hb12 : Sm 900 ((zp * zp - 4 * zq) * (U * V)) := (hdd.mul hUV).mono (by decide)
    have hb13 : Sm 900 (zp * (V * V - (W + W))) := (hmx.mul hVV).mono (by decide)
    have hb14 : Sm 900 ((zp * zp - 4 * zq) * (U * V) + zp * (V * V - (W + W))) := (((hdd.mul hUV).mono (show _ ≤ 600 by decide)).add ((hmx.mul hVV).mono (show _ ≤ 600 by decide))).mono (by decide)
    clear hU hV hW hx1 hUV hVV hdd hcm
    have hbit1 := hbit.1
    have hbit2 := hbit.2
    clear hbit
    repeat' (first | ((fail_if_success (with_reducible show wpAny _ _ (pyIter _) _ _ _)); (fail_if_success (with_reducible show wpAny _ _ (exec (Stmt.While _ _ _ _) _) _ _ _)); (fail_if_success (with_reducible show InvEndN _ _ _ _ _ _ _)); (fail_if_success (with_reducible show LedEnd _ _ _ _ _ _)); (fail_if_success (with_reducible show wpAny _ _ (PySem.call (Value.type "enumerate") _) _ _ _)); (fail_if_success (with_reducible show KswEnd _ _ _ _ _ _ _ _ _ _ _ _)); (first | (k_unfold; (try dsimp only)) | (k_end; wrow_close) | walk1 | (dsimp only; walk1) | (leave1; walk_say "STEP leave1"; try dsimp only))) | fail "no step")
    · (with_reducible rename Builtin.bitAnd _ 1 = 1 => hb9)
      have hN : mm.toNat / 2 ^ (Builtin.Int.intBits mm - (i + 1)) = 2 * c + 1 := by
        rw [hb9] at hbit1
        exact bit_1 hbit1 hbit2
      (with_unfolding_all refine' led_end (by assumption) (by assumption) (by with_unfolding_all rfl) (by with_unfolding_all rfl) (by with_unfolding_all rfl) ?hu4 ?hv4 ?hp4 ?n14 ?n24 ?n34 ?rest4 ?own4 (by assumption) ?hm4)
      case hm4 => (intro z h1 h2 h3 h4 h5; simp [h1, h2, h3, h4, h5])
      case hu4 => rw [hN]; assumption
      case hv4 => rw [hN]; assumption
      case hp4 => rw [hN, ← hpw]; assumption
      all_goals exact fun p hp => by walk_at "sub"
    · (with_reducible rename Builtin.bitAnd _ 1 ≠ 1 => hb9)
      have hN : mm.toNat / 2 ^ (Builtin.Int.intBits mm - (i + 1)) = 2 * c := by
        rw [hbit1] at hb9
        exact bit_0 hb9 hbit2
      (with_unfolding_all refine' led_end (by assumption) (by assumption) (by with_unfolding_all rfl) (by with_unfolding_all rfl) (by with_unfolding_all rfl) ?hu5 ?hv5 ?hp5 ?n15 ?n25 ?n35 ?rest5 ?own5 (by assumption) ?hm5)
      case hm5 => (intro z h1 h2 h3 h4 h5; simp [h1, h2, h3, h4, h5])
      case hu5 => rw [hN, ← hd1.1]; assumption
      case hv5 => rw [hN, ← hd1.2.1]; assumption
      case hp5 => rw [hN, ← hd1.2.2]; assumption
      all_goals exact fun p hp => by walk_at "sub"
  · clear lF' lN' rgX
    intro xu gu xv gv xp gp m₁ h tk hSu hSv hSp kFr kNews
    rw [Nat.sub_self, Nat.pow_zero, Nat.div_one] at hSu hSv hSp
    repeat' (first | ((fail_if_success (with_reducible show wpAny _ _ (pyIter _) _ _ _)); (fail_if_success (with_reducible show wpAny _ _ (exec (Stmt.While _ _ _ _) _) _ _ _)); (fail_if_success (with_reducible show InvEndN _ _ _ _ _ _ _)); (fail_if_success (with_reducible show LedEnd _ _ _ _ _ _)); (fail_if_success (with_reducible show wpAny _ _ (PySem.call (Value.type "enumerate") _) _ _ _)); (fail_if_success (with_reducible show KswEnd _ _ _ _ _ _ _ _ _ _ _ _)); (first | (k_unfold; (try dsimp only)) | (k_end; wrow_close) | walk1 | (dsimp only; walk1) | (leave1; walk_say "STEP leave1"; try dsimp only))) | fail "no step")
    ((refine hqb _ _ ?_); (try dsimp only); repeat' (first | ((fail_if_success (with_reducible show wpAny _ _ (pyIter _) _ _ _)); (fail_if_success (with_reducible show wpAny _ _ (exec (Stmt.While _ _ _ _) _) _ _ _)); (fail_if_success (with_reducible show InvEndN _ _ _ _ _ _ _)); (fail_if_success (with_reducible show LedEnd _ _ _ _ _ _)); (fail_if_success (with_reducible show wpAny _ _ (PySem.call (Value.type "enumerate") _) _ _ _)); (fail_if_success (with_reducible show KswEnd _ _ _ _ _ _ _ _ _ _ _ _)); (first | (k_unfold; (try dsimp only)) | (k_end; wrow_close) | walk1 | (dsimp only; walk1) | (leave1; walk_say "STEP leave1"; try dsimp only))) | fail "no step"))
    (with_reducible rename News s.heap _ _ _ => nE)
    exact hret _ _ _ (Fr.keep (by assumption)) (PNum.of nE hSu hSv (by k_mem) (fun p hp => by walk_at "sub") (fun p hp => by walk_at "sub"))
end
section
open PySem PySem.W PyProof.Rows PySem.Calls
set_option linter.unusedVariables false
set_option linter.unusedSimpArgs false
theorem w_off_LLimbs : True := by
  w_top off
  trivial
theorem natI_turn2 {K : Nat} {n number : Int} {found : List Int} (hK : 1 ≤ K) (h : NatI (2 ^ K) n found number) (hp : 0 < number) :
    NatI (2 ^ K) n (found ++ [number.fmod (2 ^ K)]) (number.fdiv (2 ^ K)) ∧ (number.fdiv (2 ^ K)).toNat < number.toNat := by
  have e : Builtin.bitAnd number (1 * 2 ^ K - 1) = number.fmod (2 ^ K) := by
    rw [and_mask (by omega), Int.fmod_eq_emod_of_nonneg _ (Int.le_of_lt (Int.pow_pos (by decide)))]
  rw [← e]; exact natI_turn hK h hp
set_option maxRecDepth 100000 in
set_option maxHeartbeats 4000000 in
theorem t_llimbs {w : World} {k n : Int} {kt nt : Tok} : Ct w 177 [.int n nt, .int k kt] 20
    (fun h => 8 ≤ k ∧ k ≤ 12 ∧ 0 ≤ n ∧ n ≤ 1000)
    (fun h h' r => ∃ rs, LNew h h' r rs ∧ Lim (2 ^ k.toNat) rs n) := by
  refine Ct.mk ?_
  k_fill
  intro mean mg mb dp un gd cn cs a ccd cl outer A₀ base h₀ L m s Q E B F X T hk hpre hdp hun hret
  refine wpAny_call ?_
  obtain ⟨h8, h12, hn0, hn1⟩ := hpre
  k_dflt (refine' enter_pure ?k1 ?k2 ?k3 ?k5 ?kA ?kF ?kK ?k6 ?k7 ?k8 ?k9 ?kB ?_ ?c2 ?c3 ?c4 ?c5; (case kA => exact rfl); (case kF => exact rfl); (case kK => assumption); (case k1 => k_asm); (case k2 => k_asm); (case k3 => k_asm); (case k5 => k_asm); (case k6 => k_is); (case k7 => k_is); (case k8 => ktr_room); (case k9 => exact BindsTo.of_eq rfl); (case c5 => decide); (case kB => exact locs rfl); (case c2 => exact rfl); (case c3 => exact rfl); (case c4 => exact rfl); k_whole)
  intro L' h' tk0 F' N' B' X' T'
  replace F' := fr_lookup [(Str.ofString "w", Value.int k kt), (Str.ofString "number", Value.int n nt)] F'
  dsimp only [kstB] at F'
  (try dsimp only)
  (try k_fold)
  (refine hideQE ?_; intro Qb hqb)
  repeat' (first | ((fail_if_success (with_reducible show wpAny _ _ (pyIter _) _ _ _)); (fail_if_success (with_reducible show wpAny _ _ (exec (Stmt.While _ _ _ _) _) _ _ _)); (fail_if_success (with_reducible show InvEndN _ _ _ _ _ _ _)); (fail_if_success (with_reducible show LedEnd _ _ _ _ _ _)); (fail_if_success (with_reducible show wpAny _ _ (PySem.call (Value.type "enumerate") _) _ _ _)); (fail_if_success (with_reducible show KswEnd _ _ _ _ _ _ _ _ _ _ _ _)); (first | (k_unfold; (try dsimp only)) | (k_end; wrow_close) | walk1 | (dsimp only; walk1) | (leave1; walk_say "STEP leave1"; try dsimp only))) | fail "no step")
  k_with "state" => exact ⟨by simp only [List.length_nil]; exact nat_0 hn1, natI_start hn0⟩
  have hI0 : IntsAre [] [] := IntsAre.nil
  k_while (fun _ found number => found.length + number.toNat ≤ 1000 ∧ NatI (2 ^ k.toNat) n found number) (fun _ found number => number.toNat) "found" "number"
  k_with_none
  (with_reducible rename NatI _ _ _ _ => hi9)
  (with_reducible rename IntsAre _ _ => hI9)
  (with_reducible rename _ + _ ≤ 1000 => hr9)
  have hf4 := nat_len hI9.length hr9
  have hk1 := k_n1 h8
  repeat' (first | ((fail_if_success (with_reducible show wpAny _ _ (pyIter _) _ _ _)); (fail_if_success (with_reducible show wpAny _ _ (exec (Stmt.While _ _ _ _) _) _ _ _)); (fail_if_success (with_reducible show InvEndN _ _ _ _ _ _ _)); (fail_if_success (with_reducible show LedEnd _ _ _ _ _ _)); (fail_if_success (with_reducible show wpAny _ _ (PySem.call (Value.type "enumerate") _) _ _ _)); (fail_if_success (with_reducible show KswEnd _ _ _ _ _ _ _ _ _ _ _ _)); (first | (k_unfold; (try dsimp only)) | (k_end; wrow_close) | walk1 | (dsimp only; walk1) | (leave1; walk_say "STEP leave1"; try dsimp only))) | fail "no step")
  · ((rename News _ _ _ _ => nE'); (try simp only [List.push_toArray] at nE'); (refine' ksw_end ⟨_, _, _, _, _⟩ (by assumption) nE' (by kst_in) (by kst_facts) (by kst_all) (by ksw_same) ?kP ?kM); (try dsimp only))
    · have hi10 := natI_turn2 hk1 hi9 (by assumption)
      refine ⟨?_, hi10.1⟩
      rw [List.length_append, List.length_singleton]
      exact nat_room hr9 hi10.2
    · exact (natI_turn2 hk1 hi9 (by assumption)).2
  · (((refine hqb _ _ ?_); (try dsimp only); repeat' (first | ((fail_if_success (with_reducible show wpAny _ _ (pyIter _) _ _ _)); (fail_if_success (with_reducible show wpAny _ _ (exec (Stmt.While _ _ _ _) _) _ _ _)); (fail_if_success (with_reducible show InvEndN _ _ _ _ _ _ _)); (fail_if_success (with_reducible show LedEnd _ _ _ _ _ _)); (fail_if_success (with_reducible show wpAny _ _ (PySem.call (Value.type "enumerate") _) _ _ _)); (fail_if_success (with_reducible show KswEnd _ _ _ _ _ _ _ _ _ _ _ _)); (first | (k_unfold; (try dsimp only)) | (k_end; wrow_close) | walk1 | (dsimp only; walk1) | (leave1; walk_say "STEP leave1"; try dsimp only))) | fail "no step")); (try simp only [List.push_toArray] at *); (refine' close_listQ hret ?cF ?cN ?cM ?cI ?cP; (case cF => assumption); (case cN => assumption); (case cM => k_mem); (case cI => first | assumption | exact intsAre_snoc (by assumption))))
    (case cP => exact natI_end hi9 (by omega))
end
local macro_rules | `(tactic| walk_at "pad10") => `(tactic| skip)
section
open PySem PySem.W PyProof.Rows PySem.Calls
set_option linter.unusedVariables false
set_option linter.unusedSimpArgs false
theorem w_off_LSigned : True := by
  w_top off
  trivial
set_option maxRecDepth 100000 in
set_option maxHeartbeats 4000000 in
theorem t_lsigned {w : World} {k n : Int} {kt nt : Tok} : Ct w 184 [.int n nt, .int k kt] 50
    (fun h => 8 ≤ k ∧ k ≤ 12 ∧ -1000 ≤ n ∧ n ≤ 1000)
    (fun h h' r => ∃ b rs, SNew h h' r b rs ∧ Sg (2 ^ k.toNat) b rs n) := by
  refine Ct.mk ?_
  k_fill
  intro mean mg mb dp un gd cn cs a ccd cl outer A₀ base h₀ L m s Q E B F X T hk hpre hdp hun hret
  refine wpAny_call ?_
  obtain ⟨h8, h12, hn0, hn1⟩ := hpre
  have ha0 := abs_0 (n := n)
  have ha1 := abs_1 hn0 hn1
  k_dflt (refine' enter_pure ?k1 ?k2 ?k3 ?k5 ?kA ?kF ?kK ?k6 ?k7 ?k8 ?k9 ?kB ?_ ?c2 ?c3 ?c4 ?c5; (case kA => exact rfl); (case kF => exact rfl); (case kK => assumption); (case k1 => k_asm); (case k2 => k_asm); (case k3 => k_asm); (case k5 => k_asm); (case k6 => k_is); (case k7 => k_is); (case k8 => ktr_room); (case k9 => exact BindsTo.of_eq rfl); (case c5 => decide); (case kB => exact locs rfl); (case c2 => exact rfl); (case c3 => exact rfl); (case c4 => exact rfl); k_whole)
  intro L' h' tk0 F' N' B' X' T'
  replace F' := fr_lookup [(Str.ofString "w", Value.int k kt), (Str.ofString "number", Value.int n nt)] F'
  dsimp only [kstB] at F'
  (try dsimp only)
  (try k_fold)
  (refine hideQE ?_; intro Qb hqb)
  repeat' (first | ((fail_if_success (with_reducible show wpAny _ _ (pyIter _) _ _ _)); (fail_if_success (with_reducible show wpAny _ _ (exec (Stmt.While _ _ _ _) _) _ _ _)); (fail_if_success (with_reducible show InvEndN _ _ _ _ _ _ _)); (fail_if_success (with_reducible show LedEnd _ _ _ _ _ _)); (fail_if_success (with_reducible show wpAny _ _ (PySem.call (Value.type "enumerate") _) _ _ _)); (fail_if_success (with_reducible show KswEnd _ _ _ _ _ _ _ _ _ _ _ _)); (first | (k_unfold; (try dsimp only)) | (k_end; wrow_close) | walk1 | (dsimp only; walk1) | (leave1; walk_say "STEP leave1"; try dsimp only))) | fail "no step")
  (((refine hqb _ _ ?_); (try dsimp only); repeat' (first | ((fail_if_success (with_reducible show wpAny _ _ (pyIter _) _ _ _)); (fail_if_success (with_reducible show wpAny _ _ (exec (Stmt.While _ _ _ _) _) _ _ _)); (fail_if_success (with_reducible show InvEndN _ _ _ _ _ _ _)); (fail_if_success (with_reducible show LedEnd _ _ _ _ _ _)); (fail_if_success (with_reducible show wpAny _ _ (PySem.call (Value.type "enumerate") _) _ _ _)); (fail_if_success (with_reducible show KswEnd _ _ _ _ _ _ _ _ _ _ _ _)); (first | (k_unfold; (try dsimp only)) | (k_end; wrow_close) | walk1 | (dsimp only; walk1) | (leave1; walk_say "STEP leave1"; try dsimp only))) | fail "no step")); (try simp only [List.push_toArray] at *); (refine' close_sgQ hret ?cF ?cN ?cX ?cM ?cI ?cP; (case cF => assumption); (case cN => assumption); (case cX => k_mem); (case cM => k_mem); (case cI => first | assumption | exact intsAre_snoc (by assumption))))
  (with_reducible rename Lim _ _ _ => hR9)
  (case cP => refine ⟨?_, rfl⟩; rw [abs_if]; exact hR9)
end
section
open PySem PySem.W PyProof.Rows PySem.Calls
set_option linter.unusedVariables false
set_option linter.unusedSimpArgs false
theorem w_off_LPlain : True := by
  w_top off
  trivial
local macro_rules | `(tactic| walk_at "exec For") => `(tactic| (k_here; (rename Fr _ _ _ _ => lF'); (with_unfolding_all refine' For_invVF lF' ?k1 ?k2 ?_; (case k1 => exact rfl); (case k2 => exact rfl); k_whole)))
theorem pre_le {xs pre post : List Int} {x : Int} {m : Nat} (e : xs.reverse = pre ++ x :: post) (h : xs.length ≤ m) : pre.reverse.length ≤ m := by
  have l := congrArg List.length e
  rw [List.length_reverse, List.length_append] at l
  rw [List.length_reverse]
  exact Nat.le_trans (l ▸ Nat.le_add_right _ _) h
theorem plain_neg {f v z : Int} (h : f = v) (hv : v = (z.natAbs : Int)) (hz : z < 0) : 0 - f = z := by rw [h, hv, Int.ofNat_natAbs_of_nonpos (Int.le_of_lt hz), Int.zero_sub, Int.neg_neg]
theorem plain_pos {f v z : Int} (h : f = v) (hv : v = (z.natAbs : Int)) (hz : ¬ z < 0) : f = z := by rw [h, hv, Int.natAbs_of_nonneg (Int.not_lt.mp hz)]
theorem plain_bits {K : Nat} (hK : K ≤ 12) {xs : List Int} (hO : Ok (2 ^ K) xs) (hl : xs.length ≤ 900) : Builtin.Int.intBits (val (2 ^ K) xs) ≤ 11000 := by
  rw [intBits_le_iff]
  have hp : (0 : Int) < 2 ^ K := Int.pow_pos (by decide)
  have h1 := val_lt hp hO
  have h0 := val_nonneg hp hO
  have h2 : ((2 ^ (K * xs.length) : Nat) : Int) = (2 ^ K) ^ xs.length := by rw [Int.natCast_pow, Int.pow_mul]; rfl
  have h3 : K * xs.length ≤ 11000 := Nat.le_trans (Nat.mul_le_mul hK hl) (by decide)
  refine Nat.lt_of_lt_of_le ?_ (Nat.pow_le_pow_right (by decide : 0 < 2) h3)
  generalize (2 ^ (K * xs.length) : Nat) = P at *
  omega
theorem pow_bits {K : Nat} (hK : K ≤ 12) : Builtin.Int.intBits (2 ^ K) ≤ 13 := by
  rw [intBits_le_iff]
  have h2 : (2 : Int) ^ K ≤ 2 ^ 12 := pw_mono (by decide) hK
  have hp : (0 : Int) < 2 ^ K := Int.pow_pos (by decide)
  omega
local macro_rules | `(tactic| walk_at "binaryOp Mult int int") => `(tactic| (k_here; (refine mul_int ?_ (IntMulOk.of_le (m := 11000) (n := 13) (by assumption) (by assumption) (by decide)))))
set_option maxRecDepth 100000 in
set_option maxHeartbeats 4000000 in
theorem t_lplain {w : World} {x : Addr} {b : Bool} {ns : List Int} {k z : Int} {kt : Tok} : Ct w 191 [.ref x, .int k kt] 20
    (fun h => SAt h x b ns ∧ 8 ≤ k ∧ k ≤ 12 ∧ Sg (2 ^ k.toNat) b ns z ∧ Sm 900 z)
    (fun h h' r => ∃ t, r = .int z t) := by
  refine Ct.mk ?_
  k_fill
  intro mean mg mb dp un gd cn cs a ccd cl outer A₀ base h₀ L m s Q E B F X T hk hpre hdp hun hret
  refine wpAny_call ?_
  obtain ⟨⟨lx, hTx, ⟨va, hA, hIA⟩⟩, h8, h12, hSx, hmx⟩ := hpre
  have hl1 := hSx.len (by omega) hmx
  k_dflt (refine' enter_pure ?k1 ?k2 ?k3 ?k5 ?kA ?kF ?kK ?k6 ?k7 ?k8 ?k9 ?kB ?_ ?c2 ?c3 ?c4 ?c5; (case kA => exact rfl); (case kF => exact rfl); (case kK => assumption); (case k1 => k_asm); (case k2 => k_asm); (case k3 => k_asm); (case k5 => k_asm); (case k6 => k_is); (case k7 => k_is); (case k8 => ktr_room); (case k9 => exact BindsTo.of_eq rfl); (case c5 => decide); (case kB => exact locs rfl); (case c2 => exact rfl); (case c3 => exact rfl); (case c4 => exact rfl); k_whole)
  intro L' h' tk0 F' N' B' X' T'
  replace F' := fr_lookup [(Str.ofString "w", Value.int k kt), (Str.ofString "x", Value.ref x)] F'
  dsimp only [kstB] at F'
  (try dsimp only)
  (try k_fold)
  (refine hideQE ?_; intro Qb hqb)
  repeat' (first | ((fail_if_success (with_reducible show wpAny _ _ (pyIter _) _ _ _)); (fail_if_success (with_reducible show wpAny _ _ (exec (Stmt.While _ _ _ _) _) _ _ _)); (fail_if_success (with_reducible show InvEndN _ _ _ _ _ _ _)); (fail_if_success (with_reducible show LedEnd _ _ _ _ _ _)); (fail_if_success (with_reducible show wpAny _ _ (PySem.call (Value.type "enumerate") _) _ _ _)); (fail_if_success (with_reducible show KswEnd _ _ _ _ _ _ _ _ _ _ _ _)); (first | (k_unfold; (try dsimp only)) | (k_end; wrow_close) | walk1 | (dsimp only; walk1) | (leave1; walk_say "STEP leave1"; try dsimp only))) | fail "no step")
  have hkb := pow_bits (K := k.toNat) (by omega)
  have hOr : Ok (2 ^ k.toNat) ns.reverse := fun n hn => hSx.1.1 n (List.mem_reverse.mp hn)
  k_with "state" => exact rfl
  k_state (fun pre found => found = val (2 ^ k.toNat) pre.reverse) "found"
  · k_with_none
    (with_reducible rename _ = val _ _ => hi9)
    have hpo : Ok (2 ^ k.toNat) kPre.reverse := fun n hn => hOr n (by rw [kEq]; exact List.mem_append_left _ (List.mem_reverse.mp hn))
    have hpl : kPre.reverse.length ≤ 900 := pre_le kEq hl1
    have hfb := plain_bits (K := k.toNat) (by omega) hpo hpl
    rw [← hi9] at hfb
    repeat' (first | ((fail_if_success (with_reducible show wpAny _ _ (pyIter _) _ _ _)); (fail_if_success (with_reducible show wpAny _ _ (exec (Stmt.While _ _ _ _) _) _ _ _)); (fail_if_success (with_reducible show InvEndN _ _ _ _ _ _ _)); (fail_if_success (with_reducible show LedEnd _ _ _ _ _ _)); (fail_if_success (with_reducible show wpAny _ _ (PySem.call (Value.type "enumerate") _) _ _ _)); (fail_if_success (with_reducible show KswEnd _ _ _ _ _ _ _ _ _ _ _ _)); (first | (k_unfold; (try dsimp only)) | (k_end; wrow_close) | walk1 | (dsimp only; walk1) | (leave1; walk_say "STEP leave1"; try dsimp only))) | fail "no step")
    ((rename News _ _ _ _ => nE'); (try simp only [List.push_toArray] at nE'); (refine' kst_end ⟨_, _⟩ (by assumption) nE' (by first | kst_in | kst_inAny) (by first | (intro p hp; kst_mem) | kst_anyIn) (by rfl) (by kst_facts) (by kst_all) (by kst_same) ?_); (try dsimp only))
    rw [hi9, List.reverse_append]
    simp [val]
    grind
  · k_with_none
    (with_reducible rename _ = val _ _ => hi9)
    rw [List.reverse_reverse] at hi9
    have hv := hSx.1.2.2
    have hb := hSx.2
    repeat' (first | ((fail_if_success (with_reducible show wpAny _ _ (pyIter _) _ _ _)); (fail_if_success (with_reducible show wpAny _ _ (exec (Stmt.While _ _ _ _) _) _ _ _)); (fail_if_success (with_reducible show InvEndN _ _ _ _ _ _ _)); (fail_if_success (with_reducible show LedEnd _ _ _ _ _ _)); (fail_if_success (with_reducible show wpAny _ _ (PySem.call (Value.type "enumerate") _) _ _ _)); (fail_if_success (with_reducible show KswEnd _ _ _ _ _ _ _ _ _ _ _ _)); (first | (k_unfold; (try dsimp only)) | (k_end; wrow_close) | walk1 | (dsimp only; walk1) | (leave1; walk_say "STEP leave1"; try dsimp only))) | fail "no step")
    · (with_reducible rename b = true => hbt)
      rw [hbt] at hb
      have hzn : z < 0 := by simpa using hb.symm
      ((refine hqb _ _ ?_); (try dsimp only); repeat' (first | ((fail_if_success (with_reducible show wpAny _ _ (pyIter _) _ _ _)); (fail_if_success (with_reducible show wpAny _ _ (exec (Stmt.While _ _ _ _) _) _ _ _)); (fail_if_success (with_reducible show InvEndN _ _ _ _ _ _ _)); (fail_if_success (with_reducible show LedEnd _ _ _ _ _ _)); (fail_if_success (with_reducible show wpAny _ _ (PySem.call (Value.type "enumerate") _) _ _ _)); (fail_if_success (with_reducible show KswEnd _ _ _ _ _ _ _ _ _ _ _ _)); (first | (k_unfold; (try dsimp only)) | (k_end; wrow_close) | walk1 | (dsimp only; walk1) | (leave1; walk_say "STEP leave1"; try dsimp only))) | fail "no step"))
      exact hret _ _ _ (Fr.keep (by assumption)) ⟨_, congrArg (fun i => Value.int i _) (plain_neg hi9 hv hzn)⟩
    · (with_reducible rename b = false => hbt)
      rw [hbt] at hb
      have hzn : ¬ z < 0 := by simpa using hb.symm
      ((refine hqb _ _ ?_); (try dsimp only); repeat' (first | ((fail_if_success (with_reducible show wpAny _ _ (pyIter _) _ _ _)); (fail_if_success (with_reducible show wpAny _ _ (exec (Stmt.While _ _ _ _) _) _ _ _)); (fail_if_success (with_reducible show InvEndN _ _ _ _ _ _ _)); (fail_if_success (with_reducible show LedEnd _ _ _ _ _ _)); (fail_if_success (with_reducible show wpAny _ _ (PySem.call (Value.type "enumerate") _) _ _ _)); (fail_if_success (with_reducible show KswEnd _ _ _ _ _ _ _ _ _ _ _ _)); (first | (k_unfold; (try dsimp only)) | (k_end; wrow_close) | walk1 | (dsimp only; walk1) | (leave1; walk_say "STEP leave1"; try dsimp only))) | fail "no step"))
      exact hret _ _ _ (Fr.keep (by assumption)) ⟨_, congrArg (fun i => Value.int i _) (plain_pos hi9 hv hzn)⟩
end
section
open PySem PySem.W PyProof.Rows PySem.Calls
set_option linter.unusedVariables false
set_option linter.unusedSimpArgs false
theorem w_off_LRule : True := by
  w_top off
  trivial
def RowU (p q : Int) (n : Nat) : List Int := (List.range n).map (lucU p q)
def RowV (p q : Int) (n : Nat) : List Int := (List.range n).map (lucV p q)
theorem rowU_start {p q : Int} : [0, 1] = RowU p q 2 := rfl
theorem rowV_start {p q : Int} : [2, p] = RowV p q 2 := rfl
theorem sm_bits {j : Nat} {z : Int} (h : Sm j z) : Builtin.Int.intBits z ≤ j := intBits_le_iff.mpr h
theorem row_snocU {p q : Int} {n : Nat} : RowU p q (n + 2) ++ [p * lucU p q (n + 1) - q * lucU p q n] = RowU p q (n + 1 + 2) := by
  unfold RowU
  have e : List.range (n + 1 + 2) = List.range (n + 2) ++ [n + 2] := List.range_succ (n := n + 2)
  rw [e, List.map_append]; rfl
theorem row_snocV {p q : Int} {n : Nat} : RowV p q (n + 2) ++ [p * lucV p q (n + 1) - q * lucV p q n] = RowV p q (n + 1 + 2) := by
  unfold RowV
  have e : List.range (n + 1 + 2) = List.range (n + 2) ++ [n + 2] := List.range_succ (n := n + 2)
  rw [e, List.map_append]; rfl
section
variable {prog : Program} {w : World} {A : Around} {E : Value → Shared → Prop} {s : Shared} {h₀ : Heap} {L : Addr} {news : List (Addr × Obj)} {l : Addr} {vs : List Value} {ms : List Int} {c : Nat} {f : Nat → Int} {n : Nat} {value slice : Expr} {u : Tok} {Q : Value → Shared → Prop}
theorem row_neg1 (N : News h₀ L s.heap news) (hm : (l, W.listOf vs.toArray c) ∈ news) (hI : IntsAre vs ms) (hms : ms = (List.range (n + 2)).map f) (hn : n ≤ 100) (h : ∀ t, Q (.int (f (n + 1)) t) s)
    (hs : subscripted slice false (.ref l) (.int (-1) u) = operate [.ref l, .int (-1) u] (getItem (.ref l) (.int (-1) u)) := by with_unfolding_all rfl) : wpAny (model prog w) A (subscriptTail value slice (.ref l) (.int (-1) u)) Q E s := by
  have hlen : ms.length = n + 2 := by rw [hms]; simp
  refine item_list_ints_negR (News.isList N hm) hI (by decide) (by rw [hlen]; omega) (by decide) ?_ hs
  intro t
  have : ms.getD ((-1) + (ms.length : Int)).toNat 0 = f (n + 1) := by
    rw [hlen, show ((-1) + ((n + 2 : Nat) : Int)).toNat = n + 1 by omega, hms]
    simp [List.getD_eq_getElem?_getD, List.getElem?_range]
  rw [this]; exact h t
theorem row_neg2 (N : News h₀ L s.heap news) (hm : (l, W.listOf vs.toArray c) ∈ news) (hI : IntsAre vs ms) (hms : ms = (List.range (n + 2)).map f) (hn : n ≤ 100) (h : ∀ t, Q (.int (f n) t) s)
    (hs : subscripted slice false (.ref l) (.int (-2) u) = operate [.ref l, .int (-2) u] (getItem (.ref l) (.int (-2) u)) := by with_unfolding_all rfl) : wpAny (model prog w) A (subscriptTail value slice (.ref l) (.int (-2) u)) Q E s := by
  have hlen : ms.length = n + 2 := by rw [hms]; simp
  refine item_list_ints_negR (News.isList N hm) hI (by decide) (by rw [hlen]; omega) (by decide) ?_ hs
  intro t
  have : ms.getD ((-2) + (ms.length : Int)).toNat 0 = f n := by
    rw [hlen, show ((-2) + ((n + 2 : Nat) : Int)).toNat = n by omega, hms]
    simp [List.getD_eq_getElem?_getD, List.getElem?_range]
  rw [this]; exact h t
end
local macro_rules | `(tactic| walk_at "subscriptTail Name UnaryOp ref int") => `(tactic| (k_here; (with_reducible show wpAny _ _ (subscriptTail _ _ (Value.ref _) (Value.int (-1) _)) _ _ _); k_dflt (refine row_neg1 (by assumption) (by k_mem) (by assumption) (by assumption) (by omega) ?_); intro _))
local macro_rules | `(tactic| walk_at "subscriptTail Name UnaryOp ref int") => `(tactic| (k_here; (with_reducible show wpAny _ _ (subscriptTail _ _ (Value.ref _) (Value.int (-2) _)) _ _ _); k_dflt (refine row_neg2 (by assumption) (by k_mem) (by assumption) (by assumption) (by omega) ?_); intro _))
local macro_rules | `(tactic| walk_at "binaryOp Mult int int") => `(tactic| (k_here; (refine mul_int ?_ (IntMulOk.of_le (m := 20) (n := 300) (by assumption) (by assumption) (by decide)))))
/-- a new pair of lists comes back -/
def RNew (h h' : Heap) (r : Value) (us ms : List Int) : Prop := ∃ t l1 l2 v1 c1 v2 c2, r = .ref t ∧ h.get? t = none ∧ h.get? l1 = none ∧ h.get? l2 = none ∧ h'.get? t = some (tupO [.ref l1, .ref l2]) ∧ h'.get? l1 = some (W.listOf (List.toArray v1) c1) ∧ h'.get? l2 = some (W.listOf (List.toArray v2) c2) ∧ IntsAre v1 us ∧ IntsAre v2 ms
theorem RNew.of {h h' : Heap} {L : Addr} {news : List (Addr × Obj)} {t l1 l2 : Addr} {v1 v2 : List Value} {c1 c2 : Nat} {us ms : List Int} (N : News h L h' news) (ht : (t, tupO [.ref l1, .ref l2]) ∈ news) (h1 : (l1, W.listOf (List.toArray v1) c1) ∈ news) (h2 : (l2, W.listOf (List.toArray v2) c2) ∈ news) (hu : IntsAre v1 us) (hv : IntsAre v2 ms) : RNew h h' (.ref t) us ms :=
  ⟨t, l1, l2, v1, c1, v2, c2, rfl, (N _ ht).2.2, (N _ h1).2.2, (N _ h2).2.2, (N _ ht).1, (N _ h1).1, (N _ h2).1, hu, hv⟩
theorem lr_n {z : Int} {p : Nat} (h1 : 1 ≤ z) (h12 : z ≤ 12) (h : p < (z - 1 - 0).toNat) : p ≤ 12 := by omega
theorem lr_z {z : Int} (h1 : 1 ≤ z) : (rangeKs 0 (z - 1 - 0).toNat).length + 2 = z.toNat + 1 := by rw [rangeKs_length]; omega
theorem lr_b {p q : Int} (hp : Sm 20 p) (hq : Sm 20 q) {n : Nat} (hn : n ≤ 13) : Builtin.Int.intBits (lucU p q n) ≤ 300 ∧ Builtin.Int.intBits (lucV p q n) ≤ 300 :=
  ⟨sm_bits ((luc_sm hp hq n).1.mono (by omega)), sm_bits ((luc_sm hp hq n).2.mono (by omega))⟩
theorem lr_len {a b p : Nat} (h1 : a = b) (h2 : b = p + 2) (h : p ≤ 12) : a ≤ 16777216 := by omega
theorem lr_100 {p : Nat} (h : p ≤ 12) : p ≤ 100 := by omega
theorem lr_m1 {z : Int} (h1 : 1 ≤ z) : -2 ^ 62 ≤ z - 1 := by omega
theorem lr_m2 {z : Int} (h12 : z ≤ 12) : z - 1 < 2 ^ 62 := by omega
theorem rowU_len {p q : Int} {n : Nat} : (RowU p q n).length = n := by simp [RowU]
theorem rowV_len {p q : Int} {n : Nat} : (RowV p q n).length = n := by simp [RowV]
set_option maxRecDepth 100000 in
set_option maxHeartbeats 4000000 in
theorem t_lrule {w : World} {z p q : Int} {zt pt qt : Tok} : Ct w 198 [.int z zt, .int p pt, .int q qt] 20
    (fun h => 1 ≤ z ∧ z ≤ 12 ∧ Sm 20 p ∧ Sm 20 q)
    (fun h h' r => RNew h h' r (RowU p q (z.toNat + 1)) (RowV p q (z.toNat + 1))) := by
  refine Ct.mk ?_
  k_fill
  intro mean mg mb dp un gd cn cs a ccd cl outer A₀ base h₀ L m s Q E B F X T hk hpre hdp hun hret
  refine wpAny_call ?_
  obtain ⟨h1, h12, hp, hq⟩ := hpre
  have hdp1 := dp_lt hdp
  have hq1 := lr_m1 h1
  have hq2 := lr_m2 h12
  k_dflt (refine' enter_pure ?k1 ?k2 ?k3 ?k5 ?kA ?kF ?kK ?k6 ?k7 ?k8 ?k9 ?kB ?_ ?c2 ?c3 ?c4 ?c5; (case kA => exact rfl); (case kF => exact rfl); (case kK => assumption); (case k1 => k_asm); (case k2 => k_asm); (case k3 => k_asm); (case k5 => k_asm); (case k6 => k_is); (case k7 => k_is); (case k8 => ktr_room); (case k9 => exact BindsTo.of_eq rfl); (case c5 => decide); (case kB => exact locs rfl); (case c2 => exact rfl); (case c3 => exact rfl); (case c4 => exact rfl); k_whole)
  intro L' h' tk0 F' N' B' X' T'
  replace F' := fr_lookup [(Str.ofString "other", Value.int q qt), (Str.ofString "one", Value.int p pt), (Str.ofString "most", Value.int z zt)] F'
  dsimp only [kstB] at F'
  (try dsimp only)
  (try k_fold)
  (refine hideQE ?_; intro Qb hqb)
  repeat' (first | ((fail_if_success (with_reducible show wpAny _ _ (pyIter _) _ _ _)); (fail_if_success (with_reducible show wpAny _ _ (exec (Stmt.While _ _ _ _) _) _ _ _)); (fail_if_success (with_reducible show InvEndN _ _ _ _ _ _ _)); (fail_if_success (with_reducible show LedEnd _ _ _ _ _ _)); (fail_if_success (with_reducible show wpAny _ _ (PySem.call (Value.type "enumerate") _) _ _ _)); (fail_if_success (with_reducible show KswEnd _ _ _ _ _ _ _ _ _ _ _ _)); (first | (k_unfold; (try dsimp only)) | (k_end; wrow_close) | walk1 | (dsimp only; walk1) | (leave1; walk_say "STEP leave1"; try dsimp only))) | fail "no step")
  have hI1 : IntsAre [Value.int 0 tk0, Value.int 1 (tk0 + 1)] [0, 1] := .cons _ _ (.cons _ _ .nil)
  have hI2 : IntsAre [Value.int 2 (tk0 + 1 + 1), Value.int p pt] [2, p] := .cons _ _ (.cons _ _ .nil)
  k_with "state" => (exact ⟨rowU_start, rowV_start⟩)
  k_state (fun pre first second => first = RowU p q (pre.length + 2) ∧ second = RowV p q (pre.length + 2)) "first" "second"
  · k_with_none
    (with_reducible rename _ = RowU _ _ _ => hu9)
    (with_reducible rename _ = RowV _ _ _ => hv9)
    have hu9' : _ = List.map (lucU p q) (List.range (kPre.length + 2)) := hu9
    have hv9' : _ = List.map (lucV p q) (List.range (kPre.length + 2)) := hv9
    have hlu := (congrArg List.length hu9).trans rowU_len
    have hlv := (congrArg List.length hv9).trans rowV_len
    have hpb := sm_bits hp
    have hqb := sm_bits hq
    have hnl := lr_n h1 h12 kLt
    have hn100 := lr_100 hnl
    have hb1 := (lr_b hp hq (Nat.succ_le_succ hnl)).1
    have hb2 := (lr_b hp hq (Nat.le_succ_of_le hnl)).1
    have hb3 := (lr_b hp hq (Nat.succ_le_succ hnl)).2
    have hb4 := (lr_b hp hq (Nat.le_succ_of_le hnl)).2
    repeat' (first | ((fail_if_success (with_reducible show wpAny _ _ (pyIter _) _ _ _)); (fail_if_success (with_reducible show wpAny _ _ (exec (Stmt.While _ _ _ _) _) _ _ _)); (fail_if_success (with_reducible show InvEndN _ _ _ _ _ _ _)); (fail_if_success (with_reducible show LedEnd _ _ _ _ _ _)); (fail_if_success (with_reducible show wpAny _ _ (PySem.call (Value.type "enumerate") _) _ _ _)); (fail_if_success (with_reducible show KswEnd _ _ _ _ _ _ _ _ _ _ _ _)); (first | (k_unfold; (try dsimp only)) | (k_end; wrow_close) | walk1 | (dsimp only; walk1) | (leave1; walk_say "STEP leave1"; try dsimp only))) | fail "no step")
    ((rename News _ _ _ _ => nE'); (try simp only [List.push_toArray] at nE'); (refine' kst_end ⟨_, _, _, _, _, _⟩ (by assumption) nE' (by first | kst_in | kst_inAny) (by first | (intro p hp; kst_mem) | kst_anyIn) (by rfl) (by kst_facts) (by kst_all) (by kst_same) ?_); (try dsimp only))
    rw [hu9, hv9, row_snocU, row_snocV, List.length_append]
    exact ⟨rfl, rfl⟩
  · k_with_none
    (with_reducible rename _ = RowU _ _ _ => hu9)
    (with_reducible rename _ = RowV _ _ _ => hv9)
    have hzl := lr_z h1
    rw [hzl] at hu9 hv9
    repeat' (first | ((fail_if_success (with_reducible show wpAny _ _ (pyIter _) _ _ _)); (fail_if_success (with_reducible show wpAny _ _ (exec (Stmt.While _ _ _ _) _) _ _ _)); (fail_if_success (with_reducible show InvEndN _ _ _ _ _ _ _)); (fail_if_success (with_reducible show LedEnd _ _ _ _ _ _)); (fail_if_success (with_reducible show wpAny _ _ (PySem.call (Value.type "enumerate") _) _ _ _)); (fail_if_success (with_reducible show KswEnd _ _ _ _ _ _ _ _ _ _ _ _)); (first | (k_unfold; (try dsimp only)) | (k_end; wrow_close) | walk1 | (dsimp only; walk1) | (leave1; walk_say "STEP leave1"; try dsimp only))) | fail "no step")
    ((refine hqb _ _ ?_); (try dsimp only); repeat' (first | ((fail_if_success (with_reducible show wpAny _ _ (pyIter _) _ _ _)); (fail_if_success (with_reducible show wpAny _ _ (exec (Stmt.While _ _ _ _) _) _ _ _)); (fail_if_success (with_reducible show InvEndN _ _ _ _ _ _ _)); (fail_if_success (with_reducible show LedEnd _ _ _ _ _ _)); (fail_if_success (with_reducible show wpAny _ _ (PySem.call (Value.type "enumerate") _) _ _ _)); (fail_if_success (with_reducible show KswEnd _ _ _ _ _ _ _ _ _ _ _ _)); (first | (k_unfold; (try dsimp only)) | (k_end; wrow_close) | walk1 | (dsimp only; walk1) | (leave1; walk_say "STEP leave1"; try dsimp only))) | fail "no step"))
    refine hret _ _ _ (Fr.keep (by assumption)) ?_
    rw [← hu9, ← hv9]
    (with_reducible rename News s.heap _ _ _ => nE)
    exact RNew.of nE (by k_mem) (by k_mem) (by k_mem) (by assumption) (by assumption)
end
section
open PySem PySem.W PyProof.Rows PySem.Calls
set_option linter.unusedVariables false
theorem w_off_UseL : True := by
  w_top off
  trivial
section
variable {w : World} {f : Addr} {vs : List Value} {d : Nat} {Pre : Heap → Prop}
    {mean : ExcName → Option Value} {mg mb : Str → Option Value} {dp un : Nat} {gd : Option (List Code)} {cn : Str} {cs : Scope} {a : Addr} {ccd : Value} {cl : List (Str × Addr)} {outer : List Env} {A₀ : Around} {base h₀ : Heap} {L : Addr} {m : Str → Option Value} {news : List (Addr × Obj)} {s : Shared} {Q E : Value → Shared → Prop}
/-- a new pair of signed numbers comes back -/
theorem use_npair {B' z1 z2 : Int}
    (h : ∀ (x xu : Addr) (gu : List (Addr × Obj)) (xv : Addr) (gv : List (Addr × Obj)) (h' : Heap) (tk' : Nat), Fr h₀ L h' m → News h₀ L h' ((x, tupO [.ref xu, .ref xv]) :: (news ++ (gu ++ gv))) → NumL gu xu B' z1 → NumL gv xv B' z2 → Q (.ref x) { s with heap := h', toks := tk' }) :
    After h₀ L m news s Q (PNum B' z1 z2) := by
  rintro r h' tk' F N got ⟨x, xu, gu, xv, gv, rfl, hu, hv, hf⟩
  have key : ∀ q : List (Addr × Obj), (∀ p ∈ q, s.heap.get? p.1 = none ∧ h'.get? p.1 = some p.2) → News h₀ L h' (q ++ news) := by
    intro q
    induction q with
    | nil => intro _; exact N
    | cons p r ih => intro hq; exact got p.1 p.2 (hq p (.head _)).1 (hq p (.head _)).2 _ (ih fun z hz => hq z (.tail _ hz))
  refine h x xu gu xv gv h' tk' F (fun p hp => key _ hf p ?_) hu hv
  rcases List.mem_cons.mp hp with rfl | hp
  · exact .head _
  · rcases List.mem_append.mp hp with hp | hp
    · exact List.mem_append_right _ hp
    · exact .tail _ (List.mem_append_left _ hp)
/-- a new pair of lists comes back -/
theorem use_rule {us ms : List Int}
    (h : ∀ (x l1 l2 : Addr) (v1 : List Value) (c1 : Nat) (v2 : List Value) (c2 : Nat) (h' : Heap) (tk' : Nat), Fr h₀ L h' m →
      News h₀ L h' ((x, tupO [.ref l1, .ref l2]) :: (l1, W.listOf (List.toArray v1) c1) :: (l2, W.listOf (List.toArray v2) c2) :: news) → IntsAre v1 us → IntsAre v2 ms → Q (.ref x) { s with heap := h', toks := tk' }) :
    After h₀ L m news s Q (fun h h' r => RNew h h' r us ms) := by
  rintro r h' tk' F N got ⟨t, l1, l2, v1, c1, v2, c2, rfl, hn, hm, hp, ho, hq, hr, hI, hJ⟩
  exact h t l1 l2 v1 c1 v2 c2 h' tk' F (got _ _ hn ho _ (got _ _ hm hq _ (got _ _ hp hr _ N))) hI hJ
theorem t_lplain' {w : World} {x : Addr} {k z : Int} {kt : Tok} : Ct w 191 [.ref x, .int k kt] 20
    (fun h => Num h x (2 ^ k.toNat) z ∧ 8 ≤ k ∧ k ≤ 12 ∧ Sm 900 z) (fun h h' r => ∃ t, r = .int z t) :=
  .of (fun i : Bool × List Int => t_lplain (b := i.1) (ns := i.2)) fun _ ⟨⟨b, xs, hx, sx⟩, h8, h12, hz⟩ => ⟨⟨b, xs⟩, hx, h8, h12, sx, hz⟩
end
end
section
open PySem PySem.W PyProof.Rows PySem.Calls
set_option linter.unusedVariables false
set_option linter.unusedSimpArgs false
theorem w_off_LNext : True := by
  w_top off
  trivial
theorem News.swap {h₀ h : Heap} {L : Addr} {p q : Addr × Obj} {r : List (Addr × Obj)} (N : News h₀ L h (p :: q :: r)) : News h₀ L h (q :: p :: r) := fun z hz => N z (by
  simp only [List.mem_cons] at hz ⊢
  rcases hz with hz | hz | hz
  · exact .inr (.inl hz)
  · exact .inl hz
  · exact .inr (.inr hz))
local macro_rules | `(tactic| k_all) => `(tactic| assumption)
local macro_rules | `(tactic| k_memK) => `(tactic| assumption)
local macro_rules | `(tactic| k_mem) => `(tactic| assumption)
set_option maxRecDepth 100000 in
set_option maxHeartbeats 4000000 in
theorem t_next {w : World} : ∀ {y d : Addr} {c many : Int} {ct mt : Tok} {e e2 : Nat} {ys : List Value} {ms : List Int} {rest : List (Addr × Obj)}
    {mean : ExcName → Option Value} {mg mb : Str → Option Value} {dp un : Nat} {gd : Option (List Code)} {cn : Str} {cs : Scope} {a : Addr} {ccd : Value} {cl : List (Str × Addr)} {outer : List Env} {A₀ : Around} {base h₀ : Heap} {L : Addr} {m : Str → Option Value} {s : Shared} {Q E : Value → Shared → Prop}
    (B : Below A₀ base outer h₀) (F : Fr h₀ L s.heap m) (X : (Mine.hd.heap_39 w.params).In h₀) (T : TopL mean mg mb h₀) (hk : cs.kind = .function) (N : News h₀ L s.heap ((y, W.listOf [Value.int c ct, Value.ref d].toArray e) :: rest)) (hne : ∀ p ∈ rest, p.1 ≠ y)
    (hd : (d, W.listOf ys.toArray e2) ∈ rest) (hI : IntsAre ys ms) (hc0 : 0 ≤ c) (hc1 : c ≤ 100) (hm0 : 1 ≤ many) (hm1 : many ≤ 100) (hlen : ms.length ≤ 5) (hdp : dp + 20 < recursionLimit) (hun : un + 8 * 20 < cLine)
    (hret : ∀ (v : Int) (t : Tok) (ct' : Tok) (h' : Heap) (tk' : Nat), 0 ≤ v → v < many → Fr h₀ L h' m → News h₀ L h' ((y, W.listOf [Value.int (c + 1) ct', Value.ref d].toArray e) :: rest) → Q (.int v t) { s with heap := h', toks := tk' }),
    wpAny (model PySem.Challenge.rw_xw0109_01.row.prog w) (ktrTop dp un gd cn cs L a ccd cl outer) (call (.ref 170) [.ref y, .int many mt]) Q E s := by
  k_fill
  intro y d c many ct mt e e2 ys ms rest mean mg mb dp un gd cn cs a ccd cl outer A₀ base h₀ L m s Q E B F X T hk N hne hd hI hc0 hc1 hm0 hm1 hlen hdp hun hret
  refine wpAny_call ?_
  have hkm := kstMark
  k_dflt ktr_enter
  repeat' (first | ((fail_if_success (with_reducible show wpAny _ _ (pyIter _) _ _ _)); (fail_if_success (with_reducible show wpAny _ _ (exec (Stmt.While _ _ _ _) _) _ _ _)); (fail_if_success (with_reducible show InvEndN _ _ _ _ _ _ _)); (fail_if_success (with_reducible show LedEnd _ _ _ _ _ _)); (fail_if_success (with_reducible show wpAny _ _ (PySem.call (Value.type "enumerate") _) _ _ _)); (fail_if_success (with_reducible show KswEnd _ _ _ _ _ _ _ _ _ _ _ _)); (first | (k_unfold; (try dsimp only)) | (k_end; wrow_close) | walk1 | (dsimp only; walk1) | (leave1; walk_say "STEP leave1"; try dsimp only))) | fail "no step")
  all_goals exact hret _ _ _ _ _ (Int.fmod_nonneg_of_pos _ (by omega)) (Int.fmod_lt_of_pos _ (by omega)) (by assumption) (by assumption)
end
section
open PySem PySem.W PyProof.Rows PySem.Calls PyProof.V
set_option linter.unusedVariables false
theorem w_off_LawLoop : True := by
  w_top off
  trivial
section
variable {prog : Program} {w : World} {A : Around} {E : Value → Shared → Prop} {s : Shared} {env : Env} {h₀ : Heap} {x : Str} {body : List Stmt} {Q : Flow → Shared → Prop}
/-- a loop over a list of ints of the ledger that turns nothing but its own names -/
theorem loop_list0 {l : Addr} {vs : List Value} {ns : List Int} {nn : Nat} {m₀ : Str → Option Value} {led : List (Addr × Obj)} (stored : List Str)
    (hh : A.handled = none) (hl : (l, W.listOf vs.toArray nn) ∈ led) (hi : IntsAre vs ns) (F : Fr h₀ env.locals s.heap m₀) (N : News h₀ env.locals s.heap led)
    (turn : ∀ n t (u : Str → Option Value) h tk own, n ∈ ns → OwnOff own (led.map (·.1)) →
      Fr h₀ env.locals h (fun y => if y = x then some (.int n t) else if stored.contains y then u y else m₀ y) → News h₀ env.locals h (led ++ own) →
      wpAny (model prog w) A (execs body env) (InvPostN h₀ env.locals (KstS (fun _ : Unit => led) (fun _ => []) (fun _ => True) x stored m₀ (fun _ _ => True) []) own (led.map (·.1)) { s with heap := h, toks := tk } Q) E { s with heap := h, toks := tk })
    (done : ∀ (u : Str → Option Value) h tk, Fr h₀ env.locals h (fun y => if y = x then u y else if stored.contains y then u y else m₀ y) → News h₀ env.locals h led → Q .next { s with heap := h, toks := tk }) :
    wpAny (model prog w) A (pyIter (.ref l)) (fun it s₂ => LoopAtV prog w A h₀ env x body Q E it s₂) E s := by
  refine kst_listL (σ := Unit) (fun _ => led) (fun _ => []) (fun _ => True) stored (fun _ _ => True) () hh (fun _ => hl) hi F N trivial (fun _ h => nomatch h) trivial ?_ ?_
  · intro c pre post n t u h tk own e hn hoff _ _ F₁ N₁
    exact turn n t u h tk own hn hoff F₁ N₁
  · intro c u h tk _ _ F₁ N₁
    exact done u h tk F₁ N₁
end

section
variable {prog : Program} {w : World} {A : Around} {E : Value → Shared → Prop} {s : Shared} {h₀ : Heap} {L : Addr} {news : List (Addr × Obj)} {l : Addr} {vs : List Value} {ms : List Int} {c : Nat} {f : Nat → Int} {n : Nat} {k : Int} {value slice : Expr} {u : Tok} {Q : Value → Shared → Prop}
theorem row_at (N : News h₀ L s.heap news) (hm : (l, W.listOf vs.toArray c) ∈ news) (hI : IntsAre vs ((List.range n).map f)) (h0 : 0 ≤ k) (hk : k < n) (hf : n ≤ 1000) (h : ∀ t, Q (.int (f k.toNat) t) s)
    (hs : subscripted slice false (.ref l) (.int k u) = operate [.ref l, .int k u] (getItem (.ref l) (.int k u)) := by with_unfolding_all rfl) : wpAny (model prog w) A (subscriptTail value slice (.ref l) (.int k u)) Q E s := by
  refine item_list_intsR (News.isList N hm) hI h0 (by simpa using hk) (by omega) ?_ hs
  intro t
  have : ((List.range n).map f).getD k.toNat 0 = f k.toNat := by
    have : k.toNat < n := by omega
    simp [List.getD_eq_getElem?_getD, List.getElem?_range, this]
  rw [this]; exact h t
end
end
section
open PySem PySem.W PyProof.Rows PySem.Calls PyProof.V PyProof.Rows.LCg
set_option linter.unusedVariables false
theorem w_off_LawComp : True := by
  w_top off
  trivial
section
variable {prog : Program} {w : World} {A : Around} {E : Value → Shared → Prop} {s : Shared} {h₀ : Heap} {L : Addr} {m : Str → Option Value} {env : Env}
def TSrcAt (ax : Addr) (its : Array Value) (news : List (Addr × Obj)) : Prop := ∃ o, (ax, o) ∈ news ∧ o.cls = .type "tuple" ∧ ∃ n, o.data = .seq its n
theorem TSrcAt.tup {h : Heap} {ax : Addr} {its : Array Value} {news : List (Addr × Obj)} (x : TSrcAt ax its news) (N : News h₀ L h news) : h.IsTuple ax its := let ⟨o, hm, r⟩ := x; ⟨o, (N _ hm).1, r⟩
def TupSrc (prog : Program) (w : World) (A : Around) (h₀ : Heap) (L : Addr) (m : Str → Option Value) (env : Env) (elt : Expr) (x : Str) (scope : Scope) (cl : List (Str × Addr)) (Fin : Shared → List Value → List (Addr × Obj) → Prop) (xv : Value) (s₁ : Shared) : Prop :=
  ∃ ax its news, xv = .ref ax ∧ A.handled = none ∧ Fr h₀ L s₁.heap m ∧ News h₀ L s₁.heap news ∧ TSrcAt ax its news ∧ its.size ≤ sizeLine ∧
    ∀ s₂ : Shared, (∃ h, s₂ = { s₁ with heap := h }) → CompRest prog w A h₀ L m env elt x scope cl s₂ (TSrcAt ax its) (fun i v => its[i]? = some v) (Fin s₂) its.size 0 [] news
theorem TupSrc.of {elt : Expr} {x : Str} {scope : Scope} {cl : List (Str × Addr)} {Fin : Shared → List Value → List (Addr × Obj) → Prop} {ax : Addr} {its : Array Value} {k : Nat} {news : List (Addr × Obj)} {s₁ : Shared}
    (hh : A.handled = none) (F : Fr h₀ L s₁.heap m) (N : News h₀ L s₁.heap news) (hm : (ax, ({ cls := .type "tuple", data := .seq its k } : Obj)) ∈ news) (hsz : its.size ≤ sizeLine)
    (h : ∀ g, CompRest prog w A h₀ L m env elt x scope cl { s₁ with heap := g } (TSrcAt ax its) (fun i v => its[i]? = some v) (Fin { s₁ with heap := g }) its.size 0 [] news) :
    TupSrc prog w A h₀ L m env elt x scope cl Fin (.ref ax) s₁ := ⟨ax, its, news, rfl, hh, F, N, ⟨_, hm, rfl, _, rfl⟩, hsz, fun _ ⟨g, e⟩ => e ▸ h g⟩
theorem tup_st {ax I : Addr} {its : Array Value} : ∀ i (h h' : Heap) (o : Obj) (nw : List (Addr × Obj)), (h.IsTupleIter I ax i ∧ h.IsTuple ax its) → h.get? I = some o → h'.get? I = some o → (∀ b o, h₀.get? b = some o → h'.get? b = some o) → News h₀ L h' nw → TSrcAt ax its nw → (h'.IsTupleIter I ax i ∧ h'.IsTuple ax its) :=
  fun i h h' o nw st e e' k N S => ⟨by obtain ⟨o', q, r⟩ := st.1; rw [e] at q; cases q; exact ⟨o, e', r⟩, S.tup N⟩
/-- a list comprehension over a tuple of the ledger -/
theorem ListComp_tup {elt iter : Expr} {x : Str} {px : Pos} {scope : Scope} {cl : List (Str × Addr)} {pos : Pos} {Q : Value → Shared → Prop} (F₀ : Fr h₀ L s.heap m)
    (hclos : closureFor scope env = pure cl) (hcell : ∀ y ∈ scope.names, y.2 ≠ .cell) (hkind : scope.kind = .function)
    (hnames : ∀ y ∈ scope.names, y.2 = .local → scope.names.lookup y.1 = some .local) (hx : scope.names.lookup x = some .local)
    (h : wpAny (model prog w) A (eval iter env) (TupSrc prog w A h₀ L m env elt x scope cl (fun s₂ => FinE h₀ L m s₂ Q)) E s)
    (hs : ∀ x, foldedSetIterable iter env x = pure x := by intro _; rfl) :
    wpAny (model prog w) A (eval (.ListComp elt [⟨.Name x px, iter, [], 0⟩] scope pos) env) Q E s := by
  rw [eval_ListComp]
  refine wpAny_comprehension_free (use := none) rfl hs hclos hkind hnames (wpAny_mono h (fun xv s₁ h₁ => ?_) fun _ _ e => e)
  obtain ⟨ax, its, news, rfl, hh, F, N, S, hsz, R⟩ := h₁
  have hl := S.tup N
  have hlt : ax < s₁.heap.objs.size := by obtain ⟨_, e, _⟩ := hl; exact Heap.lt_size e
  refine wpAny_pyIter_tuple hl ?_
  have up : ∀ b o, s₁.heap.get? b = some o → (s₁.heap.push { cls := .type "tuple_iterator", data := .fields #[.ref ax, .int 0 0] }).get? b = some o := fun b o e => Heap.get?_push_of_some _ e
  refine block_U (Walks.tuple hh s₁.heap.objs.size ax (Nat.ne_of_lt hlt) its) hsz (fun i h st => by obtain ⟨o, e, _⟩ := st.1; exact ⟨o, e⟩) tup_st hcell hkind hx ⟨⟨_, Heap.get?_push_size _ rfl, rfl, rfl⟩, hl.at fun o e => up _ o e⟩ (fun b hb => ?_)
    (F.keeps up) (N.grown up) (Nat.ne_of_lt F.ns.lt) (next_is_new F) (fun p hp => Nat.ne_of_lt (Heap.lt_size (N p hp).1)) S (R _ ⟨_, rfl⟩) ?_
  · show b < (s₁.heap.push _).objs.size
    rw [Heap.size_push]
    rcases List.mem_cons.mp hb with rfl | hb
    · exact Nat.lt_succ_self _
    · rw [List.mem_singleton.mp hb]; exact Nat.lt_succ_of_lt hlt
  · intro D C h tk m' ys news' F' N' o1 hn hC₀ hD₀ hCL hDL hCD offC fin
    refine ⟨m', hn, fun h'' hs'' => fin D h'' tk (F'.change hs'' hCL hC₀) (fun p hp => ?_) o1⟩
    refine ⟨hs''.extBut _ _ ?_ (N' p hp).1, (N' p hp).2⟩
    rcases List.mem_cons.mp hp with rfl | hp
    · exact Ne.symm hCD
    · exact offC p hp
end
section
variable {prog : Program} {w : World} {A : Around} {E : Value → Shared → Prop} {s : Shared} {h₀ : Heap} {L : Addr} {news : List (Addr × Obj)} {Q : Value → Shared → Prop}
/-- two lists of the same two ints -/
theorem ne_pairs {a b : Addr} {x y : Int} {t u t' u' : Tok} {c c' : Nat} (N : News h₀ L s.heap news) (h1 : (a, W.listOf [Value.int x t, Value.int y u].toArray c) ∈ news) (h2 : (b, W.listOf [Value.int x t', Value.int y u'].toArray c') ∈ news) (hu : A.units + 64 < cLine)
    (h : Q (.bool false) s) : wpAny (model prog w) A (compareOp .NotEq (.ref a) (.ref b)) Q E s := by
  refine ne_intsK (ns := [x, y]) (ms := [x, y]) (News.isList N h1) (.cons _ _ (.cons _ _ .nil)) (News.isList N h2) (.cons _ _ (.cons _ _ .nil)) hu ?_
  simpa using h
end
end
local macro_rules | `(tactic| walk_at "call ref") => `(tactic| (k_here; (with_reducible show wpAny _ _ (PySem.call (Value.ref 170) _) _ _ _); k_dflt (refine t_next (by walk_at "nx") (by walk_at "nx") (by walk_at "nx") (by walk_at "nx") (by walk_at "nx") (by walk_at "nx") (by walk_at "nx") (by walk_at "nx") (by walk_at "nx") (by walk_at "nx") (by walk_at "nx") (by walk_at "nx") (by walk_at "nx") (by walk_at "nx") (by walk_at "nx") (by walk_at "nx") ?_); walk_at "fin"))
section
open PySem PySem.W PyProof.Rows PySem.Calls
set_option linter.unusedVariables false
set_option linter.unusedSimpArgs false
theorem w_off_Law23 : True := by
  w_top off
  trivial
local macro_rules | `(tactic| walk_at "nx") => `(tactic| first | assumption | exact rfl | decide | k_all | k_mem | exact News.swap (by assumption) | exact len5 _ | walk_at "room" | walk_at "units" | (simp only [List.length_map, List.length_take]; exact Nat.min_le_left _ _) | k_asm)
local macro_rules | `(tactic| walk_at "eval ListComp") => `(tactic| (k_here; (with_reducible show wpAny _ _ (eval (PySem.Expr.ListComp _ [⟨PySem.Expr.Name _ _, PySem.Expr.Name _ _, [], 0⟩] _ _) _) _ _ _); k_dflt (refine ListComp_tup (F₀ := by k_asm) (by with_unfolding_all rfl) (by decide) (by rfl) (by decide) (by rfl) ?_)))
local macro_rules | `(tactic| walk_at "TupSrc") => `(tactic| (k_here; k_dflt (refine TupSrc.of (by rfl) (by k_asm) (by k_asm) (by k_mem) (by first | size_fits | exact Nat.le_of_ble_eq_true rfl) ?_; intro g'; lcg_lit)))
local macro_rules | `(tactic| walk_at "CompEnd") => `(tactic| k_dflt (refine LCg.CompEnd.intro (by assumption) (by assumption) _ (fun p hp => hp) (by assumption) (by exact ⟨_, by k_mem, rfl, _, rfl⟩) ?_))
local macro_rules | `(tactic| walk_at "CompRest") => `(tactic| (with_unfolding_all first | (refine LCg.CompRest.succ ?_; intro _ _ _ _ _ _ _ _ _ _ hv' _ _ _ _ _ ne'; lcg_open hv'; clear ne') | refine LCg.CompRest.zero ?_))
local macro_rules | `(tactic| walk_at "compareOp NotEq ref ref") => `(tactic| (k_here; (with_reducible show wpAny _ _ (compareOp CmpOp.NotEq (Value.ref _) (Value.ref _)) _ _ _); k_dflt (refine ne_pairs (by assumption) (by k_mem) (by k_mem) (by ktr_units) ?_)))
local macro_rules | `(tactic| lcg_src) => `(tactic| exact ⟨_, by k_mem, rfl, _, rfl⟩)
local macro_rules | `(tactic| walk_at "exec For Name List cons nil") => `(tactic| (k_here; (rename Fr _ _ _ _ => lF'); (with_unfolding_all refine' For_invVF lF' ?k1 ?k2 ?_; (case k1 => exact rfl); (case k2 => exact rfl); k_whole)))
local macro_rules | `(tactic| walk_at "subscriptTail Name BinOp ref int") => `(tactic| (k_here; (with_reducible show wpAny _ _ (subscriptTail _ _ (Value.ref _) (Value.int _ _)) _ _ _); k_dflt (refine row_at (by assumption) (by k_mem) (by assumption) (by omega) (by omega) (by omega) ?_); intro _))
local macro_rules | `(tactic| walk_at "subscriptTail Name Name ref int") => `(tactic| (k_here; (with_reducible show wpAny _ _ (subscriptTail _ _ (Value.ref _) (Value.int _ _)) _ _ _); k_dflt (refine row_at (by assumption) (by k_mem) (by assumption) (by omega) (by omega) (by omega) ?_); intro _))
theorem sm_small {z : Int} (h : -100 ≤ z) (h' : z ≤ 100) : Sm 20 z := Sm.mono (i := 7) (by unfold Sm; omega) (by decide)
theorem small_bits {z : Int} (h : -100 ≤ z) (h' : z ≤ 100) : Builtin.Int.intBits z ≤ 20 := sm_bits (sm_small h h')
theorem law_facts {a b : Int} (h1 : 0 ≤ a) (h2 : a < 4) (h3 : 0 ≤ b) (h4 : b < 3) : 1 ≤ (1 + a) * (1 + b) ∧ (1 + a) * (1 + b) ≤ 12 ∧ 1 + a ≤ (1 + a) * (1 + b) ∧ 1 + b ≤ (1 + a) * (1 + b) :=
  by_fin (n := 3) (P := fun b => 1 ≤ (1 + a) * (1 + b) ∧ (1 + a) * (1 + b) ≤ 12 ∧ 1 + a ≤ (1 + a) * (1 + b) ∧ 1 + b ≤ (1 + a) * (1 + b)) (by_fin (n := 4) (P := fun a => ∀ x : Fin 3, 1 ≤ (1 + a) * (1 + (x.val : Int)) ∧ (1 + a) * (1 + (x.val : Int)) ≤ 12 ∧ 1 + a ≤ (1 + a) * (1 + (x.val : Int)) ∧ 1 + (x.val : Int) ≤ (1 + a) * (1 + (x.val : Int))) (by decide) h1 h2) h3 h4
theorem pow_two' (z : Int) : z ^ Int.toNat 2 = z * z := by rw [show Int.toNat 2 = 2 from rfl, Int.pow_succ, Int.pow_succ, Int.pow_zero, Int.one_mul]
theorem sm4 {a : Int} (h1 : 0 ≤ a) (h2 : a < 9) : Sm 3 (a - 4) := by_fin (n := 9) (P := fun a => (a - 4).natAbs < 2 ^ 3) (by decide) h1 h2
theorem sm3 {b : Int} (h1 : 0 ≤ b) (h2 : b < 7) : Sm 3 (b - 3) := by_fin (n := 7) (P := fun b => (b - 3).natAbs < 2 ^ 3) (by decide) h1 h2
theorem one64 {a b : Int} (h1 : 0 ≤ a) (h2 : a < 9) (h3 : 0 ≤ b) (h4 : b < 7) {n : Nat} (hn : n ≤ 12) : (lucU (a - 4) (b - 3) n).natAbs < 2 ^ 64 ∧ (lucV (a - 4) (b - 3) n).natAbs < 2 ^ 64 :=
  ⟨(luc_sm (sm4 h1 h2) (sm3 h3 h4) n).1.mono (lin_le hn (by decide)), (luc_sm (sm4 h1 h2) (sm3 h3 h4) n).2.mono (lin_le hn (by decide))⟩
theorem mul_facts {p q : Int} (hp : Sm 20 p) (hq : Sm 20 q) {n : Nat} (hn : n ≤ 12) : Builtin.Int.intBits (p * p - 4 * q) ≤ 1000 ∧ Builtin.Int.intBits (lucU p q n ^ Int.toNat 2) ≤ 1000 ∧ Builtin.Int.intBits (4 : Int) ≤ 1000 ∧ Builtin.Int.intBits (q ^ n) ≤ 1000 := by
  refine ⟨sm_bits ?_, sm_bits ?_, by decide, sm_bits ((pow_sm hq n).mono (lin_le hn (by decide)))⟩
  · exact (((hp.mul hp).mono (show _ ≤ 40 by decide)).sub ((Sm.mul (i := 3) (show Sm 3 4 by unfold Sm; decide) hq).mono (show _ ≤ 40 by decide))).mono (by decide)
  · have h := (luc_sm hp hq n).1.mono (lin_le (b := 500) hn (by decide))
    rw [pow_two']; exact (h.mul h).mono (by decide)
theorem ne_same {prog : Program} {w : World} {A : Around} {E : Value → Shared → Prop} {s : Shared} {Q : Value → Shared → Prop} {a b : Int} {t u : Tok} (h : a = b) (k : Q (.bool false) s) : wpAny (model prog w) A (compareOp .NotEq (.int a t) (.int b u)) Q E s := by
  subst h
  refine ne_int ?_
  simpa using k
theorem eq_same {prog : Program} {w : World} {A : Around} {E : Value → Shared → Prop} {s : Shared} {Q : Value → Shared → Prop} {a b : Int} {t u : Tok} (h : a = b) (k : Q (.bool true) s) : wpAny (model prog w) A (compareOp .Eq (.int a t) (.int b u)) Q E s := by
  subst h
  refine eq_int ?_
  simpa using k
theorem norm_fact {p q : Int} (hp : Sm 20 p) (hq : Sm 20 q) (n : Nat) : lucV p q n ^ Int.toNat 2 - (p * p - 4 * q) * lucU p q n ^ Int.toNat 2 = 4 * q ^ n := by
  rw [pow_two', pow_two']; exact luc_norm p q n
theorem pow_le {b : Int} (h3 : 0 ≤ b) (h4 : b < 7) {a : Int} (h1 : 0 ≤ a) (h2 : a < 4) : -1000 ≤ (b - 3) ^ (1 + a).toNat ∧ (b - 3) ^ (1 + a).toNat ≤ 1000 :=
  by_fin (n := 7) (P := fun b => -1000 ≤ (b - 3) ^ (1 + a).toNat ∧ (b - 3) ^ (1 + a).toNat ≤ 1000) (by_fin (n := 4) (P := fun a => ∀ x : Fin 7, -1000 ≤ ((x.val : Int) - 3) ^ (1 + a).toNat ∧ ((x.val : Int) - 3) ^ (1 + a).toNat ≤ 1000) (by decide) h1 h2) h3 h4
theorem n4 {c : Int} (h5 : 0 ≤ c) (h6 : c < 4) : (1 + c).toNat ≤ 4 := by_fin (n := 4) (P := fun c => (1 + c).toNat ≤ 4) (by decide) h5 h6
theorem vm_sm {a b : Int} (h1 : 0 ≤ a) (h2 : a < 9) (h3 : 0 ≤ b) (h4 : b < 7) {c : Int} (h5 : 0 ≤ c) (h6 : c < 4) : Sm 20 (lucV (a - 4) (b - 3) (1 + c).toNat) := (luc_sm (sm4 h1 h2) (sm3 h3 h4) _).2.mono (lin_le (n4 h5 h6) (by decide))
theorem qm_sm {b : Int} (h3 : 0 ≤ b) (h4 : b < 7) {a : Int} (h1 : 0 ≤ a) (h2 : a < 4) : Sm 20 ((b - 3) ^ (1 + a).toNat) := (pow_sm (sm3 h3 h4) _).mono (lin_le (n4 h1 h2) (by decide))
theorem comp_facts {p q a b : Int} (h1 : 0 ≤ a) (h3 : 0 ≤ b) : lucV (lucV p q (1 + a).toNat) (q ^ (1 + a).toNat) (1 + b).toNat = lucV p q ((1 + a) * (1 + b)).toNat ∧ lucU (lucV p q (1 + a).toNat) (q ^ (1 + a).toNat) (1 + b).toNat * lucU p q (1 + a).toNat = lucU p q ((1 + a) * (1 + b)).toNat := by
  have e : ((1 + a) * (1 + b)).toNat = (1 + a).toNat * (1 + b).toNat := Int.toNat_mul (Int.add_nonneg (by decide) h1) (Int.add_nonneg (by decide) h3)
  obtain ⟨h, h'⟩ := luc_comp p q (1 + a).toNat (1 + b).toNat
  rw [e]
  exact ⟨h', h⟩
theorem len5 {α : Type} (xs : List α) : (List.take 5 xs).length ≤ 5 := by rw [List.length_take]; exact Nat.min_le_left _ _
theorem w_facts {v : Int} (h0 : 0 ≤ v) (h1 : v < 5) : 8 ≤ 8 + v ∧ 8 + v ≤ 12 := by_fin (n := 5) (P := fun v => 8 ≤ 8 + v ∧ 8 + v ≤ 12) (by decide) h0 h1
theorem r9_facts {v : Int} (h0 : 0 ≤ v) (h1 : v < 9) : -100 ≤ v - 4 ∧ v - 4 ≤ 100 ∧ -1000 ≤ v - 4 ∧ v - 4 ≤ 1000 := by_fin (n := 9) (P := fun v => -100 ≤ v - 4 ∧ v - 4 ≤ 100 ∧ -1000 ≤ v - 4 ∧ v - 4 ≤ 1000) (by decide) h0 h1
theorem r7_facts {v : Int} (h0 : 0 ≤ v) (h1 : v < 7) : -100 ≤ v - 3 ∧ v - 3 ≤ 100 ∧ -1000 ≤ v - 3 ∧ v - 3 ≤ 1000 ∧ (v - 3).natAbs < 2 ^ 64 := by_fin (n := 7) (P := fun v => -100 ≤ v - 3 ∧ v - 3 ≤ 100 ∧ -1000 ≤ v - 3 ∧ v - 3 ≤ 1000 ∧ (v - 3).natAbs < 2 ^ 64) (by decide) h0 h1
theorem p_facts {v : Int} (h0 : 0 ≤ v) (h1 : v < 4) : 0 ≤ 1 + v ∧ 1 + v ≤ 12 ∧ -100 ≤ 1 + v ∧ 1 + v ≤ 100 ∧ 1 + v ≤ 1000000 := by_fin (n := 4) (P := fun v => 0 ≤ 1 + v ∧ 1 + v ≤ 12 ∧ -100 ≤ 1 + v ∧ 1 + v ≤ 100 ∧ 1 + v ≤ 1000000) (by decide) h0 h1
theorem z_facts {z : Int} (h0 : 1 ≤ z) (h1 : z ≤ 12) : 0 ≤ z ∧ z < ((z.toNat + 1 : Nat) : Int) ∧ z.toNat + 1 ≤ 1000 := by_fin (n := 13) (P := fun z => 0 ≤ z ∧ z < ((z.toNat + 1 : Nat) : Int) ∧ z.toNat + 1 ≤ 1000) (by decide) (Int.le_trans (by decide) h0) (Int.lt_of_le_of_lt h1 (by decide))
theorem n_facts {n a b z : Int} (h : n = 1 + a ∨ n = 1 + b ∨ n = z) (ha : 0 ≤ a) (ha' : a < 4) (hb : 0 ≤ b) (hb' : b < 3) (h1 : 1 ≤ z) (h2 : z ≤ 12) (h3 : 1 + a ≤ z) (h4 : 1 + b ≤ z) :
    0 ≤ n ∧ n ≤ 12 ∧ n ≤ 1000000 ∧ n < ((z.toNat + 1 : Nat) : Int) ∧ n.toNat ≤ 12 ∧ (20 + 1) * n.toNat + 2 ≤ 900 ∧ 1 ≤ n := by
  have k : 1 ≤ n ∧ n ≤ z := by
    rcases h with rfl | rfl | rfl
    · exact ⟨Int.le_add_of_nonneg_right ha, h3⟩
    · exact ⟨Int.le_add_of_nonneg_right hb, h4⟩
    · exact ⟨h1, Int.le_refl _⟩
  have h12 := Int.le_trans k.2 h2
  have hN := k_n12 h12
  exact ⟨Int.le_trans (by decide) k.1, h12, Int.le_trans h12 (by decide), Int.lt_of_le_of_lt k.2 (z_facts h1 h2).2.1, hN, lin_le hN (by decide), k.1⟩
theorem one_facts {a : Int} (h1 : 0 ≤ a) (h2 : a < 9) : Sm 20 (a - 4) := (sm4 h1 h2).mono (by decide)
theorem other_facts {a : Int} (h1 : 0 ≤ a) (h2 : a < 7) : Sm 20 (a - 3) := (sm3 h1 h2).mono (by decide)
theorem out_facts {a b c d : Int} (h1 : 0 ≤ a) (h2 : a < 9) (h3 : 0 ≤ b) (h4 : b < 7) (h5 : 0 ≤ c) (h6 : c < 4) (h7 : 0 ≤ d) (h8 : d < 3) :
    Sm 900 (lucU (lucV (a - 4) (b - 3) (1 + c).toNat) ((b - 3) ^ (1 + c).toNat) (1 + d).toNat) ∧ Sm 900 (lucV (lucV (a - 4) (b - 3) (1 + c).toNat) ((b - 3) ^ (1 + c).toNat) (1 + d).toNat) ∧ Sm 900 (lucU (a - 4) (b - 3) (1 + c).toNat) ∧
    Sm 900 (lucU (lucV (a - 4) (b - 3) (1 + c).toNat) ((b - 3) ^ (1 + c).toNat) (1 + d).toNat * lucU (a - 4) (b - 3) (1 + c).toNat) ∧
    lucV (lucV (a - 4) (b - 3) (1 + c).toNat) ((b - 3) ^ (1 + c).toNat) (1 + d).toNat = lucV (a - 4) (b - 3) ((1 + c) * (1 + d)).toNat ∧ lucU (lucV (a - 4) (b - 3) (1 + c).toNat) ((b - 3) ^ (1 + c).toNat) (1 + d).toNat * lucU (a - 4) (b - 3) (1 + c).toNat = lucU (a - 4) (b - 3) ((1 + c) * (1 + d)).toNat := by
  have hn := n4 h7 (Int.lt_trans h8 (by decide))
  have h := luc_sm (vm_sm h1 h2 h3 h4 h5 h6) (qm_sm h3 h4 h5 h6) (1 + d).toNat
  have h' := (luc_sm (sm4 h1 h2) (sm3 h3 h4) (1 + c).toNat).1.mono (lin_le (b := 400) (n4 h5 h6) (by decide))
  exact ⟨h.1.mono (lin_le hn (by decide)), h.2.mono (lin_le hn (by decide)), h'.mono (by decide), ((h.1.mono (lin_le (b := 400) hn (by decide))).mul h').mono (by decide), comp_facts h5 h7⟩
local macro_rules | `(tactic| walk_at "binaryOp Pow int int") => `(tactic| (k_here; (refine pow_int_small (by omega) (by omega) (by omega) ?_)))
local macro_rules | `(tactic| walk_at "binaryOp Mult int int") => `(tactic| (k_here; (refine mul_int ?_ (IntMulOk.of_le (m := 1000) (n := 1000) (by assumption) (by assumption) (by decide)))))
local macro_rules | `(tactic| walk_at "binaryOp Mult int int") => `(tactic| (k_here; (refine mul_int ?_ (IntMulOk.of_le (m := 20) (n := 20) (by first | assumption | exact small_bits (by omega) (by omega)) (by first | assumption | exact small_bits (by omega) (by omega)) (by decide)))))
set_option maxRecDepth 100000 in
set_option maxHeartbeats 8000000 in
theorem t_law : PySem.Challenge.rw_xw0109_01.Holds := hd (by
  k_go0
  (all_goals try k_fold)
  (refine hideQE ?_; intro Qb hqb)
  repeat' (first | ((fail_if_success (with_reducible show wpAny _ _ (execs (Stmt.Assign [PySem.Expr.Tuple [PySem.Expr.Name (PySem.Str.ofString "first") _, PySem.Expr.Name (PySem.Str.ofString "second") _] _ _] _ _ :: _) _) _ _ _)); (first | (k_unfold; (try dsimp only)) | (k_end; wrow_close) | walk1 | (dsimp only; walk1) | (leave1; walk_say "STEP leave1"; try dsimp only))) | fail "no step")
  (with_reducible rename _ < (4 : Int) => hw4)
  (with_reducible rename _ < (3 : Int) => hw3)
  (with_reducible rename _ < (7 : Int) => hw7)
  (with_reducible rename _ < (5 : Int) => hw5)
  (with_reducible rename (_ : Int) < (9 : Int) => hw9)
  have hz := law_facts (by assumption) hw4 (by assumption) hw3
  have hz1 := hz.1
  have hz2 := hz.2.1
  have hz3 := hz.2.2.1
  have hz4 := hz.2.2.2
  clear hz
  have hk8 := (w_facts (by assumption) hw5).1
  have hk12 := (w_facts (by assumption) hw5).2
  have ha1 := (r9_facts (by assumption) hw9).1
  have ha2 := (r9_facts (by assumption) hw9).2.1
  have ha3 := (r9_facts (by assumption) hw9).2.2.1
  have ha4 := (r9_facts (by assumption) hw9).2.2.2
  have hb1 := (r7_facts (by assumption) hw7).1
  have hb2 := (r7_facts (by assumption) hw7).2.1
  have hb3 := (r7_facts (by assumption) hw7).2.2.1
  have hb4 := (r7_facts (by assumption) hw7).2.2.2.1
  have hb5 := (r7_facts (by assumption) hw7).2.2.2.2
  have hm1 := (p_facts (by assumption) hw4).1
  have hm2 := (p_facts (by assumption) hw4).2.1
  have hm3 := (p_facts (by assumption) hw4).2.2.1
  have hm4 := (p_facts (by assumption) hw4).2.2.2.1
  have hm5 := (p_facts (by assumption) hw4).2.2.2.2
  have ht0 := Int.lt_trans hw3 (by decide : (3 : Int) < 4)
  have ht1 := (p_facts (by assumption) ht0).1
  have ht2 := (p_facts (by assumption) ht0).2.1
  have ht3 := (p_facts (by assumption) ht0).2.2.1
  have ht4 := (p_facts (by assumption) ht0).2.2.2.1
  have hzz1 := (z_facts hz1 hz2).1
  have hzz2 := (z_facts hz1 hz2).2.1
  have hzz3 := (z_facts hz1 hz2).2.2
  have hp20 := one_facts (by assumption) hw9
  have hq20 := other_facts (by assumption) hw7
  have hpw1 := (pow_le (by assumption) hw7 (by assumption) hw4).1
  have hpw2 := (pow_le (by assumption) hw7 (by assumption) hw4).2
  repeat' (first | ((fail_if_success (with_reducible show wpAny _ _ (pyIter _) _ _ _)); (fail_if_success (with_reducible show wpAny _ _ (exec (Stmt.While _ _ _ _) _) _ _ _)); (fail_if_success (with_reducible show InvEndN _ _ _ _ _ _ _)); (fail_if_success (with_reducible show LedEnd _ _ _ _ _ _)); (fail_if_success (with_reducible show wpAny _ _ (PySem.call (Value.type "enumerate") _) _ _ _)); (fail_if_success (with_reducible show KswEnd _ _ _ _ _ _ _ _ _ _ _ _)); (first | (k_unfold; (try dsimp only)) | (k_end; wrow_close) | walk1 | (dsimp only; walk1) | (leave1; walk_say "STEP leave1"; try dsimp only))) | fail "no step")
  (with_reducible rename Fr _ _ _ _ => lF')
  (with_reducible rename News _ _ _ _ => lN')
  have hI3 : ∀ (a b c : Int) (t u v : Tok), IntsAre [Value.int a t, Value.int b u, Value.int c v] [a, b, c] := fun a b c t u v => .cons _ _ (.cons _ _ (.cons _ _ .nil))
  (with_unfolding_all refine' loop_list0 [Str.ofString "at", Str.ofString "told"] (by rfl) (by k_mem) (hI3 _ _ _ _ _ _) lF' lN' ?_ ?_)
  · intro n t u h tk own hn hoff kFr kNews
    have hkm := kstMark
    simp only [List.mem_cons, List.not_mem_nil, or_false] at hn
    have hnz := n_facts hn (by assumption) hw4 (by assumption) hw3 hz1 hz2 hz3 hz4
    have hn1 := hnz.1
    have hn2 := hnz.2.1
    have hn3 := hnz.2.2.1
    have hn4 := hnz.2.2.2.1
    have hnn := hnz.2.2.2.2.1
    have hn5 := hnz.2.2.2.2.2.1
    have hn6 := hnz.2.2.2.2.2.2
    clear hnz hn
    simp only [List.cons_append, List.nil_append] at kNews
    have h64u := (one64 (by assumption) hw9 (by assumption) hw7 hnn).1
    have h64v := (one64 (by assumption) hw9 (by assumption) hw7 hnn).2
    have hbD := (mul_facts hp20 hq20 hnn).1
    have hbU := (mul_facts hp20 hq20 hnn).2.1
    have hb4 := (mul_facts hp20 hq20 hnn).2.2.1
    have hbq := (mul_facts hp20 hq20 hnn).2.2.2
    have hnm := norm_fact hp20 hq20 n.toNat
    have hsu := (luc_sm hp20 hq20 n.toNat).1.mono hn5
    have hsv := (luc_sm hp20 hq20 n.toNat).2.mono hn5
    clear lF' lN' hI3
    (refine hideQE ?_; intro Qt hqt)
    repeat' (first | ((fail_if_success (with_reducible show LCg.CompEnd _ _ _ _ _ _ _ _ _ _ _ _ _ _)); (fail_if_success (with_reducible show wpAny _ _ (compareOp CmpOp.NotEq (Value.ref _) (Value.ref _)) _ _ _)); (first | (k_unfold; (try dsimp only)) | (k_end; wrow_close) | walk1 | (dsimp only; walk1) | (leave1; walk_say "STEP leave1"; try dsimp only))) | fail "no step")
    k_dflt (refine LCg.CompEnd.intro (by assumption) (by assumption) _ (fun p hp => hp) (by assumption) (by exact ⟨_, by k_mem, rfl, _, rfl⟩) ?_)
    repeat' (first | ((fail_if_success (with_reducible show LCg.CompEnd _ _ _ _ _ _ _ _ _ _ _ _ _ _)); (fail_if_success (with_reducible show wpAny _ _ (compareOp CmpOp.NotEq (Value.ref _) (Value.ref _)) _ _ _)); (first | (k_unfold; (try dsimp only)) | (k_end; wrow_close) | walk1 | (dsimp only; walk1) | (leave1; walk_say "STEP leave1"; try dsimp only))) | fail "no step")
    k_dflt (refine LCg.CompEnd.intro (by assumption) (by assumption) _ (fun p hp => hp) (by assumption) (by exact ⟨_, by k_mem, rfl, _, rfl⟩) ?_)
    repeat' (first | ((fail_if_success (with_reducible show wpAny _ _ (subscriptTail _ _ _ _) _ _ _)); (fail_if_success (with_reducible show LCg.FinE _ _ _ _ _ _ _)); (fail_if_success (with_reducible show LCg.CompEnd _ _ _ _ _ _ _ _ _ _ _ _ _ _)); (fail_if_success (with_reducible show wpAny _ _ (compareOp CmpOp.NotEq (Value.ref _) (Value.ref _)) _ _ _)); (first | (k_unfold; (try dsimp only)) | (k_end; wrow_close) | walk1 | (dsimp only; walk1) | (leave1; walk_say "STEP leave1"; try dsimp only))) | fail "no step")
    unfold LCg.FinE
    intro D' h' tk' F' N' o1'
    clear o1'
    simp only [List.nil_append, List.cons_append] at N'
    (try dsimp only)
    repeat' (first | ((fail_if_success (with_reducible show wpAny _ _ (subscriptTail _ _ _ _) _ _ _)); (fail_if_success (with_reducible show LCg.FinE _ _ _ _ _ _ _)); (fail_if_success (with_reducible show LCg.CompEnd _ _ _ _ _ _ _ _ _ _ _ _ _ _)); (fail_if_success (with_reducible show wpAny _ _ (compareOp CmpOp.NotEq (Value.ref _) (Value.ref _)) _ _ _)); (first | (k_unfold; (try dsimp only)) | (k_end; wrow_close) | walk1 | (dsimp only; walk1) | (leave1; walk_say "STEP leave1"; try dsimp only))) | fail "no step")
    repeat' (first | ((fail_if_success (with_reducible show LCg.FinE _ _ _ _ _ _ _)); (fail_if_success (with_reducible show LCg.CompEnd _ _ _ _ _ _ _ _ _ _ _ _ _ _)); (fail_if_success (with_reducible show wpAny _ _ (compareOp CmpOp.NotEq (Value.ref _) (Value.ref _)) _ _ _)); (first | (k_unfold; (try dsimp only)) | (k_end; wrow_close) | walk1 | (dsimp only; walk1) | (leave1; walk_say "STEP leave1"; try dsimp only))) | fail "no step")
    k_dflt (refine ne_pairs (by assumption) (by k_mem) (by k_mem) (by ktr_units) ?_)
    repeat' (first | ((fail_if_success (with_reducible show wpAny _ _ (binaryOp Operator.Pow _ _) _ _ _)); (fail_if_success (with_reducible show LCg.FinE _ _ _ _ _ _ _)); (fail_if_success (with_reducible show LCg.CompEnd _ _ _ _ _ _ _ _ _ _ _ _ _ _)); (fail_if_success (with_reducible show wpAny _ _ (compareOp CmpOp.NotEq (Value.ref _) (Value.ref _)) _ _ _)); (first | (k_unfold; (try dsimp only)) | (k_end; wrow_close) | walk1 | (dsimp only; walk1) | (leave1; walk_say "STEP leave1"; try dsimp only))) | fail "no step")
    repeat' (first | ((fail_if_success (with_reducible show wpAny _ _ (compareOp _ _ _) _ _ _)); (fail_if_success (with_reducible show InvEndN _ _ _ _ _ _ _)); (first | (k_unfold; (try dsimp only)) | (k_end; wrow_close) | walk1 | (dsimp only; walk1) | (leave1; walk_say "STEP leave1"; try dsimp only))) | fail "no step")
    (try dsimp only)
    refine ne_same hnm ?_
    repeat' (first | ((fail_if_success (with_reducible show InvEndN _ _ _ _ _ _ _)); (fail_if_success (with_reducible show InvPostN _ _ _ _ _ _ _ _ _)); (first | (k_unfold; (try dsimp only)) | (k_end; wrow_close) | walk1 | (dsimp only; walk1) | (leave1; walk_say "STEP leave1"; try dsimp only))) | fail "no step")
    (refine hqt _ _ ?_; try dsimp only)
    repeat' (first | ((fail_if_success (with_reducible show InvEndN _ _ _ _ _ _ _)); (first | (k_unfold; (try dsimp only)) | (k_end; wrow_close) | walk1 | (dsimp only; walk1) | (leave1; walk_say "STEP leave1"; try dsimp only))) | fail "no step")
    ((rename News _ _ _ _ => nE'); (try simp only [List.push_toArray] at nE'); (refine' kst_end () (by assumption) nE' (by first | kst_in | kst_inAny) (by first | (intro p hp; kst_mem) | kst_anyIn) (by rfl) (by kst_facts) (by kst_all) (by kst_same) ?_); (try dsimp only))
    all_goals trivial
  · intro u h tk kFr kNews
    clear lF' lN' hI3
    have hkm := kstMark
    have hvm := vm_sm (by assumption) hw9 (by assumption) hw7 (by assumption) hw4
    have hqm := qm_sm (by assumption) hw7 (by assumption) hw4
    have hof := out_facts (by assumption) hw9 (by assumption) hw7 (by assumption) hw4 (by assumption) hw3
    have ho1 := hof.1
    have ho2 := hof.2.1
    have ho3 := hof.2.2.1
    have ho4 := hof.2.2.2.1
    have hcV := hof.2.2.2.2.1
    have hcU := hof.2.2.2.2.2
    clear hof
    repeat' (first | ((fail_if_success (with_reducible show wpAny _ _ (compareOp _ _ _) _ _ _)); (first | (k_unfold; (try dsimp only)) | (k_end; wrow_close) | walk1 | (dsimp only; walk1) | (leave1; walk_say "STEP leave1"; try dsimp only))) | fail "no step")
    (try dsimp only)
    refine ne_same hcV ?_
    repeat' (first | ((fail_if_success (with_reducible show wpAny _ _ (compareOp _ _ _) _ _ _)); (first | (k_unfold; (try dsimp only)) | (k_end; wrow_close) | walk1 | (dsimp only; walk1) | (leave1; walk_say "STEP leave1"; try dsimp only))) | fail "no step")
    (try dsimp only)
    refine eq_same hcU ?_
    repeat' (first | ((fail_if_success (with_reducible show wpAny _ _ (pyIter _) _ _ _)); (fail_if_success (with_reducible show wpAny _ _ (exec (Stmt.While _ _ _ _) _) _ _ _)); (fail_if_success (with_reducible show InvEndN _ _ _ _ _ _ _)); (fail_if_success (with_reducible show LedEnd _ _ _ _ _ _)); (fail_if_success (with_reducible show wpAny _ _ (PySem.call (Value.type "enumerate") _) _ _ _)); (fail_if_success (with_reducible show KswEnd _ _ _ _ _ _ _ _ _ _ _ _)); (first | (k_unfold; (try dsimp only)) | (k_end; wrow_close) | walk1 | (dsimp only; walk1) | (leave1; walk_say "STEP leave1"; try dsimp only))) | fail "no step")
    ((refine hqb _ _ ?_); (try dsimp only); repeat' (first | ((fail_if_success (with_reducible show wpAny _ _ (pyIter _) _ _ _)); (fail_if_success (with_reducible show wpAny _ _ (exec (Stmt.While _ _ _ _) _) _ _ _)); (fail_if_success (with_reducible show InvEndN _ _ _ _ _ _ _)); (fail_if_success (with_reducible show LedEnd _ _ _ _ _ _)); (fail_if_success (with_reducible show wpAny _ _ (PySem.call (Value.type "enumerate") _) _ _ _)); (fail_if_success (with_reducible show KswEnd _ _ _ _ _ _ _ _ _ _ _ _)); (first | (k_unfold; (try dsimp only)) | (k_end; wrow_close) | walk1 | (dsimp only; walk1) | (leave1; walk_say "STEP leave1"; try dsimp only))) | fail "no step")))
end
end Mine
theorem PySem.Challenge.cw_xw0109_01_holds : PySem.Challenge.rw_xw0109_01.Holds :=
  Mine.t_law
