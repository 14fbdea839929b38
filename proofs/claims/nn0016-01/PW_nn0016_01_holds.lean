import PyProof.Rows.All
import Wide.All
import OpenK.AllK
import Wide.FinOn
import Lean
import PySem.Challenge.RW_nn0016_01
set_option Elab.async false
set_option rowWalk.seconds 0
section
open PySem PySem.W PyProof.Rows
set_option Elab.async false
set_option maxRecDepth 100000
set_option maxHeartbeats 8000000
namespace Mine
local macro_rules | `(tactic| o_head $_) => `(tactic| assumption)
/-- the head's first step alone: it lays the part of the heap that the walks read -/
theorem headK (h : PySem.Challenge.rw_nn0016_01.row.Holds) : PySem.Challenge.rw_nn0016_01.row.Holds := by k_head
end Mine
end
section
namespace Mine
/-- the number that a row of limbs stands for, the lowest first -/
def val (B : Int) : List Int → Int
  | [] => 0
  | a :: r => a + B * val B r
def Dig (B : Int) (ns : List Int) : Prop := ∀ n ∈ ns, 0 ≤ n ∧ n < B
def NoTrail (ns : List Int) : Prop := ∀ r, ns ≠ r ++ [0]
/-- the row without noughts at its end that stands for x -/
structure Can (W : Nat) (ns : List Int) (x : Int) : Prop where
  dig : Dig (2 ^ W) ns
  val : val (2 ^ W) ns = x
  nt : NoTrail ns

theorem Dig.nil {B : Int} : Dig B [] := fun _ h => nomatch h
theorem Dig.cons {B a : Int} {r : List Int} (h0 : 0 ≤ a) (h1 : a < B) (h : Dig B r) : Dig B (a :: r) := fun n hn => by
  rcases List.mem_cons.mp hn with rfl | hn
  · exact ⟨h0, h1⟩
  · exact h n hn
theorem Dig.tail {B a : Int} {r : List Int} (h : Dig B (a :: r)) : Dig B r := fun n hn => h n (.tail _ hn)
theorem Dig.head {B a : Int} {r : List Int} (h : Dig B (a :: r)) : 0 ≤ a ∧ a < B := h a (.head _)
theorem Dig.append {B : Int} {xs ys : List Int} (h : Dig B xs) (k : Dig B ys) : Dig B (xs ++ ys) := fun n hn => (List.mem_append.mp hn).elim (h n) (k n)
theorem Dig.snoc {B d : Int} {xs : List Int} (h : Dig B xs) (h0 : 0 ≤ d) (h1 : d < B) : Dig B (xs ++ [d]) := h.append (.cons h0 h1 .nil)
theorem Dig.left {B : Int} {xs ys : List Int} (h : Dig B (xs ++ ys)) : Dig B xs := fun n hn => h n (List.mem_append.mpr (.inl hn))
theorem Dig.right {B : Int} {xs ys : List Int} (h : Dig B (xs ++ ys)) : Dig B ys := fun n hn => h n (List.mem_append.mpr (.inr hn))
theorem Dig.take {B : Int} {xs : List Int} (h : Dig B xs) (k : Nat) : Dig B (xs.take k) := fun n hn => h n (List.mem_of_mem_take hn)
theorem Dig.drop {B : Int} {xs : List Int} (h : Dig B xs) (k : Nat) : Dig B (xs.drop k) := fun n hn => h n (List.mem_of_mem_drop hn)
theorem Dig.getD {B : Int} {xs : List Int} (h : Dig B xs) (hB : 0 < B) (k : Nat) : 0 ≤ xs.getD k 0 ∧ xs.getD k 0 < B := by
  by_cases hk : k < xs.length
  · have e : xs.getD k 0 = xs[k] := by simp [List.getD, hk]
    rw [e]; exact h _ (List.getElem_mem hk)
  · have e : xs.getD k 0 = 0 := by simp [List.getD, Nat.not_lt.mp hk]
    rw [e]; exact ⟨by omega, hB⟩

@[simp] theorem val_nil {B : Int} : val B [] = 0 := rfl
@[simp] theorem val_cons {B a : Int} {r : List Int} : val B (a :: r) = a + B * val B r := rfl
theorem val_append (B : Int) : ∀ xs ys : List Int, val B (xs ++ ys) = val B xs + B ^ xs.length * val B ys
  | [], ys => by simp
  | a :: r, ys => by
    rw [List.cons_append, val_cons, val_cons, val_append B r ys, List.length_cons, Int.pow_succ]
    grind
theorem val_snoc (B : Int) (xs : List Int) (d : Int) : val B (xs ++ [d]) = val B xs + B ^ xs.length * d := by
  rw [val_append]; simp
theorem val_nonneg {B : Int} (hB : 0 < B) : ∀ {xs : List Int}, Dig B xs → 0 ≤ val B xs
  | [], _ => Int.le_refl _
  | a :: r, h => by
    have h1 := h.head
    have h2 := val_nonneg hB h.tail
    have := Int.mul_nonneg (Int.le_of_lt hB) h2
    rw [val_cons]; omega
theorem val_lt {B : Int} (hB : 0 < B) : ∀ {xs : List Int}, Dig B xs → val B xs < B ^ xs.length
  | [], _ => by simp
  | a :: r, h => by
    have h1 := h.head
    have h2 := val_lt hB h.tail
    have h3 : B * (val B r + 1) ≤ B * B ^ r.length := Int.mul_le_mul_of_nonneg_left (by omega) (Int.le_of_lt hB)
    rw [val_cons, List.length_cons, Int.pow_succ, Int.mul_comm (B ^ r.length)]
    rw [Int.mul_add] at h3
    omega
theorem pow_pos' {B : Int} (hB : 0 < B) (n : Nat) : 0 < B ^ n := Int.pow_pos hB
theorem pow_le_pow' {B : Int} (hB : 0 < B) {m n : Nat} (h : m ≤ n) : B ^ m ≤ B ^ n := by
  obtain ⟨k, rfl⟩ := Nat.exists_eq_add_of_le h
  rw [Int.pow_add]
  have h1 : 0 < B ^ k := Int.pow_pos hB
  have h2 : 0 < B ^ m := Int.pow_pos hB
  have := Int.mul_le_mul_of_nonneg_left (show (1 : Int) ≤ B ^ k by omega) (Int.le_of_lt h2)
  omega
theorem val_take_succ {B : Int} {xs : List Int} {i : Nat} (hi : i < xs.length) : val B (xs.take (i + 1)) = val B (xs.take i) + B ^ i * xs.getD i 0 := by
  have e : xs.take (i + 1) = xs.take i ++ [xs.getD i 0] := by
    rw [List.take_add_one, List.getElem?_eq_getElem hi]; simp [List.getD, hi]
  rw [e, val_snoc, List.length_take, Nat.min_eq_left (Nat.le_of_lt hi)]
theorem val_take_drop (B : Int) (xs : List Int) (k : Nat) (hk : k ≤ xs.length) : val B xs = val B (xs.take k) + B ^ k * val B (xs.drop k) := by
  have h := val_append B (xs.take k) (xs.drop k)
  rw [List.take_append_drop, List.length_take, Nat.min_eq_left hk] at h
  exact h
theorem val_take {B : Int} (hB : 0 < B) {xs : List Int} (h : Dig B xs) (k : Nat) : val B (xs.take k) = val B xs % B ^ k := by
  by_cases hk : k ≤ xs.length
  · have h1 := val_take_drop B xs k hk
    have h2 := val_nonneg hB (h.take k)
    have h3 := val_lt hB (h.take k)
    rw [List.length_take, Nat.min_eq_left hk] at h3
    rw [h1, Int.add_mul_emod_self_left, Int.emod_eq_of_lt h2 h3]
  · have e : xs.take k = xs := List.take_of_length_le (by omega)
    have h3 := val_lt hB h
    have h4 : B ^ xs.length ≤ B ^ k := pow_le_pow' hB (by omega)
    rw [e, Int.emod_eq_of_lt (val_nonneg hB h) (by omega)]
theorem val_drop {B : Int} (hB : 0 < B) {xs : List Int} (h : Dig B xs) (k : Nat) : val B (xs.drop k) = val B xs / B ^ k := by
  by_cases hk : k ≤ xs.length
  · have h1 := val_take_drop B xs k hk
    have h2 := val_nonneg hB (h.take k)
    have h3 := val_lt hB (h.take k)
    rw [List.length_take, Nat.min_eq_left hk] at h3
    rw [h1, Int.add_mul_ediv_left _ _ (Int.ne_of_gt (Int.pow_pos hB)), Int.ediv_eq_zero_of_lt h2 h3, Int.zero_add]
  · have e : xs.drop k = [] := List.drop_eq_nil_of_le (by omega)
    have h3 := val_lt hB h
    have h4 : B ^ xs.length ≤ B ^ k := pow_le_pow' hB (by omega)
    rw [e, val_nil, Int.ediv_eq_zero_of_lt (val_nonneg hB h) (by omega)]
theorem getD_drop_head (xs : List Int) (k : Nat) : (xs.drop k).getD 0 0 = xs.getD k 0 := by simp [List.getD]
theorem val_head {B : Int} (xs : List Int) : val B xs = xs.getD 0 0 + B * val B xs.tail := by
  cases xs with
  | nil => simp
  | cons a r => simp
theorem getD_val {B : Int} (hB : 0 < B) {xs : List Int} (h : Dig B xs) (k : Nat) : xs.getD k 0 = val B xs / B ^ k % B := by
  rw [← val_drop hB h, val_head (xs.drop k), Int.add_mul_emod_self_left, getD_drop_head]
  have := h.getD hB k
  rw [Int.emod_eq_of_lt this.1 this.2]
theorem val_replicate_zero (B : Int) : ∀ k, val B (List.replicate k 0) = 0
  | 0 => rfl
  | k + 1 => by rw [List.replicate_succ, val_cons, val_replicate_zero B k]; simp
theorem NoTrail.tail {a : Int} {r : List Int} (h : NoTrail (a :: r)) : NoTrail r := fun q e => h (a :: q) (by rw [e]; rfl)
theorem val_zero {B : Int} (hB : 0 < B) : ∀ {xs : List Int}, Dig B xs → NoTrail xs → val B xs = 0 → xs = []
  | [], _, _, _ => rfl
  | a :: r, h, n, e => by
    have h1 := h.head
    have h2 := val_nonneg hB h.tail
    have h4 := Int.mul_nonneg (Int.le_of_lt hB) h2
    rw [val_cons] at e
    have ha : a = 0 := by omega
    have hr : val B r = 0 := by
      have : B * val B r = 0 := by omega
      exact (Int.mul_eq_zero.mp this).resolve_left (by omega)
    have := val_zero hB h.tail n.tail hr
    rw [ha, this] at n
    exact absurd rfl (n [])
theorem val_inj {B : Int} (hB : 0 < B) : ∀ {xs ys : List Int}, Dig B xs → Dig B ys → NoTrail xs → NoTrail ys → val B xs = val B ys → xs = ys
  | [], ys, _, h, _, n, e => (val_zero hB h n (by rw [← e]; rfl)).symm
  | a :: r, [], h, _, n, _, e => val_zero hB h n (by rw [e]; rfl)
  | a :: r, b :: q, h, k, n, m, e => by
    have h1 := h.head
    have k1 := k.head
    rw [val_cons, val_cons] at e
    have e1 : (a + B * val B r) % B = (b + B * val B q) % B := by rw [e]
    rw [Int.add_mul_emod_self_left, Int.add_mul_emod_self_left, Int.emod_eq_of_lt h1.1 h1.2, Int.emod_eq_of_lt k1.1 k1.2] at e1
    subst e1
    have e2 : B * val B r = B * val B q := by omega
    have e3 := Int.eq_of_mul_eq_mul_left (by omega) e2
    rw [val_inj hB h.tail k.tail n.tail m.tail e3]
theorem two_pow_pos (W : Nat) : (0 : Int) < 2 ^ W := Int.pow_pos (by decide)
theorem Can.inj {W : Nat} {xs ys : List Int} {x : Int} (h : Can W xs x) (k : Can W ys x) : xs = ys := val_inj (two_pow_pos W) h.dig k.dig h.nt k.nt (h.val.trans k.val.symm)
theorem Can.nonneg {W : Nat} {xs : List Int} {x : Int} (h : Can W xs x) : 0 ≤ x := h.val ▸ val_nonneg (two_pow_pos W) h.dig
theorem Can.lt {W : Nat} {xs : List Int} {x : Int} (h : Can W xs x) : x < (2 ^ W) ^ xs.length := h.val ▸ val_lt (two_pow_pos W) h.dig
theorem Can.nil {W : Nat} : Can W [] 0 := ⟨Dig.nil, rfl, fun r e => by cases r <;> cases e⟩
theorem Can.nil_iff {W : Nat} {xs : List Int} {x : Int} (h : Can W xs x) : xs = [] ↔ x = 0 :=
  ⟨fun e => by have := h.val; rw [e] at this; exact this.symm, fun e => Can.inj (e ▸ h) .nil⟩
theorem Can.cons {W : Nat} {xs : List Int} {a x : Int} (h0 : 0 ≤ a) (h1 : a < 2 ^ W) (h : Can W xs x) (hne : a + 2 ^ W * x ≠ 0) : Can W (a :: xs) (a + 2 ^ W * x) :=
  ⟨Dig.cons h0 h1 h.dig, by rw [val_cons, h.val], fun r e => by
    cases r with
    | nil =>
      rw [List.nil_append] at e
      cases e
      have := h.val
      rw [val_nil] at this
      rw [← this] at hne
      exact hne rfl
    | cons b q => cases e; exact h.nt q rfl⟩
/-- what is not nought has its top limb -/
theorem val_ge {B : Int} (hB : 0 < B) : ∀ {xs : List Int}, Dig B xs → NoTrail xs → xs ≠ [] → B ^ (xs.length - 1) ≤ val B xs
  | [], _, _, h => absurd rfl h
  | [a], h, n, _ => by
    have h1 := h.head
    have : a ≠ 0 := fun e => n [] (by rw [e]; rfl)
    simp only [List.length_cons, List.length_nil, val_cons, val_nil, Int.mul_zero, Nat.zero_add, Nat.sub_self, Int.pow_zero]
    omega
  | a :: b :: r, h, n, _ => by
    have h1 := h.head
    have h2 := val_ge hB h.tail n.tail (by simp)
    have h3 := Int.mul_le_mul_of_nonneg_left h2 (Int.le_of_lt hB)
    rw [val_cons]
    have e : B ^ ((a :: b :: r).length - 1) = B * B ^ ((b :: r).length - 1) := by
      simp only [List.length_cons, Nat.add_sub_cancel]
      rw [Int.pow_succ, Int.mul_comm]
    rw [e]; omega
theorem Can.ge {W : Nat} {xs : List Int} {x : Int} (h : Can W xs x) (hx : x ≠ 0) : (2 ^ W) ^ (xs.length - 1) ≤ x := by
  have := val_ge (two_pow_pos W) h.dig h.nt (fun e => hx (h.nil_iff.mp e))
  rwa [h.val] at this
/-- at most n limbs -/
theorem Can.len_le {W : Nat} {xs : List Int} {x : Int} (h : Can W xs x) {n : Nat} (hx : x < (2 ^ W) ^ n) : xs.length ≤ n := by
  by_cases h0 : x = 0
  · rw [(h.nil_iff.mpr h0)]; exact Nat.zero_le _
  have h1 := h.ge h0
  by_cases hn : xs.length ≤ n
  · exact hn
  · exfalso
    have h2 : ((2 : Int) ^ W) ^ n ≤ (2 ^ W) ^ (xs.length - 1) := pow_le_pow' (two_pow_pos W) (by omega)
    omega
/-- taking off the noughts at the end -/
theorem can_take {W : Nat} {ns : List Int} (h : Dig (2 ^ W) ns) {k : Nat} (hk : k ≤ ns.length) (hz : ∀ j, k ≤ j → j < ns.length → ns.getD j 0 = 0) (hl : k = 0 ∨ ns.getD (k - 1) 0 ≠ 0) : Can W (ns.take k) (val (2 ^ W) ns) := by
  refine ⟨h.take k, ?_, fun r e => ?_⟩
  · have h1 := val_take_drop (2 ^ W) ns k hk
    have h2 : ns.drop k = List.replicate (ns.length - k) 0 := by
      refine List.ext_getElem (by simp) fun i h1 h2 => ?_
      simp only [List.length_drop] at h1
      have := hz (k + i) (by omega) (by omega)
      simp only [List.getD, show k + i < ns.length by omega, List.getElem?_eq_getElem, Option.getD_some] at this
      simp [this]
    rw [h2, val_replicate_zero] at h1
    omega
  · have hlen := congrArg List.length e
    simp only [List.length_take, List.length_append, List.length_cons, List.length_nil] at hlen
    have hk0 : k ≠ 0 := by omega
    have hne := hl.resolve_left hk0
    apply hne
    have e2 : ns.getD (k - 1) 0 = (ns.take k).getD (k - 1) 0 := by simp [List.getD, show k - 1 < k by omega]
    rw [e2, e]
    have : k - 1 = r.length := by omega
    rw [this]
    simp [List.getD]
end Mine
end
section
open PySem PySem.W PySem.Calls PyProof.Rows
set_option Elab.async false
set_option maxRecDepth 100000
namespace Mine



/-- what stands around a call -/
abbrev AA (dp un : Nat) (gd : Option (List Code)) (fr : List Env) : Around := { handled := none, depth := dp, frames := some fr, guards := gd, units := un }

/-- the facts of the whole heap at a call -/
structure Amb (w : World) (p : Program) (loose : List Str) (mean : ExcName → Option Value) (mg mb : Str → Option Value) (base h : Heap) (fr : List Env) : Prop where
  stays : base.StaysIn h
  frames : h.FunFrames base fr
  X : (headK.heap_1 w.params).In h
  T : Top p loose mean mg mb h

/-- a call that changes nothing that stood: P of the heap behind it and of what comes back -/
def PCall (w : World) (p : Program) (loose : List Str) (mean : ExcName → Option Value) (mg mb : Str → Option Value) (f : Addr) (vs : List Value) (d u : Nat) (P : Heap → Value → Prop) (s : Shared) : Prop :=
  ∀ (dp un : Nat) (gd : Option (List Code)) (base : Heap) (fr : List Env) (Q E : Value → Shared → Prop),
    Amb w p loose mean mg mb base s.heap fr → dp + d < recursionLimit → un + u < cLine →
    (∀ v h' tk', s.heap.StaysIn h' → P h' v → Q v { s with heap := h', toks := tk' }) →
    wpAny (model PySem.Challenge.rw_nn0016_01.row.prog w) (AA dp un gd fr) (call (.ref f) vs) Q E s

section
variable {w : World} {p : Program} {loose : List Str} {mean : ExcName → Option Value} {mg mb : Str → Option Value} {base h₀ : Heap} {fr outer : List Env} {s : Shared} {dp un : Nat} {gd : Option (List Code)} {Q E : Value → Shared → Prop}

theorem enterP {name qual : Str} {params : Arguments} {body : List Stmt} {scope : Scope} {dV kV doc pm cdv ct oc : Value} {an od : Option Addr} {osl : Array (Option Value)} {f : Addr} {vs : List Value} {binds : List (Str × Value)}
    (M : Amb w p loose mean mg mb base s.heap fr)
    (ho : (headK.heap_1 w.params).lookup f = some ⟨oc, od, .func (fnOf name qual params body scope dV kV doc pm an cdv ct), osl⟩) (hcd : codeIn (headK.heap_1 w.params) cdv qual = true) (hroom : dp < recursionLimit)
    (hbind : BindsTo s (fnOf name qual params body scope dV kV doc pm an cdv ct) ⟨vs, []⟩ binds) (hloc : ∀ y ∈ binds, scope.names.lookup y.1 = some .local)
    (h : ∀ L' h₁, Fr s.heap L' h₁ (fun y => binds.reverse.lookup y) → News s.heap L' h₁ [] → L' = s.heap.objs.size → Below (AA dp un gd fr) base fr s.heap →
      wpAny (model PySem.Challenge.rw_nn0016_01.row.prog w) ((AA dp un gd fr).deeper (envOf qual scope L' f cdv)) (execs body (envOf qual scope L' f cdv))
        (fun fl s' => Q (match fl with | .ret v => v | _ => .none) s') (fun _ _ => False)
        { s with heap := h₁, toks := s.toks + binds.length })
    (hco : scope.isCoroutine = false) (hgen : scope.isGenerator = false) (hk : scope.kind = .function)
    (hcell : ∀ x ∈ scope.names, x.2 ≠ .cell) : wpAny (model PySem.Challenge.rw_nn0016_01.row.prog w) (AA dp un gd fr) (call (.ref f) vs) Q E s := by
  refine wpAny_call ?_
  refine codeAny_call_def (fd := fnOf name qual params body scope dV kV doc pm an cdv ct) (body := body) (binds := binds) hroom (M.X _ _ ho) rfl M.T.nolimit (codeRec_of M.X hcd) rfl hbind hcell hloc (fun h₁ hns hk₁ => ?_) hco hgen hk
  refine wpAny_mono (h s.heap.objs.size h₁ ⟨hns, hk₁, Nat.le_refl _⟩ News.nil rfl ⟨rfl, M.stays, M.frames⟩) (fun fl s' hl => hl) fun _ _ y => y.elim

theorem PCall.use {f : Addr} {vs : List Value} {d u : Nat} {P : Heap → Value → Prop} {L : Addr} {m : Str → Option Value} {news : List (Addr × Obj)} {A₀ : Around} {env : Env}
    (C : PCall w p loose mean mg mb f vs d u P s)
    (B : Below A₀ base outer h₀) (F : Fr h₀ L s.heap m) (X₀ : (headK.heap_1 w.params).In h₀) (N : News h₀ L s.heap news) (T : Top p loose mean mg mb h₀) (hf : env.frame = some L) (hke : env.scope.kind = .function)
    (hd : dp + d < recursionLimit) (hu : un + u < cLine)
    (ret : ∀ v h' tk', Fr h₀ L h' m → News h₀ L h' news → s.heap.StaysIn h' → P h' v → Q v { s with heap := h', toks := tk' }) :
    wpAny (model PySem.Challenge.rw_nn0016_01.row.prog w) (AA dp un gd (env :: outer)) (call (.ref f) vs) Q E s := by
  have hnew : base.get? L = none := by
    cases hq : base.get? L with
    | none => rfl
    | some o => exact absurd (Nat.lt_of_lt_of_le (Heap.lt_size (B.stays L o hq)) F.above) (Nat.lt_irrefl _)
  refine C dp un gd base (env :: outer) Q E ⟨fun b o e => F.keep b o (B.stays b o e), ?_, X₀.keeps F.keep, T.keeps F.keep⟩ hd hu fun v h' tk' st hP => ret v h' tk' (F.after st) (N.grown st) st hP
  exact .cons (by rw [hke]; decide) hf F.ns hnew (B.frames.of_keeps fun b o e _ => ⟨o, F.keep b o e, rfl⟩)

/-- a new list of ints -/
def NewL (h : Heap) (ns : List Int) (h' : Heap) (v : Value) : Prop := ∃ l vs n, v = .ref l ∧ h.get? l = none ∧ h'.get? l = some (PySem.W.listOf vs.toArray n) ∧ IntsAre vs ns

theorem newL_of {L : Addr} {news : List (Addr × Obj)} {h h' : Heap} {l : Addr} {vs : List Value} {n : Nat} {ns : List Int} (N : News h L h' news) (hm : (l, PySem.W.listOf vs.toArray n) ∈ news) (hi : IntsAre vs ns) : NewL h ns h' (.ref l) :=
  ⟨l, vs, n, rfl, (N _ hm).2.2, (N _ hm).1, hi⟩

def AllNe (d : Nat) : List (Addr × Obj) → Prop
  | [] => True
  | p :: r => @Ne Nat p.1 d ∧ AllNe d r
theorem allNe_of {d : Addr} : ∀ {l : List (Addr × Obj)}, (∀ p ∈ l, p.1 ≠ d) → AllNe d l
  | [], _ => trivial
  | p :: _, h => ⟨h p (.head _), allNe_of fun q hq => h q (.tail _ hq)⟩

theorem newL_news {L : Addr} {m : Str → Option Value} {news : List (Addr × Obj)} {h h' : Heap} {ns : List Int} {v : Value} (F : Fr h₀ L h m) (N0 : News h₀ L h news) (N : News h₀ L h' news) (hn : NewL h ns h' v) :
    ∃ l vs n, v = .ref l ∧ IntsAre vs ns ∧ AllNe l news ∧ @Ne Nat l L ∧ News h₀ L h' ((l, PySem.W.listOf vs.toArray n) :: news) := by
  obtain ⟨l, vs, n, rfl, hl, hg, hi⟩ := hn
  obtain ⟨oL, _, _, hL, _⟩ := F.ns
  have hne : l ≠ L := fun e => by rw [e, hL] at hl; cases hl
  refine ⟨l, vs, n, rfl, hi, allNe_of fun p hp e => ?_, hne, fun q hq => ?_⟩
  · have := (N0 p hp).1
    rw [e, hl] at this
    cases this
  · rcases List.mem_cons.mp hq with rfl | hq
    · refine ⟨hg, hne, ?_⟩
      cases q : h₀.get? l with
      | none => rfl
      | some o =>
        have := F.keep _ _ q
        rw [hl] at this
        cases this
    · exact N q hq
end
end Mine
namespace Mine

theorem fill (w : World) (h : Heap) : (headK.heap_1 w.params).In h → PySem.Challenge.rw_nn0016_01.row.prog = PySem.Challenge.rw_nn0016_01.row.prog := fun _ => rfl
end Mine
end
section
open PySem PySem.W
namespace Mine
theorem ints_concat {vs : List Value} {ns : List Int} {n : Int} {t : Tok} (h : PyProof.Rows.IntsAre vs ns) : PyProof.Rows.IntsAre (vs.toArray.toList.concat (.int n t)) (ns ++ [n]) := by
  rw [List.concat_eq_append]
  exact PyProof.Rows.IntsAre.append h (.cons _ _ .nil)
theorem mask_eq (c : Int) (W : Nat) : Builtin.bitAnd c (1 * 2 ^ ((W : Int)).toNat - 1) = c % 2 ^ W := by rw [Int.toNat_natCast, Int.one_mul, kbt_mask]
theorem shr_eq (c : Int) (W : Nat) : c.fdiv (2 ^ ((W : Int)).toNat) = c / 2 ^ W := by rw [Int.toNat_natCast, Int.fdiv_eq_ediv_of_nonneg _ (Int.le_of_lt (two_pow_pos W))]
theorem whole_eq (W : Nat) : (1 : Int) * 2 ^ ((W : Int)).toNat = 2 ^ W := by rw [Int.toNat_natCast, Int.one_mul]
theorem fmod_pos (c : Int) {n : Int} (h : 0 < n) : c.fmod n = c % n := Int.fmod_eq_emod_of_nonneg c (Int.le_of_lt h)
theorem fdiv_pos (c : Int) {n : Int} (h : 0 < n) : c.fdiv n = c / n := Int.fdiv_eq_ediv_of_nonneg c (Int.le_of_lt h)
theorem four_le {W : Nat} (hW : 2 ≤ W) : (4 : Int) ≤ 2 ^ W := by
  have := pow_le_pow' (B := 2) (by decide) hW
  simpa using this
theorem val_take_succ' {B : Int} {xs : List Int} {i : Nat} : val B (xs.take (i + 1)) = val B (xs.take i) + B ^ i * xs.getD i 0 := by
  by_cases hi : i < xs.length
  · exact val_take_succ hi
  · rw [List.take_of_length_le (by omega), List.take_of_length_le (by omega)]
    have e : xs.getD i 0 = 0 := by simp [List.getD, Nat.not_lt.mp hi]
    rw [e]; omega

structure AddI (W : Nat) (na nb found : List Int) (i : Nat) (carry : Int) : Prop where
  len : found.length = i
  dig : Dig (2 ^ W) found
  c0 : 0 ≤ carry
  c1 : carry ≤ 1
  eq : val (2 ^ W) found + (2 ^ W) ^ i * carry = val (2 ^ W) (na.take i) + val (2 ^ W) (nb.take i)
theorem AddI.start {W : Nat} {na nb : List Int} : AddI W na nb [] ([] : List Int).length 0 := ⟨rfl, Dig.nil, by decide, by decide, by simp⟩
theorem AddI.step {W : Nat} {na nb f : List Int} {i : Nat} {c x : Int} (h : AddI W na nb f i c) (da : Dig (2 ^ W) na) (db : Dig (2 ^ W) nb) (hx : x = c + (na.getD i 0 + nb.getD i 0)) : AddI W na nb (f ++ [x % 2 ^ W]) (i + 1) (x / 2 ^ W) := by
  have hB := two_pow_pos W
  have a1 := da.getD hB i
  have b1 := db.getD hB i
  have c0 := h.c0
  have c1 := h.c1
  have m1 := Int.emod_nonneg x (Int.ne_of_gt hB)
  have m2 := Int.emod_lt_of_pos x hB
  have e := h.eq
  have de := Int.mul_ediv_add_emod x (2 ^ W)
  refine ⟨by simp [h.len], h.dig.snoc m1 m2, Int.ediv_nonneg (by omega) (by omega), ?_, ?_⟩
  · have : x / 2 ^ W < 2 := (Int.ediv_lt_iff_lt_mul hB).mpr (by omega)
    omega
  · rw [val_snoc, h.len, val_take_succ', val_take_succ', Int.pow_succ]
    generalize (2 : Int) ^ W = B at *
    generalize B ^ i = P at *
    subst hx
    grind
theorem add_step1 {W : Nat} {na nb f pre : List Int} {c k : Int} (h : AddI W na nb f pre.length c) (he : k = 0 + (pre.length : Int)) (hl : f.length = pre.length) (da : Dig (2 ^ W) na) (db : Dig (2 ^ W) nb) :
    (f ++ [Builtin.bitAnd (c + (na.getD k.toNat 0 + nb.getD k.toNat 0)) (1 * 2 ^ ((W : Int)).toNat - 1)]).length = (pre ++ [k]).length ∧
    AddI W na nb (f ++ [Builtin.bitAnd (c + (na.getD k.toNat 0 + nb.getD k.toNat 0)) (1 * 2 ^ ((W : Int)).toNat - 1)]) (pre ++ [k]).length ((c + (na.getD k.toNat 0 + nb.getD k.toNat 0)).fdiv (2 ^ ((W : Int)).toNat)) := by
  have e : k.toNat = pre.length := by omega
  rw [mask_eq, shr_eq, e]
  simp only [List.length_append, List.length_cons, List.length_nil, hl, Nat.zero_add, true_and]
  exact h.step da db rfl
theorem add_step2 {W : Nat} {na nb f pre : List Int} {c k : Int} (h : AddI W na nb f (nb.length + pre.length) c) (he : k = (nb.length : Int) + (pre.length : Int)) (hl : f.length = nb.length + pre.length) (da : Dig (2 ^ W) na) (db : Dig (2 ^ W) nb) :
    (f ++ [Builtin.bitAnd (c + na.getD k.toNat 0) (1 * 2 ^ ((W : Int)).toNat - 1)]).length = nb.length + (pre ++ [k]).length ∧
    AddI W na nb (f ++ [Builtin.bitAnd (c + na.getD k.toNat 0) (1 * 2 ^ ((W : Int)).toNat - 1)]) (nb.length + (pre ++ [k]).length) ((c + na.getD k.toNat 0).fdiv (2 ^ ((W : Int)).toNat)) := by
  have e : k.toNat = nb.length + pre.length := by omega
  rw [mask_eq, shr_eq, e]
  simp only [List.length_append, List.length_cons, List.length_nil, hl, Nat.zero_add]
  refine ⟨by omega, ?_⟩
  have e2 : nb.getD (nb.length + pre.length) 0 = 0 := by simp [List.getD]
  have := h.step da db (x := c + na.getD (nb.length + pre.length) 0) (by rw [e2, Int.add_zero])
  rwa [Nat.add_assoc] at this
theorem add_mid {W : Nat} {na nb f : List Int} {c : Int} (h : AddI W na nb f (rangeKs 0 ((nb.length : Int) - 0).toNat).length c) (hl : f.length = (rangeKs 0 ((nb.length : Int) - 0).toNat).length) :
    f.length = nb.length + ([] : List Int).length ∧ AddI W na nb f (nb.length + ([] : List Int).length) c := by
  have e : (rangeKs 0 ((nb.length : Int) - 0).toNat).length = nb.length := by rw [rangeKs_length]; omega
  rw [e] at h hl
  exact ⟨hl, h⟩
theorem add_end1 {W : Nat} {na nb f : List Int} {c : Int} (h : AddI W na nb f (nb.length + (rangeKs (nb.length : Int) ((na.length : Int) - nb.length).toNat).length) c) (hn : (nb.length : Int) ≤ na.length) (hW : 2 ≤ W) (hc : 0 < c) :
    Dig (2 ^ W) (f ++ [c]) ∧ val (2 ^ W) (f ++ [c]) = val (2 ^ W) na + val (2 ^ W) nb ∧ (f ++ [c]).length ≤ na.length + 1 := by
  have e : nb.length + (rangeKs (nb.length : Int) ((na.length : Int) - nb.length).toNat).length = na.length := by rw [rangeKs_length]; omega
  rw [e] at h
  have h1 := h.eq
  rw [List.take_of_length_le (Nat.le_refl _), List.take_of_length_le (by omega)] at h1
  have := four_le hW
  have := h.c1
  exact ⟨h.dig.snoc (by omega) (by omega), by rw [val_snoc, h.len, h1], by simp [h.len]⟩
theorem add_end2 {W : Nat} {na nb f : List Int} {c : Int} (h : AddI W na nb f (nb.length + (rangeKs (nb.length : Int) ((na.length : Int) - nb.length).toNat).length) c) (hn : (nb.length : Int) ≤ na.length) (hc : ¬ 0 < c) :
    Dig (2 ^ W) f ∧ val (2 ^ W) f = val (2 ^ W) na + val (2 ^ W) nb ∧ f.length ≤ na.length + 1 := by
  have e : nb.length + (rangeKs (nb.length : Int) ((na.length : Int) - nb.length).toNat).length = na.length := by rw [rangeKs_length]; omega
  rw [e] at h
  have h1 := h.eq
  rw [List.take_of_length_le (Nat.le_refl _), List.take_of_length_le (by omega)] at h1
  have := h.c0
  have hc0 : c = 0 := by omega
  rw [hc0, Int.mul_zero, Int.add_zero] at h1
  exact ⟨h.dig, h1, by have := h.len; omega⟩
end Mine
end
section
open PySem PySem.W
namespace Mine
theorem dvd_pow_le {B : Int} {m n : Nat} (h : m ≤ n) : B ^ m ∣ B ^ n := ⟨B ^ (n - m), by rw [← Int.pow_add]; congr 1; omega⟩
/-- the inverse of a limb: what holds between the turns -/
structure InvI (W : Nat) (d found sure : Int) : Prop where
  k : ∃ k : Nat, sure = k ∧ 3 ≤ k ∧ (2 : Int) ^ (min k W) ∣ d * found - 1
theorem InvI.start {W : Nat} {d : Int} (h0 : 0 ≤ d) (h1 : d < 2 ^ W) (hodd : d % 2 = 1) : InvI W d (d.fmod (1 * 2 ^ ((W : Int)).toNat)) 3 := by
  refine ⟨3, rfl, Nat.le_refl _, ?_⟩
  rw [whole_eq, fmod_pos _ (two_pow_pos W), Int.emod_eq_of_lt h0 h1]
  refine Int.dvd_trans (dvd_pow_le (n := 3) (Nat.min_le_left 3 W)) ?_
  have h8 : d % 8 = 1 ∨ d % 8 = 3 ∨ d % 8 = 5 ∨ d % 8 = 7 := by omega
  have e : d * d % 8 = 1 := by
    rw [Int.mul_emod]
    rcases h8 with h | h | h | h <;> rw [h] <;> rfl
  show (2 : Int) ^ 3 ∣ _
  have : (2 : Int) ^ 3 = 8 := rfl
  rw [this]
  omega
theorem InvI.step {W : Nat} {d f c : Int} (h : InvI W d f c) : InvI W d ((f * (2 - d * f).fmod (1 * 2 ^ ((W : Int)).toNat)).fmod (1 * 2 ^ ((W : Int)).toNat)) (2 * c) := by
  obtain ⟨k, rfl, h3, m, hm⟩ := h
  refine ⟨2 * k, by simp, by omega, ?_⟩
  rw [whole_eq, fmod_pos _ (two_pow_pos W), fmod_pos _ (two_pow_pos W)]
  have hB : (2 : Int) ^ (min (2 * k) W) ∣ 2 ^ W := dvd_pow_le (Nat.min_le_right _ _)
  have hS : (2 : Int) ^ (min (2 * k) W) ∣ (2 ^ (min k W)) ^ 2 := by
    rw [← Int.pow_mul]
    exact dvd_pow_le (by omega)
  have e1 := Int.mul_ediv_add_emod (2 - d * f) (2 ^ W)
  have e2 := Int.mul_ediv_add_emod (f * ((2 - d * f) % 2 ^ W)) (2 ^ W)
  generalize (2 - d * f) % 2 ^ W = r1 at *
  generalize (2 - d * f) / 2 ^ W = q1 at *
  generalize f * r1 % 2 ^ W = r2 at *
  generalize f * r1 / 2 ^ W = q2 at *
  have e : d * r2 - 1 = (2 ^ (min k W)) ^ 2 * (- (m * m)) + 2 ^ W * (- (d * f * q1) - d * q2) := by
    generalize (2 : Int) ^ W = B at *
    generalize (2 : Int) ^ (min k W) = C at *
    have : r2 = f * r1 - B * q2 := by omega
    subst this
    have : r1 = 2 - d * f - B * q1 := by omega
    subst this
    have : d * f = 1 + C * m := by omega
    grind
  rw [e]
  exact Int.dvd_add (Int.dvd_mul_of_dvd_left hS) (Int.dvd_mul_of_dvd_left hB)
theorem InvI.end {W : Nat} {d f c : Int} (hW : 2 ≤ W) (h : InvI W d f c) (hc : ¬ c < W) : d * f % 2 ^ W = 1 := by
  obtain ⟨k, rfl, h3, m, hm⟩ := h
  have e : min k W = W := by omega
  rw [e] at hm
  have e2 : d * f = 1 + 2 ^ W * m := by omega
  have := four_le hW
  rw [e2, Int.add_mul_emod_self_left, Int.emod_eq_of_lt (by decide) (by omega)]
theorem fmod_whole (y : Int) (W : Nat) : 0 ≤ y.fmod (1 * 2 ^ ((W : Int)).toNat) ∧ y.fmod (1 * 2 ^ ((W : Int)).toNat) < 2 ^ W := by
  rw [whole_eq, fmod_pos _ (two_pow_pos W)]
  exact ⟨Int.emod_nonneg _ (Int.ne_of_gt (two_pow_pos W)), Int.emod_lt_of_pos _ (two_pow_pos W)⟩

/-- an odd part -/
theorem odd_part : ∀ (n : Nat) (a : Int), 0 < a → a.toNat ≤ n → ∃ (k : Nat) (b : Int), a = 2 ^ k * (2 * b + 1) ∧ 0 ≤ b
  | 0, a, h, hn => by omega
  | n + 1, a, h, hn => by
    by_cases ho : a % 2 = 1
    · exact ⟨0, a / 2, by simp; omega, by omega⟩
    · obtain ⟨k, b, e, hb⟩ := odd_part n (a / 2) (by omega) (by omega)
      refine ⟨k + 1, b, ?_, hb⟩
      rw [Int.pow_succ, Int.mul_comm (2 ^ k) 2, Int.mul_assoc, ← e]
      omega
theorem intBits_two_pow (k : Nat) : Builtin.Int.intBits ((2 : Int) ^ k) = k + 1 := by
  have h : (2 : Int) ^ k ≠ 0 := Int.ne_of_gt (two_pow_pos k)
  have e : ((2 : Int) ^ k).natAbs = 2 ^ k := by rw [Int.natAbs_pow]; rfl
  simp only [Builtin.Int.intBits, beq_iff_eq, h, if_false, e, Nat.log2_two_pow]
theorem val_take_zero {B : Int} {ns : List Int} : ∀ {i : Nat}, (∀ j, j < i → ns.getD j 0 = 0) → val B (ns.take i) = 0
  | 0, _ => by simp
  | i + 1, h => by rw [val_take_succ', val_take_zero fun j hj => h j (by omega), h i (by omega)]; simp
theorem first_of_find {ns : List Int} {a : Int} {i : Nat} {p : Int × Nat → Bool} (hf : List.find? p ns.zipIdx = some (a, i)) {j : Nat} (hj : j < i) (hi : i < ns.length) : p (ns.getD j 0, j) = false := by
  obtain ⟨h1, as, bs, h2, h3⟩ := List.find?_eq_some_iff_append.mp hf
  have hlen : as.length = i := by
    have h4 : (ns.zipIdx)[as.length]? = some (a, i) := by rw [h2]; simp
    rw [List.getElem?_zipIdx] at h4
    simp only [Nat.zero_add, Option.map_eq_some_iff] at h4
    obtain ⟨x, _, e⟩ := h4
    cases e; rfl
  have h5 : (ns.getD j 0, j) ∈ as := by
    have h6 : (ns.zipIdx)[j]? = some (ns.getD j 0, j) := by
      rw [List.getElem?_zipIdx]
      simp [List.getD, show j < ns.length by omega]
    rw [h2, List.getElem?_append_left (by omega)] at h6
    exact List.mem_of_getElem? h6
  have := h3 _ h5
  simpa using this
theorem trail_end {W : Nat} {na : List Int} {x a : Int} {i : Nat} {n : Int} (hW : 2 ≤ W) (hW9 : W ≤ 9) (cn : Can W na x) (ba : na.length < 1000) (ha : na[i]? = some a) (h0 : 0 < a)
    (hf : List.find? (fun p => decide (0 < p.fst)) na.zipIdx = some (a, i)) (hn : n = (i : Int) * W + (Builtin.Int.intBits (Builtin.bitAnd a (-a)) : Int) - 1) :
    ∃ t : Nat, n = t ∧ x % 2 ^ t = 0 ∧ x / 2 ^ t % 2 = 1 ∧ t < 10000 := by
  have hi : i < na.length := (List.getElem?_eq_some_iff.mp ha).1
  have ea : na.getD i 0 = a := by simp [List.getD, ha]
  obtain ⟨k, b, e, hb⟩ := odd_part a.toNat a h0 (Nat.le_refl _)
  have hlt : a < 2 ^ W := by have := cn.dig.getD (two_pow_pos W) i; rw [ea] at this; exact this.2
  have hk : k < W := by
    refine Nat.lt_of_not_le fun hc => ?_
    have h1 : (2 : Int) ^ W ≤ 2 ^ k := pow_le_pow' (by decide) hc
    have h2 : (2 : Int) ^ k * 1 ≤ 2 ^ k * (2 * b + 1) := Int.mul_le_mul_of_nonneg_left (by omega) (Int.le_of_lt (two_pow_pos k))
    omega
  have eb : Builtin.bitAnd a (-a) = 2 ^ k := by rw [e, kbt_low]
  rw [eb, intBits_two_pow] at hn
  have hz : val (2 ^ W) (na.take i) = 0 := val_take_zero fun j hj => by
    have h1 := first_of_find hf hj hi
    have h2 := cn.dig.getD (two_pow_pos W) j
    simp only [decide_eq_false_iff_not] at h1
    omega
  have hx := val_take_drop (2 ^ W) na i (by omega)
  rw [cn.val, hz, val_head (na.drop i), getD_drop_head, ea, e] at hx
  have hd : ∃ m : Nat, W = k + 1 + m := ⟨W - k - 1, by omega⟩
  obtain ⟨m, hm⟩ := hd
  refine ⟨i * W + k, by rw [hn]; push_cast; omega, ?_⟩
  have ex : x = 2 ^ (i * W + k) * (1 + 2 * (b + 2 ^ m * val (2 ^ W) (na.drop i).tail)) := by
    rw [hx, Int.pow_add, Nat.mul_comm i W, Int.pow_mul]
    have eW : (2 : Int) ^ W = 2 ^ k * 2 * 2 ^ m := by rw [hm, Int.pow_add, Int.pow_succ]
    generalize val (2 ^ W) (na.drop i).tail = r
    generalize ((2 : Int) ^ W) ^ i = P
    rw [eW]
    generalize (2 : Int) ^ k = K
    generalize (2 : Int) ^ m = M
    grind
  refine ⟨by rw [ex, Int.mul_emod_right], ?_, ?_⟩
  · rw [ex, Int.mul_ediv_cancel_left _ (Int.ne_of_gt (two_pow_pos _))]
    omega
  · have : i * W ≤ 999 * 9 := Nat.mul_le_mul (by omega) hW9
    omega
theorem trail_none {W : Nat} {na : List Int} {x : Int} (cn : Can W na x) (hx : x ≠ 0) (h : ∀ p ∈ na.zipIdx, decide (0 < p.1) = false) : False := by
  apply hx
  have hz : val (2 ^ W) (na.take na.length) = 0 := val_take_zero fun j hj => by
    have h2 := cn.dig.getD (two_pow_pos W) j
    have h6 : (na.zipIdx)[j]? = some (na.getD j 0, j) := by
      rw [List.getElem?_zipIdx]
      simp [List.getD, hj]
    have := h _ (List.mem_of_getElem? h6)
    simp only [decide_eq_false_iff_not] at this
    omega
  rw [List.take_length] at hz
  rw [← cn.val, hz]

/-- one limb of a shifted row -/
theorem shr_limb {T B : Int} {f g : Nat} (hB : B = 2 ^ f * 2 ^ g) : T / 2 ^ f % B = (T % B / 2 ^ f + T / B % B * 2 ^ g) % B := by
  have hf := two_pow_pos f
  have hg := two_pow_pos g
  have hBp : 0 < B := by rw [hB]; exact Int.mul_pos hf hg
  have e1 := Int.mul_ediv_add_emod T B
  have e2 := Int.mul_ediv_add_emod (T / B) B
  have e : T / 2 ^ f = T % B / 2 ^ f + (T / B % B * 2 ^ g) + B * (2 ^ g * (T / B / B)) := by
    have : T = T % B + 2 ^ f * (2 ^ g * (T / B)) := by
      rw [← Int.mul_assoc, ← hB]; omega
    conv => lhs; rw [this]
    rw [Int.add_mul_ediv_left _ _ (Int.ne_of_gt hf)]
    generalize T / B / B = d at *
    generalize T / B % B = c at *
    have : T / B = B * d + c := by omega
    rw [this]
    generalize (2 : Int) ^ g = G
    grind
  rw [e, Int.add_mul_emod_self_left]
end Mine
end
section
open PySem PySem.W
namespace Mine
theorem bitAnd_zero (y : Int) : Builtin.bitAnd 0 y = 0 := by
  unfold Builtin.bitAnd
  cases h : decide (0 ≤ y) <;> simp
theorem bitAnd_apart (c : Int) : ∀ (g : Nat) (x : Int), 0 ≤ x → x < 2 ^ g → Builtin.bitAnd x (c * 2 ^ g) = 0
  | 0, x, h0, h1 => by
    have : x = 0 := by simp at h1; omega
    rw [this, bitAnd_zero]
  | g + 1, x, h0, h1 => by
    rw [Int.pow_succ] at h1
    rw [kbt_halves, Int.pow_succ, ← Int.mul_assoc, Int.mul_ediv_cancel _ (by decide), bitAnd_apart c g (x / 2) (by omega) (by omega)]
    have : c * 2 ^ g * 2 % 2 = 0 := Int.mul_emod_left _ _
    simp
theorem bitOr_apart (c : Int) {g : Nat} {x : Int} (h0 : 0 ≤ x) (h1 : x < 2 ^ g) : Builtin.bitOr x (c * 2 ^ g) = x + c * 2 ^ g := by
  rw [PyProof.Rows.bitOr_and, bitAnd_apart c g x h0 h1, Int.sub_zero]
theorem emod_mul' {X a b : Int} (ha : 0 < a) (hb : 0 < b) : X % (a * b) = X % a + a * (X / a % b) := by
  have e1 := Int.mul_ediv_add_emod X a
  have e2 := Int.mul_ediv_add_emod (X / a) b
  have h1 := Int.emod_nonneg X (Int.ne_of_gt ha)
  have h2 := Int.emod_lt_of_pos X ha
  have h3 := Int.emod_nonneg (X / a) (Int.ne_of_gt hb)
  have h4 := Int.emod_lt_of_pos (X / a) hb
  have h5 : a * (X / a % b + 1) ≤ a * b := Int.mul_le_mul_of_nonneg_left (by omega) (Int.le_of_lt ha)
  have h6 := Int.mul_nonneg (Int.le_of_lt ha) h3
  rw [Int.mul_add] at h5
  refine ((Int.ediv_emod_unique (a := X) (b := a * b) (r := X % a + a * (X / a % b)) (q := X / a / b) (Int.mul_pos ha hb)).mpr ⟨?_, by omega, by omega⟩).2
  generalize X / a / b = q at *
  generalize X / a % b = c at *
  generalize X % a = r at *
  have : X / a = b * q + c := by omega
  rw [this] at e1
  grind
theorem two_pow_mul (W s : Nat) : (2 : Int) ^ (W * s) = (2 ^ W) ^ s := Int.pow_mul ..
structure ShrI (W n : Nat) (na found : List Int) (i : Nat) : Prop where
  dig : Dig (2 ^ W) found
  eq : val (2 ^ W) found = (val (2 ^ W) na / 2 ^ n) % (2 ^ W) ^ i
theorem ShrI.start {W n : Nat} {na : List Int} : ShrI W n na [] ([] : List Int).length := ⟨Dig.nil, by simp [Int.emod_one]⟩
theorem ShrI.step {W n : Nat} {na f : List Int} {i : Nat} {k up : Int} (hW : 2 ≤ W) (dg : Dig (2 ^ W) na) (h : ShrI W n na f i) (hl : f.length = i) (hk : k = (n : Int).fdiv W + (i : Int)) (hup : up = na.getD (k + 1).toNat 0) :
    ShrI W n na (f ++ [Builtin.bitAnd (Builtin.bitOr ((na.getD k.toNat 0).fdiv (2 ^ ((n : Int).fmod W).toNat)) (up * 2 ^ ((W : Int) - (n : Int).fmod W).toNat)) (1 * 2 ^ ((W : Int)).toNat - 1)]) (i + 1) := by
  have hB := two_pow_pos W
  have e1 : ((n : Int).fmod W).toNat = n % W := by rw [fmod_pos _ (by omega)]; omega
  have e2 : (n : Int).fdiv W = ((n / W : Nat) : Int) := by rw [fdiv_pos _ (by omega)]; rfl
  have hlt : n % W < W := Nat.mod_lt _ (by omega)
  have e3 : ((W : Int) - (n : Int).fmod W).toNat = W - n % W := by rw [fmod_pos _ (by omega)]; omega
  have e4 : k.toNat = n / W + i := by rw [hk, e2]; generalize n / W = sp; omega
  have e5 : (k + 1).toNat = n / W + i + 1 := by rw [hk, e2]; generalize n / W = sp; omega
  rw [e5] at hup
  rw [mask_eq, e1, e3, e4, hup, fdiv_pos _ (two_pow_pos _)]
  have hg := dg.getD hB (n / W + i)
  have hx0 : 0 ≤ na.getD (n / W + i) 0 / 2 ^ (n % W) := Int.ediv_nonneg hg.1 (Int.le_of_lt (two_pow_pos _))
  have hBe : (2 : Int) ^ W = 2 ^ (n % W) * 2 ^ (W - n % W) := by rw [← Int.pow_add]; congr 1; omega
  have hx1 : na.getD (n / W + i) 0 / 2 ^ (n % W) < 2 ^ (W - n % W) := by
    refine Int.ediv_lt_of_lt_mul (two_pow_pos _) ?_
    rw [Int.mul_comm, ← hBe]; exact hg.2
  rw [bitOr_apart _ hx0 hx1]
  have hT : (na.getD (n / W + i) 0 / 2 ^ (n % W) + na.getD (n / W + i + 1) 0 * 2 ^ (W - n % W)) % 2 ^ W = val (2 ^ W) na / 2 ^ n / (2 ^ W) ^ i % 2 ^ W := by
    rw [getD_val hB dg (n / W + i), getD_val hB dg (n / W + i + 1), Int.pow_succ, ← Int.ediv_ediv_of_nonneg (Int.le_of_lt (Int.pow_pos hB)), ← shr_limb hBe,
      Int.ediv_ediv_of_nonneg (Int.le_of_lt (Int.pow_pos hB)), Int.ediv_ediv_of_nonneg (Int.le_of_lt (two_pow_pos n))]
    congr 2
    rw [← two_pow_mul, ← two_pow_mul, ← Int.pow_add, ← Int.pow_add]
    congr 1
    have := Nat.div_add_mod n W
    rw [Nat.mul_add]; omega
  rw [hT]
  refine ⟨h.dig.snoc (Int.emod_nonneg _ (Int.ne_of_gt hB)) (Int.emod_lt_of_pos _ hB), ?_⟩
  rw [val_snoc, hl, h.eq, Int.pow_succ, emod_mul' (Int.pow_pos hB) hB]
theorem shr_step {W n : Nat} {na f pre : List Int} {k up : Int} (h : ShrI W n na f pre.length) (hl : f.length = pre.length) (hk : k = (n : Int).fdiv W + (pre.length : Int)) (hW : 2 ≤ W) (dg : Dig (2 ^ W) na) (hup : up = na.getD (k + 1).toNat 0) :
    (f ++ [Builtin.bitAnd (Builtin.bitOr ((na.getD k.toNat 0).fdiv (2 ^ ((n : Int).fmod W).toNat)) (up * 2 ^ ((W : Int) - (n : Int).fmod W).toNat)) (1 * 2 ^ ((W : Int)).toNat - 1)]).length = (pre ++ [k]).length ∧
    ShrI W n na (f ++ [Builtin.bitAnd (Builtin.bitOr ((na.getD k.toNat 0).fdiv (2 ^ ((n : Int).fmod W).toNat)) (up * 2 ^ ((W : Int) - (n : Int).fmod W).toNat)) (1 * 2 ^ ((W : Int)).toNat - 1)]) (pre ++ [k]).length := by
  simp only [List.length_append, List.length_cons, List.length_nil, hl, Nat.zero_add, true_and]
  exact h.step hW dg hl hk hup
theorem getD_past {na : List Int} {k : Int} (h : ¬ k < na.length) : (0 : Int) = na.getD k.toNat 0 := by
  by_cases hk : 0 ≤ k
  · simp [List.getD, show na.length ≤ k.toNat by omega]
  · omega
theorem ShrI.end {W n : Nat} {na f : List Int} {i : Nat} (hW : 2 ≤ W) (dg : Dig (2 ^ W) na) (h : ShrI W n na f i) (hi : i = ((na.length : Int) - (n : Int).fdiv W).toNat) : val (2 ^ W) f = val (2 ^ W) na / 2 ^ n := by
  have hB := two_pow_pos W
  have e2 : (n : Int).fdiv W = ((n / W : Nat) : Int) := by rw [fdiv_pos _ (by omega)]; rfl
  rw [h.eq]
  refine Int.emod_eq_of_lt (Int.ediv_nonneg (val_nonneg hB dg) (Int.le_of_lt (two_pow_pos n))) ?_
  refine Int.ediv_lt_of_lt_mul (two_pow_pos n) ?_
  refine Int.lt_of_lt_of_le (val_lt hB dg) ?_
  rw [← two_pow_mul, ← two_pow_mul, ← Int.pow_add]
  refine pow_le_pow' (by decide) ?_
  have h1 := Nat.div_add_mod n W
  have h2 : na.length ≤ i + n / W := by rw [hi, e2]; generalize n / W = sp; omega
  have h3 := Nat.mul_le_mul_left W h2
  rw [Nat.mul_add] at h3
  omega
end Mine
end
section
open PySem PySem.W
namespace Mine
theorem rangeKs_succ (n : Nat) : rangeKs 0 (n + 1) = rangeKs 0 n ++ [(n : Int)] := by simp [rangeKs, List.range_succ]
/-- each limb taken from the greatest -/
def turned (W : Nat) (na : List Int) (n : Nat) : List Int := List.map (fun k' => if k' < (na.length : Int) then 1 * 2 ^ ((W : Int)).toNat - 1 - na.getD k'.toNat 0 else 1 * 2 ^ ((W : Int)).toNat - 1 - 0) (rangeKs 0 n)
theorem turned_length {W : Nat} {na : List Int} {n : Nat} : (turned W na n).length = n := by simp [turned, rangeKs]
theorem turned_succ {W : Nat} {na : List Int} {n : Nat} : turned W na (n + 1) = turned W na n ++ [2 ^ W - 1 - na.getD n 0] := by
  unfold turned
  rw [rangeKs_succ, List.map_append]
  congr 1
  simp only [List.map_cons, List.map_nil, whole_eq, Int.toNat_natCast]
  congr 1
  split
  · rw [Int.one_mul]
  · rename_i h
    have e := getD_past (k := n) (na := na) h
    rw [Int.toNat_natCast] at e
    rw [Int.one_mul, ← e]
theorem turned_dig {W : Nat} {na : List Int} (dg : Dig (2 ^ W) na) : ∀ n, Dig (2 ^ W) (turned W na n)
  | 0 => Dig.nil
  | n + 1 => by
    rw [turned_succ]
    have := dg.getD (two_pow_pos W) n
    exact (turned_dig dg n).snoc (by omega) (by omega)
theorem turned_val {W : Nat} {na : List Int} : ∀ n, val (2 ^ W) (turned W na n) = (2 ^ W) ^ n - 1 - val (2 ^ W) (na.take n)
  | 0 => by simp [turned, rangeKs]
  | n + 1 => by
    rw [turned_succ, val_snoc, turned_length, turned_val n, val_take_succ', Int.pow_succ]
    generalize val (2 ^ W) (na.take n) = v
    generalize na.getD n 0 = d
    generalize (2 : Int) ^ W = B
    generalize B ^ n = P
    grind
theorem neg_emod_emod {a m : Int} : (m - a % m) % m = (-a) % m := by
  have e := Int.mul_ediv_add_emod a m
  have : m - a % m = -a + m * (a / m + 1) := by rw [Int.mul_add]; omega
  rw [this, Int.add_mul_emod_self_left]
theorem compl_val {W : Nat} {na ma : List Int} {n : Nat} (dg : Dig (2 ^ W) na) (ca : Can W ma (val (2 ^ W) (turned W na n))) {v : Int} (hv : v = val (2 ^ W) ma + val (2 ^ W) [1]) : v % (2 ^ W) ^ n = (-val (2 ^ W) na) % (2 ^ W) ^ n := by
  rw [hv, ca.val, turned_val, val_take (two_pow_pos W) dg]
  have : val (2 ^ W) [1] = 1 := by simp
  rw [this, ← neg_emod_emod (a := val (2 ^ W) na)]
  congr 1
  omega
theorem dig_one {W : Nat} (hW : 2 ≤ W) : Dig (2 ^ W) [1] := Dig.cons (by decide) (by have := four_le hW; omega) .nil
theorem dig_two {W : Nat} (hW : 2 ≤ W) : Dig (2 ^ W) [2] := Dig.cons (by decide) (by have := four_le hW; omega) .nil
theorem can_one {W : Nat} {r : Int} (h0 : 0 < r) (h1 : r < 2 ^ W) : Can W [r] r := by
  have := Can.cons (W := W) (a := r) (x := 0) (by omega) h1 .nil (by simp; omega)
  simpa using this
theorem Can.len_mod {W n : Nat} {ms : List Int} {x : Int} (h : Can W ms (x % (2 ^ W) ^ n)) : ms.length ≤ n := h.len_le (Int.emod_lt_of_pos _ (Int.pow_pos (two_pow_pos W)))
end Mine
end
section
open PySem PySem.W
namespace Mine
/-- making limbs: what holds between the turns -/
structure LimI (W : Nat) (x : Int) (found : List Int) (n : Int) : Prop where
  dig : Dig (2 ^ W) found
  eq : val (2 ^ W) found + (2 ^ W) ^ found.length * n = x
  nt : n = 0 → NoTrail found
theorem LimI.start {W : Nat} {x : Int} : LimI W x [] x := ⟨Dig.nil, by simp, fun _ r e => by cases r <;> cases e⟩
theorem NoTrail.snoc {xs : List Int} {d : Int} (h : d ≠ 0) : NoTrail (xs ++ [d]) := fun r e => h (by
  have := congrArg List.getLast? e
  simpa using this)
theorem LimI.len {W : Nat} {x n : Int} {f : List Int} {k : Nat} (h : LimI W x f n) (hn : 0 < n) (hk : x < (2 ^ W) ^ k) : f.length < k := by
  refine Nat.lt_of_not_le fun hc => ?_
  have h1 : ((2 : Int) ^ W) ^ k ≤ (2 ^ W) ^ f.length := pow_le_pow' (two_pow_pos W) hc
  have h2 : ((2 : Int) ^ W) ^ f.length * 1 ≤ (2 ^ W) ^ f.length * n := Int.mul_le_mul_of_nonneg_left (by omega) (Int.le_of_lt (Int.pow_pos (two_pow_pos W)))
  have h3 := val_nonneg (two_pow_pos W) h.dig
  have h4 := h.eq
  omega
theorem LimI.step {W : Nat} {x n : Int} {f : List Int} (h : LimI W x f n) (hn : 0 < n) : LimI W x (f ++ [n.fmod (1 * 2 ^ ((W : Int)).toNat)]) (n.fdiv (2 ^ ((W : Int)).toNat)) := by
  have hB := two_pow_pos W
  rw [whole_eq, fmod_pos _ hB, shr_eq]
  have e1 := Int.mul_ediv_add_emod n (2 ^ W)
  refine ⟨h.dig.snoc (Int.emod_nonneg _ (Int.ne_of_gt hB)) (Int.emod_lt_of_pos _ hB), ?_, fun h0 => NoTrail.snoc ?_⟩
  · rw [val_snoc, List.length_append, List.length_cons, List.length_nil, Int.pow_succ, ← h.eq]
    generalize n % 2 ^ W = r at *
    generalize n / 2 ^ W = q at *
    generalize val (2 ^ W) f = v
    generalize ((2 : Int) ^ W) ^ f.length = P
    subst e1
    generalize (2 : Int) ^ W = B
    grind
  · intro h1
    rw [h0, h1] at e1
    omega
theorem LimI.less {W : Nat} {n : Int} (hW : 2 ≤ W) (hn : 0 < n) : 0 ≤ n.fdiv (2 ^ ((W : Int)).toNat) ∧ n.fdiv (2 ^ ((W : Int)).toNat) < n := by
  rw [shr_eq]
  have := four_le hW
  exact ⟨Int.ediv_nonneg (by omega) (by omega), Int.ediv_lt_self_of_pos_of_ne_one hn (by omega) ⟩
theorem LimI.can {W : Nat} {x n : Int} {f : List Int} (h : LimI W x f n) (hn : n = 0) : Can W f x := ⟨h.dig, by rw [← h.eq, hn]; simp, h.nt hn⟩

/-- reading limbs from the top -/
def NumI (W : Nat) (pre : List Int) (x : Int) : Prop := x = val (2 ^ W) pre.reverse ∧ Dig (2 ^ W) pre.reverse
theorem NumI.start {W : Nat} : NumI W [] 0 := ⟨rfl, Dig.nil⟩
theorem NumI.step {W : Nat} {pre : List Int} {x n : Int} (h : NumI W pre x) (h0 : 0 ≤ n) (h1 : n < 1 * 2 ^ ((W : Int)).toNat) : NumI W (pre ++ [n]) (x * 2 ^ ((W : Int)).toNat + n) := by
  rw [whole_eq] at h1
  obtain ⟨rfl, d⟩ := h
  refine ⟨?_, ?_⟩
  · rw [List.reverse_append, List.reverse_cons, List.reverse_nil, List.nil_append, List.cons_append, List.nil_append, val_cons, Int.toNat_natCast, Int.mul_comm]
    omega
  · rw [List.reverse_append]
    exact Dig.cons h0 h1 d
theorem NumI.bits {W : Nat} {pre : List Int} {x : Int} (hW9 : W ≤ 9) (hl : pre.length < 1000) (h : NumI W pre x) : 0 ≤ x ∧ Builtin.Int.intBits x ≤ 9000 := by
  obtain ⟨rfl, d⟩ := h
  have h0 := val_nonneg (two_pow_pos W) d
  have h1 := val_lt (two_pow_pos W) d
  refine ⟨h0, intBits_le_iff.mpr ?_⟩
  rw [List.length_reverse, ← two_pow_mul] at h1
  have h2 : (2 : Int) ^ (W * pre.length) ≤ 2 ^ 9000 := pow_le_pow' (by decide) (Nat.le_trans (Nat.mul_le_mul hW9 (Nat.le_of_lt hl)) (by decide))
  have h3 : ((2 ^ 9000 : Nat) : Int) = 2 ^ 9000 := by rw [Int.natCast_pow]; rfl
  have h4 : val (2 ^ W) pre.reverse < ((2 ^ 9000 : Nat) : Int) := by rw [h3]; exact Int.lt_of_lt_of_le h1 h2
  generalize 2 ^ 9000 = Z at h4
  omega
theorem NoTrail.last {ns : List Int} (h : NoTrail ns) (hl : 0 < ns.length) : ns.getD (ns.length - 1) 0 ≠ 0 := by
  intro e
  have hne : ns ≠ [] := fun e => by rw [e] at hl; exact absurd hl (by decide)
  have h1 := List.dropLast_concat_getLast hne
  refine h ns.dropLast ?_
  have h2 : ns.getLast hne = 0 := by
    rw [List.getLast_eq_getElem]
    simp only [List.getD, List.getElem?_eq_getElem (show ns.length - 1 < ns.length by omega), Option.getD_some] at e
    exact e
  rw [h2] at h1
  exact h1.symm
theorem Can.bits {W : Nat} {ms : List Int} {x : Int} (hW9 : W ≤ 9) (c : Can W ms x) (hl : ms.length < 1000) : Builtin.Int.intBits x ≤ 9000 :=
  (NumI.bits (pre := ms.reverse) hW9 (by simpa using hl) ⟨by rw [List.reverse_reverse, c.val], by rw [List.reverse_reverse]; exact c.dig⟩).2
theorem bits_mul_ok {a b : Int} (ha : Builtin.Int.intBits a ≤ 1200000) (hb : Builtin.Int.intBits b ≤ 1200000) : IntMulOk a b := PyProof.Rows.mulOk_of_bits ha hb (by decide)
end Mine
end
section
open PySem PySem.W
namespace Mine
theorem whole_ne (W : Nat) : (1 : Int) * 2 ^ ((W : Int)).toNat ≠ 0 := by rw [whole_eq]; exact Int.ne_of_gt (two_pow_pos W)
theorem whole_small {W : Nat} (hp : (2 : Int) ^ W ≤ 512) (x : Int) : Builtin.divisionGoesByPylong x ((1 : Int) * 2 ^ ((W : Int)).toNat) = false := by
  rw [whole_eq]
  have := two_pow_pos W
  exact PyProof.noPylong_small (by omega)
theorem fw64 {W : Nat} (hp : (2 : Int) ^ W ≤ 512) (y : Int) : Builtin.Int.intBits (y.fmod (1 * 2 ^ ((W : Int)).toNat)) ≤ 64 := by
  have := fmod_whole y W
  exact PySem.intBits_le_64 (by omega) (by omega)
theorem val_set {B : Int} : ∀ {xs : List Int} {k : Nat} {d : Int}, k < xs.length → val B (xs.set k d) = val B xs + B ^ k * (d - xs.getD k 0)
  | [], _, _, h => absurd h (Nat.not_lt_zero _)
  | a :: r, 0, d, _ => by simp; omega
  | a :: r, k + 1, d, h => by
    have e := val_set (B := B) (xs := r) (k := k) (d := d) (Nat.lt_of_succ_lt_succ h)
    show val B (a :: r.set k d) = val B (a :: r) + B ^ (k + 1) * (d - r.getD k 0)
    rw [val_cons, val_cons, e, Int.pow_succ]
    grind
theorem Dig.set {B : Int} {xs : List Int} (h : Dig B xs) {k : Nat} {d : Int} (h0 : 0 ≤ d) (h1 : d < B) : Dig B (xs.set k d) := fun n hn => by
  rcases List.mem_or_eq_of_mem_set hn with hn | rfl
  · exact h n hn
  · exact ⟨h0, h1⟩
/-- taking a product off a row: what holds between the turns -/
structure TakI (W : Nat) (v : Int) (row : List Int) (borrow : Int) (i : Nat) : Prop where
  dig : Dig (2 ^ W) row
  b0 : 0 ≤ borrow
  b1 : borrow < 2 ^ W
  eq : val (2 ^ W) row = v + (2 ^ W) ^ i * borrow
theorem TakI.step {W : Nat} {v v' m left : Int} {row : List Int} {borrow : Int} {i : Nat} (h : TakI W v row borrow i) (hi : i < row.length) (hm0 : 0 ≤ m) (hm1 : m ≤ (2 ^ W - 1) * (2 ^ W - 1))
    (hl : left = row.getD i 0 - m - borrow) (hv : v' = v - (2 ^ W) ^ i * m) :
    TakI W v' (row.set i (left.fmod (1 * 2 ^ ((W : Int)).toNat))) (-(left.fdiv (1 * 2 ^ ((W : Int)).toNat))) (i + 1) := by
  have hB := two_pow_pos W
  rw [whole_eq, fmod_pos _ hB, fdiv_pos _ hB]
  have hg := h.dig.getD hB i
  have e1 := Int.mul_ediv_add_emod left (2 ^ W)
  have e2 := Int.emod_nonneg left (Int.ne_of_gt hB)
  have e3 := Int.emod_lt_of_pos left hB
  have hb0 := h.b0
  have hb1 := h.b1
  have heq := h.eq
  refine ⟨h.dig.set e2 e3, ?_, ?_, ?_⟩
  · have : left / 2 ^ W < 1 := (Int.ediv_lt_iff_lt_mul hB).mpr (by omega)
    omega
  · have : -(2 ^ W - 1) ≤ left / 2 ^ W := by
      refine (Int.le_ediv_iff_mul_le hB).mpr ?_
      have : -(2 ^ W - 1) * (2 : Int) ^ W = -((2 ^ W - 1) * (2 ^ W - 1)) - (2 ^ W - 1) := by grind
      omega
    omega
  · rw [val_set hi, heq, hv, Int.pow_succ]
    generalize left % 2 ^ W = r at *
    generalize left / 2 ^ W = q at *
    generalize row.getD i 0 = d at *
    generalize (2 : Int) ^ W = B at *
    generalize B ^ i = P at *
    have : r = d - m - borrow - B * q := by omega
    subst this
    grind
theorem digit_mul {W : Nat} {l p : Int} (l0 : 0 ≤ l) (l1 : l < 2 ^ W) (p0 : 0 ≤ p) (p1 : p < 2 ^ W) : 0 ≤ l * p ∧ l * p ≤ (2 ^ W - 1) * (2 ^ W - 1) :=
  ⟨Int.mul_nonneg l0 p0, Int.mul_le_mul (by omega) (by omega) p0 (by omega)⟩
/-- dividing from the low end: what holds between the turns -/
structure DivI (W : Nat) (na nb : List Int) (size : Nat) (row found : List Int) (borrowed : Int) (i : Nat) : Prop where
  dig : Dig (2 ^ W) row
  fdig : Dig (2 ^ W) found
  b0 : 0 ≤ borrowed
  eq : val (2 ^ W) row + val (2 ^ W) found * val (2 ^ W) nb = val (2 ^ W) na + borrowed * (2 ^ W) ^ size
  dvd : (2 ^ W) ^ i ∣ val (2 ^ W) row
theorem DivI.start {W : Nat} {na nb : List Int} {size k : Nat} (da : Dig (2 ^ W) na) : DivI W na nb size (na ++ (List.replicate k [0]).flatten) [] 0 ([] : List Int).length := by
  have e : (List.replicate k [(0 : Int)]).flatten = List.replicate k 0 := by
    induction k with
    | zero => rfl
    | succ k ih => rw [List.replicate_succ, List.flatten_cons, ih, List.replicate_succ]; rfl
  rw [e]
  refine ⟨da.append fun n hn => ?_, Dig.nil, Int.le_refl _, ?_, by simp⟩
  · rw [(List.mem_replicate.mp hn).2]; exact ⟨Int.le_refl _, two_pow_pos W⟩
  · rw [val_append, val_replicate_zero]; simp
/-- the limb that takes the lowest limb of the row away -/
theorem DivI.step {W : Nat} {na nb row found row' : List Int} {size i : Nat} {borrowed borrow inv limb : Int} (h : DivI W na nb size row found borrowed i) (hl : found.length = i) (hi : i < size)
    (hinv : nb.getD 0 0 * inv % 2 ^ W = 1) (hb0 : 0 ≤ borrow) (hlimb : limb = (row.getD i 0 * inv).fmod (1 * 2 ^ ((W : Int)).toNat))
    (hd : Dig (2 ^ W) row') (he : val (2 ^ W) row' = val (2 ^ W) row - limb * (2 ^ W) ^ i * val (2 ^ W) nb + (2 ^ W) ^ size * borrow) :
    DivI W na nb size row' (found ++ [limb]) (borrowed + borrow) (i + 1) := by
  have hB := two_pow_pos W
  have hf := fmod_whole (row.getD i 0 * inv) W
  rw [← hlimb] at hf
  rw [whole_eq, fmod_pos _ hB] at hlimb
  obtain ⟨u, hu⟩ := h.dvd
  have heq := h.eq
  have hg := getD_val hB h.dig i
  rw [hu, Int.mul_ediv_cancel_left _ (Int.ne_of_gt (Int.pow_pos hB))] at hg
  refine ⟨hd, h.fdig.snoc hf.1 hf.2, ?_, ?_, ?_⟩
  · have := h.b0; omega
  · rw [val_snoc, hl, he]
    generalize (2 : Int) ^ W = B at *
    generalize B ^ i = P at *
    generalize B ^ size = S at *
    grind
  · have hs : ∃ q, ((2 : Int) ^ W) ^ size = (2 ^ W) ^ (i + 1) * q := ⟨(2 ^ W) ^ (size - (i + 1)), by rw [← Int.pow_add]; congr 1; omega⟩
    obtain ⟨q, hq⟩ := hs
    have hv := val_head (B := 2 ^ W) nb
    have e1 := Int.mul_ediv_add_emod (nb.getD 0 0 * inv) (2 ^ W)
    have e2 := Int.mul_ediv_add_emod (row.getD i 0 * inv) (2 ^ W)
    have e3 := Int.mul_ediv_add_emod u (2 ^ W)
    rw [← hlimb] at e2
    rw [hinv] at e1
    rw [← hg] at e3
    rw [he, hu, hq, hv, Int.pow_succ]
    generalize nb.getD 0 0 * inv / 2 ^ W = q1 at *
    generalize row.getD i 0 * inv / 2 ^ W = q2 at *
    generalize u / 2 ^ W = q3 at *
    generalize row.getD i 0 = d at *
    generalize nb.getD 0 0 = b0 at *
    generalize val (2 ^ W) nb.tail = t at *
    generalize (2 : Int) ^ W = B at *
    generalize B ^ i = P at *
    refine ⟨q3 - d * q1 + q2 * b0 - limb * t + q * borrow, ?_⟩
    have hli : limb = d * inv - B * q2 := by omega
    subst hli
    have hbi : b0 * inv = 1 + B * q1 := by omega
    have hu2 : u = B * q3 + d := by omega
    subst hu2
    have h1 : d * inv * b0 = d + B * (d * q1) := by
      rw [Int.mul_assoc, Int.mul_comm inv, hbi]; grind
    clear hg heq hu he hd hf e1 e2 e3 hlimb hinv hq hv h hbi
    grind
end Mine
end
section
open PySem PySem.W
namespace Mine
theorem name_div {W : Nat} {na nb : List Int} {sz : Nat} {row f : List Int} {b : Int} {i : Nat} (h : DivI W na nb sz row f b i) : ∃ r0 f0 b0, r0 = row ∧ f0 = f ∧ b0 = b ∧ DivI W na nb sz r0 f0 b0 i := ⟨_, _, _, rfl, rfl, rfl, h⟩
/-- the value of a row from which limb times pre was taken at a place -/
def takV (W : Nat) (row0 : List Int) (limb : Int) (k : Int) (pre : List Int) : Int := val (2 ^ W) row0 - limb * (2 ^ W) ^ k.toNat * val (2 ^ W) pre
theorem tak_start {W : Nat} {row0 : List Int} {limb k : Int} {sz : Nat} (dg : Dig (2 ^ W) row0) (hl : row0.length = sz) :
    row0.length = sz ∧ k = k + (([] : List Int).length : Int) ∧ TakI W (takV W row0 limb k []) row0 0 (k.toNat + ([] : List Int).length) :=
  ⟨hl, by simp, dg, Int.le_refl _, two_pow_pos W, by simp [takV]⟩
theorem tak_step {W : Nat} {row0 row pre : List Int} {limb k a p borrow : Int} {sz : Nat} (h : TakI W (takV W row0 limb k pre) row borrow (k.toNat + pre.length)) (hl : row.length = sz) (ha : a = k + (pre.length : Int)) (hk : 0 ≤ k) (hlt : k.toNat + pre.length < sz)
    (l0 : 0 ≤ limb ∧ limb < 2 ^ W) (p0 : 0 ≤ p ∧ p < 2 ^ W) :
    (row.set a.toNat ((row.getD a.toNat 0 - limb * p - borrow).fmod (1 * 2 ^ ((W : Int)).toNat))).length = sz ∧ a + 1 = k + ((pre ++ [p]).length : Int) ∧
    TakI W (takV W row0 limb k (pre ++ [p])) (row.set a.toNat ((row.getD a.toNat 0 - limb * p - borrow).fmod (1 * 2 ^ ((W : Int)).toNat))) (-((row.getD a.toNat 0 - limb * p - borrow).fdiv (1 * 2 ^ ((W : Int)).toNat))) (k.toNat + (pre ++ [p]).length) := by
  have e : a.toNat = k.toNat + pre.length := by omega
  have hm := digit_mul l0.1 l0.2 p0.1 p0.2
  rw [e]
  refine ⟨by simp [hl], by simp; omega, ?_⟩
  have := h.step (v' := takV W row0 limb k (pre ++ [p])) (by omega) hm.1 hm.2 rfl (by
    unfold takV
    rw [val_snoc, Int.pow_add]
    generalize (2 : Int) ^ W = B
    generalize B ^ k.toNat = P
    generalize B ^ pre.length = R
    grind)
  simpa [Nat.add_assoc] using this
theorem tak_stepW {W : Nat} {row0 row nb : List Int} {limb k a borrow : Int} {sz : Nat} (h : TakI W (takV W row0 limb k nb) row borrow a.toNat) (hl : row.length = sz) (ha : 0 ≤ a) (hlt : a < sz) :
    (row.set a.toNat ((row.getD a.toNat 0 - borrow).fmod (1 * 2 ^ ((W : Int)).toNat))).length = sz ∧ 0 ≤ a + 1 ∧ a + 1 ≤ sz ∧
    TakI W (takV W row0 limb k nb) (row.set a.toNat ((row.getD a.toNat 0 - borrow).fmod (1 * 2 ^ ((W : Int)).toNat))) (-((row.getD a.toNat 0 - borrow).fdiv (1 * 2 ^ ((W : Int)).toNat))) (a + 1).toNat := by
  have e : (a + 1).toNat = a.toNat + 1 := by omega
  have hB := two_pow_pos W
  have h4 : 0 ≤ ((2 : Int) ^ W - 1) * (2 ^ W - 1) := Int.mul_nonneg (by omega) (by omega)
  rw [e]
  refine ⟨by simp [hl], by omega, by omega, ?_⟩
  exact h.step (v' := takV W row0 limb k nb) (m := 0) (by omega) (Int.le_refl _) h4 (by omega) (by simp)
/-- the row behind a whole product -/
theorem tak_end {W : Nat} {na nb row0 fnd0 row : List Int} {bor0 borrow inv a k : Int} {sz i : Nat} (h : TakI W (takV W row0 ((row0.getD k.toNat 0 * inv).fmod (1 * 2 ^ ((W : Int)).toNat)) k nb) row borrow a.toNat) (hz : borrow = 0 ∨ a = sz)
    (dI : DivI W na nb sz row0 fnd0 bor0 i) (hl : fnd0.length = i) (hk : k = 0 + (i : Int)) (hi : i < sz) (hinv : nb.getD 0 0 * inv % 2 ^ W = 1) :
    DivI W na nb sz row (fnd0 ++ [(row0.getD k.toNat 0 * inv).fmod (1 * 2 ^ ((W : Int)).toNat)]) (bor0 + borrow) (i + 1) := by
  have e : k.toNat = i := by omega
  rw [e] at h ⊢
  refine dI.step hl hi hinv h.b0 rfl h.dig ?_
  have h1 := h.eq
  rw [h1]
  have h2 : ((2 : Int) ^ W) ^ a.toNat * borrow = (2 ^ W) ^ sz * borrow := by
    rcases hz with hz | hz
    · rw [hz]; simp
    · rw [hz]; simp
  rw [h2]
  unfold takV
  rw [e]
theorem tak_mid {W : Nat} {row nb : List Int} {v a k b : Int} {sz : Nat} (hl : row.length = sz) (ha : a = k + (nb.length : Int)) (h : TakI W v row b (k.toNat + nb.length)) (hk : 0 ≤ k) (hs : k + (nb.length : Int) ≤ sz) :
    row.length = sz ∧ 0 ≤ a ∧ a ≤ sz ∧ TakI W v row b a.toNat := by
  have e : a.toNat = k.toNat + nb.length := by omega
  rw [e]
  exact ⟨hl, by omega, by omega, h⟩
theorem tak_fin {W : Nat} {na nb row0 fnd0 row pre : List Int} {bor0 borrow inv a k : Int} {sz : Nat} (hl : row.length = sz) (h : TakI W (takV W row0 ((row0.getD k.toNat 0 * inv).fmod (1 * 2 ^ ((W : Int)).toNat)) k nb) row borrow a.toNat)
    (hz : ¬ 0 < borrow ∨ ¬ a < (row.length : Int)) (ha : a ≤ sz) (dI : DivI W na nb sz row0 fnd0 bor0 pre.length) (hf : fnd0.length = pre.length) (hk : k = 0 + (pre.length : Int)) (hi : pre.length < sz) (hinv : nb.getD 0 0 * inv % 2 ^ W = 1) :
    row.length = sz ∧ (fnd0 ++ [(row0.getD k.toNat 0 * inv).fmod (1 * 2 ^ ((W : Int)).toNat)]).length = (pre ++ [k]).length ∧
    DivI W na nb sz row (fnd0 ++ [(row0.getD k.toNat 0 * inv).fmod (1 * 2 ^ ((W : Int)).toNat)]) (bor0 + borrow) (pre ++ [k]).length := by
  refine ⟨hl, by simp [hf], ?_⟩
  have := tak_end h (by have := h.b0; omega) dI hf hk hi hinv
  simpa using this
/-- what the division from the low end gives -/
theorem div_end {W n : Nat} {na nb row found : List Int} {bor : Int} {sz i : Nat} (dI : DivI W na nb sz row found bor i) (hi : i = n) (hl : found.length = i) (hr : row.length = sz) :
    ∃ z, val (2 ^ W) (row.drop n) = z ∧ 0 ≤ val (2 ^ W) found ∧ val (2 ^ W) found < (2 ^ W) ^ n ∧ (2 ^ W) ^ n * z + val (2 ^ W) found * val (2 ^ W) nb = val (2 ^ W) na + bor * (2 ^ W) ^ sz ∧ z < (2 ^ W) ^ (sz - n) := by
  subst hi
  have hB := two_pow_pos W
  have h1 := val_lt hB dI.fdig
  rw [hl] at h1
  refine ⟨_, rfl, val_nonneg hB dI.fdig, h1, ?_, ?_⟩
  · have h2 := dI.eq
    obtain ⟨u, hu⟩ := dI.dvd
    rw [val_drop hB dI.dig]
    rw [hu] at h2 ⊢
    rw [Int.mul_ediv_cancel_left _ (Int.ne_of_gt (Int.pow_pos hB))]
    exact h2
  · have := val_lt hB (dI.dig.drop i)
    rwa [List.length_drop, hr] at this
theorem div_fits {W n sz : Nat} {x y q z bor : Int} (hx : 0 ≤ x) (hz : 0 ≤ z) (h : (2 ^ W) ^ n * z + q * y = x + bor * (2 ^ W) ^ sz) (hb : bor = 0) : x = q * y + (2 ^ W) ^ n * z := by
  rw [hb] at h
  omega
theorem div_below {W n sz : Nat} {x y q z bor : Int} (hn : n ≤ sz) (hx : 0 ≤ x) (hz : z < (2 ^ W) ^ (sz - n)) (h : (2 ^ W) ^ n * z + q * y = x + bor * (2 ^ W) ^ sz) (hb : 0 < bor) : x < q * y := by
  have hB := two_pow_pos W
  have e : ((2 : Int) ^ W) ^ sz = (2 ^ W) ^ n * (2 ^ W) ^ (sz - n) := by rw [← Int.pow_add]; congr 1; omega
  have h1 : ((2 : Int) ^ W) ^ n * z < (2 ^ W) ^ sz := by rw [e]; exact Int.mul_lt_mul_of_pos_left hz (Int.pow_pos hB)
  have h2 : 1 * ((2 : Int) ^ W) ^ sz ≤ bor * (2 ^ W) ^ sz := Int.mul_le_mul_of_nonneg_right (by omega) (Int.le_of_lt (Int.pow_pos hB))
  omega
end Mine
namespace Mine
theorem div_yes {W n : Nat} {na nb row found : List Int} {bor : Int} {sz i : Nat} (dI : DivI W na nb sz row found bor i) (hi : i = n) (hl : found.length = i) (hr : row.length = sz) (da : Dig (2 ^ W) na) (hn : n ≤ sz) (hb : 0 < bor) :
    val (2 ^ W) found < (2 ^ W) ^ n ∧ val (2 ^ W) na < val (2 ^ W) found * val (2 ^ W) nb ∧ (2 ^ W) ^ n ∣ val (2 ^ W) na - val (2 ^ W) found * val (2 ^ W) nb := by
  obtain ⟨z, h1, h2, h3, h4, h5⟩ := div_end dI hi hl hr
  refine ⟨h3, div_below hn (val_nonneg (two_pow_pos W) da) h5 h4 hb, ?_⟩
  obtain ⟨c, hc⟩ : ((2 : Int) ^ W) ^ n ∣ (2 ^ W) ^ sz := ⟨(2 ^ W) ^ (sz - n), by rw [← Int.pow_add]; congr 1; omega⟩
  refine ⟨z - bor * c, ?_⟩
  rw [hc] at h4
  grind
theorem div_no {W n : Nat} {na nb row found : List Int} {bor : Int} {sz i : Nat} (dI : DivI W na nb sz row found bor i) (hi : i = n) (hl : found.length = i) (hr : row.length = sz) (da : Dig (2 ^ W) na) (hb : ¬ 0 < bor) :
    val (2 ^ W) found < (2 ^ W) ^ n ∧ val (2 ^ W) na = val (2 ^ W) found * val (2 ^ W) nb + (2 ^ W) ^ n * val (2 ^ W) (row.drop n) := by
  obtain ⟨z, h1, h2, h3, h4, h5⟩ := div_end dI hi hl hr
  have hz : 0 ≤ z := h1 ▸ val_nonneg (two_pow_pos W) (dI.dig.drop n)
  rw [h1]
  exact ⟨h3, div_fits (val_nonneg (two_pow_pos W) da) hz h4 (by have := dI.b0; omega)⟩
theorem range_len (n : Nat) : (rangeKs 0 ((n : Int) - 0).toNat).length = n := by rw [rangeKs_length]; omega
end Mine
end
section
open PySem PySem.W
namespace Mine
theorem dvd_emod (a M : Int) : M ∣ a % M - a := ⟨-(a / M), by have := Int.mul_ediv_add_emod a M; rw [Int.mul_neg]; omega⟩
theorem dvd_one_iff {M a : Int} (hM : 1 < M) : M ∣ a - 1 ↔ a % M = 1 := by
  constructor
  · rintro ⟨q, hq⟩
    have : a = 1 + M * q := by omega
    rw [this, Int.add_mul_emod_self_left, Int.emod_eq_of_lt (by decide) hM]
  · intro h
    exact ⟨a / M, by have := Int.mul_ediv_add_emod a M; omega⟩
/-- Newton's step for the inverse -/
theorem inv_step {M C y x r w x' : Int} (hC : M ∣ C * C) (h : C ∣ y * x - 1) (hr : M ∣ r - y * x) (hw : M ∣ w - (2 - r)) (hx : M ∣ x' - x * w) : M ∣ y * x' - 1 := by
  obtain ⟨c, hc⟩ := hC
  obtain ⟨m, hm⟩ := h
  obtain ⟨r1, hr1⟩ := hr
  obtain ⟨w1, hw1⟩ := hw
  obtain ⟨x1, hx1⟩ := hx
  refine ⟨y * x1 + y * x * w1 - y * x * r1 - c * (m * m), ?_⟩
  have e1 : r = y * x + M * r1 := by omega
  have e2 : w = 2 - r + M * w1 := by omega
  have e3 : x' = x * w + M * x1 := by omega
  have e4 : y * x = 1 + C * m := by omega
  have e5 : (y * x - 1) * (y * x - 1) = M * (c * (m * m)) := by rw [hm]; grind
  clear hm hr1 hw1 hx1 e4 hc
  subst e3 e2 e1
  grind
def minS (n c : Int) : Int := if n < 2 * c then n else 2 * c
theorem minS_is (n c : Int) : (if n < 2 * c then n else 2 * c) = minS n c := rfl
theorem minS_facts {n : Nat} {c : Int} (h : 1 ≤ c) (hn : c < n) : 1 ≤ minS n c ∧ minS n c ≤ n ∧ minS n c ≤ 2 * c ∧ (minS n c).toNat ≤ n ∧ c < minS n c := by
  unfold minS; split <;> omega
/-- the inverse of a row: what holds between the turns -/
structure InlI (W : Nat) (y : Int) (n : Nat) (ns : List Int) (size : Int) (x : Int) : Prop where
  s1 : 1 ≤ size
  s2 : size ≤ n
  can : Can W ns x
  len : ns.length ≤ size.toNat
  dvd : ((2 : Int) ^ W) ^ size.toNat ∣ y * x - 1
theorem one_lt_pow {W n : Nat} (hW : 2 ≤ W) (hn : 1 ≤ n) : (1 : Int) < (2 ^ W) ^ n := by
  have h1 := pow_le_pow' (B := 2 ^ W) (two_pow_pos W) hn
  have := four_le hW
  rw [Int.pow_one] at h1
  omega
theorem InlI.start {W : Nat} {nb : List Int} {n : Nat} {r : Int} (hW : 2 ≤ W) (hn : 1 ≤ n) (h0 : 0 ≤ r) (h1 : r < 2 ^ W) (hr : nb.getD 0 0 * r % 2 ^ W = 1) : InlI W (val (2 ^ W) nb) n [r] 1 r := by
  have hr0 : 0 < r := by
    by_cases e : r = 0
    · rw [e] at hr; simp at hr
    · omega
  refine ⟨Int.le_refl _, by omega, can_one hr0 h1, by simp, ?_⟩
  have h4 := four_le hW
  show ((2 : Int) ^ W) ^ 1 ∣ _
  rw [Int.pow_one]
  refine (dvd_one_iff (by omega)).mpr ?_
  rw [val_head nb, Int.add_mul, Int.mul_assoc, Int.add_mul_emod_self_left, hr]
theorem InlI.end {W : Nat} {y : Int} {n : Nat} {ns : List Int} {size x : Int} (hW : 2 ≤ W) (h : InlI W y n ns size x) (hs : ¬ size < n) : ns.length ≤ n ∧ y * x % (2 ^ W) ^ n = 1 := by
  have h1 := h.s1
  have h2 := h.s2
  have h3 := h.len
  have e : size.toNat = n := by omega
  have hd := h.dvd
  rw [e] at hd h3
  exact ⟨h3, (dvd_one_iff (one_lt_pow hW (by omega))).mp hd⟩
theorem InlI.step {W : Nat} {y : Int} {n k : Nat} {ns m1 m2 m3 m4 m5 : List Int} {size x s' : Int} (hW : 2 ≤ W) (h : InlI W y n ns size x) (hs : size < n) (e : s' = if (n : Int) < 2 * size then (n : Int) else 2 * size) (hk : k = s'.toNat)
    (c1 : Can W m1 (y % (2 ^ W) ^ k)) (c2 : Can W m2 (y % (2 ^ W) ^ k * x)) (c3 : Can W m3 (val (2 ^ W) m2 % (2 ^ W) ^ k)) (c4 : Can W m4 (-val (2 ^ W) m3 % (2 ^ W) ^ k))
    (c5 : val (2 ^ W) m5 = val (2 ^ W) m4 + val (2 ^ W) [2]) {m8 m9 : List Int} (c8 : Can W m8 (x * (val (2 ^ W) m5 % (2 ^ W) ^ k))) (c9 : Can W m9 (val (2 ^ W) m8 % (2 ^ W) ^ k)) :
    InlI W y n m9 s' (val (2 ^ W) m8 % (2 ^ W) ^ k) := by
  have h1 := h.s1
  subst hk
  have l2 : s' ≤ 2 * size := by split at e <;> omega
  have l3 : s' ≤ n := by split at e <;> omega
  have l1 : 1 ≤ s' := by split at e <;> omega
  refine ⟨l1, l3, c9, c9.len_mod, ?_⟩
  have hC : ((2 : Int) ^ W) ^ s'.toNat ∣ (2 ^ W) ^ size.toNat * (2 ^ W) ^ size.toNat := by
    rw [← Int.pow_add]
    exact dvd_pow_le (by omega)
  have e2 : val (2 ^ W) [2] = 2 := by simp
  rw [c8.val, c5, c4.val, c3.val, c2.val, e2]
  generalize ((2 : Int) ^ W) ^ s'.toNat = M at *
  refine inv_step (r := y % M * x % M) (w := (-(y % M * x % M) % M + 2) % M) hC h.dvd ?_ ?_ (dvd_emod _ _)
  · obtain ⟨a, ha⟩ := dvd_emod (y % M * x) M
    obtain ⟨b, hb⟩ := dvd_emod y M
    refine ⟨a + b * x, ?_⟩
    have : y % M = y + M * b := by omega
    rw [this] at ha ⊢
    grind
  · obtain ⟨a, ha⟩ := dvd_emod (-(y % M * x % M) % M + 2) M
    obtain ⟨b, hb⟩ := dvd_emod (-(y % M * x % M)) M
    refine ⟨a + b, ?_⟩
    rw [Int.mul_add, ← ha, ← hb]
    omega
end Mine
end
section
open PySem PySem.W
namespace Mine
/-- t twos and no more -/
def Twos (x : Int) (t : Nat) : Prop := x % 2 ^ t = 0 ∧ x / 2 ^ t % 2 = 1
theorem Twos.eq {x : Int} {t : Nat} (h : Twos x t) : x = 2 ^ t * (x / 2 ^ t) := by
  have := Int.mul_ediv_add_emod x (2 ^ t)
  have := h.1
  omega
theorem Twos.lt {x : Int} {s t : Nat} (h : Twos x s) (hst : s < t) : x % 2 ^ t ≠ 0 := by
  intro e
  have h1 := Int.mul_ediv_add_emod x (2 ^ t)
  rw [e, Int.add_zero] at h1
  have h2 : (2 : Int) ^ t = 2 ^ s * (2 * 2 ^ (t - s - 1)) := by rw [← Int.mul_assoc, ← Int.pow_succ, ← Int.pow_add]; congr 1; omega
  have h3 : x / 2 ^ s = 2 * 2 ^ (t - s - 1) * (x / 2 ^ t) := by
    generalize x / 2 ^ t = u at *
    rw [h2] at h1
    rw [← h1, Int.mul_assoc]
    exact Int.mul_ediv_cancel_left _ (Int.ne_of_gt (two_pow_pos s))
  have h4 := h.2
  rw [h3, Int.mul_assoc, Int.mul_emod_right] at h4
  exact absurd h4 (by decide)
theorem Twos.le {x : Int} {s t : Nat} (h : Twos x s) (hst : t ≤ s) : x % 2 ^ t = 0 := by
  refine Int.emod_eq_zero_of_dvd (Int.dvd_trans (dvd_pow_le hst) (Int.dvd_of_emod_eq_zero h.1))
/-- taking the twos of the divisor off both -/
theorem twos_off {x y : Int} {t : Nat} (hy : Twos y t) (hx : x % 2 ^ t = 0) : (x % y = 0 ↔ x / 2 ^ t % (y / 2 ^ t) = 0) ∧ x / y = x / 2 ^ t / (y / 2 ^ t) := by
  have hp := two_pow_pos t
  have e1 := hy.eq
  have e2 : x = 2 ^ t * (x / 2 ^ t) := by have := Int.mul_ediv_add_emod x (2 ^ t); omega
  generalize x / 2 ^ t = x' at *
  generalize y / 2 ^ t = y' at *
  subst e1 e2
  refine ⟨?_, Int.mul_ediv_mul_of_pos _ _ hp⟩
  rw [Int.mul_emod_mul_of_pos _ _ hp]
  exact ⟨fun h => (Int.mul_eq_zero.mp h).resolve_left (Int.ne_of_gt hp), fun h => by rw [h, Int.mul_zero]⟩
theorem twos_none {x y : Int} {t : Nat} (hy : Twos y t) (hx : x % 2 ^ t ≠ 0) : x % y ≠ 0 := fun h => hx (by
  refine Int.emod_eq_zero_of_dvd (Int.dvd_trans ⟨_, hy.eq⟩ (Int.dvd_of_emod_eq_zero h)))
theorem odd_pos {y : Int} {t : Nat} (h0 : 0 ≤ y) (hy : Twos y t) : 0 < y / 2 ^ t := by
  have := Int.ediv_nonneg h0 (Int.le_of_lt (two_pow_pos t))
  have := hy.2
  omega
/-- an odd number may be cancelled -/
theorem odd_cancel {y : Int} (hy : y % 2 = 1) : ∀ (k : Nat) {a : Int}, (2 : Int) ^ k ∣ a * y → (2 : Int) ^ k ∣ a
  | 0, a, _ => ⟨a, by simp⟩
  | k + 1, a, h => by
    have h1 : (2 : Int) ∣ a * y := Int.dvd_trans ⟨2 ^ k, by rw [Int.pow_succ, Int.mul_comm]⟩ h
    have h2 : a % 2 = 0 := by
      have h3 := Int.emod_eq_zero_of_dvd h1
      rw [Int.mul_emod, hy, Int.mul_one, Int.emod_emod] at h3
      exact h3
    obtain ⟨c, hc⟩ := Int.dvd_of_emod_eq_zero h2
    subst hc
    have h3 : (2 : Int) ^ k ∣ c * y := by
      obtain ⟨d, hd⟩ := h
      refine ⟨d, ?_⟩
      rw [Int.pow_succ] at hd
      have : 2 * (c * y) = 2 * (2 ^ k * d) := by grind
      omega
    obtain ⟨d, hd⟩ := odd_cancel hy k h3
    exact ⟨d, by rw [hd, Int.pow_succ]; grind⟩
/-- the one candidate -/
theorem one_quotient {W n : Nat} {x y q k : Int} (hy : y % 2 = 1) (hq0 : 0 ≤ q) (hq : q < (2 ^ W) ^ n) (hk0 : 0 ≤ k) (hk : k < (2 ^ W) ^ n) (hd : ((2 : Int) ^ W) ^ n ∣ x - q * y) (hx : x = k * y) : q = k := by
  rw [← two_pow_mul] at hq hk hd
  have h1 : (2 : Int) ^ (W * n) ∣ (k - q) * y := by
    rw [Int.sub_mul, ← hx]; exact hd
  obtain ⟨c, hc⟩ := odd_cancel hy _ h1
  have hp := two_pow_pos (W * n)
  generalize (2 : Int) ^ (W * n) = M at *
  have : c = 0 := by
    have h2 : c < 1 := by
      refine Int.lt_of_mul_lt_mul_left (a := M) ?_ (Int.le_of_lt hp)
      omega
    have h3 : -1 < c := by
      refine Int.lt_of_mul_lt_mul_left (a := M) ?_ (Int.le_of_lt hp)
      omega
    omega
  rw [this] at hc
  omega
/-- how long a quotient may be -/
theorem quotient_lt {W : Nat} {ma mb : List Int} {x y k : Int} (ca : Can W ma x) (cb : Can W mb y) (hy : 0 < y) (hl : mb.length ≤ ma.length) (hk : x = k * y) : k < (2 ^ W) ^ (ma.length - mb.length + 1) := by
  have h1 := ca.lt
  have h2 := cb.ge (by omega)
  have hB := two_pow_pos W
  have hlb : 0 < mb.length := by
    cases mb with
    | nil => have := cb.val; simp at this; omega
    | cons => simp
  refine Int.lt_of_mul_lt_mul_right (a := (2 ^ W) ^ (mb.length - 1)) ?_ (Int.le_of_lt (Int.pow_pos hB))
  rw [← Int.pow_add, show ma.length - mb.length + 1 + (mb.length - 1) = ma.length by omega]
  by_cases hk0 : 0 ≤ k
  · have h3 : k * (2 ^ W) ^ (mb.length - 1) ≤ k * y := Int.mul_le_mul_of_nonneg_left h2 hk0
    omega
  · have h3 : k * (2 ^ W) ^ (mb.length - 1) ≤ 0 := Int.mul_nonpos_of_nonpos_of_nonneg (by omega) (Int.le_of_lt (Int.pow_pos hB))
    have h4 : (0 : Int) < (2 ^ W) ^ ma.length := Int.pow_pos hB
    omega
theorem short_none {W : Nat} {ma mb : List Int} {x y : Int} (ca : Can W ma x) (cb : Can W mb y) (hx : 0 < x) (hl : ma.length < mb.length) : x % y ≠ 0 := by
  have h1 := ca.lt
  have hy : y ≠ 0 := fun e => by rw [cb.nil_iff.mpr e] at hl; simp at hl
  have h2 := cb.ge hy
  have h3 : ((2 : Int) ^ W) ^ ma.length ≤ (2 ^ W) ^ (mb.length - 1) := pow_le_pow' (two_pow_pos W) (by omega)
  rw [Int.emod_eq_of_lt (by omega) (by omega)]
  omega
theorem quot_nonneg {x y k : Int} (hx : 0 < x) (hy : 0 < y) (hk : x = k * y) : 0 ≤ k := by
  by_cases h : 0 ≤ k
  · exact h
  · have : k * y ≤ 0 := Int.mul_nonpos_of_nonpos_of_nonneg (by omega) (Int.le_of_lt hy)
    omega
/-- not below and nothing left: the quotient -/
theorem div_is {x y q M z : Int} (hy : 0 < y) (h : x = q * y + M * z) (hz : z = 0) : x % y = 0 ∧ x / y = q := by
  rw [hz, Int.mul_zero, Int.add_zero] at h
  rw [h]
  exact ⟨Int.mul_emod_left _ _, Int.mul_ediv_cancel _ (Int.ne_of_gt hy)⟩
/-- else there is none -/
theorem div_isnt {W n : Nat} {x y q : Int} (hx : 0 < x) (hy : 0 < y) (hodd : y % 2 = 1) (hq0 : 0 ≤ q) (hq : q < (2 ^ W) ^ n) (hk : ∀ k, x = k * y → k < (2 ^ W) ^ n) (hd : ((2 : Int) ^ W) ^ n ∣ x - q * y) (hne : x ≠ q * y) : x % y ≠ 0 := by
  intro e
  have e1 := Int.mul_ediv_add_emod x y
  rw [e, Int.add_zero] at e1
  have hx2 : x = x / y * y := by rw [Int.mul_comm]; exact e1.symm
  have := one_quotient hodd hq0 hq (quot_nonneg hx hy hx2) (hk _ hx2) hd hx2
  rw [this] at hne
  exact hne hx2
theorem getD0_odd {W : Nat} {ms : List Int} {y : Int} (hW : 2 ≤ W) (c : Can W ms y) (hy : y % 2 = 1) : ms.getD 0 0 % 2 = 1 := by
  have h := val_head (B := 2 ^ W) ms
  rw [c.val] at h
  have e : (2 : Int) ^ W = 2 * 2 ^ (W - 1) := by rw [Int.mul_comm, ← Int.pow_succ]; congr 1; omega
  rw [e, Int.mul_assoc] at h
  omega
theorem Can.pos_len {W : Nat} {ms : List Int} {y : Int} (c : Can W ms y) (hy : y ≠ 0) : 0 < ms.length := by
  cases ms with
  | nil => exact absurd (c.val ▸ rfl : (0 : Int) = y).symm hy
  | cons => simp
end Mine
namespace Mine
theorem pos_part {x : Int} {t : Nat} (hx : 0 < x) (h : x % 2 ^ t = 0) : 0 < x / 2 ^ t := by
  have e := Int.mul_ediv_add_emod x (2 ^ t)
  rw [h, Int.add_zero] at e
  have hp := two_pow_pos t
  by_cases h1 : 0 < x / 2 ^ t
  · exact h1
  · have : 2 ^ t * (x / 2 ^ t) ≤ 0 := Int.mul_nonpos_of_nonneg_of_nonpos (Int.le_of_lt hp) (by omega)
    omega
theorem exq_no {W : Nat} {mf mr : List Int} {x y q : Int} {t : Nat} (hx : 0 < x) (hy : 0 < y) (yT : Twos y t) (xZ : x % 2 ^ t = 0) (cF : Can W mf (x / 2 ^ t)) (cR : Can W mr (y / 2 ^ t)) (hl : mr.length ≤ mf.length)
    (hq0 : 0 ≤ q) (hq : q < (2 ^ W) ^ (mf.length - mr.length + 1)) (hd : ((2 : Int) ^ W) ^ (mf.length - mr.length + 1) ∣ x / 2 ^ t - q * (y / 2 ^ t)) (hne : x / 2 ^ t ≠ q * (y / 2 ^ t)) : x % y ≠ 0 := by
  intro e
  have x1 := pos_part hx xZ
  have y1 := odd_pos (Int.le_of_lt hy) yT
  exact div_isnt x1 y1 yT.2 hq0 hq (fun k hk => quotient_lt cF cR y1 hl hk) hd hne ((twos_off yT xZ).1.mp e)
theorem exq_yes {x y q M z : Int} {t : Nat} (hy : 0 < y) (yT : Twos y t) (xZ : x % 2 ^ t = 0) (h : x / 2 ^ t = q * (y / 2 ^ t) + M * z) (hz : z = 0) : x % y = 0 ∧ x / y = q := by
  have y1 := odd_pos (Int.le_of_lt hy) yT
  obtain ⟨e1, e2⟩ := div_is y1 h hz
  obtain ⟨f1, f2⟩ := twos_off yT xZ
  exact ⟨f1.mpr e1, f2.trans e2⟩
end Mine
namespace Mine
theorem newton_dvd {M x y i : Int} (hM : 1 < M) (h : y * i % M = 1) : M ∣ x - (x % M * i % M) * y := by
  obtain ⟨c, hc⟩ := (dvd_one_iff hM).mpr h
  obtain ⟨a, ha⟩ := dvd_emod (x % M * i) M
  obtain ⟨b, hb⟩ := dvd_emod x M
  refine ⟨-(x * c) - b * i * y - a * y, ?_⟩
  have e1 : x % M * i % M = x % M * i + M * a := by omega
  have e2 : x % M = x + M * b := by omega
  have e3 : y * i = 1 + M * c := by omega
  rw [e1, e2]
  have e4 : x * (y * i) = x * (1 + M * c) := by rw [e3]
  clear e1 e2 e3 ha hb hc h
  grind
end Mine
namespace Mine
theorem newton_end {W n : Nat} {mf mr m2 m4 : List Int} {x y i : Int} (hW : 2 ≤ W) (cF : Can W mf x) (cR : Can W mr y) (c2 : Can W m2 (val (2 ^ W) mf % (2 ^ W) ^ (n + 1) * i)) (c4 : Can W m4 (val (2 ^ W) m2 % (2 ^ W) ^ (n + 1) * y))
    (eI : val (2 ^ W) mr * i % (2 ^ W) ^ (n + 1) = 1) :
    0 ≤ val (2 ^ W) m2 % (2 ^ W) ^ (n + 1) ∧ val (2 ^ W) m2 % (2 ^ W) ^ (n + 1) < (2 ^ W) ^ (n + 1) ∧ (2 ^ W) ^ (n + 1) ∣ x - val (2 ^ W) m2 % (2 ^ W) ^ (n + 1) * y ∧ (m4 = mf ↔ x = val (2 ^ W) m2 % (2 ^ W) ^ (n + 1) * y) := by
  have hM : (0 : Int) < (2 ^ W) ^ (n + 1) := Int.pow_pos (two_pow_pos W)
  refine ⟨Int.emod_nonneg _ (Int.ne_of_gt hM), Int.emod_lt_of_pos _ hM, ?_, fun e => ?_, fun e => ?_⟩
  · rw [c2.val, cF.val]
    rw [cR.val] at eI
    exact newton_dvd (one_lt_pow hW (by omega)) eI
  · have h1 := c4.val
    rw [e, cF.val] at h1
    exact h1
  · rw [← e] at c4
    exact c4.inj cF
end Mine
namespace Mine
theorem nz_of_len {W : Nat} {ms : List Int} {x : Int} (c : Can W ms x) (h : (ms.length : Int) ≠ 0) : x ≠ 0 := fun e => by rw [c.nil_iff.mpr e] at h; exact h rfl
end Mine
end
section
open PySem PySem.W
namespace Mine
/-- the width -/
def wOf (r : Int) : Nat := (2 + r.fmod 8).toNat
theorem w_is (r : Int) : 2 + r.fmod 8 = (wOf r : Int) := by
  have := Int.fmod_nonneg_of_pos r (b := 8) (by decide)
  unfold wOf; omega
theorem w_facts (r : Int) : 2 ≤ wOf r ∧ wOf r ≤ 9 := by
  have := Int.fmod_nonneg_of_pos r (b := 8) (by decide)
  have := Int.fmod_lt_of_pos r (b := 8) (by decide)
  unfold wOf; omega
/-- the bound of all that is handed to _law_right -/
theorem big_facts {W : Nat} (hW : 2 ≤ W) : (2 : Int) ^ (W * 14) * 4 ≤ (2 ^ W) ^ 40 ∧ (2 : Int) ^ (W * 8) ≤ 2 ^ (W * 14) ∧ (2 : Int) ^ (W * 6) ≤ 2 ^ (W * 8) ∧ (16 : Int) ≤ 2 ^ (W * 6) := by
  refine ⟨?_, pow_le_pow' (by decide) (by omega), pow_le_pow' (by decide) (by omega), ?_⟩
  · rw [← two_pow_mul]
    have e : (2 : Int) ^ (W * 14) * 4 = 2 ^ (W * 14 + 2) := by rw [Int.pow_add]; rfl
    rw [e]
    exact pow_le_pow' (by decide) (by omega)
  · have : (2 : Int) ^ 4 ≤ 2 ^ (W * 6) := pow_le_pow' (by decide) (by omega)
    exact this
theorem p6_small {W : Nat} (hW9 : W ≤ 9) : (2 : Int) ^ (W * 6) ≤ 2 ^ 54 := pow_le_pow' (by decide) (by omega)
theorem lt64 {W : Nat} {q : Int} (hW9 : W ≤ 9) (h0 : 0 ≤ q) (h1 : q < 2 ^ (W * 6)) : Builtin.Int.intBits q ≤ 64 := by
  have := p6_small hW9
  have e : (2 : Int) ^ 54 = 18014398509481984 := by decide
  rw [e] at this
  exact PySem.intBits_le_64 (by omega) (by omega)
theorem shl_ok {W : Nat} {b k : Int} (hW9 : W ≤ 9) (h0 : 0 ≤ b) (h1 : b < 2 ^ (W * 6)) (hk : k < 1000) : (Builtin.Int.intBits b : Int) + k ≤ 2 ^ 27 := by
  have := lt64 hW9 h0 h1
  have e : (2 : Int) ^ 27 = 134217728 := by decide
  rw [e]; omega
theorem shl_facts {W : Nat} {b k : Int} (h0 : 0 ≤ b) (h1 : b < 2 ^ (W * 6)) (hk0 : 0 ≤ k) (hk : k < 2 * W) : 0 ≤ b * 2 ^ k.toNat ∧ b * 2 ^ k.toNat < 2 ^ (W * 8) := by
  have hp := two_pow_pos k.toNat
  refine ⟨Int.mul_nonneg h0 (Int.le_of_lt hp), ?_⟩
  have h2 : (2 : Int) ^ k.toNat ≤ 2 ^ (W * 2) := pow_le_pow' (by decide) (by omega)
  have h3 : b * 2 ^ k.toNat ≤ b * 2 ^ (W * 2) := Int.mul_le_mul_of_nonneg_left h2 h0
  have h4 : b * 2 ^ (W * 2) < 2 ^ (W * 6) * 2 ^ (W * 2) := Int.mul_lt_mul_of_pos_right h1 (two_pow_pos _)
  rw [← Int.pow_add] at h4
  have e : W * 6 + W * 2 = W * 8 := by omega
  rw [e] at h4
  omega
theorem prod_facts {W : Nat} {q b : Int} (h0 : 0 ≤ q) (h1 : q < 2 ^ (W * 6)) (b0 : 0 ≤ b) (b1 : b < 2 ^ (W * 8)) : 0 ≤ q * b ∧ q * b < 2 ^ (W * 14) := by
  refine ⟨Int.mul_nonneg h0 b0, ?_⟩
  have h3 : q * b ≤ q * 2 ^ (W * 8) := Int.mul_le_mul_of_nonneg_left (by omega) h0
  have h4 : q * 2 ^ (W * 8) < 2 ^ (W * 6) * 2 ^ (W * 8) := Int.mul_lt_mul_of_pos_right h1 (two_pow_pos _)
  rw [← Int.pow_add] at h4
  have e : W * 6 + W * 8 = W * 14 := by omega
  rw [e] at h4
  omega
theorem script_bits {vs : List Value} {ns : List Int} (_ : PyProof.Rows.IntsAre vs ns) (h : PyData.layable0 (.list (ns.map .int)) = true) : ∀ j, Builtin.Int.intBits (ns.getD j 0) ≤ 1048576 := fun j => kbm_getD h (by decide)
theorem script_len {vs : List Value} {ns : List Int} (_ : PyProof.Rows.IntsAre vs ns) (h : ¬ (63 : Int) < ns.length) : ns.length < 1000 := by omega
end Mine
namespace Mine
theorem shl_pack {W : Nat} {b r : Int} (hW : 2 ≤ W ∧ W ≤ 9) (b1 : 0 ≤ b) (b2 : b < 2 ^ (W * 6)) : 0 ≤ r.fmod (2 * (W : Int)) ∧ (Builtin.Int.intBits b : Int) + r.fmod (2 * (W : Int)) ≤ 2 ^ 27 ∧ 0 ≤ b * 2 ^ (r.fmod (2 * (W : Int))).toNat ∧ b * 2 ^ (r.fmod (2 * (W : Int))).toNat < 2 ^ (W * 8) := by
  have h := hW.1
  have k0 := Int.fmod_nonneg_of_pos r (b := 2 * (W : Int)) (by omega)
  have k1 := Int.fmod_lt_of_pos r (b := 2 * (W : Int)) (by omega)
  exact ⟨k0, shl_ok hW.2 b1 b2 (by have := hW.2; omega), shl_facts b1 b2 k0 k1⟩
end Mine
namespace Mine
theorem three_facts {W : Nat} (hW : 2 ≤ W) : 0 < (1 : Int) * 2 ^ ((W : Int) * 3).toNat ∧ (1 : Int) * 2 ^ ((W : Int) * 3).toNat ≤ 2 ^ (W * 6) := by
  rw [Int.one_mul]
  exact ⟨two_pow_pos _, pow_le_pow' (by decide) (by omega)⟩
end Mine
end
section
open PySem PySem.W PySem.Calls PyProof.Rows
set_option Elab.async false
set_option maxRecDepth 100000
namespace Mine
theorem room_of {dp d : Nat} (h : dp + (d + 2) < recursionLimit) : dp + 1 < recursionLimit := Nat.lt_of_le_of_lt (by omega) h
section
variable {w : World} {p : Program} {loose : List Str} {mean : ExcName → Option Value} {mg mb : Str → Option Value} {base h₀ : Heap} {fr outer : List Env} {s : Shared} {dp un : Nat} {gd : Option (List Code)} {Q E : Value → Shared → Prop}
theorem enterC {name qual : Str} {params : Arguments} {body : List Stmt} {scope : Scope} {dV kV doc pm cdv ct oc : Value} {an od : Option Addr} {osl : Array (Option Value)} {f : Addr} {vs : List Value} {binds : List (Str × Value)}
    (M : Amb w p loose mean mg mb base s.heap fr)
    (ho : (headK.heap_1 w.params).lookup f = some ⟨oc, od, .func (fnOf name qual params body scope dV kV doc pm an cdv ct), osl⟩) (hcd : codeIn (headK.heap_1 w.params) cdv qual = true) (hroom : dp < recursionLimit)
    (hbind : BindsTo s (fnOf name qual params body scope dV kV doc pm an cdv ct) ⟨vs, []⟩ binds)
    (hkind : (binds.all fun y => scope.names.lookup y.1 == some .local || scope.names.lookup y.1 == some .cell) = true)
    (hnd : ((cellsFrom 0 scope.names []).map (·.1)).Nodup)
    (h : ∀ L' h₁ tk cells, Fr s.heap L' h₁ (bindL (envOfC qual scope L' f cdv).kindOf binds fun _ => none) → News s.heap L' h₁ cells →
      CellsAre (bindC (envOfC qual scope L' f cdv).kindOf binds fun _ => none) (cellsFrom (L' + 1) scope.names []) cells → L' = s.heap.objs.size → Below (AA dp un gd fr) base fr s.heap →
      wpAny (model PySem.Challenge.rw_nn0016_01.row.prog w) ((AA dp un gd fr).deeper (envOfC qual scope L' f cdv)) (execs body (envOfC qual scope L' f cdv))
        (fun fl s' => Q (match fl with | .ret v => v | _ => .none) s') (fun _ _ => False)
        { s with heap := h₁, toks := tk })
    (hco : scope.isCoroutine = false) (hgen : scope.isGenerator = false) (hk : scope.kind = .function) : wpAny (model PySem.Challenge.rw_nn0016_01.row.prog w) (AA dp un gd fr) (call (.ref f) vs) Q E s := by
  refine wpAny_call ?_
  refine codeAny_call_function hroom (M.X _ _ ho) rfl hco hgen rfl (codeRec_of M.X hcd) (hbind _ _ _ _ ?_)
  refine wpAny_newFunctionEnv_cells hk (kindsX hkind _) fun env' he s' x => ?_
  subst he
  refine ⟨M.T.nolimit.keeps x.toInCall.keep, codeAny_func ?_⟩
  obtain ⟨h₁, tk, rfl, _⟩ := x.done
  have hk₁ := x.toInCall.keep
  obtain ⟨cells, NC, Y⟩ := Cl.news (h₀ := s.heap) (Nat.le_refl _) fun n c hm => ⟨x.cell n c (lookup_of_mem_nodup (cellsFrom_names scope.names 0 (s.heap.objs.size + 1) [] [] rfl ▸ hnd) hm), x.above n c hm⟩
  exact wpAny_mono (h s.heap.objs.size h₁ tk cells ⟨x.toInCall.ns, hk₁, Nat.le_refl _⟩ NC Y rfl ⟨rfl, M.stays, M.frames⟩) (fun fl s' hl => hl) fun _ _ y => y.elim

/-- a new tuple of a list of ints, a bool, a list of ints -/
def NewT (h : Heap) (msf : List Int) (bl : Bool) (msr : List Int) (h' : Heap) (v : Value) : Prop :=
  ∃ (t f r : Addr) (vf vr : List Value) (nf nr : Nat), v = .ref t ∧ (h.get? t = none ∧ h'.get? t = some { cls := .type "tuple", data := .seq #[.ref f, .bool bl, .ref r] }) ∧
    (h.get? f = none ∧ h'.get? f = some (PySem.W.listOf vf.toArray nf) ∧ IntsAre vf msf) ∧ (h.get? r = none ∧ h'.get? r = some (PySem.W.listOf vr.toArray nr) ∧ IntsAre vr msr)
theorem newT_of {L : Addr} {news : List (Addr × Obj)} {h h' : Heap} {t f r : Addr} {vf vr : List Value} {nf nr : Nat} {msf msr : List Int} {bl : Bool} (N : News h L h' news)
    (ht : (t, ({ cls := .type "tuple", data := .seq #[.ref f, .bool bl, .ref r] } : Obj)) ∈ news) (hf : (f, PySem.W.listOf vf.toArray nf) ∈ news) (hr : (r, PySem.W.listOf vr.toArray nr) ∈ news) (iF : IntsAre vf msf) (iR : IntsAre vr msr) : NewT h msf bl msr h' (.ref t) :=
  ⟨t, f, r, vf, vr, nf, nr, rfl, ⟨(N _ ht).2.2, (N _ ht).1⟩, ⟨(N _ hf).2.2, (N _ hf).1, iF⟩, ⟨(N _ hr).2.2, (N _ hr).1, iR⟩⟩
theorem new_add {L : Addr} {m : Str → Option Value} {news : List (Addr × Obj)} {h h' : Heap} {a : Addr} {o : Obj} (F : Fr h₀ L h m) (N : News h₀ L h' news) (hn : h.get? a = none) (hg : h'.get? a = some o) : News h₀ L h' ((a, o) :: news) := by
  obtain ⟨oL, _, _, hL, _⟩ := F.ns
  intro q hq
  rcases List.mem_cons.mp hq with rfl | hq
  · have hne : a ≠ L := fun e => by rw [e, hL] at hn; cases hn
    refine ⟨hg, hne, ?_⟩
    show h₀.get? a = none
    cases q : h₀.get? a with
    | none => rfl
    | some o =>
      have := F.keep _ _ q
      rw [hn] at this
      cases this
  · exact N q hq
theorem newT_news {L : Addr} {m : Str → Option Value} {news : List (Addr × Obj)} {h h' : Heap} {msf msr : List Int} {bl : Bool} {v : Value} (F : Fr h₀ L h m) (N : News h₀ L h' news) (hn : NewT h msf bl msr h' v) :
    ∃ (t f r : Addr) (vf vr : List Value) (nf nr : Nat), v = .ref t ∧ IntsAre vf msf ∧ IntsAre vr msr ∧
      News h₀ L h' ((t, ({ cls := .type "tuple", data := .seq #[.ref f, .bool bl, .ref r] } : Obj)) :: (f, PySem.W.listOf vf.toArray nf) :: (r, PySem.W.listOf vr.toArray nr) :: news) := by
  obtain ⟨t, f, r, vf, vr, nf, nr, rfl, ⟨t1, t2⟩, ⟨f1, f2, f3⟩, ⟨r1, r2, r3⟩⟩ := hn
  exact ⟨t, f, r, vf, vr, nf, nr, rfl, f3, r3, new_add F (new_add F (new_add F N r1 r2) f1 f2) t1 t2⟩
end
end Mine
end
section
open PySem PySem.W PySem.Calls PyProof.Rows
set_option Elab.async false
set_option maxRecDepth 100000
namespace Mine
section
variable {h₀ : Heap}
/-- a new pair of lists of ints -/
def NewP (h : Heap) (msf msr : List Int) (h' : Heap) (v : Value) : Prop :=
  ∃ (t f r : Addr) (vf vr : List Value) (nf nr : Nat), v = .ref t ∧ (h.get? t = none ∧ h'.get? t = some { cls := .type "tuple", data := .seq #[.ref f, .ref r] }) ∧
    (h.get? f = none ∧ h'.get? f = some (PySem.W.listOf vf.toArray nf) ∧ IntsAre vf msf) ∧ (h.get? r = none ∧ h'.get? r = some (PySem.W.listOf vr.toArray nr) ∧ IntsAre vr msr)
theorem newP_of {L : Addr} {news : List (Addr × Obj)} {h h' : Heap} {t f r : Addr} {vf vr : List Value} {nf nr : Nat} {msf msr : List Int} (N : News h L h' news)
    (ht : (t, ({ cls := .type "tuple", data := .seq #[.ref f, .ref r] } : Obj)) ∈ news) (hf : (f, PySem.W.listOf vf.toArray nf) ∈ news) (hr : (r, PySem.W.listOf vr.toArray nr) ∈ news) (iF : IntsAre vf msf) (iR : IntsAre vr msr) : NewP h msf msr h' (.ref t) :=
  ⟨t, f, r, vf, vr, nf, nr, rfl, ⟨(N _ ht).2.2, (N _ ht).1⟩, ⟨(N _ hf).2.2, (N _ hf).1, iF⟩, ⟨(N _ hr).2.2, (N _ hr).1, iR⟩⟩
theorem newP_news {L : Addr} {m : Str → Option Value} {news : List (Addr × Obj)} {h h' : Heap} {msf msr : List Int} {v : Value} (F : Fr h₀ L h m) (N : News h₀ L h' news) (hn : NewP h msf msr h' v) :
    ∃ (t f r : Addr) (vf vr : List Value) (nf nr : Nat), v = .ref t ∧ IntsAre vf msf ∧ IntsAre vr msr ∧
      News h₀ L h' ((t, ({ cls := .type "tuple", data := .seq #[.ref f, .ref r] } : Obj)) :: (f, PySem.W.listOf vf.toArray nf) :: (r, PySem.W.listOf vr.toArray nr) :: news) := by
  obtain ⟨t, f, r, vf, vr, nf, nr, rfl, ⟨t1, t2⟩, ⟨f1, f2, f3⟩, ⟨r1, r2, r3⟩⟩ := hn
  exact ⟨t, f, r, vf, vr, nf, nr, rfl, f3, r3, new_add F (new_add F (new_add F N r1 r2) f1 f2) t1 t2⟩
end
end Mine
end
section
open PySem PySem.W PySem.Calls PyProof.Rows
set_option Elab.async false
set_option maxRecDepth 100000
namespace Mine
theorem room_of2 {dp d : Nat} (h : dp + (d + 6) < recursionLimit) : dp + 1 + 1 < recursionLimit := Nat.lt_of_le_of_lt (by omega) h
theorem room_of3 {dp d : Nat} (h : dp + (d + 6) < recursionLimit) : dp + 1 + 1 + 1 < recursionLimit := Nat.lt_of_le_of_lt (by omega) h
theorem room_of4 {dp d : Nat} (h : dp + (d + 6) < recursionLimit) : dp + 1 + 1 + 1 + 1 < recursionLimit := Nat.lt_of_le_of_lt (by omega) h
/-- a call that may turn the objects of pre, and nothing else that stood: g is the heap without them -/
def MCall (w : World) (p : Program) (loose : List Str) (mean : ExcName → Option Value) (mg mb : Str → Option Value) (f : Addr) (vs : List Value) (d u : Nat) (pre : List (Addr × Obj)) (P : Heap → Heap → Value → Prop) (s : Shared) : Prop :=
  ∀ (dp un : Nat) (gd : Option (List Code)) (base g : Heap) (fr : List Env) (Q E : Value → Shared → Prop),
    Amb w p loose mean mg mb base g fr → (∀ b o, g.get? b = some o → s.heap.get? b = some o) → g.objs.size ≤ s.heap.objs.size → CodeHd g 233 229 → (∀ q ∈ pre, s.heap.get? q.1 = some q.2 ∧ g.get? q.1 = none) →
    dp + d < recursionLimit → un + u < cLine →
    (∀ v h' tk', g.StaysIn h' → P g h' v → Q v { s with heap := h', toks := tk' }) →
    wpAny (model PySem.Challenge.rw_nn0016_01.row.prog w) (AA dp un gd fr) (call (.ref f) vs) Q E s
section
variable {w : World} {p : Program} {loose : List Str} {mean : ExcName → Option Value} {mg mb : Str → Option Value} {base g h₀ : Heap} {fr outer : List Env} {s : Shared} {dp un : Nat} {gd : Option (List Code)} {Q E : Value → Shared → Prop}
theorem enterM {name qual : Str} {params : Arguments} {body : List Stmt} {scope : Scope} {dV kV doc pm cdv ct oc : Value} {an od : Option Addr} {osl : Array (Option Value)} {f : Addr} {vs : List Value} {binds : List (Str × Value)} {pre : List (Addr × Obj)}
    (M : Amb w p loose mean mg mb base g fr) (hg : ∀ b o, g.get? b = some o → s.heap.get? b = some o) (hgs : g.objs.size ≤ s.heap.objs.size) (hpre : ∀ q ∈ pre, s.heap.get? q.1 = some q.2 ∧ g.get? q.1 = none)
    (ho : (headK.heap_1 w.params).lookup f = some ⟨oc, od, .func (fnOf name qual params body scope dV kV doc pm an cdv ct), osl⟩) (hcd : codeIn (headK.heap_1 w.params) cdv qual = true) (hroom : dp < recursionLimit)
    (hbind : BindsTo s (fnOf name qual params body scope dV kV doc pm an cdv ct) ⟨vs, []⟩ binds)
    (hkind : (binds.all fun y => scope.names.lookup y.1 == some .local || scope.names.lookup y.1 == some .cell) = true)
    (hnd : ((cellsFrom 0 scope.names []).map (·.1)).Nodup)
    (h : ∀ L' h₁ tk cells, Fr g L' h₁ (bindL (envOfC qual scope L' f cdv).kindOf binds fun _ => none) → News g L' h₁ (cells ++ pre) →
      CellsAre (bindC (envOfC qual scope L' f cdv).kindOf binds fun _ => none) (cellsFrom (L' + 1) scope.names []) cells → AllLt L' pre → Below (AA dp un gd fr) base fr g →
      wpAny (model PySem.Challenge.rw_nn0016_01.row.prog w) ((AA dp un gd fr).deeper (envOfC qual scope L' f cdv)) (execs body (envOfC qual scope L' f cdv))
        (fun fl s' => Q (match fl with | .ret v => v | _ => .none) s') (fun _ _ => False)
        { s with heap := h₁, toks := tk })
    (hco : scope.isCoroutine = false) (hgen : scope.isGenerator = false) (hk : scope.kind = .function) : wpAny (model PySem.Challenge.rw_nn0016_01.row.prog w) (AA dp un gd fr) (call (.ref f) vs) Q E s := by
  refine wpAny_call ?_
  refine codeAny_call_function hroom (hg _ _ (M.X _ _ ho)) rfl hco hgen rfl (codeRec_of (fun b o e => hg b o (M.X b o e)) hcd) (hbind _ _ _ _ ?_)
  refine wpAny_newFunctionEnv_cells hk (kindsX hkind _) fun env' he s' x => ?_
  subst he
  refine ⟨(M.T.nolimit.keeps hg).keeps x.toInCall.keep, codeAny_func ?_⟩
  obtain ⟨h₁, tk, rfl, _⟩ := x.done
  have hk₁ := x.toInCall.keep
  obtain ⟨cells, NC, Y⟩ := Cl.news (h₀ := s.heap) (Nat.le_refl _) fun n c hm => ⟨x.cell n c (lookup_of_mem_nodup (cellsFrom_names scope.names 0 (s.heap.objs.size + 1) [] [] rfl ▸ hnd) hm), x.above n c hm⟩
  refine wpAny_mono (h s.heap.objs.size h₁ tk cells ⟨x.toInCall.ns, fun b o e => hk₁ b o (hg b o e), hgs⟩ (fun q hq => ?_) Y (allLt_of fun q hq => Heap.lt_size (hpre q hq).1) ⟨rfl, M.stays, M.frames⟩) (fun fl s' hl => hl) fun _ _ y => y.elim
  rcases List.mem_append.mp hq with hq | hq
  · refine ⟨(NC q hq).1, (NC q hq).2.1, ?_⟩
    cases e : g.get? q.1 with
    | none => rfl
    | some o => have := hg _ _ e; rw [(NC q hq).2.2] at this; cases this
  · exact ⟨hk₁ _ _ (hpre q hq).1, Nat.ne_of_lt (Heap.lt_size (hpre q hq).1), (hpre q hq).2⟩
end
end Mine
end
section
open PySem PySem.W PySem.Calls PyProof.Rows
set_option Elab.async false
set_option maxRecDepth 100000
namespace Mine
abbrev fsOf (fr : List Env) : List Addr := fr.filterMap (·.frame)
/-- a call that may turn the objects of pre and mark the frames under way, and nothing else that stood: g is the heap without pre -/
def TCall (w : World) (p : Program) (loose : List Str) (mean : ExcName → Option Value) (mg mb : Str → Option Value) (f : Addr) (vs : List Value) (d u : Nat) (pre : List (Addr × Obj)) (P : Heap → Heap → Value → Prop) (s : Shared) : Prop :=
  ∀ (dp un : Nat) (gd : Option (List Code)) (base g : Heap) (fr : List Env) (Q E : Value → Shared → Prop),
    Amb w p loose mean mg mb base g fr → (∀ b o, g.get? b = some o → s.heap.get? b = some o) → g.objs.size ≤ s.heap.objs.size → CodeHd base 233 229 → (∀ q ∈ pre, s.heap.get? q.1 = some q.2 ∧ g.get? q.1 = none) →
    (headK.heap_1 w.params).In base → Top p loose mean mg mb base → KtsDicts (fsOf fr) g →
    dp + d < recursionLimit → un + u < cLine →
    (∀ v h' tk' g', KtsTurn (fsOf fr) g g' → g'.StaysIn h' → P g' h' v → Q v { s with heap := h', toks := tk' }) →
    wpAny (model PySem.Challenge.rw_nn0016_01.row.prog w) (AA dp un gd fr) (call (.ref f) vs) Q E s
section
variable {w : World} {p : Program} {loose : List Str} {mean : ExcName → Option Value} {mg mb : Str → Option Value} {base g h₀ : Heap} {fr outer : List Env} {s : Shared} {dp un : Nat} {gd : Option (List Code)} {Q E : Value → Shared → Prop}
theorem enterT {name qual : Str} {params : Arguments} {body : List Stmt} {scope : Scope} {dV kV doc pm cdv ct oc : Value} {an od : Option Addr} {osl : Array (Option Value)} {f : Addr} {vs : List Value} {binds : List (Str × Value)} {pre : List (Addr × Obj)}
    (M : Amb w p loose mean mg mb base g fr) (hg : ∀ b o, g.get? b = some o → s.heap.get? b = some o) (hgs : g.objs.size ≤ s.heap.objs.size) (hpre : ∀ q ∈ pre, s.heap.get? q.1 = some q.2 ∧ g.get? q.1 = none)
    (ho : (headK.heap_1 w.params).lookup f = some ⟨oc, od, .func (fnOf name qual params body scope dV kV doc pm an cdv ct), osl⟩) (hcd : codeIn (headK.heap_1 w.params) cdv qual = true) (hroom : dp < recursionLimit)
    (hbind : BindsTo s (fnOf name qual params body scope dV kV doc pm an cdv ct) ⟨vs, []⟩ binds) (hloc : ∀ y ∈ binds, scope.names.lookup y.1 = some .local)
    (h : ∀ L' h₁, Fr g L' h₁ (fun y => binds.reverse.lookup y) → News g L' h₁ pre → AllLt L' pre → Below (AA dp un gd fr) base fr g →
      wpAny (model PySem.Challenge.rw_nn0016_01.row.prog w) ((AA dp un gd fr).deeper (envOf qual scope L' f cdv)) (execs body (envOf qual scope L' f cdv))
        (fun fl s' => Q (match fl with | .ret v => v | _ => .none) s') (fun _ _ => False)
        { s with heap := h₁, toks := s.toks + binds.length })
    (hco : scope.isCoroutine = false) (hgen : scope.isGenerator = false) (hk : scope.kind = .function)
    (hcell : ∀ x ∈ scope.names, x.2 ≠ .cell) : wpAny (model PySem.Challenge.rw_nn0016_01.row.prog w) (AA dp un gd fr) (call (.ref f) vs) Q E s := by
  refine wpAny_call ?_
  refine codeAny_call_def (fd := fnOf name qual params body scope dV kV doc pm an cdv ct) (body := body) (binds := binds) hroom (hg _ _ (M.X _ _ ho)) rfl (M.T.nolimit.keeps hg) (codeRec_of (fun b o e => hg b o (M.X b o e)) hcd) rfl hbind hcell hloc (fun h₁ hns hk₁ => ?_) hco hgen hk
  exact wpAny_mono (h s.heap.objs.size h₁ ⟨hns, fun b o e => hk₁ b o (hg b o e), hgs⟩ (fun q hq => ⟨hk₁ _ _ (hpre q hq).1, Nat.ne_of_lt (Heap.lt_size (hpre q hq).1), (hpre q hq).2⟩) (allLt_of fun q hq => Heap.lt_size (hpre q hq).1) ⟨rfl, M.stays, M.frames⟩) (fun fl s' hl => hl) fun _ _ y => y.elim

/-- an exception on its way out of any frame of a def or a lambda -/
theorem leave_onX {M : Model} {A : Around} {g₂ : Heap} {env : Env} {L e t : Addr} {m : Str → Option Value} {cls : Value} {vs : List Value} {news : List (Addr × Obj)} {s' : Shared} {Q : Unit → Shared → Prop} (hf : env.frame = some L) (K : Below A base outer g) (F : Fr g L g₂ m)
    (R : RaisedS base g₂ (env :: outer) e cls t vs news s'.heap) (hsm : g₂.UpToSlots s'.heap)
    (hQ : ∀ h', RaisedS base g outer e cls t vs news h' → RaisedK base outer e cls t vs news h' → g.UpToSlots h' → Q () { s' with heap := h' }) :
    wpAny M (A.deeper env) (leaving env (.ref e)) Q E s' := by
  obtain ⟨⟨B, b1, b2, b3, b4, b5⟩, b6⟩ := R
  refine wpAny_leaves_onW (Around.frames_deeper K.stack) hf b4 fun h' x1 x2 => ?_
  have R' : RaisedS base g outer e cls t vs news h' := by
    refine ⟨⟨B, b1, fun b o q nm => b2 b o (F.keep b o q) fun hm => ?_, fun q hq => ⟨(b3 q hq).1, kts_none F.keep (b3 q hq).2.1, (b3 q hq).2.2⟩, x1, b5⟩, b6.of_slots x2⟩
    obtain ⟨ev, he, hfe⟩ := List.mem_filterMap.mp hm
    rcases List.mem_cons.mp he with rfl | he
    · rw [hf] at hfe
      cases hfe
      have := kts_self F
      rw [this] at q; cases q
    · exact nm (List.mem_filterMap.mpr ⟨ev, he, hfe⟩)
  exact hQ h' R' R'.toK ((Heap.UpToSlots.of_keeps F.keep).trans (hsm.trans x2))

/-- what a caller's frame knows behind such a call -/
theorem TCall.use {f : Addr} {vs : List Value} {d u : Nat} {pre : List (Addr × Obj)} {P : Heap → Heap → Value → Prop} {L : Addr} {m : Str → Option Value} {news : List (Addr × Obj)} {A₀ : Around} {env : Env}
    (C : TCall w p loose mean mg mb f vs d u pre P s)
    (B : Below A₀ base outer h₀) (F : Fr h₀ L s.heap m) (X₀ : (headK.heap_1 w.params).In h₀) (N : News h₀ L s.heap news) (T : Top p loose mean mg mb h₀) (XB : (headK.heap_1 w.params).In base) (TB : Top p loose mean mg mb base)
    (D : KtsDicts (fsOf outer) h₀) (CB : CodeHd base 233 229) (hpre : ∀ q ∈ pre, q ∈ news) (hf : env.frame = some L) (hke : env.scope.kind = .function)
    (hdd : dp + d < recursionLimit) (hu : un + u < cLine)
    (ret : ∀ v h' tk' g' h₀', KtsTurn (fsOf outer) h₀ h₀' → Fr h₀' L h' m → (∀ q ∈ news, (∀ r ∈ pre, r.1 ≠ q.1) → h'.get? q.1 = some q.2) → (∀ q ∈ news, q.1 ≠ L ∧ h₀'.get? q.1 = none) → (∀ b, g'.get? b = none → b ≠ L ∧ h₀'.get? b = none) → (∀ q ∈ news, (∀ r ∈ pre, r.1 ≠ q.1) → g'.get? q.1 ≠ none) →
      Below A₀ base outer h₀' → (headK.heap_1 w.params).In h₀' → Top p loose mean mg mb h₀' → KtsDicts (fsOf outer) h₀' → P g' h' v → Q v { s with heap := h', toks := tk' }) :
    wpAny (model PySem.Challenge.rw_nn0016_01.row.prog w) (AA dp un gd (env :: outer)) (call (.ref f) vs) Q E s := by
  have hnew : base.get? L = none := by
    cases hq : base.get? L with
    | none => rfl
    | some o => exact absurd (Nat.lt_of_lt_of_le (Heap.lt_size (B.stays L o hq)) F.above) (Nat.lt_irrefl _)
  have nm : ∀ b o, h₀.get? b = some o → b ∉ pre.map (fun x : Addr × Obj => x.1) := fun b o e hm => by
    obtain ⟨q, hq, rfl⟩ := List.mem_map.mp hm
    rw [(N q (hpre q hq)).2.2] at e; cases e
  have st : h₀.StaysIn (hideAll s.heap (pre.map (fun x : Addr × Obj => x.1))) := fun b o e => hideAll_get _ (F.keep b o e) (nm b o e)
  obtain ⟨oL, es, ep, hL, hLd, hLk, hLl⟩ := F.ns
  have nL : L ∉ pre.map (fun x : Addr × Obj => x.1) := fun hm => by
    obtain ⟨q, hq, e⟩ := List.mem_map.mp hm
    exact (N q (hpre q hq)).2.1 e
  have hLg : (hideAll s.heap (pre.map (fun x : Addr × Obj => x.1))).get? L = some oL := hideAll_get _ hL nL
  have nL₀ := kts_self F
  have hD : KtsDicts (fsOf (env :: outer)) (hideAll s.heap (pre.map (fun x : Addr × Obj => x.1))) := fun b hb => by
    obtain ⟨ev, he, hfe⟩ := List.mem_filterMap.mp hb
    rcases List.mem_cons.mp he with rfl | he
    · rw [hf] at hfe; cases hfe
      exact ⟨oL, es, ep, hLg, hLd⟩
    · obtain ⟨o, es', n', ho', hd'⟩ := D b (List.mem_filterMap.mpr ⟨ev, he, hfe⟩)
      exact ⟨o, es', n', st b o ho', hd'⟩
  have inv : ∀ b, b ∈ fsOf (env :: outer) → b = L ∨ b ∈ fsOf outer := fun b hb => by
    obtain ⟨ev, he, hfe⟩ := List.mem_filterMap.mp hb
    rcases List.mem_cons.mp he with rfl | he
    · rw [hf] at hfe; cases hfe; exact .inl rfl
    · exact .inr (List.mem_filterMap.mpr ⟨ev, he, hfe⟩)
  refine C dp un gd base (hideAll s.heap (pre.map (fun x : Addr × Obj => x.1))) (env :: outer) Q E ⟨fun b o e => st b o (B.stays b o e), .cons (by rw [hke]; decide) hf ⟨oL, es, ep, hLg, hLd, hLk, hLl⟩ hnew (B.frames.of_keeps fun b o e _ => ⟨o, st b o e, rfl⟩), X₀.keeps st, T.keeps st⟩
    (fun b o e => of_hideAll _ e) (Nat.le_of_eq (hideAll_size _ _)) CB (fun q hq => ⟨(N q (hpre q hq)).1, hideAll_none _ (List.mem_map_of_mem hq)⟩) XB TB hD hdd hu fun v h' tk' g' T' S' hP => ?_
  obtain ⟨T₁, S₁⟩ := kts_turn_at (h := h') (fs := fsOf outer) (g := h₀) (fun b hb => let ⟨o, _, _, ho, _⟩ := D b hb; ⟨o, ho⟩)
    (fun b o e nmem => S' b o (T'.other b o (st b o e) fun hm => by
      rcases inv b hm with z | z
      · rw [z, nL₀] at e; cases e
      · exact nmem z))
    (fun b o e _ => let ⟨sl, hs⟩ := T'.up (st b o e); ⟨sl, S' _ _ hs⟩)
  have B₃ : Below A₀ base outer (ktsHeap h' (fsOf outer) h₀) := ⟨B.stack, fun b o e => T₁.other b o (B.stays b o e) (fun hm => by
    rw [(B.frames.mem hm).1] at e; cases e), B.frames.of_keeps fun b o e _ => let ⟨sl, hs⟩ := T₁.up e; ⟨_, hs, rfl⟩⟩
  obtain ⟨sl, hs⟩ := T'.up hLg
  have kq : ∀ q ∈ news, (∀ r ∈ pre, r.1 ≠ q.1) → g'.get? q.1 = some q.2 := fun q hq hne => T'.other _ _ (hideAll_get _ (N q hq).1 fun hm => by
      obtain ⟨r, hr, e⟩ := List.mem_map.mp hm
      exact hne r hr e) fun hm => by
      rcases inv _ hm with z | z
      · exact (N q hq).2.1 z
      · obtain ⟨o, _, _, ho, _⟩ := D _ z
        rw [(N q hq).2.2] at ho; cases ho
  refine ret v h' tk' g' _ T₁ ⟨⟨_, es, ep, S' _ _ hs, hLd, hLk, hLl⟩, S₁, by rw [T₁.size]; exact F.above⟩ (fun q hq hne => S' _ _ (kq q hq hne)) (fun q hq => ⟨(N q hq).2.1, T₁.none_ _ (N q hq).2.2⟩) (fun b hb => ⟨fun e => ?_, T₁.none_ _ ?_⟩) (fun q hq hne e => by rw [kq q hq hne] at e; cases e) B₃ (XB.keeps B₃.stays) (TB.keeps B₃.stays) (D.turn T₁) hP
  · rw [e, hs] at hb; cases hb
  · cases e : h₀.get? b with
    | none => rfl
    | some o =>
      obtain ⟨sl', hs'⟩ := T'.up (st b o e)
      rw [hs'] at hb; cases hb
/-- the same where the objects of pre come back as they were -/
theorem TCall.useKeep {f : Addr} {vs : List Value} {d u : Nat} {pre : List (Addr × Obj)} {P : Heap → Heap → Value → Prop} {L : Addr} {m : Str → Option Value} {news : List (Addr × Obj)} {A₀ : Around} {env : Env}
    (C : TCall w p loose mean mg mb f vs d u pre (fun g' h' v => (∀ r ∈ pre, h'.get? r.1 = some r.2) ∧ P g' h' v) s)
    (B : Below A₀ base outer h₀) (F : Fr h₀ L s.heap m) (X₀ : (headK.heap_1 w.params).In h₀) (N : News h₀ L s.heap news) (T : Top p loose mean mg mb h₀) (XB : (headK.heap_1 w.params).In base) (TB : Top p loose mean mg mb base)
    (D : KtsDicts (fsOf outer) h₀) (CB : CodeHd base 233 229) (hpre : ∀ q ∈ pre, q ∈ news) (hf : env.frame = some L) (hke : env.scope.kind = .function)
    (hdd : dp + d < recursionLimit) (hu : un + u < cLine)
    (ret : ∀ v h' tk' g' h₀', KtsTurn (fsOf outer) h₀ h₀' → Fr h₀' L h' m → News h₀' L h' news → (∀ b, g'.get? b = none → b ≠ L ∧ h₀'.get? b = none) →
      Below A₀ base outer h₀' → (headK.heap_1 w.params).In h₀' → Top p loose mean mg mb h₀' → KtsDicts (fsOf outer) h₀' → P g' h' v → Q v { s with heap := h', toks := tk' }) :
    wpAny (model PySem.Challenge.rw_nn0016_01.row.prog w) (AA dp un gd (env :: outer)) (call (.ref f) vs) Q E s := by
  refine C.use B F X₀ N T XB TB D CB hpre hf hke hdd hu fun v h' tk' g' h₀' T₁ F' k1 k2 k3 _ B' X' Tp' D' hP => ret v h' tk' g' h₀' T₁ F' (fun q hq => ⟨?_, k2 q hq⟩) k3 B' X' Tp' D' hP.2
  by_cases hx : ∀ r ∈ pre, r.1 ≠ q.1
  · exact k1 q hq hx
  · obtain ⟨r, hx⟩ := Classical.not_forall.mp hx
    obtain ⟨hr, hx⟩ := Classical.not_imp.mp hx
    have e := Classical.not_not.mp hx
    have h1 := hP.1 r hr
    have h2 := (N r (hpre r hr)).1
    rw [e, (N q hq).1] at h2
    rw [e, ← h2] at h1
    exact h1
end
end Mine
end
section
open PySem PySem.W PySem.Calls PyProof.Rows
set_option Elab.async false
set_option maxRecDepth 100000
namespace Mine
/-- a call that changes nothing that stood, and that may end in an exception -/
def RCall (w : World) (p : Program) (loose : List Str) (mean : ExcName → Option Value) (mg mb : Str → Option Value) (f : Addr) (vs : List Value) (d u : Nat) (P : Heap → Value → Prop) (R : Value → Prop) (s : Shared) : Prop :=
  ∀ (dp un : Nat) (gd : Option (List Code)) (base : Heap) (fr : List Env) (Q E : Value → Shared → Prop),
    Amb w p loose mean mg mb base s.heap fr → (headK.heap_1 w.params).In base → Top p loose mean mg mb base → KtsDicts (fsOf fr) s.heap →
    dp + d < recursionLimit → un + u < cLine →
    (∀ v h' tk', s.heap.StaysIn h' → P h' v → Q v { s with heap := h', toks := tk' }) →
    (∀ e cls t xs h' tk', RaisedS base s.heap fr e cls t xs [] h' → s.heap.UpToSlots h' → R cls → E (.ref e) { s with heap := h', toks := tk' }) →
    wpAny (model PySem.Challenge.rw_nn0016_01.row.prog w) (AA dp un gd fr) (call (.ref f) vs) Q E s
section
variable {w : World} {p : Program} {loose : List Str} {mean : ExcName → Option Value} {mg mb : Str → Option Value} {base h₀ : Heap} {fr outer : List Env} {s : Shared} {dp un : Nat} {gd : Option (List Code)} {Q E : Value → Shared → Prop}
theorem enterR {name qual : Str} {params : Arguments} {body : List Stmt} {scope : Scope} {dV kV doc pm cdv ct oc : Value} {an od : Option Addr} {osl : Array (Option Value)} {f : Addr} {vs : List Value} {binds : List (Str × Value)}
    (M : Amb w p loose mean mg mb base s.heap fr)
    (ho : (headK.heap_1 w.params).lookup f = some ⟨oc, od, .func (fnOf name qual params body scope dV kV doc pm an cdv ct), osl⟩) (hcd : codeIn (headK.heap_1 w.params) cdv qual = true) (hroom : dp < recursionLimit)
    (hbind : BindsTo s (fnOf name qual params body scope dV kV doc pm an cdv ct) ⟨vs, []⟩ binds) (hloc : ∀ y ∈ binds, scope.names.lookup y.1 = some .local)
    (h : ∀ L' h₁, Fr s.heap L' h₁ (fun y => binds.reverse.lookup y) → News s.heap L' h₁ [] → Below (AA dp un gd fr) base fr s.heap →
      wpAny (model PySem.Challenge.rw_nn0016_01.row.prog w) ((AA dp un gd fr).deeper (envOf qual scope L' f cdv)) (execs body (envOf qual scope L' f cdv))
        (fun fl s' => Q (match fl with | .ret v => v | _ => .none) s')
        (fun e s' => wpAny (model PySem.Challenge.rw_nn0016_01.row.prog w) ((AA dp un gd fr).deeper (envOf qual scope L' f cdv)) (leaving (envOf qual scope L' f cdv) e) (fun _ s'' => E e s'') (fun e' s'' => E e' s'') s')
        { s with heap := h₁, toks := s.toks + binds.length })
    (hco : scope.isCoroutine = false) (hgen : scope.isGenerator = false) (hk : scope.kind = .function)
    (hcell : ∀ x ∈ scope.names, x.2 ≠ .cell) : wpAny (model PySem.Challenge.rw_nn0016_01.row.prog w) (AA dp un gd fr) (call (.ref f) vs) Q E s := by
  refine wpAny_call ?_
  refine codeAny_call_def (fd := fnOf name qual params body scope dV kV doc pm an cdv ct) (body := body) (binds := binds) hroom (M.X _ _ ho) rfl M.T.nolimit (codeRec_of M.X hcd) rfl hbind hcell hloc (fun h₁ hns hk₁ => ?_) hco hgen hk
  exact wpAny_mono (h s.heap.objs.size h₁ ⟨hns, hk₁, Nat.le_refl _⟩ News.nil ⟨rfl, M.stays, M.frames⟩) (fun fl s' hl => hl) fun _ _ y => y
theorem RCall.use {f : Addr} {vs : List Value} {d u : Nat} {P : Heap → Value → Prop} {R : Value → Prop} {L : Addr} {m : Str → Option Value} {news : List (Addr × Obj)} {A₀ : Around} {env : Env}
    (C : RCall w p loose mean mg mb f vs d u P R s)
    (B : Below A₀ base outer h₀) (F : Fr h₀ L s.heap m) (X₀ : (headK.heap_1 w.params).In h₀) (N : News h₀ L s.heap news) (T : Top p loose mean mg mb h₀) (XB : (headK.heap_1 w.params).In base) (TB : Top p loose mean mg mb base)
    (D : KtsDicts (fsOf outer) h₀) (hf : env.frame = some L) (hke : env.scope.kind = .function)
    (hdd : dp + d < recursionLimit) (hu : un + u < cLine)
    (ret : ∀ v h' tk', Fr h₀ L h' m → News h₀ L h' news → s.heap.StaysIn h' → P h' v → Q v { s with heap := h', toks := tk' })
    (exc : ∀ g e cls t xs h' tk', Fr h₀ L g m → RaisedS base g (env :: outer) e cls t xs news h' → g.UpToSlots h' → R cls → E (.ref e) { s with heap := h', toks := tk' }) :
    wpAny (model PySem.Challenge.rw_nn0016_01.row.prog w) (AA dp un gd (env :: outer)) (call (.ref f) vs) Q E s := by
  have hnew : base.get? L = none := by
    cases hq : base.get? L with
    | none => rfl
    | some o => exact absurd (Nat.lt_of_lt_of_le (Heap.lt_size (B.stays L o hq)) F.above) (Nat.lt_irrefl _)
  have st : h₀.StaysIn (hideAll s.heap (news.map (fun x : Addr × Obj => x.1))) := fun b o e => hideAll_get _ (F.keep b o e) fun hm => by
    obtain ⟨q, hq, rfl⟩ := List.mem_map.mp hm
    rw [(N q hq).2.2] at e; cases e
  have sh : ∀ b o, (hideAll s.heap (news.map (fun x : Addr × Obj => x.1))).get? b = some o → s.heap.get? b = some o := fun b o e => of_hideAll _ e
  obtain ⟨oL, es, ep, hL, hLd, hLk, hLl⟩ := F.ns
  have nL : L ∉ news.map (fun x : Addr × Obj => x.1) := fun hm => by
    obtain ⟨q, hq, e⟩ := List.mem_map.mp hm
    exact (N q hq).2.1 e
  have hLg : (hideAll s.heap (news.map (fun x : Addr × Obj => x.1))).get? L = some oL := hideAll_get _ hL nL
  have hD : KtsDicts (fsOf (env :: outer)) s.heap := fun b hb => by
    obtain ⟨ev, he, hfe⟩ := List.mem_filterMap.mp hb
    rcases List.mem_cons.mp he with rfl | he
    · rw [hf] at hfe; cases hfe
      exact ⟨oL, es, ep, hL, hLd⟩
    · obtain ⟨o, es', n', ho', hd'⟩ := D b (List.mem_filterMap.mpr ⟨ev, he, hfe⟩)
      exact ⟨o, es', n', F.keep b o ho', hd'⟩
  refine C dp un gd base (env :: outer) Q E ⟨fun b o e => F.keep b o (B.stays b o e), .cons (by rw [hke]; decide) hf F.ns hnew (B.frames.of_keeps fun b o e _ => ⟨o, F.keep b o e, rfl⟩), X₀.keeps F.keep, T.keeps F.keep⟩
    XB TB hD hdd hu (fun v h' tk' S' hP => ret v h' tk' (F.after S') (N.grown S') S' hP)
    (fun e cls t xs h' tk' S' U' hR => exc (hideAll s.heap (news.map (fun x : Addr × Obj => x.1))) e cls t xs h' tk' ⟨⟨oL, es, ep, hLg, hLd, hLk, hLl⟩, st, F.above⟩ ?_ ((Heap.UpToSlots.of_keeps sh).trans U') hR)
  obtain ⟨⟨B', b1, b2, _, b4, b5⟩, b6⟩ := S'
  refine ⟨⟨B', b1, fun b o q nm => b2 b o (sh b o q) nm, fun q hq => ⟨b2 q.1 q.2 (N q hq).1 fun hm => ?_, hideAll_none _ (List.mem_map_of_mem hq), ?_⟩, b4, b5⟩, b6⟩
  · obtain ⟨ev, he, hfe⟩ := List.mem_filterMap.mp hm
    rcases List.mem_cons.mp he with rfl | he
    · rw [hf] at hfe; cases hfe
      exact (N q hq).2.1 rfl
    · obtain ⟨o, _, _, ho, _⟩ := D q.1 (List.mem_filterMap.mpr ⟨ev, he, hfe⟩)
      rw [(N q hq).2.2] at ho; cases ho
  · cases e : base.get? q.1 with
    | none => rfl
    | some o => have := B.stays _ _ e; rw [(N q hq).2.2] at this; cases this
end
end Mine
namespace Mine
theorem raisedS_nil {base g : Heap} {fr : List Env} {e t : Addr} {cls : Value} {xs : List Value} {news : List (Addr × Obj)} {h : Heap} (R : RaisedS base g fr e cls t xs news h) : RaisedS base g fr e cls t xs [] h :=
  ⟨let ⟨B, b1, b2, _, b4, b5⟩ := R.1; ⟨B, b1, b2, (fun _ hq => nomatch hq), b4, b5⟩, R.2⟩
end Mine
namespace Mine
theorem ktsDicts_push {g g' : Heap} {L : Addr} {m : Str → Option Value} {env : Env} {outer : List Env} (hf : env.frame = some L) (F : Fr g L g' m) (D : KtsDicts (fsOf outer) g) : KtsDicts (fsOf (env :: outer)) g' := fun b hb => by
  obtain ⟨oL, es, ep, hL, hLd, _⟩ := F.ns
  obtain ⟨ev, he, hfe⟩ := List.mem_filterMap.mp hb
  rcases List.mem_cons.mp he with rfl | he
  · rw [hf] at hfe; cases hfe
    exact ⟨oL, es, ep, hL, hLd⟩
  · obtain ⟨o, es', n', ho', hd'⟩ := D b (List.mem_filterMap.mpr ⟨ev, he, hfe⟩)
    exact ⟨o, es', n', F.keep b o ho', hd'⟩
end Mine
namespace Mine
theorem news_cons {h₀ h' : Heap} {L l : Addr} {o : Obj} {news : List (Addr × Obj)} (N : News h₀ L h' news) (hk : l ≠ L ∧ h₀.get? l = none) (ho : h'.get? l = some o) : News h₀ L h' ((l, o) :: news) := fun q hq => by
  rcases List.mem_cons.mp hq with rfl | hq
  · exact ⟨ho, hk.1, hk.2⟩
  · exact N q hq
theorem news_ne {h₀ h' : Heap} {L a b : Addr} {o o' : Obj} {news : List (Addr × Obj)} (N : News h₀ L h' news) (ha : (a, o) ∈ news) (hb : (b, o') ∈ news) (hc : o.cls ≠ o'.cls) : @Ne Nat a b := fun e => by
  have h1 := (N _ ha).1
  have h2 := (N _ hb).1
  simp only at h1 h2
  rw [show a = b from e, h2] at h1
  cases h1
  exact hc rfl
theorem log2_small {y : Int} (h : Builtin.Int.intBits y ≤ 9000) (hy : y ≠ 0) : y.natAbs.log2 < 9000 := by
  unfold Builtin.Int.intBits at h
  have : (y == 0) = false := by simpa using hy
  rw [this] at h
  simp only [Bool.false_eq_true, if_false] at h
  omega
end Mine
end
section
open PySem PySem.W PySem.Calls PyProof.Rows
set_option Elab.async false
set_option maxRecDepth 100000
namespace Mine
/-- the table of the two lambdas, once both were met -/
abbrev Tab (c1 c2 : Addr) : Obj := tabObj (#[] ++ #[rawInt ((176 : Nat) : Int), rawInt ((17 : Nat) : Int), Value.ref c1] ++ #[rawInt ((178 : Nat) : Int), rawInt ((17 : Nat) : Int), Value.ref c2])
/-- the code of a lambda -/
def CodeO (o : Obj) : Prop := ∃ vs t, o.data = .fields vs ∧ vs[1]? = some (.str ((Str.ofString "_law_right" ++ Str.ofString ".<locals>.") ++ Str.ofString "<lambda>") t)
def PostA (g' h' : Heap) (v : Value) : Prop := v = .bool true ∧ ∃ c1 o1 c2 o2, CodeO o1 ∧ CodeO o2 ∧
  (h'.get? 229 = some (Tab c1 c2) ∧ g'.get? 229 = none) ∧ (h'.get? c1 = some o1 ∧ g'.get? c1 = none) ∧ (h'.get? c2 = some o2 ∧ g'.get? c2 = none)
theorem postA_of {g' h' : Heap} {L : Addr} {news : List (Addr × Obj)} {b : Bool} {c1 c2 : Addr} {o1 o2 : Obj} (hb : b = true) (N : News g' L h' news) (m0 : (229, Tab c1 c2) ∈ news) (m1 : (c1, o1) ∈ news) (m2 : (c2, o2) ∈ news) (k1 : CodeO o1) (k2 : CodeO o2) : PostA g' h' (.bool b) :=
  ⟨by rw [hb], c1, o1, c2, o2, k1, k2, ⟨(N _ m0).1, (N _ m0).2.2⟩, ⟨(N _ m1).1, (N _ m1).2.2⟩, ⟨(N _ m2).1, (N _ m2).2.2⟩⟩
end Mine
end
section
open PySem PySem.W PySem.Calls PyProof.Rows
set_option Elab.async false
set_option maxRecDepth 100000
namespace Mine
section
variable {w : World} {p : Program} {loose : List Str} {mean : ExcName → Option Value} {mg mb : Str → Option Value} {h₀ : Heap} {s : Shared} {dp un : Nat} {gd : Option (List Code)} {Q E : Value → Shared → Prop}
theorem turn_nil {h h' : Heap} (T : KtsTurn [] h h') : (∀ b o, h.get? b = some o → h'.get? b = some o) ∧ (∀ b, h'.get? b = none → h.get? b = none) :=
  ⟨fun b o e => T.other b o e (fun hm => nomatch hm), fun b e => by
    cases q : h.get? b with
    | none => rfl
    | some o => have := T.other b o q (fun hm => nomatch hm); rw [e] at this; cases this⟩
theorem turn_fr {h h' g : Heap} {L : Addr} {m : Str → Option Value} (T : KtsTurn [] h h') (F : Fr h' L g m) : Fr h L g m := ⟨F.ns, fun b o e => F.keep b o ((turn_nil T).1 b o e), by rw [← T.size]; exact F.above⟩
theorem TCall.useTopA {f : Addr} {vs : List Value} {d u : Nat} {L : Addr} {m : Str → Option Value} {news : List (Addr × Obj)} {gg : Obj → List (Addr × Obj)} {A₀ : Around} {env : Env}
    (C : TCall w p loose mean mg mb f vs d u [(229, tabObj #[])] PostA s)
    (B : Below A₀ h₀ [] h₀) (F : Fr h₀ L s.heap m) (X₀ : (headK.heap_1 w.params).In h₀) (N : News h₀ L s.heap news) (T : Top p loose mean mg mb h₀) (CB : CodeHd h₀ 233 229) (U : UpdF 229 (tabObj #[]) news gg) (hf : env.frame = some L) (hke : env.scope.kind = .function)
    (hdd : dp + d < recursionLimit) (hu : un + u < cLine)
    (ret : ∀ h' tk' c1 o1 c2 o2, CodeO o1 → CodeO o2 → AllNe c1 (gg (Tab c1 c2)) → AllNe c2 (gg (Tab c1 c2)) → Fr h₀ L h' m → News h₀ L h' ((c1, o1) :: (c2, o2) :: gg (Tab c1 c2)) → Q (.bool true) { s with heap := h', toks := tk' }) :
    wpAny (model PySem.Challenge.rw_nn0016_01.row.prog w) (AA dp un gd [env]) (call (.ref f) vs) Q E s := by
  obtain ⟨pre, post, e1, e2, n1, n2⟩ := U.split
  have m0 : ((229 : Addr), tabObj #[]) ∈ news := by rw [e1]; exact List.mem_append_right _ (.head _)
  refine C.use (outer := []) B F X₀ N T X₀ T ktsDicts_nil CB (fun q hq => by rw [List.mem_singleton.mp hq]; exact m0) hf hke hdd hu fun v h' tk' g' h₀' T₁ F' k1 k2 k3 k4 _ _ _ _ hP => ?_
  obtain ⟨rfl, c1, o1, c2, o2, q1, q2, t1, t2, t3⟩ := hP
  have fresh : ∀ b, g'.get? b = none → b ≠ L ∧ h₀.get? b = none := fun b e => ⟨(k3 b e).1, (turn_nil T₁).2 _ (k3 b e).2⟩
  have ne9 : ∀ c o, CodeO o → h'.get? c = some o → c ≠ 229 := fun c o ⟨vs, t, d1, d2⟩ e q => by
    rw [q, t1.1] at e
    cases e
    cases d1
    cases d2
  have ne : ∀ c o, CodeO o → h'.get? c = some o → g'.get? c = none → AllNe c (gg (Tab c1 c2)) := fun c o k e z => allNe_of fun q hq => by
    rw [e2] at hq
    rcases List.mem_append.mp hq with hq | hq
    · exact fun x => k4 q (by rw [e1]; exact List.mem_append_left _ hq) (fun r hr => by rw [List.mem_singleton.mp hr]; exact fun y => n1 q hq y.symm) (by rw [x]; exact z)
    rcases List.mem_cons.mp hq with rfl | hq
    · exact fun x => ne9 c o k e x.symm
    · exact fun x => k4 q (by rw [e1]; exact List.mem_append_right _ (.tail _ hq)) (fun r hr => by rw [List.mem_singleton.mp hr]; exact fun y => n2 q hq y.symm) (by rw [x]; exact z)
  refine ret h' tk' c1 o1 c2 o2 q1 q2 (ne _ _ q1 t2.1 t2.2) (ne _ _ q2 t3.1 t3.2) (turn_fr T₁ F') fun q hq => ?_
  rcases List.mem_cons.mp hq with rfl | hq
  · exact ⟨t2.1, fresh _ t2.2⟩
  rcases List.mem_cons.mp hq with rfl | hq
  · exact ⟨t3.1, fresh _ t3.2⟩
  rw [e2] at hq
  have old : ∀ q, q ∈ news → q.1 ≠ 229 → h'.get? q.1 = some q.2 ∧ q.1 ≠ L ∧ h₀.get? q.1 = none := fun q hm hne =>
    ⟨k1 q hm (fun r hr => by rw [List.mem_singleton.mp hr]; exact fun e => hne e.symm), (k2 q hm).1, (turn_nil T₁).2 _ (k2 q hm).2⟩
  rcases List.mem_append.mp hq with hq | hq
  · exact old q (by rw [e1]; exact List.mem_append_left _ hq) (n1 q hq)
  rcases List.mem_cons.mp hq with rfl | hq
  · exact ⟨t1.1, fresh _ t1.2⟩
  · exact old q (by rw [e1]; exact List.mem_append_right _ (.tail _ hq)) (n2 q hq)
theorem TCall.useTopB {f : Addr} {vs : List Value} {d u : Nat} {L : Addr} {m : Str → Option Value} {news pre : List (Addr × Obj)} {A₀ : Around} {env : Env}
    (C : TCall w p loose mean mg mb f vs d u pre (fun g' h' v => (∀ r ∈ pre, h'.get? r.1 = some r.2) ∧ v = .bool true) s)
    (B : Below A₀ h₀ [] h₀) (F : Fr h₀ L s.heap m) (X₀ : (headK.heap_1 w.params).In h₀) (N : News h₀ L s.heap news) (T : Top p loose mean mg mb h₀) (CB : CodeHd h₀ 233 229) (hpre : ∀ q ∈ pre, q ∈ news) (hf : env.frame = some L) (hke : env.scope.kind = .function)
    (hdd : dp + d < recursionLimit) (hu : un + u < cLine)
    (ret : ∀ h' tk', Fr h₀ L h' m → News h₀ L h' news → Q (.bool true) { s with heap := h', toks := tk' }) :
    wpAny (model PySem.Challenge.rw_nn0016_01.row.prog w) (AA dp un gd [env]) (call (.ref f) vs) Q E s := by
  refine TCall.useKeep (P := fun _ _ v => v = .bool true) C (outer := []) B F X₀ N T X₀ T ktsDicts_nil CB hpre hf hke hdd hu fun v h' tk' g' h₀' T₁ F' N' k3 _ _ _ _ hP => ?_
  subst hP
  exact ret h' tk' (turn_fr T₁ F') fun q hq => ⟨(N' q hq).1, (N' q hq).2.1, (turn_nil T₁).2 _ (N' q hq).2.2⟩
end
end Mine
end
section
open PySem PySem.W PySem.Calls PyProof.Rows
set_option Elab.async false
set_option maxRecDepth 100000
namespace Mine
theorem lim0 {dp k L : Nat} (h : dp + k < L) : dp < L := Nat.lt_of_le_of_lt (Nat.le_add_right dp k) h
theorem lim1 {dp a k L : Nat} (h : dp + k < L) (e : a ≤ k) : dp + a < L := Nat.lt_of_le_of_lt (Nat.add_le_add_left e dp) h
theorem lim2 {dp a b k L : Nat} (h : dp + k < L) (e : a + b ≤ k) : dp + a + b < L := by rw [Nat.add_assoc]; exact lim1 h e
theorem lim3 {dp a b c k L : Nat} (h : dp + k < L) (e : a + b + c ≤ k) : dp + a + b + c < L := by rw [Nat.add_assoc dp a b]; exact lim2 h e
theorem lim4 {dp a b c d k L : Nat} (h : dp + k < L) (e : a + b + c + d ≤ k) : dp + a + b + c + d < L := by rw [Nat.add_assoc dp a b]; exact lim3 h e
theorem lt_lt {n k m : Nat} (h : n < k) (e : k ≤ m) : n < m := Nat.lt_of_lt_of_le h e
theorem le_lt {n k m : Nat} (h : n ≤ k) (e : k < m) : n < m := Nat.lt_of_le_of_lt h e
theorem lt_le {n k m : Nat} (h : n < k) (e : k ≤ m + 1) : n ≤ m := Nat.le_of_lt_succ (Nat.lt_of_lt_of_le h e)
theorem le_le {n k m : Nat} (h : n ≤ k) (e : k ≤ m) : n ≤ m := Nat.le_trans h e
theorem szline {n k : Nat} (h : n < k) (e : k ≤ 16777216) : n ≤ 16777216 := Nat.le_of_lt (Nat.lt_of_lt_of_le h e)
section
variable {w : World} {p : Program} {loose : List Str} {mean : ExcName → Option Value} {mg mb : Str → Option Value} {base h₀ : Heap} {fr outer : List Env} {s : Shared} {dp un : Nat} {gd : Option (List Code)} {Q E : Value → Shared → Prop}
variable {f : Addr} {vs : List Value} {d u : Nat} {L : Addr} {m : Str → Option Value} {news : List (Addr × Obj)} {A₀ : Around} {env : Env}
/-- a call that gives an int -/
theorem PCall.useI {R : Int → Prop} (C : PCall w p loose mean mg mb f vs d u (fun _ v => ∃ (r : Int) (tk : Tok), v = .int r tk ∧ R r) s)
    (B : Below A₀ base outer h₀) (F : Fr h₀ L s.heap m) (X₀ : (headK.heap_1 w.params).In h₀) (N : News h₀ L s.heap news) (T : Top p loose mean mg mb h₀) (hf : env.frame = some L) (hke : env.scope.kind = .function)
    (hd : dp + d < recursionLimit) (hu : un + u < cLine)
    (ret : ∀ r h' tk' t, Fr h₀ L h' m → News h₀ L h' news → R r → Q (.int r t) { s with heap := h', toks := tk' }) :
    wpAny (model PySem.Challenge.rw_nn0016_01.row.prog w) (AA dp un gd (env :: outer)) (call (.ref f) vs) Q E s :=
  PCall.use C B F X₀ N T hf hke hd hu (by rintro v h' tk' F' N' _ ⟨r, t, rfl, hR⟩; exact ret r h' tk' t F' N' hR)
/-- a call that gives a natural number -/
theorem PCall.useNat {R : Nat → Prop} (C : PCall w p loose mean mg mb f vs d u (fun _ v => ∃ (r : Nat) (tk : Tok), v = .int r tk ∧ R r) s)
    (B : Below A₀ base outer h₀) (F : Fr h₀ L s.heap m) (X₀ : (headK.heap_1 w.params).In h₀) (N : News h₀ L s.heap news) (T : Top p loose mean mg mb h₀) (hf : env.frame = some L) (hke : env.scope.kind = .function)
    (hd : dp + d < recursionLimit) (hu : un + u < cLine)
    (ret : ∀ (r : Nat) h' tk' t, Fr h₀ L h' m → News h₀ L h' news → R r → Q (.int r t) { s with heap := h', toks := tk' }) :
    wpAny (model PySem.Challenge.rw_nn0016_01.row.prog w) (AA dp un gd (env :: outer)) (call (.ref f) vs) Q E s :=
  PCall.use C B F X₀ N T hf hke hd hu (by rintro v h' tk' F' N' _ ⟨r, t, rfl, hR⟩; exact ret r h' tk' t F' N' hR)
/-- a call that gives a bool -/
theorem PCall.useB {R : Bool → Prop} (C : PCall w p loose mean mg mb f vs d u (fun _ v => ∃ bl, v = .bool bl ∧ R bl) s)
    (B : Below A₀ base outer h₀) (F : Fr h₀ L s.heap m) (X₀ : (headK.heap_1 w.params).In h₀) (N : News h₀ L s.heap news) (T : Top p loose mean mg mb h₀) (hf : env.frame = some L) (hke : env.scope.kind = .function)
    (hd : dp + d < recursionLimit) (hu : un + u < cLine)
    (ret : ∀ r h' tk', Fr h₀ L h' m → News h₀ L h' news → R r → Q (.bool r) { s with heap := h', toks := tk' }) :
    wpAny (model PySem.Challenge.rw_nn0016_01.row.prog w) (AA dp un gd (env :: outer)) (call (.ref f) vs) Q E s :=
  PCall.use C B F X₀ N T hf hke hd hu (by rintro v h' tk' F' N' _ ⟨r, rfl, hR⟩; exact ret r h' tk' F' N' hR)
/-- a call that gives a new list of ints -/
theorem PCall.useN {R : List Int → Prop} (C : PCall w p loose mean mg mb f vs d u (fun h' v => ∃ ms, NewL s.heap ms h' v ∧ R ms) s)
    (B : Below A₀ base outer h₀) (F : Fr h₀ L s.heap m) (X₀ : (headK.heap_1 w.params).In h₀) (N : News h₀ L s.heap news) (T : Top p loose mean mg mb h₀) (hf : env.frame = some L) (hke : env.scope.kind = .function)
    (hd : dp + d < recursionLimit) (hu : un + u < cLine)
    (ret : ∀ ms l vs n h' tk', Fr h₀ L h' m → IntsAre vs ms → News h₀ L h' ((l, PySem.W.listOf vs.toArray n) :: news) → R ms → Q (.ref l) { s with heap := h', toks := tk' }) :
    wpAny (model PySem.Challenge.rw_nn0016_01.row.prog w) (AA dp un gd (env :: outer)) (call (.ref f) vs) Q E s :=
  PCall.use C B F X₀ N T hf hke hd hu (by
    rintro v h' tk' F' N' _ ⟨ms, nl, hR⟩
    obtain ⟨l, vs, n, rfl, i, _, _, N''⟩ := newL_news F N N' nl
    exact ret ms l vs n h' tk' F' i N'' hR)
theorem PCall.useNK {R : List Int → Prop} (C : PCall w p loose mean mg mb f vs d u (fun h' v => ∃ ms, NewL s.heap ms h' v ∧ R ms) s)
    (B : Below A₀ base outer h₀) (F : Fr h₀ L s.heap m) (X₀ : (headK.heap_1 w.params).In h₀) (N : News h₀ L s.heap news) (T : Top p loose mean mg mb h₀) (hf : env.frame = some L) (hke : env.scope.kind = .function)
    (hd : dp + d < recursionLimit) (hu : un + u < cLine)
    (ret : ∀ ms l vs n h' tk', Fr h₀ L h' m → IntsAre vs ms → News h₀ L h' ((l, PySem.W.listOf vs.toArray n) :: news) → AllNe l news → @Ne Nat l L → R ms → Q (.ref l) { s with heap := h', toks := tk' }) :
    wpAny (model PySem.Challenge.rw_nn0016_01.row.prog w) (AA dp un gd (env :: outer)) (call (.ref f) vs) Q E s :=
  PCall.use C B F X₀ N T hf hke hd hu (by
    rintro v h' tk' F' N' _ ⟨ms, nl, hR⟩
    obtain ⟨l, vs, n, rfl, i, n1, n2, N''⟩ := newL_news F N N' nl
    exact ret ms l vs n h' tk' F' i N'' n1 n2 hR)
/-- None, or a new list of ints -/
theorem PCall.useO {A B' : Prop} {R : List Int → Prop} (C : PCall w p loose mean mg mb f vs d u (fun h' v => (v = .none ∧ A) ∨ (B' ∧ ∃ ms, NewL s.heap ms h' v ∧ R ms)) s)
    (B : Below A₀ base outer h₀) (F : Fr h₀ L s.heap m) (X₀ : (headK.heap_1 w.params).In h₀) (N : News h₀ L s.heap news) (T : Top p loose mean mg mb h₀) (hf : env.frame = some L) (hke : env.scope.kind = .function)
    (hd : dp + d < recursionLimit) (hu : un + u < cLine)
    (ret0 : ∀ h' tk', Fr h₀ L h' m → News h₀ L h' news → A → Q .none { s with heap := h', toks := tk' })
    (ret1 : ∀ ms l vs n h' tk', Fr h₀ L h' m → IntsAre vs ms → News h₀ L h' ((l, PySem.W.listOf vs.toArray n) :: news) → B' → R ms → Q (.ref l) { s with heap := h', toks := tk' }) :
    wpAny (model PySem.Challenge.rw_nn0016_01.row.prog w) (AA dp un gd (env :: outer)) (call (.ref f) vs) Q E s :=
  PCall.use C B F X₀ N T hf hke hd hu (by
    rintro v h' tk' F' N' _ (⟨rfl, hA⟩ | ⟨hB, ms, nl, hR⟩)
    · exact ret0 h' tk' F' N' hA
    · obtain ⟨l, vs, n, rfl, i, _, _, N''⟩ := newL_news F N N' nl
      exact ret1 ms l vs n h' tk' F' i N'' hB hR)
/-- None, or a new pair of lists of ints -/
theorem PCall.useP {R : Nat → Prop} {A B' : Nat → Prop} {S : Nat → List Int → List Int → Prop} (C : PCall w p loose mean mg mb f vs d u (fun h' v => ∃ t, R t ∧ ((v = .none ∧ A t) ∨ (B' t ∧ ∃ mf mr, NewP s.heap mf mr h' v ∧ S t mf mr))) s)
    (B : Below A₀ base outer h₀) (F : Fr h₀ L s.heap m) (X₀ : (headK.heap_1 w.params).In h₀) (N : News h₀ L s.heap news) (T : Top p loose mean mg mb h₀) (hf : env.frame = some L) (hke : env.scope.kind = .function)
    (hd : dp + d < recursionLimit) (hu : un + u < cLine)
    (ret0 : ∀ t h' tk', Fr h₀ L h' m → News h₀ L h' news → R t → A t → Q .none { s with heap := h', toks := tk' })
    (ret1 : ∀ (t : Nat) mf mr (pU fU rU : Addr) (vf vr : List Value) (nf nr : Nat) h' tk', Fr h₀ L h' m → IntsAre vf mf → IntsAre vr mr →
      News h₀ L h' ((pU, ({ cls := .type "tuple", data := .seq #[.ref fU, .ref rU] } : Obj)) :: (fU, PySem.W.listOf vf.toArray nf) :: (rU, PySem.W.listOf vr.toArray nr) :: news) → R t → B' t → S t mf mr → Q (.ref pU) { s with heap := h', toks := tk' }) :
    wpAny (model PySem.Challenge.rw_nn0016_01.row.prog w) (AA dp un gd (env :: outer)) (call (.ref f) vs) Q E s :=
  PCall.use C B F X₀ N T hf hke hd hu (by
    rintro v h' tk' F' N' _ ⟨t, hR, ⟨rfl, hA⟩ | ⟨hB, mf, mr, nP, hS⟩⟩
    · exact ret0 t h' tk' F' N' hR hA
    · obtain ⟨pU, fU, rU, vf, vr, nf, nr, rfl, i1, i2, N''⟩ := newP_news F N' nP
      exact ret1 t mf mr pU fU rU vf vr nf nr h' tk' F' i1 i2 N'' hR hB hS)
/-- a new tuple: list, bool, list -/
theorem PCall.useT {α β : Type} {R : α → β → Bool → List Int → List Int → Prop} (C : PCall w p loose mean mg mb f vs d u (fun h' v => ∃ q z bl msf msr, NewT s.heap msf bl msr h' v ∧ R q z bl msf msr) s)
    (B : Below A₀ base outer h₀) (F : Fr h₀ L s.heap m) (X₀ : (headK.heap_1 w.params).In h₀) (N : News h₀ L s.heap news) (T : Top p loose mean mg mb h₀) (hf : env.frame = some L) (hke : env.scope.kind = .function)
    (hd : dp + d < recursionLimit) (hu : un + u < cLine)
    (ret : ∀ q z bl msf msr (pU fU rU : Addr) (vf vr : List Value) (nf nr : Nat) h' tk', Fr h₀ L h' m → IntsAre vf msf → IntsAre vr msr →
      News h₀ L h' ((pU, ({ cls := .type "tuple", data := .seq #[.ref fU, .bool bl, .ref rU] } : Obj)) :: (fU, PySem.W.listOf vf.toArray nf) :: (rU, PySem.W.listOf vr.toArray nr) :: news) → R q z bl msf msr → Q (.ref pU) { s with heap := h', toks := tk' }) :
    wpAny (model PySem.Challenge.rw_nn0016_01.row.prog w) (AA dp un gd (env :: outer)) (call (.ref f) vs) Q E s :=
  PCall.use C B F X₀ N T hf hke hd hu (by
    rintro v h' tk' F' N' _ ⟨q, z, bl, msf, msr, nT, hR⟩
    obtain ⟨pU, fU, rU, vf, vr, nf, nr, rfl, i1, i2, N''⟩ := newT_news F N' nT
    exact ret q z bl msf msr pU fU rU vf vr nf nr h' tk' F' i1 i2 N'' hR)
/-- a call that gives a known int -/
theorem PCall.useX {x : Int} (C : PCall w p loose mean mg mb f vs d u (fun _ v => ∃ (tk : Tok), v = .int x tk) s)
    (B : Below A₀ base outer h₀) (F : Fr h₀ L s.heap m) (X₀ : (headK.heap_1 w.params).In h₀) (N : News h₀ L s.heap news) (T : Top p loose mean mg mb h₀) (hf : env.frame = some L) (hke : env.scope.kind = .function)
    (hd : dp + d < recursionLimit) (hu : un + u < cLine)
    (ret : ∀ h' tk' t, Fr h₀ L h' m → News h₀ L h' news → Q (.int x t) { s with heap := h', toks := tk' }) :
    wpAny (model PySem.Challenge.rw_nn0016_01.row.prog w) (AA dp un gd (env :: outer)) (call (.ref f) vs) Q E s :=
  PCall.use C B F X₀ N T hf hke hd hu (by rintro v h' tk' F' N' _ ⟨t, rfl⟩; exact ret h' tk' t F' N')
theorem newL_eq {g h : Heap} {ms ms' : List Int} {v : Value} (e : ms = ms') (n : NewL g ms h v) : NewL g ms' h v := e ▸ n
/-- divide_exact and its like -/
theorem RCall.useD {x y : Int} {S : List Int → Prop}
    (C : RCall w p loose mean mg mb f vs d u (fun h' v => y ≠ 0 ∧ x % y = 0 ∧ ∃ ms, NewL s.heap ms h' v ∧ S ms) (fun cls => (y = 0 ∧ cls = .ref 37) ∨ (y ≠ 0 ∧ x % y ≠ 0 ∧ cls = .ref 49)) s)
    (B : Below A₀ base outer h₀) (F : Fr h₀ L s.heap m) (X₀ : (headK.heap_1 w.params).In h₀) (N : News h₀ L s.heap news) (T : Top p loose mean mg mb h₀) (XB : (headK.heap_1 w.params).In base) (TB : Top p loose mean mg mb base)
    (D : KtsDicts (fsOf outer) h₀) (hf : env.frame = some L) (hke : env.scope.kind = .function)
    (hdd : dp + d < recursionLimit) (hu : un + u < cLine)
    (ret : y ≠ 0 → x % y = 0 → ∀ ms l vs n h' tk', Fr h₀ L h' m → IntsAre vs ms → News h₀ L h' ((l, PySem.W.listOf vs.toArray n) :: news) → S ms → Q (.ref l) { s with heap := h', toks := tk' })
    (exc0 : y = 0 → ∀ g e t xs h' tk', Fr h₀ L g m → RaisedS base g (env :: outer) e (.ref 37) t xs news h' → g.UpToSlots h' → E (.ref e) { s with heap := h', toks := tk' })
    (excN : y ≠ 0 → x % y ≠ 0 → ∀ g e t xs h' tk', Fr h₀ L g m → RaisedS base g (env :: outer) e (.ref 49) t xs news h' → g.UpToSlots h' → E (.ref e) { s with heap := h', toks := tk' }) :
    wpAny (model PySem.Challenge.rw_nn0016_01.row.prog w) (AA dp un gd (env :: outer)) (call (.ref f) vs) Q E s :=
  RCall.use C B F X₀ N T XB TB D hf hke hdd hu
    (by
      rintro v h' tk' F' N' _ ⟨q1, q2, ms, nl, hS⟩
      obtain ⟨l, vs, n, rfl, i, _, _, N''⟩ := newL_news F N N' nl
      exact ret q1 q2 ms l vs n h' tk' F' i N'' hS)
    (by
      rintro g e cls t xs h' tk' F' S' U' (⟨q1, rfl⟩ | ⟨q1, q2, rfl⟩)
      · exact exc0 q1 g e t xs h' tk' F' S' U'
      · exact excN q1 q2 g e t xs h' tk' F' S' U')
theorem TCall.useKeepS {S : Str} {pre : List (Addr × Obj)}
    (C : TCall w p loose mean mg mb f vs d u pre (fun g' h' v => (∀ r ∈ pre, h'.get? r.1 = some r.2) ∧ ∃ tk, v = .str S tk) s)
    (B : Below A₀ base outer h₀) (F : Fr h₀ L s.heap m) (X₀ : (headK.heap_1 w.params).In h₀) (N : News h₀ L s.heap news) (T : Top p loose mean mg mb h₀) (XB : (headK.heap_1 w.params).In base) (TB : Top p loose mean mg mb base)
    (D : KtsDicts (fsOf outer) h₀) (CB : CodeHd base 233 229) (hpre : ∀ q ∈ pre, q ∈ news) (hf : env.frame = some L) (hke : env.scope.kind = .function)
    (hdd : dp + d < recursionLimit) (hu : un + u < cLine)
    (ret : ∀ h' tk' h₀' t, KtsTurn (fsOf outer) h₀ h₀' → Fr h₀' L h' m → News h₀' L h' news →
      Below A₀ base outer h₀' → (headK.heap_1 w.params).In h₀' → Top p loose mean mg mb h₀' → KtsDicts (fsOf outer) h₀' → Q (.str S t) { s with heap := h', toks := tk' }) :
    wpAny (model PySem.Challenge.rw_nn0016_01.row.prog w) (AA dp un gd (env :: outer)) (call (.ref f) vs) Q E s := by
  refine TCall.useKeep (P := fun _ _ v => ∃ tk, v = .str S tk) C B F X₀ N T XB TB D CB hpre hf hke hdd hu ?_
  rintro v h' tk' g' h₀' T₁ F' N' _ B' X' Tp' D' ⟨t, rfl⟩
  exact ret h' tk' h₀' t T₁ F' N' B' X' Tp' D'
theorem TCall.useKeepN {ms : List Int} {pre : List (Addr × Obj)}
    (C : TCall w p loose mean mg mb f vs d u pre (fun g' h' v => (∀ r ∈ pre, h'.get? r.1 = some r.2) ∧ NewL g' ms h' v) s)
    (B : Below A₀ base outer h₀) (F : Fr h₀ L s.heap m) (X₀ : (headK.heap_1 w.params).In h₀) (N : News h₀ L s.heap news) (T : Top p loose mean mg mb h₀) (XB : (headK.heap_1 w.params).In base) (TB : Top p loose mean mg mb base)
    (D : KtsDicts (fsOf outer) h₀) (CB : CodeHd base 233 229) (hpre : ∀ q ∈ pre, q ∈ news) (hf : env.frame = some L) (hke : env.scope.kind = .function)
    (hdd : dp + d < recursionLimit) (hu : un + u < cLine)
    (ret : ∀ l vs n h' tk' h₀', KtsTurn (fsOf outer) h₀ h₀' → Fr h₀' L h' m → IntsAre vs ms → News h₀' L h' ((l, PySem.W.listOf vs.toArray n) :: news) →
      Below A₀ base outer h₀' → (headK.heap_1 w.params).In h₀' → Top p loose mean mg mb h₀' → KtsDicts (fsOf outer) h₀' → Q (.ref l) { s with heap := h', toks := tk' }) :
    wpAny (model PySem.Challenge.rw_nn0016_01.row.prog w) (AA dp un gd (env :: outer)) (call (.ref f) vs) Q E s := by
  refine TCall.useKeep (P := fun g' h' v => NewL g' ms h' v) C B F X₀ N T XB TB D CB hpre hf hke hdd hu ?_
  rintro v h' tk' g' h₀' T₁ F' N' k3 B' X' Tp' D' ⟨l, vs, n, rfl, g1, o1, i1⟩
  exact ret l vs n h' tk' h₀' T₁ F' i1 (news_cons N' (k3 _ g1) o1) B' X' Tp' D'
end
end Mine
end
section
open PySem PySem.W PySem.Calls PyProof.Rows
set_option Elab.async false
set_option maxRecDepth 100000
namespace Mine
theorem allNe_mem {d a : Addr} {o : Obj} : ∀ {l : List (Addr × Obj)}, AllNe d l → (a, o) ∈ l → @Ne Nat a d
  | _ :: _, h, .head _ => h.1
  | _ :: _, h, .tail _ hm => allNe_mem h.2 hm
section
variable {prog : Program} {w : World} {A : Around} {E : Value → Shared → Prop} {s : Shared} {K : Frag} {h₀ : Heap} {L a f : Addr} {m mg mb : Str → Option Value} {cn : Str} {cs : Scope} {ccd : Value} {cl : List (Str × Addr)} {p : Program} {loose : List Str}
  {fn x1 x2 x3 : Str} {p0 p1 p2 p3 pc : Pos} {v1 v2 v3 : Value} {Q : Value → Shared → Prop}
/-- a def of the text, called with names of the frame's own -/
theorem cn1 (F : Fr h₀ L s.heap m) (X : K.In h₀) (T : TopRead p loose mg mb h₀) (e : nsIn K mainGlobals fn = some (some (.ref f))) (ke : keepIn K (.ref f) = true) (h1 : m x1 = some v1)
    (h : wpAny (model prog w) A (call (.ref f) [v1]) Q E s) (hk : cs.kind = .function := by rfl) (g0 : (envX cn cs L a ccd cl).kindOf fn = some .globalImplicit := by rfl) (g1 : (envX cn cs L a ccd cl).kindOf x1 = some .local := by rfl)
    (d0 : (fn == ("__debug__" : Str)) = false := by decide) (d1 : (x1 == ("__debug__" : Str)) = false := by decide) :
    wpAny (model prog w) A (eval (.Call (.Name fn p0) [.Name x1 p1] [] pc) (envX cn cs L a ccd cl)) Q E s := by
  refine Call_ (nameX_K F X T e ?_ hk g0 d0)
  refine callWith_K X ke (args_cons (nameX_L F h1 ?_ hk g1 d1))
  exact args_nil ⟨X.keeps F.keep, h⟩
theorem cn2 (F : Fr h₀ L s.heap m) (X : K.In h₀) (T : TopRead p loose mg mb h₀) (e : nsIn K mainGlobals fn = some (some (.ref f))) (ke : keepIn K (.ref f) = true) (h1 : m x1 = some v1) (h2 : m x2 = some v2)
    (h : wpAny (model prog w) A (call (.ref f) [v1, v2]) Q E s) (hk : cs.kind = .function := by rfl) (g0 : (envX cn cs L a ccd cl).kindOf fn = some .globalImplicit := by rfl) (g1 : (envX cn cs L a ccd cl).kindOf x1 = some .local := by rfl)
    (g2 : (envX cn cs L a ccd cl).kindOf x2 = some .local := by rfl) (d0 : (fn == ("__debug__" : Str)) = false := by decide) (d1 : (x1 == ("__debug__" : Str)) = false := by decide) (d2 : (x2 == ("__debug__" : Str)) = false := by decide) :
    wpAny (model prog w) A (eval (.Call (.Name fn p0) [.Name x1 p1, .Name x2 p2] [] pc) (envX cn cs L a ccd cl)) Q E s := by
  refine Call_ (nameX_K F X T e ?_ hk g0 d0)
  refine callWith_K X ke (args_cons (nameX_L F h1 ?_ hk g1 d1))
  refine args_cons (nameX_L F h2 ?_ hk g2 d2)
  exact args_nil ⟨X.keeps F.keep, h⟩
theorem cn3 (F : Fr h₀ L s.heap m) (X : K.In h₀) (T : TopRead p loose mg mb h₀) (e : nsIn K mainGlobals fn = some (some (.ref f))) (ke : keepIn K (.ref f) = true) (h1 : m x1 = some v1) (h2 : m x2 = some v2) (h3 : m x3 = some v3)
    (h : wpAny (model prog w) A (call (.ref f) [v1, v2, v3]) Q E s) (hk : cs.kind = .function := by rfl) (g0 : (envX cn cs L a ccd cl).kindOf fn = some .globalImplicit := by rfl) (g1 : (envX cn cs L a ccd cl).kindOf x1 = some .local := by rfl)
    (g2 : (envX cn cs L a ccd cl).kindOf x2 = some .local := by rfl) (g3 : (envX cn cs L a ccd cl).kindOf x3 = some .local := by rfl) (d0 : (fn == ("__debug__" : Str)) = false := by decide) (d1 : (x1 == ("__debug__" : Str)) = false := by decide) (d2 : (x2 == ("__debug__" : Str)) = false := by decide) (d3 : (x3 == ("__debug__" : Str)) = false := by decide) :
    wpAny (model prog w) A (eval (.Call (.Name fn p0) [.Name x1 p1, .Name x2 p2, .Name x3 p3] [] pc) (envX cn cs L a ccd cl)) Q E s := by
  refine Call_ (nameX_K F X T e ?_ hk g0 d0)
  refine callWith_K X ke (args_cons (nameX_L F h1 ?_ hk g1 d1))
  refine args_cons (nameX_L F h2 ?_ hk g2 d2)
  refine args_cons (nameX_L F h3 ?_ hk g3 d3)
  exact args_nil ⟨X.keeps F.keep, h⟩
/-- `if not <call>: ..` where the call gives True -/
theorem ifnot_true {fe : Expr} {args : List Expr} {body : List Stmt} {q1 q2 q3 : Pos} {env : Env} {R : Flow → Shared → Prop} (h : wpAny (model prog w) A (eval (.Call fe args [] q1) env) (fun v s' => v = .bool true ∧ R .next s') E s) :
    wpAny (model prog w) A (exec (.If (.UnaryOp .Not (.Call fe args [] q1) q2) body [] q3) env) R E s := by
  refine wpAny_If (isTrue_not (isTrue_plain (wpAny_mono h (fun v s' hv => ?_) fun _ _ x => x)))
  obtain ⟨rfl, hR⟩ := hv
  exact wpAny_truthy_bool (wpAny_execs_nil hR)
end
end Mine
end
section
open PySem PySem.W PySem.Calls PyProof.Rows
set_option Elab.async false
set_option maxRecDepth 100000
set_option maxHeartbeats 8000000
namespace Mine
local macro_rules | `(tactic| tb_start) => `(tactic| repeat' (first | (k_unfold; (try dsimp only)) | (k_end; wrow_close) | ((fail_if_success (with_reducible show wpAny _ _ (pyIter _) _ _ _)); (fail_if_success (with_reducible show wpAny _ _ (exec (Stmt.While _ _ _ _) _) _ _ _)); (fail_if_success (with_reducible show wpAny _ _ (call (Value.ref 227) _) _ _ _)); first | walk1 | (dsimp only; walk1) | (leave1; walk_say "STEP leave1"; try dsimp only)) | fail "no step"))
local macro_rules | `(tactic| tb_rel) => `(tactic| repeat' (first | (k_unfold; (try dsimp only)) | (k_end; kc_close) | (first | walk1 | (dsimp only; walk1) | (leave1; walk_say "STEP leave1"; try dsimp only)) | fail "no step"))
local macro_rules | `(tactic| k_room) => `(tactic| first | exact room_of (by assumption) | exact room_of2 (by assumption) | exact room_of3 (by assumption) | exact room_of4 (by assumption))
local macro_rules | `(tactic| walk_at $s:str) => `(tactic| k_extra $s)
local macro_rules | `(tactic| omega) => `(tactic| first | with_reducible assumption | ((with_reducible refine' lim1 (L := recursionLimit) ?oA ?oB); (case oA => with_reducible assumption); (case oB => decide)) | ((with_reducible refine' lim2 (L := recursionLimit) ?oA ?oB); (case oA => with_reducible assumption); (case oB => decide)) | ((with_reducible refine' lim3 (L := recursionLimit) ?oA ?oB); (case oA => with_reducible assumption); (case oB => decide)) | ((with_reducible refine' lim0 (L := recursionLimit) ?oA); (case oA => with_reducible assumption)) | ((with_reducible refine' lim1 (L := cLine) ?oA ?oB); (case oA => with_reducible assumption); (case oB => decide)) | ((with_reducible refine' lim2 (L := cLine) ?oA ?oB); (case oA => with_reducible assumption); (case oB => decide)) | ((with_reducible refine' lim3 (L := cLine) ?oA ?oB); (case oA => with_reducible assumption); (case oB => decide)) | ((with_reducible refine' lim0 (L := cLine) ?oA); (case oA => with_reducible assumption)) | ((with_reducible refine' lt_lt ?oA ?oB); (case oA => with_reducible assumption); (case oB => decide)) | ((with_reducible refine' le_lt ?oA ?oB); (case oA => with_reducible assumption); (case oB => decide)) | ((with_reducible refine' szline ?oA ?oB); (case oA => with_reducible assumption); (case oB => decide)) | ((with_reducible refine' le_le ?oA ?oB); (case oA => with_reducible assumption); (case oB => decide)) | (with_reducible exact Int.natCast_nonneg _) | ((with_reducible refine' Ne.symm ?oA); (case oA => with_reducible assumption)) | ((with_reducible refine' Nat.ne_of_gt ?oA); (case oA => with_reducible assumption)) | ((with_reducible refine' Nat.ne_of_lt ?oA); (case oA => with_reducible assumption)) | ((with_reducible refine' allNe_mem ?oA ?oB); (case oA => with_reducible assumption); (case oB => k_mem)) | ((with_reducible refine' Ne.symm (allNe_mem ?oA ?oB)); (case oA => with_reducible assumption); (case oB => k_mem)))
local macro_rules | `(tactic| kmk_nums) => `(tactic| first | ((with_reducible refine' kmk_from ?gi ?gx); (case gi => l_ints); (case gx => omega)) | ((with_reducible refine' kmk_upto ?gi ?gx); (case gi => l_ints); (case gx => omega)) | ((with_reducible refine' kmk_run ?gi ?gx ?gy); (case gi => l_ints); (case gx => omega); (case gy => omega)))
local macro_rules | `(tactic| kst_allIn) => `(tactic| first | exact List.forall_mem_nil _ | ((fail_if_success (with_reducible refine List.forall_mem_cons.mpr ?_)); intro p9 h9; kst_mem))
section
variable {w : World} {p : Program} {loose : List Str} {mean : ExcName → Option Value} {mg mb : Str → Option Value} {s : Shared}
theorem norm_end {W : Nat} {ns : List Int} (dg : Dig (2 ^ W) ns) {k : Int} (h1 : k ≤ ns.length)
    (h3 : ∀ j : Int, k < j → j ≤ ns.length → (if 0 < j then if (ns.getD (j - 1).toNat 0 == 0) = true then true else false else false) = true)
    (h4 : (if 0 < k then if (ns.getD (k - 1).toNat 0 == 0) = true then true else false else false) = false) : Can W (ns.take k.toNat) (val (2 ^ W) ns) := by
  refine can_take dg (by omega) (fun j a b => ?_) ?_
  · have := h3 (j + 1) (by omega) (by omega)
    rw [if_pos (by omega)] at this
    simp only [show ((j : Int) + 1 - 1).toNat = j by omega] at this
    split at this
    · rename_i q; exact beq_iff_eq.mp q
    · cases this
  · by_cases hk : k.toNat = 0
    · exact .inl hk
    · right
      rw [if_pos (by omega)] at h4
      have e : (k - 1).toNat = k.toNat - 1 := by omega
      rw [e] at h4
      intro q
      rw [q] at h4
      simp at h4
theorem c_normal {W : Nat} {a : Addr} {va : List Value} {na : List Int} (ha : s.heap.IsList a va.toArray) (ia : IntsAre va na) (ba : na.length < 1000) (dg : Dig (2 ^ W) na) :
    PCall w p loose mean mg mb 82 [.ref a] 2 20 (fun h' v => ∃ ms, NewL s.heap ms h' v ∧ Can W ms (val (2 ^ W) na) ∧ ms.length ≤ na.length) s := by
  w_top off
  k_with_none
  k_with "eval Call" => (k_dflt (k_here; first | ((with_reducible show wpAny _ _ (eval (Expr.Call (Expr.Name _ _) [Expr.Name _ _, Expr.Name _ _, Expr.Name _ _] [] _) _) _ _ _); (refine' cn3 ?nF ?nX ?nT ?nE ?nK ?n1 ?n2 ?n3 ?_); (case nF => k_asm); (case nX => k_asm); (case nT => k_asm); (case nE => k_is); (case nK => k_is); (case n1 => rfl); (case n2 => rfl); (case n3 => rfl); k_whole) | ((with_reducible show wpAny _ _ (eval (Expr.Call (Expr.Name _ _) [Expr.Name _ _, Expr.Name _ _] [] _) _) _ _ _); (refine' cn2 ?nF ?nX ?nT ?nE ?nK ?n1 ?n2 ?_); (case nF => k_asm); (case nX => k_asm); (case nT => k_asm); (case nE => k_is); (case nK => k_is); (case n1 => rfl); (case n2 => rfl); k_whole) | ((with_reducible show wpAny _ _ (eval (Expr.Call (Expr.Name _ _) [Expr.Name _ _] [] _) _) _ _ _); (refine' cn1 ?nF ?nX ?nT ?nE ?nK ?n1 ?_); (case nF => k_asm); (case nX => k_asm); (case nT => k_asm); (case nE => k_is); (case nK => k_is); (case n1 => rfl); k_whole)))
  have hfill : ∀ w' h', (headK.heap_1 (World.params w')).In h' → PySem.Challenge.rw_nn0016_01.row.prog = PySem.Challenge.rw_nn0016_01.row.prog := by k_fill; exact fun _ _ _ => rfl
  clear hfill
  intro dp un gd base fr Q E M hdp hun hret
  have X := M.X
  have T := M.T
  refine' enterP M ?k6 ?k7 ?k8 ?k9 ?kB ?_ ?c2 ?c3 ?c4 ?c5
  case k6 => k_is
  case k7 => k_is
  case k8 => omega
  case k9 => exact BindsTo.of_eq rfl
  case kB => exact locs rfl
  case c2 => exact rfl
  case c3 => exact rfl
  case c4 => exact rfl
  case c5 => decide
  intro L' h₁ F' N' hL' B'
  try dsimp only
  k_fold
  k_steps
  (try dsimp only); (try k_unfold); (try dsimp only); refine hret _ _ _ (Fr.keep (by k_asm)) ?_
  exact ⟨_, newL_of (by assumption) (List.Mem.head _) (by assumption), norm_end dg (by assumption) (by assumption) (by assumption), by simp only [List.length_take]; omega⟩

theorem compare_same {na nb : List Int} (hl : (na.length : Int) = nb.length) (h : ∀ k ∈ downKs ((na.length : Int) - 1) na.length, na.getD k.toNat 0 = nb.getD k.toNat 0) : na = nb := by
  refine List.ext_getElem (by omega) fun i h1 h2 => ?_
  have := h (i : Int) (List.mem_map.mpr ⟨na.length - 1 - i, List.mem_range.mpr (by omega), by omega⟩)
  simpa [List.getD, h1, h2] using this
theorem ne_len {na nb : List Int} (h : (na.length : Int) ≠ nb.length) : na ≠ nb := fun e => h (by rw [e])
theorem ne_getD {na nb : List Int} {k : Nat} (h : na.getD k 0 ≠ nb.getD k 0) : na ≠ nb := fun e => h (by rw [e])
theorem c_compare {a b : Addr} {va vb : List Value} {na nb : List Int} (ha : s.heap.IsList a va.toArray) (ia : IntsAre va na) (ba : na.length < 1000)
    (hb : s.heap.IsList b vb.toArray) (ib : IntsAre vb nb) (bb : nb.length < 1000) :
    PCall w p loose mean mg mb 89 [.ref a, .ref b] 2 20 (fun _ v => ∃ c t, v = .int c t ∧ (c = 0 ↔ na = nb)) s := by
  w_top off
  k_with_none
  k_with "eval Call" => (k_dflt (k_here; first | ((with_reducible show wpAny _ _ (eval (Expr.Call (Expr.Name _ _) [Expr.Name _ _, Expr.Name _ _, Expr.Name _ _] [] _) _) _ _ _); (refine' cn3 ?nF ?nX ?nT ?nE ?nK ?n1 ?n2 ?n3 ?_); (case nF => k_asm); (case nX => k_asm); (case nT => k_asm); (case nE => k_is); (case nK => k_is); (case n1 => rfl); (case n2 => rfl); (case n3 => rfl); k_whole) | ((with_reducible show wpAny _ _ (eval (Expr.Call (Expr.Name _ _) [Expr.Name _ _, Expr.Name _ _] [] _) _) _ _ _); (refine' cn2 ?nF ?nX ?nT ?nE ?nK ?n1 ?n2 ?_); (case nF => k_asm); (case nX => k_asm); (case nT => k_asm); (case nE => k_is); (case nK => k_is); (case n1 => rfl); (case n2 => rfl); k_whole) | ((with_reducible show wpAny _ _ (eval (Expr.Call (Expr.Name _ _) [Expr.Name _ _] [] _) _) _ _ _); (refine' cn1 ?nF ?nX ?nT ?nE ?nK ?n1 ?_); (case nF => k_asm); (case nX => k_asm); (case nT => k_asm); (case nE => k_is); (case nK => k_is); (case n1 => rfl); k_whole)))
  have hfill : ∀ w' h', (headK.heap_1 (World.params w')).In h' → PySem.Challenge.rw_nn0016_01.row.prog = PySem.Challenge.rw_nn0016_01.row.prog := by k_fill; exact fun _ _ _ => rfl
  clear hfill
  intro dp un gd base fr Q E M hdp hun hret
  have X := M.X
  have T := M.T
  refine' enterP M ?k6 ?k7 ?k8 ?k9 ?kB ?_ ?c2 ?c3 ?c4 ?c5
  case k6 => k_is
  case k7 => k_is
  case k8 => omega
  case k9 => exact BindsTo.of_eq rfl
  case kB => exact locs rfl
  case c2 => exact rfl
  case c3 => exact rfl
  case c4 => exact rfl
  case c5 => decide
  intro L' h₁ F' N' hL' B'
  try dsimp only
  k_fold
  k_steps
  · (try dsimp only); (try k_unfold); (try dsimp only); refine hret _ _ _ (Fr.keep (by k_asm)) ?_
    exact ⟨_, _, rfl, fun e => absurd e (by decide), fun e => absurd e (ne_len (by assumption))⟩
  · (try dsimp only); (try k_unfold); (try dsimp only); refine hret _ _ _ (Fr.keep (by k_asm)) ?_
    exact ⟨_, _, rfl, fun e => absurd e (by decide), fun e => absurd e (ne_len (by assumption))⟩
  (rename Fr _ _ _ _ => lF'); (rename News _ _ _ _ => lN'); (rename IsRange _ _ _ _ _ _ _ _ => rgX)
  with_unfolding_all refine' kst_rangeD (n := na.length) (fun _ : Unit => []) (fun _ => []) (fun _ => True) [] (fun pre _ => ∀ k ∈ pre, na.getD k.toNat 0 = nb.getD k.toNat 0) () (by rfl) rgX (small_down (by omega) (by omega) (by omega) (by omega)) (by rw [rangeSize_downNat]; omega) lF' lN' True.intro (List.forall_mem_nil _) (List.forall_mem_nil _) ?kturn ?kdone
  case kturn =>
    clear lF' lN' rgX
    intro c pre k t u h tk own hk hlt hoff hf hp kFr kNews
    have kMark := kstMark
    (try dsimp only [kstB] at kFr)
    (try dsimp only at kNews); (try dsimp only at hoff); (try dsimp only at hp)
    (try simp only [List.nil_append, List.cons_append, List.append_nil] at kNews)
    (try k_fold)
    k_steps
    · (try dsimp only); (try k_unfold); (try dsimp only); refine hret _ _ _ (Fr.keep (by k_asm)) ?_
      exact ⟨_, _, rfl, fun e => absurd e (by decide), fun e => absurd e (ne_getD (by assumption))⟩
    · (try dsimp only); (try k_unfold); (try dsimp only); refine hret _ _ _ (Fr.keep (by k_asm)) ?_
      exact ⟨_, _, rfl, fun e => absurd e (by decide), fun e => absurd e (ne_getD (by assumption))⟩
  case kdone =>
    clear lF' lN' rgX
    intro c u h tk hf hp kFr kNews
    have kMark := kstMark
    (try dsimp only [kstB] at kFr)
    (try dsimp only at kNews); (try dsimp only at hp)
    (try k_fold)
    k_steps
    (try dsimp only); (try k_unfold); (try dsimp only); refine hret _ _ _ (Fr.keep (by k_asm)) ?_
    exact ⟨_, _, rfl, fun _ => compare_same (by assumption) hp, fun _ => rfl⟩

theorem c_add {a b : Addr} {va vb : List Value} {na nb : List Int} {W : Nat} {tw : Tok} (hW : 2 ≤ W) (hW9 : W ≤ 9) (ha : s.heap.IsList a va.toArray) (ia : IntsAre va na) (ba : na.length < 1000)
    (hb : s.heap.IsList b vb.toArray) (ib : IntsAre vb nb) (bb : nb.length < 1000) (da : Dig (2 ^ W) na) (db : Dig (2 ^ W) nb) :
    PCall w p loose mean mg mb 96 [.ref a, .ref b, .int W tw] 2 20 (fun h' v => ∃ ms, NewL s.heap ms h' v ∧ Dig (2 ^ W) ms ∧ val (2 ^ W) ms = val (2 ^ W) na + val (2 ^ W) nb ∧ ms.length ≤ max na.length nb.length + 1) s := by
  w_top off
  k_with_none
  k_with "eval Call" => (k_dflt (k_here; first | ((with_reducible show wpAny _ _ (eval (Expr.Call (Expr.Name _ _) [Expr.Name _ _, Expr.Name _ _, Expr.Name _ _] [] _) _) _ _ _); (refine' cn3 ?nF ?nX ?nT ?nE ?nK ?n1 ?n2 ?n3 ?_); (case nF => k_asm); (case nX => k_asm); (case nT => k_asm); (case nE => k_is); (case nK => k_is); (case n1 => rfl); (case n2 => rfl); (case n3 => rfl); k_whole) | ((with_reducible show wpAny _ _ (eval (Expr.Call (Expr.Name _ _) [Expr.Name _ _, Expr.Name _ _] [] _) _) _ _ _); (refine' cn2 ?nF ?nX ?nT ?nE ?nK ?n1 ?n2 ?_); (case nF => k_asm); (case nX => k_asm); (case nT => k_asm); (case nE => k_is); (case nK => k_is); (case n1 => rfl); (case n2 => rfl); k_whole) | ((with_reducible show wpAny _ _ (eval (Expr.Call (Expr.Name _ _) [Expr.Name _ _] [] _) _) _ _ _); (refine' cn1 ?nF ?nX ?nT ?nE ?nK ?n1 ?_); (case nF => k_asm); (case nX => k_asm); (case nT => k_asm); (case nE => k_is); (case nK => k_is); (case n1 => rfl); k_whole)))
  k_with "state" => first | exact ⟨rfl, AddI.start⟩ | exact add_step1 (by assumption) (by assumption) (by assumption) (by assumption) (by assumption) | exact add_mid (by assumption) (by assumption) | exact add_step2 (by assumption) (by assumption) (by assumption) (by assumption) (by assumption)
  have hfill : ∀ w' h', (headK.heap_1 (World.params w')).In h' → PySem.Challenge.rw_nn0016_01.row.prog = PySem.Challenge.rw_nn0016_01.row.prog := by k_fill; exact fun _ _ _ => rfl
  clear hfill
  intro dp un gd base fr Q E M hdp hun hret
  have X := M.X
  have T := M.T
  refine' enterP M ?k6 ?k7 ?k8 ?k9 ?kB ?_ ?c2 ?c3 ?c4 ?c5
  case k6 => k_is
  case k7 => k_is
  case k8 => omega
  case k9 => exact BindsTo.of_eq rfl
  case kB => exact locs rfl
  case c2 => exact rfl
  case c3 => exact rfl
  case c4 => exact rfl
  case c5 => decide
  intro L' h₁ F' N' hL' B'
  try dsimp only
  k_fold
  tb_start
  · k_state (fun pre carry found => found.length = pre.length ∧ AddI W nb na found pre.length carry) "carry" "found"
    · tb_start
    · tb_start
      k_state (fun pre carry found => found.length = na.length + pre.length ∧ AddI W nb na found (na.length + pre.length) carry) "carry" "found"
      · tb_start
      · tb_start
        · (try dsimp only); (try k_unfold); (try dsimp only); refine hret _ _ _ (Fr.keep (by k_asm)) ?_
          obtain ⟨e1, e2, e3⟩ := add_end1 (by assumption) (by omega) hW (by assumption)
          exact ⟨_, newL_of (by assumption) (by k_mem) (by first | assumption | exact ints_concat (by assumption)), e1, by rw [e2, Int.add_comm], by omega⟩
        · (try dsimp only); (try k_unfold); (try dsimp only); refine hret _ _ _ (Fr.keep (by k_asm)) ?_
          obtain ⟨e1, e2, e3⟩ := add_end2 (by assumption) (by omega) (by assumption)
          exact ⟨_, newL_of (by assumption) (by k_mem) (by first | assumption | exact ints_concat (by assumption)), e1, by rw [e2, Int.add_comm], by omega⟩
  · k_state (fun pre carry found => found.length = pre.length ∧ AddI W na nb found pre.length carry) "carry" "found"
    · tb_start
    · tb_start
      k_state (fun pre carry found => found.length = nb.length + pre.length ∧ AddI W na nb found (nb.length + pre.length) carry) "carry" "found"
      · tb_start
      · tb_start
        · (try dsimp only); (try k_unfold); (try dsimp only); refine hret _ _ _ (Fr.keep (by k_asm)) ?_
          obtain ⟨e1, e2, e3⟩ := add_end1 (by assumption) (by omega) hW (by assumption)
          exact ⟨_, newL_of (by assumption) (by k_mem) (by first | assumption | exact ints_concat (by assumption)), e1, e2, by omega⟩
        · (try dsimp only); (try k_unfold); (try dsimp only); refine hret _ _ _ (Fr.keep (by k_asm)) ?_
          obtain ⟨e1, e2, e3⟩ := add_end2 (by assumption) (by omega) (by assumption)
          exact ⟨_, newL_of (by assumption) (by k_mem) (by first | assumption | exact ints_concat (by assumption)), e1, e2, by omega⟩

theorem c_low {a : Addr} {va : List Value} {na : List Int} {W : Nat} {n : Nat} {tn : Tok} (ha : s.heap.IsList a va.toArray) (ia : IntsAre va na) (ba : na.length < 1000) (bn : n < 1000) (dg : Dig (2 ^ W) na) :
    PCall w p loose mean mg mb 124 [.ref a, .int n tn] 3 40 (fun h' v => ∃ ms, NewL s.heap ms h' v ∧ Can W ms (val (2 ^ W) na % (2 ^ W) ^ n) ∧ ms.length ≤ na.length) s := by
  w_top off
  k_with_none
  k_with "eval Call" => (k_dflt (k_here; first | ((with_reducible show wpAny _ _ (eval (Expr.Call (Expr.Name _ _) [Expr.Name _ _, Expr.Name _ _, Expr.Name _ _] [] _) _) _ _ _); (refine' cn3 ?nF ?nX ?nT ?nE ?nK ?n1 ?n2 ?n3 ?_); (case nF => k_asm); (case nX => k_asm); (case nT => k_asm); (case nE => k_is); (case nK => k_is); (case n1 => rfl); (case n2 => rfl); (case n3 => rfl); k_whole) | ((with_reducible show wpAny _ _ (eval (Expr.Call (Expr.Name _ _) [Expr.Name _ _, Expr.Name _ _] [] _) _) _ _ _); (refine' cn2 ?nF ?nX ?nT ?nE ?nK ?n1 ?n2 ?_); (case nF => k_asm); (case nX => k_asm); (case nT => k_asm); (case nE => k_is); (case nK => k_is); (case n1 => rfl); (case n2 => rfl); k_whole) | ((with_reducible show wpAny _ _ (eval (Expr.Call (Expr.Name _ _) [Expr.Name _ _] [] _) _) _ _ _); (refine' cn1 ?nF ?nX ?nT ?nE ?nK ?n1 ?_); (case nF => k_asm); (case nX => k_asm); (case nT => k_asm); (case nE => k_is); (case nK => k_is); (case n1 => rfl); k_whole)))
  k_with "call ref" => k_dflt (
    (k_here; (with_reducible show wpAny _ _ (call (Value.ref 82) _) _ _ _)); (rename Fr _ _ _ _ => frU); (rename News _ _ _ _ => nwU); (first | (show wpAny _ (AA (dp + 1) (un + 3) gd (_ :: fr)) _ _ _ _) | (show wpAny _ (AA (dp + 1 + 1) (un + 3 + 3) gd (_ :: _ :: fr)) _ _ _ _) | (show wpAny _ (AA (dp + 1 + 1 + 1) (un + 3 + 3 + 3) gd (_ :: _ :: _ :: fr)) _ _ _ _) | (show wpAny _ (AA (dp + 1 + 1 + 1 + 1) (un + 3 + 3 + 3 + 3) gd (_ :: _ :: _ :: _ :: fr)) _ _ _ _));
    (with_unfolding_all refine' PCall.useN (c_normal (W := W) ?c1 ?c2 ?c3 ?c4) (by assumption) frU (by assumption) nwU (by assumption) ?uhf ?uke ?uhd ?uhu ?_);
    (case c1 => is_list);
    (case c2 => l_ints);
    (case c3 => (simp only [List.length_take]; omega));
    (case c4 => exact dg.take _);
    (case uhf => rfl); (case uke => rfl); (case uhd => omega); (case uhu => omega);
    (intro msU lU vsU nU hU tkU frV iU nwW; intro rX; have cnU := rX.1; have leU := rX.2; clear rX; clear frU nwU; (try dsimp only)))
  have hfill : ∀ w' h', (headK.heap_1 (World.params w')).In h' → PySem.Challenge.rw_nn0016_01.row.prog = PySem.Challenge.rw_nn0016_01.row.prog := by k_fill; exact fun _ _ _ => rfl
  clear hfill
  intro dp un gd base fr Q E M hdp hun hret
  have X := M.X
  have T := M.T
  refine' enterP M ?k6 ?k7 ?k8 ?k9 ?kB ?_ ?c2 ?c3 ?c4 ?c5
  case k6 => k_is
  case k7 => k_is
  case k8 => omega
  case k9 => exact BindsTo.of_eq rfl
  case kB => exact locs rfl
  case c2 => exact rfl
  case c3 => exact rfl
  case c4 => exact rfl
  case c5 => decide
  intro L' h₁ F' N' hL' B'
  try dsimp only
  k_fold
  tb_start
  (try dsimp only); (try k_unfold); (try dsimp only); refine hret _ _ _ (Fr.keep (by k_asm)) ?_
  rw [Int.toNat_natCast] at *
  rw [val_take (two_pow_pos W) dg] at cnU
  exact ⟨_, newL_of (by assumption) (by k_mem) (by assumption), cnU, by omega⟩
theorem c_lowI {a : Addr} {va : List Value} {na : List Int} {W : Nat} {n : Int} {tn : Tok} (ha : s.heap.IsList a va.toArray) (ia : IntsAre va na) (ba : na.length < 1000) (h0 : 0 ≤ n) (bn : n < 1000) (dg : Dig (2 ^ W) na) :
    PCall w p loose mean mg mb 124 [.ref a, .int n tn] 3 40 (fun h' v => ∃ ms, NewL s.heap ms h' v ∧ Can W ms (val (2 ^ W) na % (2 ^ W) ^ n.toNat) ∧ ms.length ≤ na.length) s := by
  obtain ⟨k, rfl⟩ := Int.eq_ofNat_of_zero_le h0
  exact c_low ha ia ba (by omega) dg

theorem nabs {x B : Int} (h : 0 ≤ x ∧ x < B) (hB : B ≤ 512) : x.natAbs < 2 ^ 64 := by omega
theorem c_shr {a : Addr} {va : List Value} {na : List Int} {W : Nat} {tw : Tok} (hW : 2 ≤ W) (hW9 : W ≤ 9) {n : Nat} {tn : Tok} (ha : s.heap.IsList a va.toArray) (ia : IntsAre va na) (ba : na.length < 1000) (bn : n < 10000) (dg : Dig (2 ^ W) na) :
    PCall w p loose mean mg mb 103 [.ref a, .int n tn, .int W tw] 3 40 (fun h' v => ∃ ms, NewL s.heap ms h' v ∧ Can W ms (val (2 ^ W) na / 2 ^ n) ∧ ms.length ≤ na.length) s := by
  w_top off
  k_with_none
  k_with "eval Call" => (k_dflt (k_here; first | ((with_reducible show wpAny _ _ (eval (Expr.Call (Expr.Name _ _) [Expr.Name _ _, Expr.Name _ _, Expr.Name _ _] [] _) _) _ _ _); (refine' cn3 ?nF ?nX ?nT ?nE ?nK ?n1 ?n2 ?n3 ?_); (case nF => k_asm); (case nX => k_asm); (case nT => k_asm); (case nE => k_is); (case nK => k_is); (case n1 => rfl); (case n2 => rfl); (case n3 => rfl); k_whole) | ((with_reducible show wpAny _ _ (eval (Expr.Call (Expr.Name _ _) [Expr.Name _ _, Expr.Name _ _] [] _) _) _ _ _); (refine' cn2 ?nF ?nX ?nT ?nE ?nK ?n1 ?n2 ?_); (case nF => k_asm); (case nX => k_asm); (case nT => k_asm); (case nE => k_is); (case nK => k_is); (case n1 => rfl); (case n2 => rfl); k_whole) | ((with_reducible show wpAny _ _ (eval (Expr.Call (Expr.Name _ _) [Expr.Name _ _] [] _) _) _ _ _); (refine' cn1 ?nF ?nX ?nT ?nE ?nK ?n1 ?_); (case nF => k_asm); (case nX => k_asm); (case nT => k_asm); (case nE => k_is); (case nK => k_is); (case n1 => rfl); k_whole)))
  have hp : (2:Int) ^ W ≤ 512 := pow_le_pow' (B := 2) (by decide) hW9
  have q0 : 0 ≤ (n : Int).fdiv W := Int.fdiv_nonneg (by omega) (by omega)
  have q1 : (n : Int).fdiv W ≤ n := by rw [fdiv_pos _ (by omega)]; exact Int.ediv_le_self _ (by omega)
  have q2 : 0 ≤ (n : Int).fmod W := Int.fmod_nonneg_of_pos _ (by omega)
  have q3 : (n : Int).fmod W < W := Int.fmod_lt_of_pos _ (by omega)
  k_with "call ref" => k_dflt (
    (k_here; (with_reducible show wpAny _ _ (call (Value.ref 82) _) _ _ _)); (rename Fr _ _ _ _ => frU); (rename News _ _ _ _ => nwU); (first | (show wpAny _ (AA (dp + 1) (un + 3) gd (_ :: fr)) _ _ _ _) | (show wpAny _ (AA (dp + 1 + 1) (un + 3 + 3) gd (_ :: _ :: fr)) _ _ _ _) | (show wpAny _ (AA (dp + 1 + 1 + 1) (un + 3 + 3 + 3) gd (_ :: _ :: _ :: fr)) _ _ _ _) | (show wpAny _ (AA (dp + 1 + 1 + 1 + 1) (un + 3 + 3 + 3 + 3) gd (_ :: _ :: _ :: _ :: fr)) _ _ _ _));
    (with_unfolding_all refine' PCall.useN (c_normal (W := W) ?c1 ?c2 ?c3 ?c4) (by assumption) frU (by assumption) nwU (by assumption) ?uhf ?uke ?uhd ?uhu ?_);
    (case c1 => is_list);
    (case c2 => l_ints);
    (case c3 => (simp only [rangeKs_length] at *; omega));
    (case c4 => exact (ShrI.dig (by assumption)));
    (case uhf => rfl); (case uke => rfl); (case uhd => omega); (case uhu => omega);
    (intro msU lU vsU nU hU tkU frV iU nwW; intro rX; have cnU := rX.1; have leU := rX.2; clear rX; clear frU nwU; (try dsimp only)))
  k_with "state" => first | exact ⟨rfl, ShrI.start⟩ | exact shr_step (by assumption) (by assumption) (by assumption) hW dg rfl | exact shr_step (by assumption) (by assumption) (by assumption) hW dg (getD_past (by assumption))
  k_with "binaryOp LShift int int" => (refine lshift_int_small (by omega) (by omega) (by first | decide | exact nabs (dg.getD (two_pow_pos W) _) hp) ?_)
  have hfill : ∀ w' h', (headK.heap_1 (World.params w')).In h' → PySem.Challenge.rw_nn0016_01.row.prog = PySem.Challenge.rw_nn0016_01.row.prog := by k_fill; exact fun _ _ _ => rfl
  clear hfill
  intro dp un gd base fr Q E M hdp hun hret
  have X := M.X
  have T := M.T
  refine' enterP M ?k6 ?k7 ?k8 ?k9 ?kB ?_ ?c2 ?c3 ?c4 ?c5
  case k6 => k_is
  case k7 => k_is
  case k8 => omega
  case k9 => exact BindsTo.of_eq rfl
  case kB => exact locs rfl
  case c2 => exact rfl
  case c3 => exact rfl
  case c4 => exact rfl
  case c5 => decide
  intro L' h₁ F' N' hL' B'
  try dsimp only
  k_fold
  tb_start
  k_state (fun pre found => found.length = pre.length ∧ ShrI W n na found pre.length) "found"
  · tb_start
  · tb_start
    (try dsimp only); (try k_unfold); (try dsimp only); refine hret _ _ _ (Fr.keep (by k_asm)) ?_
    have e := ShrI.end hW dg (by assumption) (rangeKs_length _ _)
    rw [e] at cnU
    have e2 := rangeKs_length ((n : Int).fdiv W) ((na.length : Int) - (n : Int).fdiv W).toNat
    exact ⟨_, newL_of (by assumption) (by k_mem) (by assumption), cnU, by omega⟩

theorem c_trail {a : Addr} {va : List Value} {na : List Int} {W : Nat} {x : Int} {tw : Tok} (hW : 2 ≤ W) (hW9 : W ≤ 9) (ha : s.heap.IsList a va.toArray) (ia : IntsAre va na) (ba : na.length < 1000) (cn : Can W na x) (hx : x ≠ 0) :
    PCall w p loose mean mg mb 110 [.ref a, .int W tw] 3 40 (fun h' v => ∃ (t : Nat) (tk : Tok), v = .int t tk ∧ x % 2 ^ t = 0 ∧ x / 2 ^ t % 2 = 1 ∧ t < 10000) s := by
  w_top off
  k_with_none
  k_with "eval Call" => (k_dflt (k_here; first | ((with_reducible show wpAny _ _ (eval (Expr.Call (Expr.Name _ _) [Expr.Name _ _, Expr.Name _ _, Expr.Name _ _] [] _) _) _ _ _); (refine' cn3 ?nF ?nX ?nT ?nE ?nK ?n1 ?n2 ?n3 ?_); (case nF => k_asm); (case nX => k_asm); (case nT => k_asm); (case nE => k_is); (case nK => k_is); (case n1 => rfl); (case n2 => rfl); (case n3 => rfl); k_whole) | ((with_reducible show wpAny _ _ (eval (Expr.Call (Expr.Name _ _) [Expr.Name _ _, Expr.Name _ _] [] _) _) _ _ _); (refine' cn2 ?nF ?nX ?nT ?nE ?nK ?n1 ?n2 ?_); (case nF => k_asm); (case nX => k_asm); (case nT => k_asm); (case nE => k_is); (case nK => k_is); (case n1 => rfl); (case n2 => rfl); k_whole) | ((with_reducible show wpAny _ _ (eval (Expr.Call (Expr.Name _ _) [Expr.Name _ _] [] _) _) _ _ _); (refine' cn1 ?nF ?nX ?nT ?nE ?nK ?n1 ?_); (case nF => k_asm); (case nX => k_asm); (case nT => k_asm); (case nE => k_is); (case nK => k_is); (case n1 => rfl); k_whole)))
  have hfill : ∀ w' h', (headK.heap_1 (World.params w')).In h' → PySem.Challenge.rw_nn0016_01.row.prog = PySem.Challenge.rw_nn0016_01.row.prog := by k_fill; exact fun _ _ _ => rfl
  clear hfill
  intro dp un gd base fr Q E M hdp hun hret
  have X := M.X
  have T := M.T
  refine' enterP M ?k6 ?k7 ?k8 ?k9 ?kB ?_ ?c2 ?c3 ?c4 ?c5
  case k6 => k_is
  case k7 => k_is
  case k8 => omega
  case k9 => exact BindsTo.of_eq rfl
  case kB => exact locs rfl
  case c2 => exact rfl
  case c3 => exact rfl
  case c4 => exact rfl
  case c5 => decide
  intro L' h₁ F' N' hL' B'
  try dsimp only
  k_fold
  k_steps
  · (try dsimp only); (try k_unfold); (try dsimp only); refine hret _ _ _ (Fr.keep (by k_asm)) ?_
    (rename (_[_]? = some _) => g1); (rename (decide _ = true) => g2); (rename (List.find? _ _ = _) => g3)
    obtain ⟨t, e1, e2⟩ := trail_end hW hW9 cn ba g1 (of_decide_eq_true g2) g3 rfl
    exact ⟨t, _, by rw [e1], e2⟩
  · rename (∀ p ∈ na.zipIdx, _) => g1
    exact trail_none cn hx g1

theorem c_invl {d : Int} {td : Tok} {W : Nat} {tw : Tok} (hW : 2 ≤ W) (hW9 : W ≤ 9) (h0 : 0 ≤ d) (h1 : d < 2 ^ W) (hodd : d % 2 = 1) :
    PCall w p loose mean mg mb 117 [.int d td, .int W tw] 3 40 (fun h' v => ∃ (r : Int) (tk : Tok), v = .int r tk ∧ 0 ≤ r ∧ r < 2 ^ W ∧ d * r % 2 ^ W = 1) s := by
  w_top off
  k_with_none
  k_with "eval Call" => (k_dflt (k_here; first | ((with_reducible show wpAny _ _ (eval (Expr.Call (Expr.Name _ _) [Expr.Name _ _, Expr.Name _ _, Expr.Name _ _] [] _) _) _ _ _); (refine' cn3 ?nF ?nX ?nT ?nE ?nK ?n1 ?n2 ?n3 ?_); (case nF => k_asm); (case nX => k_asm); (case nT => k_asm); (case nE => k_is); (case nK => k_is); (case n1 => rfl); (case n2 => rfl); (case n3 => rfl); k_whole) | ((with_reducible show wpAny _ _ (eval (Expr.Call (Expr.Name _ _) [Expr.Name _ _, Expr.Name _ _] [] _) _) _ _ _); (refine' cn2 ?nF ?nX ?nT ?nE ?nK ?n1 ?n2 ?_); (case nF => k_asm); (case nX => k_asm); (case nT => k_asm); (case nE => k_is); (case nK => k_is); (case n1 => rfl); (case n2 => rfl); k_whole) | ((with_reducible show wpAny _ _ (eval (Expr.Call (Expr.Name _ _) [Expr.Name _ _] [] _) _) _ _ _); (refine' cn1 ?nF ?nX ?nT ?nE ?nK ?n1 ?_); (case nF => k_asm); (case nX => k_asm); (case nT => k_asm); (case nE => k_is); (case nK => k_is); (case n1 => rfl); k_whole)))
  have hp : (2:Int) ^ W ≤ 512 := pow_le_pow' (B := 2) (by decide) hW9
  k_with "state" => first
    | (refine ⟨?_, ?_, by omega, by omega, InvI.start h0 h1 hodd⟩ <;> have := fmod_whole d W <;> omega)
    | (refine ⟨?_, ?_, by omega, by omega, InvI.step (by assumption)⟩ <;> first | exact (fmod_whole _ W).1 | exact (fmod_whole _ W).2)

  k_with "binaryOp Mult int int" => (refine mul_int ?_ (PySem.IntMulOk.of_left (PySem.intBits_le_64 (by omega) (by omega))))
  have hfill : ∀ w' h', (headK.heap_1 (World.params w')).In h' → PySem.Challenge.rw_nn0016_01.row.prog = PySem.Challenge.rw_nn0016_01.row.prog := by k_fill; exact fun _ _ _ => rfl
  clear hfill
  intro dp un gd base fr Q E M hdp hun hret
  have X := M.X
  have T := M.T
  refine' enterP M ?k6 ?k7 ?k8 ?k9 ?kB ?_ ?c2 ?c3 ?c4 ?c5
  case k6 => k_is
  case k7 => k_is
  case k8 => omega
  case k9 => exact BindsTo.of_eq rfl
  case kB => exact locs rfl
  case c2 => exact rfl
  case c3 => exact rfl
  case c4 => exact rfl
  case c5 => decide
  intro L' h₁ F' N' hL' B'
  try dsimp only
  k_fold
  tb_start
  · rename _ = (0:Int) => hq
    rw [fmod_pos _ (by decide)] at hq
    omega
  · k_while (fun _ found sure => 0 ≤ found ∧ found < 2 ^ W ∧ 3 ≤ sure ∧ sure ≤ 1000 ∧ InvI W d found sure) (fun _ _ sure => (W - sure).toNat) "found" "sure"
    tb_start
    (try dsimp only); (try k_unfold); (try dsimp only); refine hret _ _ _ (Fr.keep (by k_asm)) ?_
    exact ⟨_, _, rfl, by assumption, by assumption, InvI.end hW (by assumption) (by assumption)⟩

theorem c_compl {a : Addr} {va : List Value} {na : List Int} {W : Nat} {tw : Tok} (hW : 2 ≤ W) (hW9 : W ≤ 9) {n : Nat} {tn : Tok} (ha : s.heap.IsList a va.toArray) (ia : IntsAre va na) (ba : na.length < 990) (bn : n < 990) (dg : Dig (2 ^ W) na) :
    PCall w p loose mean mg mb 129 [.ref a, .int n tn, .int W tw] 5 60 (fun h' v => ∃ ms, NewL s.heap ms h' v ∧ Can W ms ((- val (2 ^ W) na) % (2 ^ W) ^ n) ∧ ms.length ≤ n) s := by
  w_top off
  k_with_none
  k_with "eval Call" => (k_dflt (k_here; first | ((with_reducible show wpAny _ _ (eval (Expr.Call (Expr.Name _ _) [Expr.Name _ _, Expr.Name _ _, Expr.Name _ _] [] _) _) _ _ _); (refine' cn3 ?nF ?nX ?nT ?nE ?nK ?n1 ?n2 ?n3 ?_); (case nF => k_asm); (case nX => k_asm); (case nT => k_asm); (case nE => k_is); (case nK => k_is); (case n1 => rfl); (case n2 => rfl); (case n3 => rfl); k_whole) | ((with_reducible show wpAny _ _ (eval (Expr.Call (Expr.Name _ _) [Expr.Name _ _, Expr.Name _ _] [] _) _) _ _ _); (refine' cn2 ?nF ?nX ?nT ?nE ?nK ?n1 ?n2 ?_); (case nF => k_asm); (case nX => k_asm); (case nT => k_asm); (case nE => k_is); (case nK => k_is); (case n1 => rfl); (case n2 => rfl); k_whole) | ((with_reducible show wpAny _ _ (eval (Expr.Call (Expr.Name _ _) [Expr.Name _ _] [] _) _) _ _ _); (refine' cn1 ?nF ?nX ?nT ?nE ?nK ?n1 ?_); (case nF => k_asm); (case nX => k_asm); (case nT => k_asm); (case nE => k_is); (case nK => k_is); (case n1 => rfl); k_whole)))
  have tl := turned_length (W := W) (na := na) (n := n)
  k_with "call ref" => k_dflt (
    (k_here; (with_reducible show wpAny _ _ (call (Value.ref 82) _) _ _ _)); (rename Fr _ _ _ _ => frU); (rename News _ _ _ _ => nwU); (first | (show wpAny _ (AA (dp + 1) (un + 3) gd (_ :: fr)) _ _ _ _) | (show wpAny _ (AA (dp + 1 + 1) (un + 3 + 3) gd (_ :: _ :: fr)) _ _ _ _) | (show wpAny _ (AA (dp + 1 + 1 + 1) (un + 3 + 3 + 3) gd (_ :: _ :: _ :: fr)) _ _ _ _) | (show wpAny _ (AA (dp + 1 + 1 + 1 + 1) (un + 3 + 3 + 3 + 3) gd (_ :: _ :: _ :: _ :: fr)) _ _ _ _));
    (with_unfolding_all refine' PCall.useN (c_normal (W := W) (na := turned W na n) ?c1 ?c2 ?c3 ?c4) (by assumption) frU (by assumption) nwU (by assumption) ?uhf ?uke ?uhd ?uhu ?_);
    (case c1 => is_list);
    (case c2 => assumption);
    (case c3 => (rw [tl]; omega));
    (case c4 => exact turned_dig dg n);
    (case uhf => rfl); (case uke => rfl); (case uhd => omega); (case uhu => omega);
    (intro msU lU vsU nU hU tkU frV iU nwW; intro rX; have cnU := rX.1; have leU := rX.2; clear rX; clear frU nwU; (try dsimp only)))
  k_with "call ref" => k_dflt (
    (k_here; (with_reducible show wpAny _ _ (call (Value.ref 96) _) _ _ _)); (rename Fr _ _ _ _ => frU); (rename News _ _ _ _ => nwU); (first | (show wpAny _ (AA (dp + 1) (un + 3) gd (_ :: fr)) _ _ _ _) | (show wpAny _ (AA (dp + 1 + 1) (un + 3 + 3) gd (_ :: _ :: fr)) _ _ _ _) | (show wpAny _ (AA (dp + 1 + 1 + 1) (un + 3 + 3 + 3) gd (_ :: _ :: _ :: fr)) _ _ _ _) | (show wpAny _ (AA (dp + 1 + 1 + 1 + 1) (un + 3 + 3 + 3 + 3) gd (_ :: _ :: _ :: _ :: fr)) _ _ _ _));
    (with_unfolding_all refine' PCall.useN (c_add (W := W) hW hW9 ?c1 ?c2 ?c3 ?c4 ?c5 ?c6 ?c7 ?c8) (by assumption) frU (by assumption) nwU (by assumption) ?uhf ?uke ?uhd ?uhu ?_);
    (case c1 => is_list);
    (case c2 => l_ints);
    (case c3 => omega);
    (case c4 => is_list);
    (case c5 => l_ints);
    (case c6 => decide);
    (case c7 => exact Can.dig (by assumption));
    (case c8 => exact dig_one hW);
    (case uhf => rfl); (case uke => rfl); (case uhd => omega); (case uhu => omega);
    (intro msU lU vsU nU hU tkU frV iU nwW; intro rX; have dgU := rX.1; have vaU := rX.2.1; have leU2 := rX.2.2; clear rX; clear frU nwU; (try dsimp only)))
  k_with "call ref" => k_dflt (
    (k_here; (with_reducible show wpAny _ _ (call (Value.ref 124) _) _ _ _)); (rename Fr _ _ _ _ => frU); (rename News _ _ _ _ => nwU); (first | (show wpAny _ (AA (dp + 1) (un + 3) gd (_ :: fr)) _ _ _ _) | (show wpAny _ (AA (dp + 1 + 1) (un + 3 + 3) gd (_ :: _ :: fr)) _ _ _ _) | (show wpAny _ (AA (dp + 1 + 1 + 1) (un + 3 + 3 + 3) gd (_ :: _ :: _ :: fr)) _ _ _ _) | (show wpAny _ (AA (dp + 1 + 1 + 1 + 1) (un + 3 + 3 + 3 + 3) gd (_ :: _ :: _ :: _ :: fr)) _ _ _ _));
    (with_unfolding_all refine' PCall.useN (c_low (W := W) (n := n) ?c1 ?c2 ?c3 ?c4 ?c5) (by assumption) frU (by assumption) nwU (by assumption) ?uhf ?uke ?uhd ?uhu ?_);
    (case c1 => is_list);
    (case c2 => l_ints);
    (case c3 => (simp only [List.length_cons, List.length_nil] at leU2; omega));
    (case c4 => omega);
    (case c5 => assumption);
    (case uhf => rfl); (case uke => rfl); (case uhd => omega); (case uhu => omega);
    (intro msU lU vsU nU hU tkU frV iU nwW; intro rX; have cnU3 := rX.1; have leU3 := rX.2; clear rX; clear frU nwU; (try dsimp only)))
  have hfill : ∀ w' h', (headK.heap_1 (World.params w')).In h' → PySem.Challenge.rw_nn0016_01.row.prog = PySem.Challenge.rw_nn0016_01.row.prog := by k_fill; exact fun _ _ _ => rfl
  clear hfill
  intro dp un gd base fr Q E M hdp hun hret
  have X := M.X
  have T := M.T
  refine' enterC M ?k6 ?k7 ?k8 ?k9 ?kB ?kD ?_ ?c2 ?c3 ?c4
  case k6 => k_is
  case k7 => k_is
  case k8 => omega
  case k9 => exact BindsTo.of_eq rfl
  case kB => exact rfl
  case kD => decide +kernel
  case c2 => exact rfl
  case c3 => exact rfl
  case c4 => exact rfl
  intro L' h₁ tk' cells' F' N' Y' hL' B'
  k_cells Y'
  (try simp only [List.cons_append, List.nil_append] at N')
  show wpAny _ _ _ _ _ _
  try dsimp only
  k_fold
  tb_start
  (try dsimp only); (try k_unfold); (try dsimp only); refine hret _ _ _ (Fr.keep (by k_asm)) ?_
  rw [compl_val dg (by assumption) (by assumption)] at cnU3
  exact ⟨_, newL_of (by assumption) (by k_mem) (by assumption), cnU3, cnU3.len_mod⟩
theorem c_complI {a : Addr} {va : List Value} {na : List Int} {W : Nat} {tw : Tok} (hW : 2 ≤ W) (hW9 : W ≤ 9) {n : Int} {tn : Tok} (ha : s.heap.IsList a va.toArray) (ia : IntsAre va na) (ba : na.length < 990) (h0 : 0 ≤ n) (bn : n < 990) (dg : Dig (2 ^ W) na) :
    PCall w p loose mean mg mb 129 [.ref a, .int n tn, .int W tw] 5 60 (fun h' v => ∃ ms, NewL s.heap ms h' v ∧ Can W ms ((- val (2 ^ W) na) % (2 ^ W) ^ n.toNat) ∧ ms.length ≤ n.toNat) s := by
  obtain ⟨k, rfl⟩ := Int.eq_ofNat_of_zero_le h0
  exact c_compl hW hW9 ha ia ba (by omega) dg

theorem cell_bits1 {at' : Int} (h0 : 0 ≤ at') (h1 : at' < 1000) : Builtin.Int.intBits (7919 * at' * at' + 104729 * at' + 31) ≤ 1100000 ∧ 0 ≤ 7919 * at' * at' + 104729 * at' + 31 := by
  have e1 : 0 ≤ at' * at' := Int.mul_nonneg h0 h0
  have e2 : at' * at' ≤ 1000 * 1000 := Int.mul_le_mul (by omega) (by omega) h0 (by decide)
  rw [Int.mul_assoc]
  generalize at' * at' = q at *
  exact ⟨Nat.le_trans (PySem.intBits_le_64 (by omega) (by omega)) (by decide), by omega⟩
theorem cell_bits2 {v : Int} {n l : Nat} (hv : Builtin.Int.intBits v ≤ 1048576) (bn : n < 1000) (hl : (l : Int) ≠ 0) : Builtin.Int.intBits ((if v < 0 then -v else v) + 17 * (n : Int).fdiv l) ≤ 1100000 ∧ 0 ≤ (if v < 0 then -v else v) + 17 * (n : Int).fdiv l := by
  have e1 : 0 ≤ (n : Int).fdiv l := Int.fdiv_nonneg (by omega) (by omega)
  have e2 : (n : Int).fdiv l ≤ n := by rw [fdiv_pos _ (by omega)]; exact Int.ediv_le_self _ (by omega)
  have e3 : (if v < 0 then -v else v) = (v.natAbs : Int) := by split <;> omega
  rw [e3]
  generalize (n : Int).fdiv l = q at *
  refine ⟨?_, by omega⟩
  have h1 := intBits_add_le (m := 1048576) (n := 64) (PySem.intBits_natAbs_le hv) (PySem.intBits_le_64 (k := 17 * q) (by omega) (by omega))
  exact Nat.le_trans h1 (by decide)
theorem c_cell {a : Addr} {va : List Value} {na : List Int} {n : Nat} {tn : Tok} (ha : s.heap.IsList a va.toArray) (ia : IntsAre va na) (ba : na.length < 1000) (bn : n < 1000) (hb : ∀ j, Builtin.Int.intBits (na.getD j 0) ≤ 1048576) :
    PCall w p loose mean mg mb 192 [.ref a, .int n tn] 3 40 (fun h' v => ∃ (r : Int) (tk : Tok), v = .int r tk ∧ Builtin.Int.intBits r ≤ 1100000 ∧ 0 ≤ r) s := by
  w_top off
  k_with_none
  k_with "eval Call" => (k_dflt (k_here; first | ((with_reducible show wpAny _ _ (eval (Expr.Call (Expr.Name _ _) [Expr.Name _ _, Expr.Name _ _, Expr.Name _ _] [] _) _) _ _ _); (refine' cn3 ?nF ?nX ?nT ?nE ?nK ?n1 ?n2 ?n3 ?_); (case nF => k_asm); (case nX => k_asm); (case nT => k_asm); (case nE => k_is); (case nK => k_is); (case n1 => rfl); (case n2 => rfl); (case n3 => rfl); k_whole) | ((with_reducible show wpAny _ _ (eval (Expr.Call (Expr.Name _ _) [Expr.Name _ _, Expr.Name _ _] [] _) _) _ _ _); (refine' cn2 ?nF ?nX ?nT ?nE ?nK ?n1 ?n2 ?_); (case nF => k_asm); (case nX => k_asm); (case nT => k_asm); (case nE => k_is); (case nK => k_is); (case n1 => rfl); (case n2 => rfl); k_whole) | ((with_reducible show wpAny _ _ (eval (Expr.Call (Expr.Name _ _) [Expr.Name _ _] [] _) _) _ _ _); (refine' cn1 ?nF ?nX ?nT ?nE ?nK ?n1 ?_); (case nF => k_asm); (case nX => k_asm); (case nT => k_asm); (case nE => k_is); (case nK => k_is); (case n1 => rfl); k_whole)))
  have hfill : ∀ w' h', (headK.heap_1 (World.params w')).In h' → PySem.Challenge.rw_nn0016_01.row.prog = PySem.Challenge.rw_nn0016_01.row.prog := by k_fill; exact fun _ _ _ => rfl
  clear hfill
  intro dp un gd base fr Q E M hdp hun hret
  have X := M.X
  have T := M.T
  refine' enterP M ?k6 ?k7 ?k8 ?k9 ?kB ?_ ?c2 ?c3 ?c4 ?c5
  case k6 => k_is
  case k7 => k_is
  case k8 => omega
  case k9 => exact BindsTo.of_eq rfl
  case kB => exact locs rfl
  case c2 => exact rfl
  case c3 => exact rfl
  case c4 => exact rfl
  case c5 => decide
  intro L' h₁ F' N' hL' B'
  try dsimp only
  k_fold
  tb_start
  · (try dsimp only); (try k_unfold); (try dsimp only); refine hret _ _ _ (Fr.keep (by k_asm)) ?_
    exact ⟨_, _, rfl, cell_bits1 (by omega) (by omega)⟩
  · (try dsimp only); (try k_unfold); (try dsimp only); refine hret _ _ _ (Fr.keep (by k_asm)) ?_
    exact ⟨_, _, rfl, cell_bits2 (hb _) bn (by assumption)⟩

theorem c_limbs {x : Int} {k W : Nat} {tw tx : Tok} (hW : 2 ≤ W) (hW9 : W ≤ 9) (h0 : 0 ≤ x) (hk : x < (2 ^ W) ^ k) (bk : k < 1000) :
    PCall w p loose mean mg mb 199 [.int x tx, .int W tw] 3 40 (fun h' v => ∃ ms, NewL s.heap ms h' v ∧ Can W ms x ∧ ms.length ≤ k) s := by
  have hl : ∀ {f n}, LimI W x f n → 0 < n → f.length < k := fun a b => a.len b hk
  clear hk
  have iNil : IntsAre ([] : List Value) [] := .nil
  w_top off
  k_with_none
  k_with "eval Call" => (k_dflt (k_here; first | ((with_reducible show wpAny _ _ (eval (Expr.Call (Expr.Name _ _) [Expr.Name _ _, Expr.Name _ _, Expr.Name _ _] [] _) _) _ _ _); (refine' cn3 ?nF ?nX ?nT ?nE ?nK ?n1 ?n2 ?n3 ?_); (case nF => k_asm); (case nX => k_asm); (case nT => k_asm); (case nE => k_is); (case nK => k_is); (case n1 => rfl); (case n2 => rfl); (case n3 => rfl); k_whole) | ((with_reducible show wpAny _ _ (eval (Expr.Call (Expr.Name _ _) [Expr.Name _ _, Expr.Name _ _] [] _) _) _ _ _); (refine' cn2 ?nF ?nX ?nT ?nE ?nK ?n1 ?n2 ?_); (case nF => k_asm); (case nX => k_asm); (case nT => k_asm); (case nE => k_is); (case nK => k_is); (case n1 => rfl); (case n2 => rfl); k_whole) | ((with_reducible show wpAny _ _ (eval (Expr.Call (Expr.Name _ _) [Expr.Name _ _] [] _) _) _ _ _); (refine' cn1 ?nF ?nX ?nT ?nE ?nK ?n1 ?_); (case nF => k_asm); (case nX => k_asm); (case nT => k_asm); (case nE => k_is); (case nK => k_is); (case n1 => rfl); k_whole)))
  k_with "state" => first | exact ⟨h0, Nat.zero_le _, LimI.start⟩ | exact ⟨(LimI.less hW (by assumption)).1, by have := hl (by assumption) (by assumption); simp only [List.length_append, List.length_cons, List.length_nil]; omega, LimI.step (by assumption) (by assumption)⟩
  k_with "measure" => (have := LimI.less hW (by assumption); omega)
  have hfill : ∀ w' h', (headK.heap_1 (World.params w')).In h' → PySem.Challenge.rw_nn0016_01.row.prog = PySem.Challenge.rw_nn0016_01.row.prog := by k_fill; exact fun _ _ _ => rfl
  clear hfill
  intro dp un gd base fr Q E M hdp hun hret
  have X := M.X
  have T := M.T
  refine' enterP M ?k6 ?k7 ?k8 ?k9 ?kB ?_ ?c2 ?c3 ?c4 ?c5
  case k6 => k_is
  case k7 => k_is
  case k8 => omega
  case k9 => exact BindsTo.of_eq rfl
  case kB => exact locs rfl
  case c2 => exact rfl
  case c3 => exact rfl
  case c4 => exact rfl
  case c5 => decide
  intro L' h₁ F' N' hL' B'
  try dsimp only
  k_fold
  tb_start
  k_while (fun _ found n => 0 ≤ n ∧ found.length ≤ k ∧ LimI W x found n) (fun _ _ n => n.toNat) "found" "n"
  tb_start
  (try dsimp only); (try k_unfold); (try dsimp only); refine hret _ _ _ (Fr.keep (by k_asm)) ?_
  exact ⟨_, newL_of (by assumption) (by k_mem) (by assumption), LimI.can (by assumption) (by omega), by assumption⟩

theorem c_number {a : Addr} {va : List Value} {na : List Int} {x : Int} {W : Nat} {tw : Tok} (hW : 2 ≤ W) (hW9 : W ≤ 9) (ha : s.heap.IsList a va.toArray) (ia : IntsAre va na) (ba : na.length < 1000) (cn : Can W na x) :
    PCall w p loose mean mg mb 206 [.ref a, .int W tw] 3 40 (fun h' v => ∃ (tk : Tok), v = .int x tk) s := by
  have dg : ∀ k, k ∈ na.reverse → 0 ≤ k ∧ k < 1 * 2 ^ ((W : Int)).toNat := fun k hk => by rw [whole_eq]; exact cn.dig k (List.mem_reverse.mp hk)
  w_top off
  k_with_none
  k_with "eval Call" => (k_dflt (k_here; first | ((with_reducible show wpAny _ _ (eval (Expr.Call (Expr.Name _ _) [Expr.Name _ _, Expr.Name _ _, Expr.Name _ _] [] _) _) _ _ _); (refine' cn3 ?nF ?nX ?nT ?nE ?nK ?n1 ?n2 ?n3 ?_); (case nF => k_asm); (case nX => k_asm); (case nT => k_asm); (case nE => k_is); (case nK => k_is); (case n1 => rfl); (case n2 => rfl); (case n3 => rfl); k_whole) | ((with_reducible show wpAny _ _ (eval (Expr.Call (Expr.Name _ _) [Expr.Name _ _, Expr.Name _ _] [] _) _) _ _ _); (refine' cn2 ?nF ?nX ?nT ?nE ?nK ?n1 ?n2 ?_); (case nF => k_asm); (case nX => k_asm); (case nT => k_asm); (case nE => k_is); (case nK => k_is); (case n1 => rfl); (case n2 => rfl); k_whole) | ((with_reducible show wpAny _ _ (eval (Expr.Call (Expr.Name _ _) [Expr.Name _ _] [] _) _) _ _ _); (refine' cn1 ?nF ?nX ?nT ?nE ?nK ?n1 ?_); (case nF => k_asm); (case nX => k_asm); (case nT => k_asm); (case nE => k_is); (case nK => k_is); (case n1 => rfl); k_whole)))
  k_with "exec For Name Subscript cons nil" => (k_here; (rename Fr _ _ _ _ => lF'); (with_unfolding_all refine' For_invVF lF' ?k1 ?k2 ?_; (case k1 => exact rfl); (case k2 => exact rfl); k_whole))
  k_with "state" => first | exact NumI.start | exact NumI.step (by assumption) (by assumption) (by assumption)
  k_with "binaryOp LShift int int" => ((with_reducible rename NumI _ _ _ => qn); refine lshift_int (by omega) (by have := (NumI.bits hW9 (by omega) qn).2; omega) ?_)
  have hfill : ∀ w' h', (headK.heap_1 (World.params w')).In h' → PySem.Challenge.rw_nn0016_01.row.prog = PySem.Challenge.rw_nn0016_01.row.prog := by k_fill; exact fun _ _ _ => rfl
  clear hfill
  intro dp un gd base fr Q E M hdp hun hret
  have X := M.X
  have T := M.T
  refine' enterP M ?k6 ?k7 ?k8 ?k9 ?kB ?_ ?c2 ?c3 ?c4 ?c5
  case k6 => k_is
  case k7 => k_is
  case k8 => omega
  case k9 => exact BindsTo.of_eq rfl
  case kB => exact locs rfl
  case c2 => exact rfl
  case c3 => exact rfl
  case c4 => exact rfl
  case c5 => decide
  intro L' h₁ F' N' hL' B'
  try dsimp only
  k_fold
  tb_start
  k_state (fun pre found => NumI W pre found) "found"
  · tb_start
    · rename (¬ _ < 1 * _) => g1
      exact absurd (dg _ (by assumption)).2 g1
    · rename (¬ (0 : Int) ≤ _) => g1
      exact absurd (dg _ (by assumption)).1 g1
  · tb_start
    · rename (na.getD _ _ = 0) => g1
      have e : (-1 + (na.length : Int)).toNat = na.length - 1 := by omega
      rw [e] at g1
      exact absurd g1 (cn.nt.last (by omega))
    · (try dsimp only); (try k_unfold); (try dsimp only); refine hret _ _ _ (Fr.keep (by k_asm)) ?_
      rename NumI _ _ _ => qn
      have e := qn.1
      rw [List.reverse_reverse, cn.val] at e
      exact ⟨_, by rw [e]⟩
    · (try dsimp only); (try k_unfold); (try dsimp only); refine hret _ _ _ (Fr.keep (by k_asm)) ?_
      rename NumI _ _ _ => qn
      have e := qn.1
      rw [List.reverse_reverse, cn.val] at e
      exact ⟨_, by rw [e]⟩

theorem mul_lt_pow {W m n : Nat} {ma mb : List Int} {x y : Int} (ca : Can W ma x) (cb : Can W mb y) (hm : ma.length ≤ m) (hn : mb.length ≤ n) : 0 ≤ x * y ∧ x * y < (2 ^ W) ^ (m + n) := by
  have hB := two_pow_pos W
  have h1 : x < (2 ^ W) ^ m := Int.lt_of_lt_of_le ca.lt (pow_le_pow' hB hm)
  have h2 : y < (2 ^ W) ^ n := Int.lt_of_lt_of_le cb.lt (pow_le_pow' hB hn)
  refine ⟨Int.mul_nonneg ca.nonneg cb.nonneg, ?_⟩
  rw [Int.pow_add]
  have hB2 : (0 : Int) < (2 ^ W) ^ n := Int.pow_pos hB
  have hB1 : (0 : Int) < (2 ^ W) ^ m := Int.pow_pos hB
  have a1 : x * y ≤ x * (2 ^ W) ^ n := Int.mul_le_mul_of_nonneg_left (Int.le_of_lt h2) ca.nonneg
  have a2 : x * (2 ^ W) ^ n < (2 ^ W) ^ m * (2 ^ W) ^ n := Int.mul_lt_mul_of_pos_right h1 hB2
  omega
theorem c_mul {a b : Addr} {va vb : List Value} {na nb : List Int} {x y : Int} {W : Nat} {tw : Tok} (hW : 2 ≤ W) (hW9 : W ≤ 9) (ha : s.heap.IsList a va.toArray) (ia : IntsAre va na) (ba : na.length < 400)
    (hb : s.heap.IsList b vb.toArray) (ib : IntsAre vb nb) (bb : nb.length < 400) (ca : Can W na x) (cb : Can W nb y) :
    PCall w p loose mean mg mb 213 [.ref a, .ref b, .int W tw] 5 60 (fun h' v => ∃ ms, NewL s.heap ms h' v ∧ Can W ms (x * y) ∧ ms.length ≤ na.length + nb.length) s := by
  have hxy := mul_lt_pow ca cb (Nat.le_refl _) (Nat.le_refl _)
  have bx := ca.bits hW9 (by omega)
  have bY := cb.bits hW9 (by omega)
  w_top off
  k_with_none
  k_with "eval Call" => (k_dflt (k_here; first | ((with_reducible show wpAny _ _ (eval (Expr.Call (Expr.Name _ _) [Expr.Name _ _, Expr.Name _ _, Expr.Name _ _] [] _) _) _ _ _); (refine' cn3 ?nF ?nX ?nT ?nE ?nK ?n1 ?n2 ?n3 ?_); (case nF => k_asm); (case nX => k_asm); (case nT => k_asm); (case nE => k_is); (case nK => k_is); (case n1 => rfl); (case n2 => rfl); (case n3 => rfl); k_whole) | ((with_reducible show wpAny _ _ (eval (Expr.Call (Expr.Name _ _) [Expr.Name _ _, Expr.Name _ _] [] _) _) _ _ _); (refine' cn2 ?nF ?nX ?nT ?nE ?nK ?n1 ?n2 ?_); (case nF => k_asm); (case nX => k_asm); (case nT => k_asm); (case nE => k_is); (case nK => k_is); (case n1 => rfl); (case n2 => rfl); k_whole) | ((with_reducible show wpAny _ _ (eval (Expr.Call (Expr.Name _ _) [Expr.Name _ _] [] _) _) _ _ _); (refine' cn1 ?nF ?nX ?nT ?nE ?nK ?n1 ?_); (case nF => k_asm); (case nX => k_asm); (case nT => k_asm); (case nE => k_is); (case nK => k_is); (case n1 => rfl); k_whole)))
  k_with "call ref" => k_dflt (
    (k_here; (with_reducible show wpAny _ _ (call (Value.ref 206) _) _ _ _)); (rename Fr _ _ _ _ => frU); (rename News _ _ _ _ => nwU); (first | (show wpAny _ (AA (dp + 1) (un + 3) gd (_ :: fr)) _ _ _ _) | (show wpAny _ (AA (dp + 1 + 1) (un + 3 + 3) gd (_ :: _ :: fr)) _ _ _ _) | (show wpAny _ (AA (dp + 1 + 1 + 1) (un + 3 + 3 + 3) gd (_ :: _ :: _ :: fr)) _ _ _ _) | (show wpAny _ (AA (dp + 1 + 1 + 1 + 1) (un + 3 + 3 + 3 + 3) gd (_ :: _ :: _ :: _ :: fr)) _ _ _ _));
    (with_unfolding_all refine' PCall.useX (c_number (W := W) (na := na) hW hW9 ?c1 ?c2 ?c3 ?c4) (by assumption) frU (by assumption) nwU (by assumption) ?uhf ?uke ?uhd ?uhu ?_);
    (case c1 => is_list);
    (case c2 => exact ia);
    (case c3 => omega);
    (case c4 => exact ca);
    (case uhf => rfl); (case uke => rfl); (case uhd => omega); (case uhu => omega);
    (intro hU tkU tU frV nwV; clear frU nwU; (try dsimp only)))
  k_with "call ref" => k_dflt (
    (k_here; (with_reducible show wpAny _ _ (call (Value.ref 206) _) _ _ _)); (rename Fr _ _ _ _ => frU); (rename News _ _ _ _ => nwU); (first | (show wpAny _ (AA (dp + 1) (un + 3) gd (_ :: fr)) _ _ _ _) | (show wpAny _ (AA (dp + 1 + 1) (un + 3 + 3) gd (_ :: _ :: fr)) _ _ _ _) | (show wpAny _ (AA (dp + 1 + 1 + 1) (un + 3 + 3 + 3) gd (_ :: _ :: _ :: fr)) _ _ _ _) | (show wpAny _ (AA (dp + 1 + 1 + 1 + 1) (un + 3 + 3 + 3 + 3) gd (_ :: _ :: _ :: _ :: fr)) _ _ _ _));
    (with_unfolding_all refine' PCall.useX (c_number (W := W) (na := nb) hW hW9 ?c1 ?c2 ?c3 ?c4) (by assumption) frU (by assumption) nwU (by assumption) ?uhf ?uke ?uhd ?uhu ?_);
    (case c1 => is_list);
    (case c2 => exact ib);
    (case c3 => omega);
    (case c4 => exact cb);
    (case uhf => rfl); (case uke => rfl); (case uhd => omega); (case uhu => omega);
    (intro hU tkU tU frV nwV; clear frU nwU; (try dsimp only)))
  k_with "binaryOp Mult int int" => (refine mul_int ?_ (bits_mul_ok (Nat.le_trans bx (by decide)) (Nat.le_trans bY (by decide))))
  k_with "call ref" => k_dflt (
    (k_here; (with_reducible show wpAny _ _ (call (Value.ref 199) _) _ _ _)); (rename Fr _ _ _ _ => frU); (rename News _ _ _ _ => nwU); (first | (show wpAny _ (AA (dp + 1) (un + 3) gd (_ :: fr)) _ _ _ _) | (show wpAny _ (AA (dp + 1 + 1) (un + 3 + 3) gd (_ :: _ :: fr)) _ _ _ _) | (show wpAny _ (AA (dp + 1 + 1 + 1) (un + 3 + 3 + 3) gd (_ :: _ :: _ :: fr)) _ _ _ _) | (show wpAny _ (AA (dp + 1 + 1 + 1 + 1) (un + 3 + 3 + 3 + 3) gd (_ :: _ :: _ :: _ :: fr)) _ _ _ _));
    (with_unfolding_all refine' PCall.useN (c_limbs (k := na.length + nb.length) hW hW9 ?c1 ?c2 ?c3) (by assumption) frU (by assumption) nwU (by assumption) ?uhf ?uke ?uhd ?uhu ?_);
    (case c1 => exact hxy.1);
    (case c2 => exact hxy.2);
    (case c3 => omega);
    (case uhf => rfl); (case uke => rfl); (case uhd => omega); (case uhu => omega);
    (intro msU lU vsU nU hU tkU frV iU nwW; intro rX; have cnU := rX.1; have leU := rX.2; clear rX; clear frU nwU; (try dsimp only)))
  have hfill : ∀ w' h', (headK.heap_1 (World.params w')).In h' → PySem.Challenge.rw_nn0016_01.row.prog = PySem.Challenge.rw_nn0016_01.row.prog := by k_fill; exact fun _ _ _ => rfl
  clear hfill
  intro dp un gd base fr Q E M hdp hun hret
  have X := M.X
  have T := M.T
  refine' enterP M ?k6 ?k7 ?k8 ?k9 ?kB ?_ ?c2 ?c3 ?c4 ?c5
  case k6 => k_is
  case k7 => k_is
  case k8 => omega
  case k9 => exact BindsTo.of_eq rfl
  case kB => exact locs rfl
  case c2 => exact rfl
  case c3 => exact rfl
  case c4 => exact rfl
  case c5 => decide
  intro L' h₁ F' N' hL' B'
  try dsimp only
  k_fold
  tb_start
  (try dsimp only); (try k_unfold); (try dsimp only); refine hret _ _ _ (Fr.keep (by k_asm)) ?_
  exact ⟨_, newL_of (by assumption) (by k_mem) (by assumption), cnU, leU⟩

theorem sq_bits {x : Int} (h : Builtin.Int.intBits x ≤ 1100000) : (Builtin.Int.intBits x : Int) * 2 ≤ 2 ^ 27 := by omega
theorem wide_bound (x : Int) (k W : Nat) : 0 ≤ (x.fmod (1 * 2 ^ ((W : Int) * 6).toNat)).fdiv (2 ^ k) ∧ (x.fmod (1 * 2 ^ ((W : Int) * 6).toNat)).fdiv (2 ^ k) < 2 ^ (W * 6) := by
  have e : ((W : Int) * 6).toNat = W * 6 := by omega
  have hp := two_pow_pos (W * 6)
  rw [e, Int.one_mul, fmod_pos _ hp, fdiv_pos _ (two_pow_pos k)]
  have h0 := Int.emod_nonneg x (Int.ne_of_gt hp)
  have h1 := Int.emod_lt_of_pos x hp
  exact ⟨Int.ediv_nonneg h0 (Int.le_of_lt (two_pow_pos k)), Int.lt_of_le_of_lt (Int.ediv_le_self _ h0) h1⟩
theorem c_wide {a : Addr} {va : List Value} {na : List Int} {n W : Nat} {tn tw tm : Tok} (hW : 2 ≤ W) (hW9 : W ≤ 9) (ha : s.heap.IsList a va.toArray) (ia : IntsAre va na) (ba : na.length < 1000) (bn : n < 900) (hb : ∀ j, Builtin.Int.intBits (na.getD j 0) ≤ 1048576) :
    PCall w p loose mean mg mb 220 [.ref a, .int n tn, .int W tw, .int 6 tm] 5 60 (fun h' v => ∃ (r : Int) (tk : Tok), v = .int r tk ∧ 0 ≤ r ∧ r < 2 ^ (W * 6)) s := by
  w_top off
  k_with_none
  k_with "eval Call" => (k_dflt (k_here; first | ((with_reducible show wpAny _ _ (eval (Expr.Call (Expr.Name _ _) [Expr.Name _ _, Expr.Name _ _, Expr.Name _ _] [] _) _) _ _ _); (refine' cn3 ?nF ?nX ?nT ?nE ?nK ?n1 ?n2 ?n3 ?_); (case nF => k_asm); (case nX => k_asm); (case nT => k_asm); (case nE => k_is); (case nK => k_is); (case n1 => rfl); (case n2 => rfl); (case n3 => rfl); k_whole) | ((with_reducible show wpAny _ _ (eval (Expr.Call (Expr.Name _ _) [Expr.Name _ _, Expr.Name _ _] [] _) _) _ _ _); (refine' cn2 ?nF ?nX ?nT ?nE ?nK ?n1 ?n2 ?_); (case nF => k_asm); (case nX => k_asm); (case nT => k_asm); (case nE => k_is); (case nK => k_is); (case n1 => rfl); (case n2 => rfl); k_whole) | ((with_reducible show wpAny _ _ (eval (Expr.Call (Expr.Name _ _) [Expr.Name _ _] [] _) _) _ _ _); (refine' cn1 ?nF ?nX ?nT ?nE ?nK ?n1 ?_); (case nF => k_asm); (case nX => k_asm); (case nT => k_asm); (case nE => k_is); (case nK => k_is); (case n1 => rfl); k_whole)))
  k_with "eval Call" => (k_dflt (refine Call_ ?_))
  k_with "eval Call" => (k_dflt (k_here; first | ((with_reducible show wpAny _ _ (eval (Expr.Call (Expr.Name _ _) [Expr.Name _ _, Expr.Name _ _, Expr.Name _ _] [] _) _) _ _ _); (refine' cn3 ?nF ?nX ?nT ?nE ?nK ?n1 ?n2 ?n3 ?_); (case nF => k_asm); (case nX => k_asm); (case nT => k_asm); (case nE => k_is); (case nK => k_is); (case n1 => rfl); (case n2 => rfl); (case n3 => rfl); k_whole) | ((with_reducible show wpAny _ _ (eval (Expr.Call (Expr.Name _ _) [Expr.Name _ _, Expr.Name _ _] [] _) _) _ _ _); (refine' cn2 ?nF ?nX ?nT ?nE ?nK ?n1 ?n2 ?_); (case nF => k_asm); (case nX => k_asm); (case nT => k_asm); (case nE => k_is); (case nK => k_is); (case n1 => rfl); (case n2 => rfl); k_whole) | ((with_reducible show wpAny _ _ (eval (Expr.Call (Expr.Name _ _) [Expr.Name _ _] [] _) _) _ _ _); (refine' cn1 ?nF ?nX ?nT ?nE ?nK ?n1 ?_); (case nF => k_asm); (case nX => k_asm); (case nT => k_asm); (case nE => k_is); (case nK => k_is); (case n1 => rfl); k_whole)))
  k_with "call ref" => k_dflt (
    (k_here; (with_reducible show wpAny _ _ (call (Value.ref 192) _) _ _ _)); (rename Fr _ _ _ _ => frU); (rename News _ _ _ _ => nwU); (first | (show wpAny _ (AA (dp + 1) (un + 3) gd (_ :: fr)) _ _ _ _) | (show wpAny _ (AA (dp + 1 + 1) (un + 3 + 3) gd (_ :: _ :: fr)) _ _ _ _) | (show wpAny _ (AA (dp + 1 + 1 + 1) (un + 3 + 3 + 3) gd (_ :: _ :: _ :: fr)) _ _ _ _) | (show wpAny _ (AA (dp + 1 + 1 + 1 + 1) (un + 3 + 3 + 3 + 3) gd (_ :: _ :: _ :: _ :: fr)) _ _ _ _));
    (with_unfolding_all refine' PCall.useI (c_cell (na := na) (n := n) ?c1 ?c2 ?c3 ?c4 ?c5) (by assumption) frU (by assumption) nwU (by assumption) ?uhf ?uke ?uhd ?uhu ?_);
    (case c1 => is_list);
    (case c2 => exact ia);
    (case c3 => exact ba);
    (case c4 => omega);
    (case c5 => exact hb);
    (case uhf => rfl); (case uke => rfl); (case uhd => omega); (case uhu => omega);
    (intro rU hU tkU tU frV nwV; intro rX; have bU := rX.1; have zU := rX.2; clear rX; clear frU nwU; (try dsimp only)))
  k_with "call ref" => k_dflt (
    (k_here; (with_reducible show wpAny _ _ (call (Value.ref 192) _) _ _ _)); (rename Fr _ _ _ _ => frU); (rename News _ _ _ _ => nwU); (first | (show wpAny _ (AA (dp + 1) (un + 3) gd (_ :: fr)) _ _ _ _) | (show wpAny _ (AA (dp + 1 + 1) (un + 3 + 3) gd (_ :: _ :: fr)) _ _ _ _) | (show wpAny _ (AA (dp + 1 + 1 + 1) (un + 3 + 3 + 3) gd (_ :: _ :: _ :: fr)) _ _ _ _) | (show wpAny _ (AA (dp + 1 + 1 + 1 + 1) (un + 3 + 3 + 3 + 3) gd (_ :: _ :: _ :: _ :: fr)) _ _ _ _));
    (with_unfolding_all refine' PCall.useI (c_cell (na := na) (n := n + 1) ?c1 ?c2 ?c3 ?c4 ?c5) (by assumption) frU (by assumption) nwU (by assumption) ?uhf ?uke ?uhd ?uhu ?_);
    (case c1 => is_list);
    (case c2 => exact ia);
    (case c3 => exact ba);
    (case c4 => omega);
    (case c5 => exact hb);
    (case uhf => rfl); (case uke => rfl); (case uhd => omega); (case uhu => omega);
    (intro rU hU tkU tU frV nwV; intro rX; have bU := rX.1; have zU := rX.2; clear rX; clear frU nwU; (try dsimp only)))
  k_with "call ref" => k_dflt (
    (k_here; (with_reducible show wpAny _ _ (call (Value.ref 192) _) _ _ _)); (rename Fr _ _ _ _ => frU); (rename News _ _ _ _ => nwU); (first | (show wpAny _ (AA (dp + 1) (un + 3) gd (_ :: fr)) _ _ _ _) | (show wpAny _ (AA (dp + 1 + 1) (un + 3 + 3) gd (_ :: _ :: fr)) _ _ _ _) | (show wpAny _ (AA (dp + 1 + 1 + 1) (un + 3 + 3 + 3) gd (_ :: _ :: _ :: fr)) _ _ _ _) | (show wpAny _ (AA (dp + 1 + 1 + 1 + 1) (un + 3 + 3 + 3 + 3) gd (_ :: _ :: _ :: _ :: fr)) _ _ _ _));
    (with_unfolding_all refine' PCall.useI (c_cell (na := na) (n := n + 2) ?c1 ?c2 ?c3 ?c4 ?c5) (by assumption) frU (by assumption) nwU (by assumption) ?uhf ?uke ?uhd ?uhu ?_);
    (case c1 => is_list);
    (case c2 => exact ia);
    (case c3 => exact ba);
    (case c4 => omega);
    (case c5 => exact hb);
    (case uhf => rfl); (case uke => rfl); (case uhd => omega); (case uhu => omega);
    (intro rU hU tkU tU frV nwV; intro rX; have bU := rX.1; have zU := rX.2; clear rX; clear frU nwU; (try dsimp only)))
  k_with "call ref" => k_dflt (
    (k_here; (with_reducible show wpAny _ _ (call (Value.ref 192) _) _ _ _)); (rename Fr _ _ _ _ => frU); (rename News _ _ _ _ => nwU); (first | (show wpAny _ (AA (dp + 1) (un + 3) gd (_ :: fr)) _ _ _ _) | (show wpAny _ (AA (dp + 1 + 1) (un + 3 + 3) gd (_ :: _ :: fr)) _ _ _ _) | (show wpAny _ (AA (dp + 1 + 1 + 1) (un + 3 + 3 + 3) gd (_ :: _ :: _ :: fr)) _ _ _ _) | (show wpAny _ (AA (dp + 1 + 1 + 1 + 1) (un + 3 + 3 + 3 + 3) gd (_ :: _ :: _ :: _ :: fr)) _ _ _ _));
    (with_unfolding_all refine' PCall.useI (c_cell (na := na) (n := n + 3) ?c1 ?c2 ?c3 ?c4 ?c5) (by assumption) frU (by assumption) nwU (by assumption) ?uhf ?uke ?uhd ?uhu ?_);
    (case c1 => is_list);
    (case c2 => exact ia);
    (case c3 => exact ba);
    (case c4 => omega);
    (case c5 => exact hb);
    (case uhf => rfl); (case uke => rfl); (case uhd => omega); (case uhu => omega);
    (intro rU hU tkU tU frV nwV; intro rX; have bU := rX.1; have zU := rX.2; clear rX; clear frU nwU; (try dsimp only)))
  k_with "binaryOp Mult int int" => first
    | (refine mul_int ?_ (PySem.IntMulOk.of_right (PySem.intBits_le_64 (by omega) (by omega))))
    | (refine mul_int ?_ (bits_mul_ok (Nat.le_trans (by assumption) (by decide)) (by decide)))
  k_with "binaryOp Pow int int" => (refine pow_int (by decide) (sq_bits (by assumption)) ?_)
  k_with "binaryOp RShift int int" => (refine rshift_int (Int.fmod_nonneg_of_pos _ (by omega)) ?_)
  have hfill : ∀ w' h', (headK.heap_1 (World.params w')).In h' → PySem.Challenge.rw_nn0016_01.row.prog = PySem.Challenge.rw_nn0016_01.row.prog := by k_fill; exact fun _ _ _ => rfl
  clear hfill
  intro dp un gd base fr Q E M hdp hun hret
  have X := M.X
  have T := M.T
  refine' enterP M ?k6 ?k7 ?k8 ?k9 ?kB ?_ ?c2 ?c3 ?c4 ?c5
  case k6 => k_is
  case k7 => k_is
  case k8 => omega
  case k9 => exact BindsTo.of_eq rfl
  case kB => exact locs rfl
  case c2 => exact rfl
  case c3 => exact rfl
  case c4 => exact rfl
  case c5 => decide
  intro L' h₁ F' N' hL' B'
  try dsimp only
  k_fold
  tb_start
  (try dsimp only); (try k_unfold); (try dsimp only); refine hret _ _ _ (Fr.keep (by k_asm)) ?_
  exact ⟨_, _, rfl, wide_bound _ _ W⟩

theorem drop_len {n : Nat} {xs : List Int} {sz : Nat} (h : xs.length = sz) : (xs.drop n).length = sz - n := by simp [h]
theorem c_divrem {a b : Addr} {va vb : List Value} {na nb : List Int} {W n : Nat} {tw tn : Tok} (hW : 2 ≤ W) (hW9 : W ≤ 9) (ha : s.heap.IsList a va.toArray) (ia : IntsAre va na) (ba : na.length < 300)
    (hb : s.heap.IsList b vb.toArray) (ib : IntsAre vb nb) (bb : nb.length < 300) (bn : n < 300) (da : Dig (2 ^ W) na) (db : Dig (2 ^ W) nb) (hodd : nb.getD 0 0 % 2 = 1) (hlb : 0 < nb.length) :
    PCall w p loose mean mg mb 150 [.ref a, .ref b, .int n tn, .int W tw] 7 80 (fun h' v => ∃ q z bl msf msr, NewT s.heap msf bl msr h' v ∧ Can W msf q ∧ q < (2 ^ W) ^ n ∧ msr.length < 1000 ∧ (bl = true → val (2 ^ W) na < q * val (2 ^ W) nb ∧ (2 ^ W) ^ n ∣ val (2 ^ W) na - q * val (2 ^ W) nb) ∧ (bl = false → Can W msr z ∧ val (2 ^ W) na = q * val (2 ^ W) nb + (2 ^ W) ^ n * z)) s := by
  have hp : (2:Int) ^ W ≤ 512 := pow_le_pow' (B := 2) (by decide) hW9
  obtain ⟨sz, hsz⟩ : ∃ sz : Nat, (if (n : Int) + nb.length > na.length then (n : Int) + nb.length else na.length) = sz := ⟨max na.length (n + nb.length), by split <;> omega⟩
  have hsz1 : na.length ≤ sz ∧ n + nb.length ≤ sz ∧ sz < 600 := by split at hsz <;> omega
  have hb0 := db.getD (two_pow_pos W) 0
  have hbm : ∀ p, p ∈ nb → 0 ≤ p ∧ p < 2 ^ W := db
  w_top off
  k_with_none
  k_with "eval Call" => (k_dflt (k_here; first | ((with_reducible show wpAny _ _ (eval (Expr.Call (Expr.Name _ _) [Expr.Name _ _, Expr.Name _ _, Expr.Name _ _] [] _) _) _ _ _); (refine' cn3 ?nF ?nX ?nT ?nE ?nK ?n1 ?n2 ?n3 ?_); (case nF => k_asm); (case nX => k_asm); (case nT => k_asm); (case nE => k_is); (case nK => k_is); (case n1 => rfl); (case n2 => rfl); (case n3 => rfl); k_whole) | ((with_reducible show wpAny _ _ (eval (Expr.Call (Expr.Name _ _) [Expr.Name _ _, Expr.Name _ _] [] _) _) _ _ _); (refine' cn2 ?nF ?nX ?nT ?nE ?nK ?n1 ?n2 ?_); (case nF => k_asm); (case nX => k_asm); (case nT => k_asm); (case nE => k_is); (case nK => k_is); (case n1 => rfl); (case n2 => rfl); k_whole) | ((with_reducible show wpAny _ _ (eval (Expr.Call (Expr.Name _ _) [Expr.Name _ _] [] _) _) _ _ _); (refine' cn1 ?nF ?nX ?nT ?nE ?nK ?n1 ?_); (case nF => k_asm); (case nX => k_asm); (case nT => k_asm); (case nE => k_is); (case nK => k_is); (case n1 => rfl); k_whole)))
  k_with "call ref" => k_dflt (
    (k_here; (with_reducible show wpAny _ _ (call (Value.ref 117) _) _ _ _)); (rename Fr _ _ _ _ => frU); (rename News _ _ _ _ => nwU); (first | (show wpAny _ (AA (dp + 1) (un + 3) gd (_ :: fr)) _ _ _ _) | (show wpAny _ (AA (dp + 1 + 1) (un + 3 + 3) gd (_ :: _ :: fr)) _ _ _ _) | (show wpAny _ (AA (dp + 1 + 1 + 1) (un + 3 + 3 + 3) gd (_ :: _ :: _ :: fr)) _ _ _ _) | (show wpAny _ (AA (dp + 1 + 1 + 1 + 1) (un + 3 + 3 + 3 + 3) gd (_ :: _ :: _ :: _ :: fr)) _ _ _ _));
    (with_unfolding_all refine' PCall.useI (c_invl (W := W) (d := nb.getD 0 0) hW hW9 ?c1 ?c2 ?c3) (by assumption) frU (by assumption) nwU (by assumption) ?uhf ?uke ?uhd ?uhu ?_);
    (case c1 => exact hb0.1);
    (case c2 => exact hb0.2);
    (case c3 => exact hodd);
    (case uhf => rfl); (case uke => rfl); (case uhd => omega); (case uhu => omega);
    (intro rU hU tkU tU frV nwV; intro rX; have z1 := rX.1; have z2 := rX.2.1; have z3 := rX.2.2; clear rX; clear frU nwU; (try dsimp only)))
  k_with "call ref" => k_dflt (
    (k_here; (with_reducible show wpAny _ _ (call (Value.ref 82) _) _ _ _)); (rename Fr _ _ _ _ => frU); (rename News _ _ _ _ => nwU); (first | (show wpAny _ (AA (dp + 1) (un + 3) gd (_ :: fr)) _ _ _ _) | (show wpAny _ (AA (dp + 1 + 1) (un + 3 + 3) gd (_ :: _ :: fr)) _ _ _ _) | (show wpAny _ (AA (dp + 1 + 1 + 1) (un + 3 + 3 + 3) gd (_ :: _ :: _ :: fr)) _ _ _ _) | (show wpAny _ (AA (dp + 1 + 1 + 1 + 1) (un + 3 + 3 + 3 + 3) gd (_ :: _ :: _ :: _ :: fr)) _ _ _ _));
    (with_unfolding_all refine' PCall.useN (c_normal (W := W) ?c1 ?c2 ?c3 ?c4) (by assumption) frU (by assumption) nwU (by assumption) ?uhf ?uke ?uhd ?uhu ?_);
    (case c1 => is_list);
    (case c2 => l_ints);
    (case c3 => (simp only [List.length_drop, rangeKs_length] at *; omega));
    (case c4 => first | exact DivI.fdig (by assumption) | exact (DivI.dig (by assumption)).drop _);
    (case uhf => rfl); (case uke => rfl); (case uhd => omega); (case uhu => omega);
    (intro msU lU vsU nU hU tkU frV iU nwW; intro rX; have cnU := rX.1; have leU := rX.2; clear rX; clear frU nwU; (try dsimp only)))
  have eSz : ((sz : Int) - n) = ((sz - n : Nat) : Int) := by omega
  k_with "call ref" => k_dflt (
    (k_here; (with_reducible show wpAny _ _ (call (Value.ref 129) _) _ _ _)); (rename Fr _ _ _ _ => frU); (rename News _ _ _ _ => nwU); (first | (show wpAny _ (AA (dp + 1) (un + 3) gd (_ :: fr)) _ _ _ _) | (show wpAny _ (AA (dp + 1 + 1) (un + 3 + 3) gd (_ :: _ :: fr)) _ _ _ _) | (show wpAny _ (AA (dp + 1 + 1 + 1) (un + 3 + 3 + 3) gd (_ :: _ :: _ :: fr)) _ _ _ _) | (show wpAny _ (AA (dp + 1 + 1 + 1 + 1) (un + 3 + 3 + 3 + 3) gd (_ :: _ :: _ :: _ :: fr)) _ _ _ _));
    (rw [eSz]);
    (with_unfolding_all refine' PCall.useN (c_compl (W := W) (n := sz - n) hW hW9 ?c1 ?c2 ?c3 ?c4 ?c5) (by assumption) frU (by assumption) nwU (by assumption) ?uhf ?uke ?uhd ?uhu ?_);
    (case c1 => is_list);
    (case c2 => l_ints);
    (case c3 => (simp only [List.length_drop, rangeKs_length] at *; omega));
    (case c4 => omega);
    (case c5 => exact Can.dig (by assumption));
    (case uhf => rfl); (case uke => rfl); (case uhd => omega); (case uhu => omega);
    (intro msU lU vsU nU hU tkU frV iU nwW; intro rX; have cnU := rX.1; have leU := rX.2; clear rX; clear frU nwU; (try dsimp only)))
  k_with "binaryOp Mult int int" => first
    | (refine mul_int ?_ (PySem.IntMulOk.of_right (PySem.intBits_le_64 (by omega) (by omega))))
    | (refine mul_int ?_ (PySem.IntMulOk.of_left (fw64 hp _)))
  k_with "binaryOp FloorDiv int int" => (refine floordiv_int (whole_ne W) ?_ (Or.inl (whole_small hp _)))
  k_with "binaryOp Mod int int" => (refine mod_int' (whole_ne W) ?_)
  k_with "exec For Name Name cons nil" => (k_dflt (k_here; (rename Fr _ _ _ _ => lF'); (with_unfolding_all refine' For_invVF lF' ?k1 ?k2 ?_; (case k1 => exact rfl); (case k2 => exact rfl); k_whole)))
  k_with "state" => first
    | (refine ⟨by simp only [List.length_append] at *; omega, rfl, DivI.start da⟩)
    | exact tak_start dI2.dig (by assumption)
    | exact tak_step (by assumption) (by assumption) (by assumption) (by omega) (by omega) (fmod_whole _ W) (hbm _ (by assumption))
    | exact tak_stepW (by assumption) (by assumption) (by omega) (by omega)
    | exact tak_mid (by assumption) (by assumption) (by assumption) (by omega) (by omega)
    | exact tak_fin (by assumption) (by assumption) (Or.inl (by assumption)) (by assumption) dI2 (by assumption) (by assumption) (by omega) z3
    | exact tak_fin (by assumption) (by assumption) (Or.inr (by assumption)) (by assumption) dI2 (by assumption) (by assumption) (by omega) z3

  have hfill : ∀ w' h', (headK.heap_1 (World.params w')).In h' → PySem.Challenge.rw_nn0016_01.row.prog = PySem.Challenge.rw_nn0016_01.row.prog := by k_fill; exact fun _ _ _ => rfl
  clear hfill
  intro dp un gd base fr Q E M hdp hun hret
  have X := M.X
  have T := M.T
  refine' enterP M ?k6 ?k7 ?k8 ?k9 ?kB ?_ ?c2 ?c3 ?c4 ?c5
  case k6 => k_is
  case k7 => k_is
  case k8 => omega
  case k9 => exact BindsTo.of_eq rfl
  case kB => exact locs rfl
  case c2 => exact rfl
  case c3 => exact rfl
  case c4 => exact rfl
  case c5 => decide
  intro L' h₁ F' N' hL' B'
  try dsimp only
  k_fold
  tb_start
  · rename (_ = (0 : Int)) => g1
    rw [fmod_pos _ (by decide)] at g1
    have g2 : (Int.toNat 0) = 0 := rfl
    rw [g2] at g1
    omega
  · rw [hsz] at *
    k_state (fun pre row found borrowed => row.length = sz ∧ found.length = pre.length ∧ DivI W na nb sz row found borrowed pre.length) "row" "found" "borrowed"
    · (with_reducible rename DivI _ _ _ _ _ _ _ _ => dI)
      obtain ⟨row0, fnd0, bor0, rfl, rfl, rfl, dI2⟩ := name_div dI
      tb_start
      (rename Fr s.heap L' _ _ => fG)
      (rename News _ _ _ _ => nX); simp only [List.push_toArray] at nX
      have hbG := stays_list (Fr.keep fG) hb
      k_state (fun pre row borrow at' => row.length = sz ∧ at' = kN + pre.length ∧ TakI W (takV W row0 ((row0.getD kN.toNat 0 * rU).fmod (1 * 2 ^ ((W : Int)).toNat)) kN pre) row borrow (kN.toNat + pre.length)) "row" "borrow" "at"
      · tb_start
      · tb_start
        k_while (fun _ row borrow at' => row.length = sz ∧ 0 ≤ at' ∧ at' ≤ sz ∧ TakI W (takV W row0 ((row0.getD kN.toNat 0 * rU).fmod (1 * 2 ^ ((W : Int)).toNat)) kN nb) row borrow at'.toNat) (fun _ _ _ at' => (sz - at').toNat) "row" "borrow" "at"
        tb_start
    · tb_start
      · (try dsimp only); (try k_unfold); (try dsimp only); refine hret _ _ _ (Fr.keep (by k_asm)) ?_
        obtain ⟨d1, d2⟩ := div_yes (n := n) (by assumption) (range_len n) (by assumption) (by assumption) da (by omega) (by assumption)
        (rename Can W _ (val (2 ^ W) _) => cF)
        exact ⟨_, 0, true, _, _, newT_of (by assumption) (by k_mem) (by k_mem) (by k_mem) (by assumption) (by assumption), cF, d1, (by omega), (fun _ => d2), (fun e => nomatch e)⟩
      · (try dsimp only); (try k_unfold); (try dsimp only); refine hret _ _ _ (Fr.keep (by k_asm)) ?_
        obtain ⟨d1, d2⟩ := div_no (n := n) (by assumption) (range_len n) (by assumption) (by assumption) da (by assumption)
        (with_reducible rename Can W _ (val (2 ^ W) (List.drop _ _)) => cR)
        (rename Can W _ (val (2 ^ W) _) => cF)
        rw [Int.toNat_natCast] at cR
        exact ⟨_, _, false, _, _, newT_of (by assumption) (by k_mem) (by k_mem) (by k_mem) (by assumption) (by assumption), cF, d1, (by simp only [List.length_drop] at *; omega), (fun e => nomatch e), (fun _ => ⟨cR, d2⟩)⟩

theorem c_invlow {b : Addr} {vb : List Value} {nb : List Int} {W n : Nat} {tw tn : Tok} (hW : 2 ≤ W) (hW9 : W ≤ 9)
    (hb : s.heap.IsList b vb.toArray) (ib : IntsAre vb nb) (bb : nb.length < 300) (bn : n < 300) (h1n : 1 ≤ n) (db : Dig (2 ^ W) nb) (hodd : nb.getD 0 0 % 2 = 1) (hlb : 0 < nb.length) :
    PCall w p loose mean mg mb 136 [.ref b, .int n tn, .int W tw, .ref 213] 9 100 (fun h' v => ∃ ms, NewL s.heap ms h' v ∧ ∃ x, Can W ms x ∧ ms.length ≤ n ∧ val (2 ^ W) nb * x % (2 ^ W) ^ n = 1) s := by
  have hp : (2:Int) ^ W ≤ 512 := pow_le_pow' (B := 2) (by decide) hW9
  have hb0 := db.getD (two_pow_pos W) 0
  have iNil : IntsAre ([] : List Value) [] := .nil
  w_top off
  k_with_none
  k_with "eval Call" => (k_dflt (k_here; first | ((with_reducible show wpAny _ _ (eval (Expr.Call (Expr.Name _ _) [Expr.Name _ _, Expr.Name _ _, Expr.Name _ _] [] _) _) _ _ _); (refine' cn3 ?nF ?nX ?nT ?nE ?nK ?n1 ?n2 ?n3 ?_); (case nF => k_asm); (case nX => k_asm); (case nT => k_asm); (case nE => k_is); (case nK => k_is); (case n1 => rfl); (case n2 => rfl); (case n3 => rfl); k_whole) | ((with_reducible show wpAny _ _ (eval (Expr.Call (Expr.Name _ _) [Expr.Name _ _, Expr.Name _ _] [] _) _) _ _ _); (refine' cn2 ?nF ?nX ?nT ?nE ?nK ?n1 ?n2 ?_); (case nF => k_asm); (case nX => k_asm); (case nT => k_asm); (case nE => k_is); (case nK => k_is); (case n1 => rfl); (case n2 => rfl); k_whole) | ((with_reducible show wpAny _ _ (eval (Expr.Call (Expr.Name _ _) [Expr.Name _ _] [] _) _) _ _ _); (refine' cn1 ?nF ?nX ?nT ?nE ?nK ?n1 ?_); (case nF => k_asm); (case nX => k_asm); (case nT => k_asm); (case nE => k_is); (case nK => k_is); (case n1 => rfl); k_whole)))
  k_with "call ref" => k_dflt (
    (k_here; (with_reducible show wpAny _ _ (call (Value.ref 117) _) _ _ _)); (rename Fr _ _ _ _ => frU); (rename News _ _ _ _ => nwU); (first | (show wpAny _ (AA (dp + 1) (un + 3) gd (_ :: fr)) _ _ _ _) | (show wpAny _ (AA (dp + 1 + 1) (un + 3 + 3) gd (_ :: _ :: fr)) _ _ _ _) | (show wpAny _ (AA (dp + 1 + 1 + 1) (un + 3 + 3 + 3) gd (_ :: _ :: _ :: fr)) _ _ _ _) | (show wpAny _ (AA (dp + 1 + 1 + 1 + 1) (un + 3 + 3 + 3 + 3) gd (_ :: _ :: _ :: _ :: fr)) _ _ _ _));
    (with_unfolding_all refine' PCall.useI (c_invl (W := W) (d := nb.getD 0 0) hW hW9 ?c1 ?c2 ?c3) (by assumption) frU (by assumption) nwU (by assumption) ?uhf ?uke ?uhd ?uhu ?_);
    (case c1 => exact hb0.1);
    (case c2 => exact hb0.2);
    (case c3 => exact hodd);
    (case uhf => rfl); (case uke => rfl); (case uhd => omega); (case uhu => omega);
    (intro rU hU tkU tU frV nwV; intro rX; have z1 := rX.1; have z2 := rX.2.1; have z3 := rX.2.2; clear rX; clear frU nwU; (try dsimp only)))
  k_with "call ref" => k_dflt (
    (k_here; (with_reducible show wpAny _ _ (call (Value.ref 124) _) _ _ _)); (rename Fr _ _ _ _ => frU); (rename News _ _ _ _ => nwU); (first | (show wpAny _ (AA (dp + 1) (un + 3) gd (_ :: fr)) _ _ _ _) | (show wpAny _ (AA (dp + 1 + 1) (un + 3 + 3) gd (_ :: _ :: fr)) _ _ _ _) | (show wpAny _ (AA (dp + 1 + 1 + 1) (un + 3 + 3 + 3) gd (_ :: _ :: _ :: fr)) _ _ _ _) | (show wpAny _ (AA (dp + 1 + 1 + 1 + 1) (un + 3 + 3 + 3 + 3) gd (_ :: _ :: _ :: _ :: fr)) _ _ _ _));
    (with_unfolding_all refine' PCall.useN (c_lowI (W := W) ?c1 ?c2 ?c3 ?c4 ?c5 ?c6) (by assumption) frU (by assumption) nwU (by assumption) ?uhf ?uke ?uhd ?uhu ?_);
    (case c1 => is_list);
    (case c2 => l_ints);
    (case c3 => omega);
    (case c4 => omega);
    (case c5 => omega);
    (case c6 => first | assumption | exact Can.dig (by assumption));
    (case uhf => rfl); (case uke => rfl); (case uhd => omega); (case uhu => omega);
    (intro msU lU vsU nU hU tkU frV iU nwW; intro rX; have cnU := rX.1; have leU := rX.2; clear rX; clear frU nwU; (try dsimp only)))
  k_with "call ref" => k_dflt (
    (k_here; (with_reducible show wpAny _ _ (call (Value.ref 213) _) _ _ _)); (rename Fr _ _ _ _ => frU); (rename News _ _ _ _ => nwU); (first | (show wpAny _ (AA (dp + 1) (un + 3) gd (_ :: fr)) _ _ _ _) | (show wpAny _ (AA (dp + 1 + 1) (un + 3 + 3) gd (_ :: _ :: fr)) _ _ _ _) | (show wpAny _ (AA (dp + 1 + 1 + 1) (un + 3 + 3 + 3) gd (_ :: _ :: _ :: fr)) _ _ _ _) | (show wpAny _ (AA (dp + 1 + 1 + 1 + 1) (un + 3 + 3 + 3 + 3) gd (_ :: _ :: _ :: _ :: fr)) _ _ _ _));
    (with_unfolding_all refine' PCall.useN (c_mul (W := W) hW hW9 ?c1 ?c2 ?c3 ?c4 ?c5 ?c6 ?c7 ?c8) (by assumption) frU (by assumption) nwU (by assumption) ?uhf ?uke ?uhd ?uhu ?_);
    (case c1 => is_list);
    (case c2 => l_ints);
    (case c3 => omega);
    (case c4 => is_list);
    (case c5 => l_ints);
    (case c6 => omega);
    (case c7 => assumption);
    (case c8 => assumption);
    (case uhf => rfl); (case uke => rfl); (case uhd => omega); (case uhu => omega);
    (intro msU lU vsU nU hU tkU frV iU nwW; intro rX; have cnU := rX.1; have leU := rX.2; clear rX; clear frU nwU; (try dsimp only)))
  k_with "call ref" => k_dflt (
    (k_here; (with_reducible show wpAny _ _ (call (Value.ref 129) _) _ _ _)); (rename Fr _ _ _ _ => frU); (rename News _ _ _ _ => nwU); (first | (show wpAny _ (AA (dp + 1) (un + 3) gd (_ :: fr)) _ _ _ _) | (show wpAny _ (AA (dp + 1 + 1) (un + 3 + 3) gd (_ :: _ :: fr)) _ _ _ _) | (show wpAny _ (AA (dp + 1 + 1 + 1) (un + 3 + 3 + 3) gd (_ :: _ :: _ :: fr)) _ _ _ _) | (show wpAny _ (AA (dp + 1 + 1 + 1 + 1) (un + 3 + 3 + 3 + 3) gd (_ :: _ :: _ :: _ :: fr)) _ _ _ _));
    (with_unfolding_all refine' PCall.useN (c_complI (W := W) hW hW9 ?c1 ?c2 ?c3 ?c4 ?c5 ?c6) (by assumption) frU (by assumption) nwU (by assumption) ?uhf ?uke ?uhd ?uhu ?_);
    (case c1 => is_list);
    (case c2 => l_ints);
    (case c3 => omega);
    (case c4 => omega);
    (case c5 => omega);
    (case c6 => exact Can.dig (by assumption));
    (case uhf => rfl); (case uke => rfl); (case uhd => omega); (case uhu => omega);
    (intro msU lU vsU nU hU tkU frV iU nwW; intro rX; have cnU := rX.1; have leU := rX.2; clear rX; clear frU nwU; (try dsimp only)))
  k_with "call ref" => k_dflt (
    (k_here; (with_reducible show wpAny _ _ (call (Value.ref 96) _) _ _ _)); (rename Fr _ _ _ _ => frU); (rename News _ _ _ _ => nwU); (first | (show wpAny _ (AA (dp + 1) (un + 3) gd (_ :: fr)) _ _ _ _) | (show wpAny _ (AA (dp + 1 + 1) (un + 3 + 3) gd (_ :: _ :: fr)) _ _ _ _) | (show wpAny _ (AA (dp + 1 + 1 + 1) (un + 3 + 3 + 3) gd (_ :: _ :: _ :: fr)) _ _ _ _) | (show wpAny _ (AA (dp + 1 + 1 + 1 + 1) (un + 3 + 3 + 3 + 3) gd (_ :: _ :: _ :: _ :: fr)) _ _ _ _));
    (with_unfolding_all refine' PCall.useN (c_add (W := W) hW hW9 ?c1 ?c2 ?c3 ?c4 ?c5 ?c6 ?c7 ?c8) (by assumption) frU (by assumption) nwU (by assumption) ?uhf ?uke ?uhd ?uhu ?_);
    (case c1 => is_list);
    (case c2 => l_ints);
    (case c3 => omega);
    (case c4 => is_list);
    (case c5 => l_ints);
    (case c6 => decide);
    (case c7 => exact Can.dig (by assumption));
    (case c8 => exact dig_two hW);
    (case uhf => rfl); (case uke => rfl); (case uhd => omega); (case uhu => omega);
    (intro msU lU vsU nU hU tkU frV iU nwW; intro rX; have dgU := rX.1; have vaU := rX.2.1; have leU := rX.2.2; clear rX; clear frU nwU; (try dsimp only); simp only [List.length_cons, List.length_nil] at leU))
  k_with "storeName" => (rw [minS_is]; have eS := minS_facts (n := n) (c := sC) (by assumption) (by assumption))
  have hfill : ∀ w' h', (headK.heap_1 (World.params w')).In h' → PySem.Challenge.rw_nn0016_01.row.prog = PySem.Challenge.rw_nn0016_01.row.prog := by k_fill; exact fun _ _ _ => rfl
  clear hfill
  intro dp un gd base fr Q E M hdp hun hret
  have X := M.X
  have T := M.T
  refine' enterP M ?k6 ?k7 ?k8 ?k9 ?kB ?_ ?c2 ?c3 ?c4 ?c5
  case k6 => k_is
  case k7 => k_is
  case k8 => omega
  case k9 => exact BindsTo.of_eq rfl
  case kB => exact locs rfl
  case c2 => exact rfl
  case c3 => exact rfl
  case c4 => exact rfl
  case c5 => decide
  intro L' h₁ F' N' hL' B'
  try dsimp only
  k_fold
  tb_start
  · rename (_ = (0 : Int)) => g1
    rw [fmod_pos _ (by decide)] at g1
    have g2 : (Int.toNat 0) = 0 := rfl
    rw [g2] at g1
    omega
  · exfalso; omega
  · (rename Fr _ _ _ _ => lF'); (rename News _ _ _ _ => lN')
    with_unfolding_all refine' ksw_while (σ := Addr × List Value × List Int × Nat × Int × Tok) (fun c => [(c.1, PySem.W.listOf c.2.1.toArray c.2.2.2.1)]) (fun c => [("found", .ref c.1), ("size", .int c.2.2.2.2.1 c.2.2.2.2.2)]) (fun c => IntsAre c.2.1 c.2.2.1) ["rest", "wanted"] (fun c => ∃ x, InlI W (val (2 ^ W) nb) n c.2.2.1 c.2.2.2.2.1 x) (fun c => (n - c.2.2.2.2.1).toNat) (_, [Value.int rU _], [rU], 0, 1, _) lF' ?kn ?kf ?kk ?kp ?_
    case kn => with_unfolding_all exact kst_newsOf lN' (by kst_inAny)
    case kf => exact .cons _ _ .nil
    case kk => kst_all
    case kp => exact ⟨rU, InlI.start hW h1n z1 z2 z3⟩
    clear lF' lN'
    rintro ⟨lC, vC, nC, kC, sC, tC⟩ kU kH kTk kFacts ⟨xC, dI⟩ kFr kNews
    (try dsimp only at kFacts dI kFr kNews)
    (try dsimp only [kstB] at kFr)
    try dsimp only
    try k_fold
    have cN := dI.can
    have lN := dI.len
    have sN := dI.s1
    have sM := dI.s2
    have kMark := kstMark
    tb_start
    · (rename News _ _ _ _ => nE')
      refine ksw_end ⟨_, _, _, _, _, _⟩ (by assumption) nE' (by kst_in) (by assumption) (by kst_all) (by ksw_same) ?kp ?km
      case kp => exact ⟨_, InlI.step hW dI (by assumption) rfl rfl (by assumption) (by assumption) (by assumption) (by assumption) (by assumption) (by assumption) (by assumption)⟩
      case km => dsimp only; omega
    · (try dsimp only); (try k_unfold); (try dsimp only); refine hret _ _ _ (Fr.keep (by k_asm)) ?_
      obtain ⟨e1, e2⟩ := dI.end hW (by assumption)
      exact ⟨_, newL_of (by assumption) (by k_mem) (by assumption), _, cN, e1, e2⟩

theorem c_wo2 {a b : Addr} {va vb : List Value} {na nb : List Int} {x y : Int} {W : Nat} {tw : Tok} (hW : 2 ≤ W) (hW9 : W ≤ 9) (ha : s.heap.IsList a va.toArray) (ia : IntsAre va na) (ba : na.length < 1000)
    (hb : s.heap.IsList b vb.toArray) (ib : IntsAre vb nb) (bb : nb.length < 1000) (ca : Can W na x) (cb : Can W nb y) (hx : x ≠ 0) (hy : y ≠ 0) :
    PCall w p loose mean mg mb 157 [.ref a, .ref b, .int W tw] 5 60 (fun h' v => ∃ t : Nat, Twos y t ∧ ((v = .none ∧ x % 2 ^ t ≠ 0) ∨ (x % 2 ^ t = 0 ∧ ∃ mf mr, NewP s.heap mf mr h' v ∧ Can W mf (x / 2 ^ t) ∧ Can W mr (y / 2 ^ t) ∧ mf.length ≤ na.length ∧ mr.length ≤ nb.length))) s := by
  w_top off
  k_with_none
  k_with "eval Call" => (k_dflt (k_here; first | ((with_reducible show wpAny _ _ (eval (Expr.Call (Expr.Name _ _) [Expr.Name _ _, Expr.Name _ _, Expr.Name _ _] [] _) _) _ _ _); (refine' cn3 ?nF ?nX ?nT ?nE ?nK ?n1 ?n2 ?n3 ?_); (case nF => k_asm); (case nX => k_asm); (case nT => k_asm); (case nE => k_is); (case nK => k_is); (case n1 => rfl); (case n2 => rfl); (case n3 => rfl); k_whole) | ((with_reducible show wpAny _ _ (eval (Expr.Call (Expr.Name _ _) [Expr.Name _ _, Expr.Name _ _] [] _) _) _ _ _); (refine' cn2 ?nF ?nX ?nT ?nE ?nK ?n1 ?n2 ?_); (case nF => k_asm); (case nX => k_asm); (case nT => k_asm); (case nE => k_is); (case nK => k_is); (case n1 => rfl); (case n2 => rfl); k_whole) | ((with_reducible show wpAny _ _ (eval (Expr.Call (Expr.Name _ _) [Expr.Name _ _] [] _) _) _ _ _); (refine' cn1 ?nF ?nX ?nT ?nE ?nK ?n1 ?_); (case nF => k_asm); (case nX => k_asm); (case nT => k_asm); (case nE => k_is); (case nK => k_is); (case n1 => rfl); k_whole)))
  k_with "eval Call" => (k_dflt (refine Call_ ?_))
  k_with "eval Call" => (k_dflt (k_here; first | ((with_reducible show wpAny _ _ (eval (Expr.Call (Expr.Name _ _) [Expr.Name _ _, Expr.Name _ _, Expr.Name _ _] [] _) _) _ _ _); (refine' cn3 ?nF ?nX ?nT ?nE ?nK ?n1 ?n2 ?n3 ?_); (case nF => k_asm); (case nX => k_asm); (case nT => k_asm); (case nE => k_is); (case nK => k_is); (case n1 => rfl); (case n2 => rfl); (case n3 => rfl); k_whole) | ((with_reducible show wpAny _ _ (eval (Expr.Call (Expr.Name _ _) [Expr.Name _ _, Expr.Name _ _] [] _) _) _ _ _); (refine' cn2 ?nF ?nX ?nT ?nE ?nK ?n1 ?n2 ?_); (case nF => k_asm); (case nX => k_asm); (case nT => k_asm); (case nE => k_is); (case nK => k_is); (case n1 => rfl); (case n2 => rfl); k_whole) | ((with_reducible show wpAny _ _ (eval (Expr.Call (Expr.Name _ _) [Expr.Name _ _] [] _) _) _ _ _); (refine' cn1 ?nF ?nX ?nT ?nE ?nK ?n1 ?_); (case nF => k_asm); (case nX => k_asm); (case nT => k_asm); (case nE => k_is); (case nK => k_is); (case n1 => rfl); k_whole)))
  k_with "call ref" => k_dflt (
    (k_here; (with_reducible show wpAny _ _ (call (Value.ref 110) _) _ _ _)); (rename Fr _ _ _ _ => frU); (rename News _ _ _ _ => nwU); (first | (show wpAny _ (AA (dp + 1) (un + 3) gd (_ :: fr)) _ _ _ _) | (show wpAny _ (AA (dp + 1 + 1) (un + 3 + 3) gd (_ :: _ :: fr)) _ _ _ _) | (show wpAny _ (AA (dp + 1 + 1 + 1) (un + 3 + 3 + 3) gd (_ :: _ :: _ :: fr)) _ _ _ _) | (show wpAny _ (AA (dp + 1 + 1 + 1 + 1) (un + 3 + 3 + 3 + 3) gd (_ :: _ :: _ :: _ :: fr)) _ _ _ _));
    (with_unfolding_all refine' PCall.useNat (c_trail (na := nb) (x := y) hW hW9 ?c1 ?c2 ?c3 ?c4 ?c5) (by assumption) frU (by assumption) nwU (by assumption) ?uhf ?uke ?uhd ?uhu ?_);
    (case c1 => is_list);
    (case c2 => exact ib);
    (case c3 => exact bb);
    (case c4 => exact cb);
    (case c5 => exact hy);
    (case uhf => rfl); (case uke => rfl); (case uhd => omega); (case uhu => omega);
    (intro tY hU tkU tU frV nwV; intro rX; have y1 := rX.1; have y2 := rX.2.1; have y3 := rX.2.2; clear rX; clear frU nwU; (try dsimp only)))
  k_with "call ref" => k_dflt (
    (k_here; (with_reducible show wpAny _ _ (call (Value.ref 110) _) _ _ _)); (rename Fr _ _ _ _ => frU); (rename News _ _ _ _ => nwU); (first | (show wpAny _ (AA (dp + 1) (un + 3) gd (_ :: fr)) _ _ _ _) | (show wpAny _ (AA (dp + 1 + 1) (un + 3 + 3) gd (_ :: _ :: fr)) _ _ _ _) | (show wpAny _ (AA (dp + 1 + 1 + 1) (un + 3 + 3 + 3) gd (_ :: _ :: _ :: fr)) _ _ _ _) | (show wpAny _ (AA (dp + 1 + 1 + 1 + 1) (un + 3 + 3 + 3 + 3) gd (_ :: _ :: _ :: _ :: fr)) _ _ _ _));
    (with_unfolding_all refine' PCall.useNat (c_trail (na := na) (x := x) hW hW9 ?c1 ?c2 ?c3 ?c4 ?c5) (by assumption) frU (by assumption) nwU (by assumption) ?uhf ?uke ?uhd ?uhu ?_);
    (case c1 => is_list);
    (case c2 => exact ia);
    (case c3 => exact ba);
    (case c4 => exact ca);
    (case c5 => exact hx);
    (case uhf => rfl); (case uke => rfl); (case uhd => omega); (case uhu => omega);
    (intro tX hU tkU tU frV nwV; intro rX; have x1 := rX.1; have x2 := rX.2.1; have x3 := rX.2.2; clear rX; clear frU nwU; (try dsimp only)))
  k_with "call ref" => k_dflt (
    (k_here; (with_reducible show wpAny _ _ (call (Value.ref 103) _) _ _ _)); (rename Fr _ _ _ _ => frU); (rename News _ _ _ _ => nwU); (first | (show wpAny _ (AA (dp + 1) (un + 3) gd (_ :: fr)) _ _ _ _) | (show wpAny _ (AA (dp + 1 + 1) (un + 3 + 3) gd (_ :: _ :: fr)) _ _ _ _) | (show wpAny _ (AA (dp + 1 + 1 + 1) (un + 3 + 3 + 3) gd (_ :: _ :: _ :: fr)) _ _ _ _) | (show wpAny _ (AA (dp + 1 + 1 + 1 + 1) (un + 3 + 3 + 3 + 3) gd (_ :: _ :: _ :: _ :: fr)) _ _ _ _));
    (with_unfolding_all refine' PCall.useN (c_shr (na := na) hW hW9 ?c1 ?c2 ?c3 ?c4 ?c5) (by assumption) frU (by assumption) nwU (by assumption) ?uhf ?uke ?uhd ?uhu ?_);
    (case c1 => is_list);
    (case c2 => exact ia);
    (case c3 => exact ba);
    (case c4 => exact y3);
    (case c5 => exact ca.dig);
    (case uhf => rfl); (case uke => rfl); (case uhd => omega); (case uhu => omega);
    (intro msU lU vsU nU hU tkU frV iU nwW; intro rX; have c1U := rX.1; have l1U := rX.2; clear rX; clear frU nwU; (try dsimp only)))
  k_with "call ref" => k_dflt (
    (k_here; (with_reducible show wpAny _ _ (call (Value.ref 103) _) _ _ _)); (rename Fr _ _ _ _ => frU); (rename News _ _ _ _ => nwU); (first | (show wpAny _ (AA (dp + 1) (un + 3) gd (_ :: fr)) _ _ _ _) | (show wpAny _ (AA (dp + 1 + 1) (un + 3 + 3) gd (_ :: _ :: fr)) _ _ _ _) | (show wpAny _ (AA (dp + 1 + 1 + 1) (un + 3 + 3 + 3) gd (_ :: _ :: _ :: fr)) _ _ _ _) | (show wpAny _ (AA (dp + 1 + 1 + 1 + 1) (un + 3 + 3 + 3 + 3) gd (_ :: _ :: _ :: _ :: fr)) _ _ _ _));
    (with_unfolding_all refine' PCall.useN (c_shr (na := nb) hW hW9 ?c1 ?c2 ?c3 ?c4 ?c5) (by assumption) frU (by assumption) nwU (by assumption) ?uhf ?uke ?uhd ?uhu ?_);
    (case c1 => is_list);
    (case c2 => exact ib);
    (case c3 => exact bb);
    (case c4 => exact y3);
    (case c5 => exact cb.dig);
    (case uhf => rfl); (case uke => rfl); (case uhd => omega); (case uhu => omega);
    (intro msU lU vsU nU hU tkU frV iU nwW; intro rX; have c2U := rX.1; have l2U := rX.2; clear rX; clear frU nwU; (try dsimp only)))
  have hfill : ∀ w' h', (headK.heap_1 (World.params w')).In h' → PySem.Challenge.rw_nn0016_01.row.prog = PySem.Challenge.rw_nn0016_01.row.prog := by k_fill; exact fun _ _ _ => rfl
  clear hfill
  intro dp un gd base fr Q E M hdp hun hret
  have X := M.X
  have T := M.T
  refine' enterP M ?k6 ?k7 ?k8 ?k9 ?kB ?_ ?c2 ?c3 ?c4 ?c5
  case k6 => k_is
  case k7 => k_is
  case k8 => omega
  case k9 => exact BindsTo.of_eq rfl
  case kB => exact locs rfl
  case c2 => exact rfl
  case c3 => exact rfl
  case c4 => exact rfl
  case c5 => decide
  intro L' h₁ F' N' hL' B'
  try dsimp only
  k_fold
  tb_start
  · (try dsimp only); (try k_unfold); (try dsimp only); refine hret _ _ _ (Fr.keep (by k_asm)) ?_
    exact ⟨tY, ⟨y1, y2⟩, .inl ⟨rfl, Twos.lt ⟨x1, x2⟩ (by omega)⟩⟩
  · (try dsimp only); (try k_unfold); (try dsimp only); refine hret _ _ _ (Fr.keep (by k_asm)) ?_
    rw [ca.val] at c1U
    rw [cb.val] at c2U
    exact ⟨tY, ⟨y1, y2⟩, .inr ⟨Twos.le ⟨x1, x2⟩ (by omega), _, _, newP_of (by assumption) (by k_mem) (by k_mem) (by k_mem) (by assumption) (by assumption), c1U, c2U, l1U, l2U⟩⟩

theorem c_exq {a b : Addr} {va vb : List Value} {na nb : List Int} {x y : Int} {W : Nat} {tw : Tok} (hW : 2 ≤ W) (hW9 : W ≤ 9) (ha : s.heap.IsList a va.toArray) (ia : IntsAre va na) (ba : na.length < 250)
    (hb : s.heap.IsList b vb.toArray) (ib : IntsAre vb nb) (bb : nb.length < 250) (ca : Can W na x) (cb : Can W nb y) (hy : y ≠ 0) :
    PCall w p loose mean mg mb 164 [.ref a, .ref b, .int W tw] 9 100 (fun h' v => (v = .none ∧ x % y ≠ 0) ∨ (x % y = 0 ∧ ∃ ms, NewL s.heap ms h' v ∧ Can W ms (x / y))) s := by
  have hy0 : 0 < y := by have := cb.nonneg; omega
  w_top off
  k_with_none
  k_with "eval Call" => (k_dflt (k_here; first | ((with_reducible show wpAny _ _ (eval (Expr.Call (Expr.Name _ _) [Expr.Name _ _, Expr.Name _ _, Expr.Name _ _] [] _) _) _ _ _); (refine' cn3 ?nF ?nX ?nT ?nE ?nK ?n1 ?n2 ?n3 ?_); (case nF => k_asm); (case nX => k_asm); (case nT => k_asm); (case nE => k_is); (case nK => k_is); (case n1 => rfl); (case n2 => rfl); (case n3 => rfl); k_whole) | ((with_reducible show wpAny _ _ (eval (Expr.Call (Expr.Name _ _) [Expr.Name _ _, Expr.Name _ _] [] _) _) _ _ _); (refine' cn2 ?nF ?nX ?nT ?nE ?nK ?n1 ?n2 ?_); (case nF => k_asm); (case nX => k_asm); (case nT => k_asm); (case nE => k_is); (case nK => k_is); (case n1 => rfl); (case n2 => rfl); k_whole) | ((with_reducible show wpAny _ _ (eval (Expr.Call (Expr.Name _ _) [Expr.Name _ _] [] _) _) _ _ _); (refine' cn1 ?nF ?nX ?nT ?nE ?nK ?n1 ?_); (case nF => k_asm); (case nX => k_asm); (case nT => k_asm); (case nE => k_is); (case nK => k_is); (case n1 => rfl); k_whole)))
  k_with "eval Call" => (k_dflt (refine Call_ ?_))
  k_with "eval Call" => (k_dflt (k_here; first | ((with_reducible show wpAny _ _ (eval (Expr.Call (Expr.Name _ _) [Expr.Name _ _, Expr.Name _ _, Expr.Name _ _] [] _) _) _ _ _); (refine' cn3 ?nF ?nX ?nT ?nE ?nK ?n1 ?n2 ?n3 ?_); (case nF => k_asm); (case nX => k_asm); (case nT => k_asm); (case nE => k_is); (case nK => k_is); (case n1 => rfl); (case n2 => rfl); (case n3 => rfl); k_whole) | ((with_reducible show wpAny _ _ (eval (Expr.Call (Expr.Name _ _) [Expr.Name _ _, Expr.Name _ _] [] _) _) _ _ _); (refine' cn2 ?nF ?nX ?nT ?nE ?nK ?n1 ?n2 ?_); (case nF => k_asm); (case nX => k_asm); (case nT => k_asm); (case nE => k_is); (case nK => k_is); (case n1 => rfl); (case n2 => rfl); k_whole) | ((with_reducible show wpAny _ _ (eval (Expr.Call (Expr.Name _ _) [Expr.Name _ _] [] _) _) _ _ _); (refine' cn1 ?nF ?nX ?nT ?nE ?nK ?n1 ?_); (case nF => k_asm); (case nX => k_asm); (case nT => k_asm); (case nE => k_is); (case nK => k_is); (case n1 => rfl); k_whole)))
  k_with "call ref" => k_dflt (
    (k_here; (with_reducible show wpAny _ _ (call (Value.ref 157) _) _ _ _)); (rename Fr _ _ _ _ => frU); (rename News _ _ _ _ => nwU); (first | (show wpAny _ (AA (dp + 1) (un + 3) gd (_ :: fr)) _ _ _ _) | (show wpAny _ (AA (dp + 1 + 1) (un + 3 + 3) gd (_ :: _ :: fr)) _ _ _ _) | (show wpAny _ (AA (dp + 1 + 1 + 1) (un + 3 + 3 + 3) gd (_ :: _ :: _ :: fr)) _ _ _ _) | (show wpAny _ (AA (dp + 1 + 1 + 1 + 1) (un + 3 + 3 + 3 + 3) gd (_ :: _ :: _ :: _ :: fr)) _ _ _ _));
    (with_unfolding_all refine' PCall.useP (c_wo2 (na := na) (nb := nb) (x := x) (y := y) hW hW9 ?c1 ?c2 ?c3 ?c4 ?c5 ?c6 ?c7 ?c8 ?c9 ?c10) (by assumption) frU (by assumption) nwU (by assumption) ?uhf ?uke ?uhd ?uhu ?_ ?_);
    (case c1 => is_list);
    (case c2 => exact ia);
    (case c3 => omega);
    (case c4 => is_list);
    (case c5 => exact ib);
    (case c6 => omega);
    (case c7 => exact ca);
    (case c8 => exact cb);
    (case c9 => (exact nz_of_len ca (by assumption)));
    (case c10 => exact hy);
    (case uhf => rfl); (case uke => rfl); (case uhd => omega); (case uhu => omega);
    ((focus (intro tY hU tkU frV nwV yT xN; clear frU nwU; (try dsimp only))); rotate_left; (focus (intro tY mf mr pU fU rU vfU vrU nfU nrU hU tkU frV ifU irU nwW yT xZ; intro rX; have cF := rX.1; have cR := rX.2.1; have lF := rX.2.2.1; have lR := rX.2.2.2; clear rX; clear frU nwU; (try dsimp only))); rotate_left))
  k_with "call ref" => k_dflt (
    (k_here; (with_reducible show wpAny _ _ (call (Value.ref 150) _) _ _ _)); (rename Fr _ _ _ _ => frU); (rename News _ _ _ _ => nwU); (first | (show wpAny _ (AA (dp + 1) (un + 3) gd (_ :: fr)) _ _ _ _) | (show wpAny _ (AA (dp + 1 + 1) (un + 3 + 3) gd (_ :: _ :: fr)) _ _ _ _) | (show wpAny _ (AA (dp + 1 + 1 + 1) (un + 3 + 3 + 3) gd (_ :: _ :: _ :: fr)) _ _ _ _) | (show wpAny _ (AA (dp + 1 + 1 + 1 + 1) (un + 3 + 3 + 3 + 3) gd (_ :: _ :: _ :: _ :: fr)) _ _ _ _));
    (rw [show ((mf.length : Int) - mr.length + 1) = ((mf.length - mr.length + 1 : Nat) : Int) by omega]);
    (with_unfolding_all refine' PCall.useT (c_divrem (na := mf) (nb := mr) (n := mf.length - mr.length + 1) hW hW9 ?c1 ?c2 ?c3 ?c4 ?c5 ?c6 ?c7 ?c8 ?c9 ?c10 ?c11) (by assumption) frU (by assumption) nwU (by assumption) ?uhf ?uke ?uhd ?uhu ?_);
    (case c1 => is_list);
    (case c2 => exact ifU);
    (case c3 => omega);
    (case c4 => is_list);
    (case c5 => exact irU);
    (case c6 => omega);
    (case c7 => omega);
    (case c8 => exact cF.dig);
    (case c9 => exact cR.dig);
    (case c10 => exact getD0_odd hW cR yT.2);
    (case c11 => (exact cR.pos_len (by have := odd_pos cb.nonneg yT; omega)));
    (case uhf => rfl); (case uke => rfl); (case uhd => omega); (case uhu => omega);
    (intro qQ zQ bl msf msr tU f2U r2U vf2 vr2 nf2 nr2 hU tkU frV if2 ir2 nwW; intro rX; have cQ := rX.1; have lQ := rX.2.1; have lR2 := rX.2.2.1; have hT := rX.2.2.2.1; have hN := rX.2.2.2.2; clear rX; clear frU nwU; (try dsimp only); (rw [cF.val, cR.val] at hT hN); (cases bl)))
  have hfill : ∀ w' h', (headK.heap_1 (World.params w')).In h' → PySem.Challenge.rw_nn0016_01.row.prog = PySem.Challenge.rw_nn0016_01.row.prog := by k_fill; exact fun _ _ _ => rfl
  clear hfill
  intro dp un gd base fr Q E M hdp hun hret
  have X := M.X
  have T := M.T
  refine' enterP M ?k6 ?k7 ?k8 ?k9 ?kB ?_ ?c2 ?c3 ?c4 ?c5
  case k6 => k_is
  case k7 => k_is
  case k8 => omega
  case k9 => exact BindsTo.of_eq rfl
  case kB => exact locs rfl
  case c2 => exact rfl
  case c3 => exact rfl
  case c4 => exact rfl
  case c5 => decide
  intro L' h₁ F' N' hL' B'
  try dsimp only
  k_fold
  tb_start
  · (try dsimp only); (try k_unfold); (try dsimp only); refine hret _ _ _ (Fr.keep (by k_asm)) ?_
    have e := ca.nil_iff.mp (List.eq_nil_of_length_eq_zero (by omega))
    rw [e]
    exact .inr ⟨Int.zero_emod _, _, newL_of (by assumption) (by k_mem) .nil, by rw [Int.zero_ediv]; exact .nil⟩
  · (try dsimp only); (try k_unfold); (try dsimp only); refine hret _ _ _ (Fr.keep (by k_asm)) ?_
    exact .inl ⟨rfl, twos_none yT xN⟩
  · (try dsimp only); (try k_unfold); (try dsimp only); refine hret _ _ _ (Fr.keep (by k_asm)) ?_
    have hx0 : 0 < x := by have := ca.nonneg; have := nz_of_len ca (by assumption); omega
    exact .inl ⟨rfl, fun e => short_none cF cR (pos_part hx0 xZ) (by omega) ((twos_off yT xZ).1.mp e)⟩
  all_goals have hx0 : 0 < x := by have := ca.nonneg; have := nz_of_len ca (by assumption); omega
  · (try dsimp only); (try k_unfold); (try dsimp only); refine hret _ _ _ (Fr.keep (by k_asm)) ?_
    obtain ⟨d1, d2⟩ := hN rfl
    have hz := nz_of_len d1 (by omega)
    have hp : (0 : Int) < (2 ^ W) ^ (mf.length - mr.length + 1) := Int.pow_pos (two_pow_pos W)
    have hm : (2 ^ W : Int) ^ (mf.length - mr.length + 1) * zQ ≠ 0 := fun e => (Int.mul_eq_zero.mp e).elim (fun e => by omega) hz
    exact .inl ⟨rfl, exq_no hx0 hy0 yT xZ cF cR (by omega) cQ.nonneg lQ ⟨zQ, by omega⟩ (by omega)⟩
  · (try dsimp only); (try k_unfold); (try dsimp only); refine hret _ _ _ (Fr.keep (by k_asm)) ?_
    obtain ⟨d1, d2⟩ := hN rfl
    have hz := d1.nil_iff.mp (List.eq_nil_of_length_eq_zero (by omega))
    obtain ⟨f1, f2⟩ := exq_yes hy0 yT xZ d2 hz
    exact .inr ⟨f1, _, newL_of (by assumption) (by k_mem) (by assumption), by rw [f2]; exact cQ⟩
  · (try dsimp only); (try k_unfold); (try dsimp only); refine hret _ _ _ (Fr.keep (by k_asm)) ?_
    obtain ⟨d1, d2⟩ := hT rfl
    exact .inl ⟨rfl, exq_no hx0 hy0 yT xZ cF cR (by omega) cQ.nonneg lQ d2 (by omega)⟩

theorem c_dex {a b : Addr} {va vb : List Value} {na nb : List Int} {x y : Int} {W : Nat} {tw : Tok} (hW : 2 ≤ W) (hW9 : W ≤ 9) (ha : s.heap.IsList a va.toArray) (ia : IntsAre va na) (ba : na.length < 250)
    (hb : s.heap.IsList b vb.toArray) (ib : IntsAre vb nb) (bb : nb.length < 250) (ca : Can W na x) (cb : Can W nb y) :
    RCall w p loose mean mg mb 171 [.ref a, .ref b, .int W tw] 17 130 (fun h' v => y ≠ 0 ∧ x % y = 0 ∧ ∃ ms, NewL s.heap ms h' v ∧ Can W ms (x / y)) (fun cls => (y = 0 ∧ cls = .ref 37) ∨ (y ≠ 0 ∧ x % y ≠ 0 ∧ cls = .ref 49)) s := by
  w_top off
  k_with_none
  k_with "eval Call" => (k_dflt (k_here; first | ((with_reducible show wpAny _ _ (eval (Expr.Call (Expr.Name _ _) [Expr.Name _ _, Expr.Name _ _, Expr.Name _ _] [] _) _) _ _ _); (refine' cn3 ?nF ?nX ?nT ?nE ?nK ?n1 ?n2 ?n3 ?_); (case nF => k_asm); (case nX => k_asm); (case nT => k_asm); (case nE => k_is); (case nK => k_is); (case n1 => rfl); (case n2 => rfl); (case n3 => rfl); k_whole) | ((with_reducible show wpAny _ _ (eval (Expr.Call (Expr.Name _ _) [Expr.Name _ _, Expr.Name _ _] [] _) _) _ _ _); (refine' cn2 ?nF ?nX ?nT ?nE ?nK ?n1 ?n2 ?_); (case nF => k_asm); (case nX => k_asm); (case nT => k_asm); (case nE => k_is); (case nK => k_is); (case n1 => rfl); (case n2 => rfl); k_whole) | ((with_reducible show wpAny _ _ (eval (Expr.Call (Expr.Name _ _) [Expr.Name _ _] [] _) _) _ _ _); (refine' cn1 ?nF ?nX ?nT ?nE ?nK ?n1 ?_); (case nF => k_asm); (case nX => k_asm); (case nT => k_asm); (case nE => k_is); (case nK => k_is); (case n1 => rfl); k_whole)))
  k_with "call ref" => k_dflt (
    (k_here; (with_reducible show wpAny _ _ (call (Value.ref 164) _) _ _ _)); (rename Fr _ _ _ _ => frU); (rename News _ _ _ _ => nwU); (first | (show wpAny _ (AA (dp + 1) (un + 3) gd (_ :: fr)) _ _ _ _) | (show wpAny _ (AA (dp + 1 + 1) (un + 3 + 3) gd (_ :: _ :: fr)) _ _ _ _) | (show wpAny _ (AA (dp + 1 + 1 + 1) (un + 3 + 3 + 3) gd (_ :: _ :: _ :: fr)) _ _ _ _) | (show wpAny _ (AA (dp + 1 + 1 + 1 + 1) (un + 3 + 3 + 3 + 3) gd (_ :: _ :: _ :: _ :: fr)) _ _ _ _));
    (with_unfolding_all refine' PCall.useO (c_exq (na := na) (nb := nb) (x := x) (y := y) hW hW9 ?c1 ?c2 ?c3 ?c4 ?c5 ?c6 ?c7 ?c8 ?c9) (by assumption) frU (by assumption) nwU (by assumption) ?uhf ?uke ?uhd ?uhu ?_ ?_);
    (case c1 => is_list);
    (case c2 => exact ia);
    (case c3 => exact ba);
    (case c4 => is_list);
    (case c5 => exact ib);
    (case c6 => exact bb);
    (case c7 => exact ca);
    (case c8 => exact cb);
    (case c9 => (exact nz_of_len cb (by assumption)));
    (case uhf => rfl); (case uke => rfl); (case uhd => omega); (case uhu => omega);
    ((focus (intro hU tkU frV nwV xN; clear frU nwU; (try dsimp only))); rotate_left; (focus (intro ms lU vsU nU hU tkU frV iU nwW xZ cM; clear frU nwU; (try dsimp only))); rotate_left))
  have hfill : ∀ w' h', (headK.heap_1 (World.params w')).In h' → PySem.Challenge.rw_nn0016_01.row.prog = PySem.Challenge.rw_nn0016_01.row.prog := by k_fill; exact fun _ _ _ => rfl
  clear hfill
  intro dp un gd base fr Q E M hXB hTB hD hdp hun hret hexc
  have X := M.X
  have T := M.T
  refine' enterR M ?k6 ?k7 ?k8 ?k9 ?kB ?_ ?c2 ?c3 ?c4 ?c5
  case k6 => k_is
  case k7 => k_is
  case k8 => omega
  case k9 => exact BindsTo.of_eq rfl
  case kB => exact locs rfl
  case c2 => exact rfl
  case c3 => exact rfl
  case c4 => exact rfl
  case c5 => decide
  intro L' h₁ F' N' B'
  show wpAny _ _ _ _ _ _
  try dsimp only
  k_fold
  tb_start
  · (try dsimp only); (try k_unfold); (try dsimp only); refine hexc _ _ _ _ _ _ (raisedS_nil (by assumption)) (by assumption) ?_
    exact .inl ⟨cb.nil_iff.mp (List.eq_nil_of_length_eq_zero (by omega)), rfl⟩
  · (try dsimp only); (try k_unfold); (try dsimp only); refine hexc _ _ _ _ _ _ (raisedS_nil (by assumption)) (by assumption) ?_
    exact .inr ⟨nz_of_len cb (by assumption), xN, rfl⟩
  · (try dsimp only); (try k_unfold); (try dsimp only); refine hret _ _ _ (Fr.keep (by k_asm)) ?_
    exact ⟨nz_of_len cb (by assumption), xZ, _, newL_of (by assumption) (by k_mem) (by assumption), cM⟩

theorem clash_n {x y : Int} {bl : Bool} (hy : 0 ≤ y) (yn : y ≠ 0) (eb : bl = true ↔ if y = 0 then x = 0 else x % y = 0) (a : (bl != (x.fmod y == 0)) = true) : False := by
  rw [if_neg yn] at eb
  rw [fmod_pos _ (by omega)] at a
  cases bl <;> simp_all
theorem clash_0 {x y : Int} {bl : Bool} (y0 : y = 0) (eb : bl = true ↔ if y = 0 then x = 0 else x % y = 0) (a : (bl != (x == 0)) = true) : False := by
  rw [if_pos y0] at eb
  cases bl <;> simp_all
theorem c_isdiv {a b : Addr} {va vb : List Value} {na nb : List Int} {x y : Int} {W : Nat} {tw : Tok} (hW : 2 ≤ W) (hW9 : W ≤ 9) (ha : s.heap.IsList a va.toArray) (ia : IntsAre va na) (ba : na.length < 250)
    (hb : s.heap.IsList b vb.toArray) (ib : IntsAre vb nb) (bb : nb.length < 250) (ca : Can W na x) (cb : Can W nb y) :
    PCall w p loose mean mg mb 185 [.ref a, .ref b, .int W tw] 11 120 (fun h' v => ∃ bl, v = .bool bl ∧ (bl = true ↔ if y = 0 then x = 0 else x % y = 0)) s := by
  w_top off
  k_with_none
  k_with "eval Call" => (k_dflt (k_here; first | ((with_reducible show wpAny _ _ (eval (Expr.Call (Expr.Name _ _) [Expr.Name _ _, Expr.Name _ _, Expr.Name _ _] [] _) _) _ _ _); (refine' cn3 ?nF ?nX ?nT ?nE ?nK ?n1 ?n2 ?n3 ?_); (case nF => k_asm); (case nX => k_asm); (case nT => k_asm); (case nE => k_is); (case nK => k_is); (case n1 => rfl); (case n2 => rfl); (case n3 => rfl); k_whole) | ((with_reducible show wpAny _ _ (eval (Expr.Call (Expr.Name _ _) [Expr.Name _ _, Expr.Name _ _] [] _) _) _ _ _); (refine' cn2 ?nF ?nX ?nT ?nE ?nK ?n1 ?n2 ?_); (case nF => k_asm); (case nX => k_asm); (case nT => k_asm); (case nE => k_is); (case nK => k_is); (case n1 => rfl); (case n2 => rfl); k_whole) | ((with_reducible show wpAny _ _ (eval (Expr.Call (Expr.Name _ _) [Expr.Name _ _] [] _) _) _ _ _); (refine' cn1 ?nF ?nX ?nT ?nE ?nK ?n1 ?_); (case nF => k_asm); (case nX => k_asm); (case nT => k_asm); (case nE => k_is); (case nK => k_is); (case n1 => rfl); k_whole)))
  k_with "call ref" => k_dflt (
    (k_here; (with_reducible show wpAny _ _ (call (Value.ref 164) _) _ _ _)); (rename Fr _ _ _ _ => frU); (rename News _ _ _ _ => nwU); (first | (show wpAny _ (AA (dp + 1) (un + 3) gd (_ :: fr)) _ _ _ _) | (show wpAny _ (AA (dp + 1 + 1) (un + 3 + 3) gd (_ :: _ :: fr)) _ _ _ _) | (show wpAny _ (AA (dp + 1 + 1 + 1) (un + 3 + 3 + 3) gd (_ :: _ :: _ :: fr)) _ _ _ _) | (show wpAny _ (AA (dp + 1 + 1 + 1 + 1) (un + 3 + 3 + 3 + 3) gd (_ :: _ :: _ :: _ :: fr)) _ _ _ _));
    (with_unfolding_all refine' PCall.useO (c_exq (na := na) (nb := nb) (x := x) (y := y) hW hW9 ?c1 ?c2 ?c3 ?c4 ?c5 ?c6 ?c7 ?c8 ?c9) (by assumption) frU (by assumption) nwU (by assumption) ?uhf ?uke ?uhd ?uhu ?_ ?_);
    (case c1 => is_list);
    (case c2 => exact ia);
    (case c3 => exact ba);
    (case c4 => is_list);
    (case c5 => exact ib);
    (case c6 => exact bb);
    (case c7 => exact ca);
    (case c8 => exact cb);
    (case c9 => (exact nz_of_len cb (by assumption)));
    (case uhf => rfl); (case uke => rfl); (case uhd => omega); (case uhu => omega);
    ((focus (intro hU tkU frV nwV xN; clear frU nwU; (try dsimp only))); rotate_left; (focus (intro ms lU vsU nU hU tkU frV iU nwW xZ cM; clear frU nwU; (try dsimp only))); rotate_left))
  have hfill : ∀ w' h', (headK.heap_1 (World.params w')).In h' → PySem.Challenge.rw_nn0016_01.row.prog = PySem.Challenge.rw_nn0016_01.row.prog := by k_fill; exact fun _ _ _ => rfl
  clear hfill
  intro dp un gd base fr Q E M hdp hun hret
  have X := M.X
  have T := M.T
  refine' enterP M ?k6 ?k7 ?k8 ?k9 ?kB ?_ ?c2 ?c3 ?c4 ?c5
  case k6 => k_is
  case k7 => k_is
  case k8 => omega
  case k9 => exact BindsTo.of_eq rfl
  case kB => exact locs rfl
  case c2 => exact rfl
  case c3 => exact rfl
  case c4 => exact rfl
  case c5 => decide
  intro L' h₁ F' N' hL' B'
  try dsimp only
  k_fold
  tb_start
  · (try dsimp only); (try k_unfold); (try dsimp only); refine hret _ _ _ (Fr.keep (by k_asm)) ?_
    refine ⟨_, rfl, ?_⟩
    have e := cb.nil_iff.mp (List.eq_nil_of_length_eq_zero (by omega))
    rw [if_pos e, beq_iff_eq]
    exact ⟨fun q => ca.nil_iff.mp (List.eq_nil_of_length_eq_zero (by omega)), fun q => by rw [ca.nil_iff.mpr q]; rfl⟩
  · (try dsimp only); (try k_unfold); (try dsimp only); refine hret _ _ _ (Fr.keep (by k_asm)) ?_
    refine ⟨false, rfl, ?_⟩
    rw [if_neg (nz_of_len cb (by assumption))]
    exact ⟨(fun e => nomatch e), (fun e => absurd e xN)⟩
  · (try dsimp only); (try k_unfold); (try dsimp only); refine hret _ _ _ (Fr.keep (by k_asm)) ?_
    refine ⟨true, rfl, ?_⟩
    rw [if_neg (nz_of_len cb (by assumption))]
    exact ⟨fun _ => xZ, fun _ => rfl⟩

theorem c_newton {a b : Addr} {va vb : List Value} {na nb : List Int} {x y : Int} {W : Nat} {tw : Tok} (hW : 2 ≤ W) (hW9 : W ≤ 9) (ha : s.heap.IsList a va.toArray) (ia : IntsAre va na) (ba : na.length < 100)
    (hb : s.heap.IsList b vb.toArray) (ib : IntsAre vb nb) (bb : nb.length < 100) (ca : Can W na x) (cb : Can W nb y) :
    RCall w p loose mean mg mb 178 [.ref a, .ref b, .int W tw, .ref 213] 17 130 (fun h' v => y ≠ 0 ∧ x % y = 0 ∧ ∃ ms, NewL s.heap ms h' v ∧ Can W ms (x / y)) (fun cls => (y = 0 ∧ cls = .ref 37) ∨ (y ≠ 0 ∧ x % y ≠ 0 ∧ cls = .ref 49)) s := by
  w_top off
  k_with_none
  k_with "eval Call" => (k_dflt (k_here; first | ((with_reducible show wpAny _ _ (eval (Expr.Call (Expr.Name _ _) [Expr.Name _ _, Expr.Name _ _, Expr.Name _ _] [] _) _) _ _ _); (refine' cn3 ?nF ?nX ?nT ?nE ?nK ?n1 ?n2 ?n3 ?_); (case nF => k_asm); (case nX => k_asm); (case nT => k_asm); (case nE => k_is); (case nK => k_is); (case n1 => rfl); (case n2 => rfl); (case n3 => rfl); k_whole) | ((with_reducible show wpAny _ _ (eval (Expr.Call (Expr.Name _ _) [Expr.Name _ _, Expr.Name _ _] [] _) _) _ _ _); (refine' cn2 ?nF ?nX ?nT ?nE ?nK ?n1 ?n2 ?_); (case nF => k_asm); (case nX => k_asm); (case nT => k_asm); (case nE => k_is); (case nK => k_is); (case n1 => rfl); (case n2 => rfl); k_whole) | ((with_reducible show wpAny _ _ (eval (Expr.Call (Expr.Name _ _) [Expr.Name _ _] [] _) _) _ _ _); (refine' cn1 ?nF ?nX ?nT ?nE ?nK ?n1 ?_); (case nF => k_asm); (case nX => k_asm); (case nT => k_asm); (case nE => k_is); (case nK => k_is); (case n1 => rfl); k_whole)))
  k_with "eval Call" => (k_dflt (refine Call_ ?_))
  k_with "eval Call" => (k_dflt (k_here; first | ((with_reducible show wpAny _ _ (eval (Expr.Call (Expr.Name _ _) [Expr.Name _ _, Expr.Name _ _, Expr.Name _ _] [] _) _) _ _ _); (refine' cn3 ?nF ?nX ?nT ?nE ?nK ?n1 ?n2 ?n3 ?_); (case nF => k_asm); (case nX => k_asm); (case nT => k_asm); (case nE => k_is); (case nK => k_is); (case n1 => rfl); (case n2 => rfl); (case n3 => rfl); k_whole) | ((with_reducible show wpAny _ _ (eval (Expr.Call (Expr.Name _ _) [Expr.Name _ _, Expr.Name _ _] [] _) _) _ _ _); (refine' cn2 ?nF ?nX ?nT ?nE ?nK ?n1 ?n2 ?_); (case nF => k_asm); (case nX => k_asm); (case nT => k_asm); (case nE => k_is); (case nK => k_is); (case n1 => rfl); (case n2 => rfl); k_whole) | ((with_reducible show wpAny _ _ (eval (Expr.Call (Expr.Name _ _) [Expr.Name _ _] [] _) _) _ _ _); (refine' cn1 ?nF ?nX ?nT ?nE ?nK ?n1 ?_); (case nF => k_asm); (case nX => k_asm); (case nT => k_asm); (case nE => k_is); (case nK => k_is); (case n1 => rfl); k_whole)))
  k_with "call ref" => k_dflt (
    (k_here; (with_reducible show wpAny _ _ (call (Value.ref 157) _) _ _ _)); (rename Fr _ _ _ _ => frU); (rename News _ _ _ _ => nwU); (first | (show wpAny _ (AA (dp + 1) (un + 3) gd (_ :: fr)) _ _ _ _) | (show wpAny _ (AA (dp + 1 + 1) (un + 3 + 3) gd (_ :: _ :: fr)) _ _ _ _) | (show wpAny _ (AA (dp + 1 + 1 + 1) (un + 3 + 3 + 3) gd (_ :: _ :: _ :: fr)) _ _ _ _) | (show wpAny _ (AA (dp + 1 + 1 + 1 + 1) (un + 3 + 3 + 3 + 3) gd (_ :: _ :: _ :: _ :: fr)) _ _ _ _));
    (with_unfolding_all refine' PCall.useP (c_wo2 (na := na) (nb := nb) (x := x) (y := y) hW hW9 ?c1 ?c2 ?c3 ?c4 ?c5 ?c6 ?c7 ?c8 ?c9 ?c10) (by assumption) frU (by assumption) nwU (by assumption) ?uhf ?uke ?uhd ?uhu ?_ ?_);
    (case c1 => is_list);
    (case c2 => exact ia);
    (case c3 => omega);
    (case c4 => is_list);
    (case c5 => exact ib);
    (case c6 => omega);
    (case c7 => exact ca);
    (case c8 => exact cb);
    (case c9 => (exact nz_of_len ca (by assumption)));
    (case c10 => (exact nz_of_len cb (by assumption)));
    (case uhf => rfl); (case uke => rfl); (case uhd => omega); (case uhu => omega);
    ((focus (intro tY hU tkU frV nwV yT xN; clear frU nwU; (try dsimp only))); rotate_left; (focus (intro tY mf mr pU fU rU vfU vrU nfU nrU hU tkU frV ifU irU nwW yT xZ; intro rX; have cF := rX.1; have cR := rX.2.1; have lF := rX.2.2.1; have lR := rX.2.2.2; clear rX; clear frU nwU; (try dsimp only))); rotate_left))
  k_with "call ref" => k_dflt (
    (k_here; (with_reducible show wpAny _ _ (call (Value.ref 124) _) _ _ _)); (rename Fr _ _ _ _ => frU); (rename News _ _ _ _ => nwU); (first | (show wpAny _ (AA (dp + 1) (un + 3) gd (_ :: fr)) _ _ _ _) | (show wpAny _ (AA (dp + 1 + 1) (un + 3 + 3) gd (_ :: _ :: fr)) _ _ _ _) | (show wpAny _ (AA (dp + 1 + 1 + 1) (un + 3 + 3 + 3) gd (_ :: _ :: _ :: fr)) _ _ _ _) | (show wpAny _ (AA (dp + 1 + 1 + 1 + 1) (un + 3 + 3 + 3 + 3) gd (_ :: _ :: _ :: _ :: fr)) _ _ _ _));
    (rw [show ((mf.length : Int) - mr.length + 1) = ((mf.length - mr.length + 1 : Nat) : Int) by omega]);
    (with_unfolding_all refine' PCall.useN (c_low (W := W) (n := mf.length - mr.length + 1) ?c1 ?c2 ?c3 ?c4 ?c5) (by assumption) frU (by assumption) nwU (by assumption) ?uhf ?uke ?uhd ?uhu ?_);
    (case c1 => is_list);
    (case c2 => l_ints);
    (case c3 => omega);
    (case c4 => omega);
    (case c5 => first | exact cF.dig | exact Can.dig (by assumption));
    (case uhf => rfl); (case uke => rfl); (case uhd => omega); (case uhu => omega);
    (intro msU lU vsU nU hU tkU frV iU nwW; intro rX; have cnU := rX.1; have leU := rX.2; clear rX; clear frU nwU; (try dsimp only)))
  k_with "call ref" => k_dflt (
    (k_here; (with_reducible show wpAny _ _ (call (Value.ref 136) _) _ _ _)); (rename Fr _ _ _ _ => frU); (rename News _ _ _ _ => nwU); (first | (show wpAny _ (AA (dp + 1) (un + 3) gd (_ :: fr)) _ _ _ _) | (show wpAny _ (AA (dp + 1 + 1) (un + 3 + 3) gd (_ :: _ :: fr)) _ _ _ _) | (show wpAny _ (AA (dp + 1 + 1 + 1) (un + 3 + 3 + 3) gd (_ :: _ :: _ :: fr)) _ _ _ _) | (show wpAny _ (AA (dp + 1 + 1 + 1 + 1) (un + 3 + 3 + 3 + 3) gd (_ :: _ :: _ :: _ :: fr)) _ _ _ _));
    (rw [show ((mf.length : Int) - mr.length + 1) = ((mf.length - mr.length + 1 : Nat) : Int) by omega]);
    (with_unfolding_all refine' PCall.useN (c_invlow (n := mf.length - mr.length + 1) hW hW9 ?c1 ?c2 ?c3 ?c4 ?c5 ?c6 ?c7 ?c8) (by assumption) frU (by assumption) nwU (by assumption) ?uhf ?uke ?uhd ?uhu ?_);
    (case c1 => is_list);
    (case c2 => exact irU);
    (case c3 => omega);
    (case c4 => omega);
    (case c5 => omega);
    (case c6 => exact cR.dig);
    (case c7 => exact getD0_odd hW cR yT.2);
    (case c8 => (exact cR.pos_len (by have := odd_pos cb.nonneg yT; omega)));
    (case uhf => rfl); (case uke => rfl); (case uhd => omega); (case uhu => omega);
    (intro msU lU vsU nU hU tkU frV iU nwW; intro rI; clear frU nwU; (try dsimp only); obtain ⟨xI, cI, lI, eI⟩ := rI))
  k_with "call ref" => k_dflt (
    (k_here; (with_reducible show wpAny _ _ (call (Value.ref 213) _) _ _ _)); (rename Fr _ _ _ _ => frU); (rename News _ _ _ _ => nwU); (first | (show wpAny _ (AA (dp + 1) (un + 3) gd (_ :: fr)) _ _ _ _) | (show wpAny _ (AA (dp + 1 + 1) (un + 3 + 3) gd (_ :: _ :: fr)) _ _ _ _) | (show wpAny _ (AA (dp + 1 + 1 + 1) (un + 3 + 3 + 3) gd (_ :: _ :: _ :: fr)) _ _ _ _) | (show wpAny _ (AA (dp + 1 + 1 + 1 + 1) (un + 3 + 3 + 3 + 3) gd (_ :: _ :: _ :: _ :: fr)) _ _ _ _));
    (with_unfolding_all refine' PCall.useN (c_mul (W := W) hW hW9 ?c1 ?c2 ?c3 ?c4 ?c5 ?c6 ?c7 ?c8) (by assumption) frU (by assumption) nwU (by assumption) ?uhf ?uke ?uhd ?uhu ?_);
    (case c1 => is_list);
    (case c2 => l_ints);
    (case c3 => omega);
    (case c4 => is_list);
    (case c5 => l_ints);
    (case c6 => omega);
    (case c7 => assumption);
    (case c8 => assumption);
    (case uhf => rfl); (case uke => rfl); (case uhd => omega); (case uhu => omega);
    (intro msU lU vsU nU hU tkU frV iU nwW; intro rX; have cnU := rX.1; have leU := rX.2; clear rX; clear frU nwU; (try dsimp only)))
  k_with "call ref" => k_dflt (
    (k_here; (with_reducible show wpAny _ _ (call (Value.ref 89) _) _ _ _)); (rename Fr _ _ _ _ => frU); (rename News _ _ _ _ => nwU); (first | (show wpAny _ (AA (dp + 1) (un + 3) gd (_ :: fr)) _ _ _ _) | (show wpAny _ (AA (dp + 1 + 1) (un + 3 + 3) gd (_ :: _ :: fr)) _ _ _ _) | (show wpAny _ (AA (dp + 1 + 1 + 1) (un + 3 + 3 + 3) gd (_ :: _ :: _ :: fr)) _ _ _ _) | (show wpAny _ (AA (dp + 1 + 1 + 1 + 1) (un + 3 + 3 + 3 + 3) gd (_ :: _ :: _ :: _ :: fr)) _ _ _ _));
    (with_unfolding_all refine' PCall.useI (c_compare ?c1 ?c2 ?c3 ?c4 ?c5 ?c6) (by assumption) frU (by assumption) nwU (by assumption) ?uhf ?uke ?uhd ?uhu ?_);
    (case c1 => is_list);
    (case c2 => l_ints);
    (case c3 => omega);
    (case c4 => is_list);
    (case c5 => exact ifU);
    (case c6 => omega);
    (case uhf => rfl); (case uke => rfl); (case uhd => omega); (case uhu => omega);
    (intro cC hU tkU tC frV nwV; intro eC; clear frU nwU; (try dsimp only)))
  have hfill : ∀ w' h', (headK.heap_1 (World.params w')).In h' → PySem.Challenge.rw_nn0016_01.row.prog = PySem.Challenge.rw_nn0016_01.row.prog := by k_fill; exact fun _ _ _ => rfl
  clear hfill
  intro dp un gd base fr Q E M hXB hTB hD hdp hun hret hexc
  have X := M.X
  have T := M.T
  refine' enterR M ?k6 ?k7 ?k8 ?k9 ?kB ?_ ?c2 ?c3 ?c4 ?c5
  case k6 => k_is
  case k7 => k_is
  case k8 => omega
  case k9 => exact BindsTo.of_eq rfl
  case kB => exact locs rfl
  case c2 => exact rfl
  case c3 => exact rfl
  case c4 => exact rfl
  case c5 => decide
  intro L' h₁ F' N' B'
  show wpAny _ _ _ _ _ _
  try dsimp only
  k_fold
  tb_start
  · (try dsimp only); (try k_unfold); (try dsimp only); refine hexc _ _ _ _ _ _ (raisedS_nil (by assumption)) (by assumption) ?_
    exact .inl ⟨cb.nil_iff.mp (List.eq_nil_of_length_eq_zero (by omega)), rfl⟩
  · (try dsimp only); (try k_unfold); (try dsimp only); refine hret _ _ _ (Fr.keep (by k_asm)) ?_
    have e := ca.nil_iff.mp (List.eq_nil_of_length_eq_zero (by omega))
    rw [e]
    exact ⟨nz_of_len cb (by assumption), Int.zero_emod _, _, newL_of (by assumption) (by k_mem) .nil, by rw [Int.zero_ediv]; exact .nil⟩
  · (try dsimp only); (try k_unfold); (try dsimp only); refine hexc _ _ _ _ _ _ (raisedS_nil (by assumption)) (by assumption) ?_
    exact .inr ⟨nz_of_len cb (by assumption), twos_none yT xN, rfl⟩
  · (try dsimp only); (try k_unfold); (try dsimp only); refine hexc _ _ _ _ _ _ (raisedS_nil (by assumption)) (by assumption) ?_
    have hx0 : 0 < x := by have := ca.nonneg; have := nz_of_len ca (by assumption); omega
    exact .inr ⟨nz_of_len cb (by assumption), fun e => short_none cF cR (pos_part hx0 xZ) (by omega) ((twos_off yT xZ).1.mp e), rfl⟩
  · have hx0 : 0 < x := by have := ca.nonneg; have := nz_of_len ca (by assumption); omega
    have hy0 : 0 < y := by have := cb.nonneg; have := nz_of_len cb (by assumption); omega
    obtain ⟨n1, n2, n3, n4⟩ := newton_end hW cF cR (by assumption) (by assumption) eI
    (try dsimp only); (try k_unfold); (try dsimp only); refine hexc _ _ _ _ _ _ (raisedS_nil (by assumption)) (by assumption) ?_
    exact .inr ⟨nz_of_len cb (by assumption), exq_no hx0 hy0 yT xZ cF cR (by omega) n1 n2 n3 (fun e => absurd (eC.mpr (n4.mpr e)) (by assumption)), rfl⟩
  · have hy0 : 0 < y := by have := cb.nonneg; have := nz_of_len cb (by assumption); omega
    obtain ⟨n1, n2, n3, n4⟩ := newton_end hW cF cR (by assumption) (by assumption) eI
    have e := n4.mp (eC.mp (by assumption))
    obtain ⟨f1, f2⟩ := exq_yes (M := 1) (z := 0) hy0 yT xZ (e.trans (by rw [Int.mul_zero, Int.add_zero])) rfl
    (try dsimp only); (try k_unfold); (try dsimp only); refine hret _ _ _ (Fr.keep (by k_asm)) ?_
    exact ⟨nz_of_len cb (by assumption), f1, _, newL_of (by assumption) (by k_mem) (by assumption), by rw [f2]; assumption⟩

theorem c_right0 {x y : Int} {W : Nat} {tx ty tw : Tok} (hW : 2 ≤ W) (hW9 : W ≤ 9) (hx : 0 ≤ x) (hx1 : x < (2 ^ W) ^ 40) (hy : 0 ≤ y) (hy1 : y < (2 ^ W) ^ 40) (hyC : y = 0) (q0 : True) :
    TCall w p loose mean mg mb 234 [.int x tx, .int y ty, .int W tw] 30 300 [(229, tabObj #[])] PostA s := by
  have q1 : True := True.intro
  have q2 : True := True.intro
  have q3 : True := True.intro
  have q4 : True := True.intro
  w_top off
  k_with_none
  k_with "eval Call" => (k_dflt (k_here; first | ((with_reducible show wpAny _ _ (eval (Expr.Call (Expr.Name _ _) [Expr.Name _ _, Expr.Name _ _, Expr.Name _ _] [] _) _) _ _ _); (refine' cn3 ?nF ?nX ?nT ?nE ?nK ?n1 ?n2 ?n3 ?_); (case nF => k_asm); (case nX => k_asm); (case nT => k_asm); (case nE => k_is); (case nK => k_is); (case n1 => rfl); (case n2 => rfl); (case n3 => rfl); k_whole) | ((with_reducible show wpAny _ _ (eval (Expr.Call (Expr.Name _ _) [Expr.Name _ _, Expr.Name _ _] [] _) _) _ _ _); (refine' cn2 ?nF ?nX ?nT ?nE ?nK ?n1 ?n2 ?_); (case nF => k_asm); (case nX => k_asm); (case nT => k_asm); (case nE => k_is); (case nK => k_is); (case n1 => rfl); (case n2 => rfl); k_whole) | ((with_reducible show wpAny _ _ (eval (Expr.Call (Expr.Name _ _) [Expr.Name _ _] [] _) _) _ _ _); (refine' cn1 ?nF ?nX ?nT ?nE ?nK ?n1 ?_); (case nF => k_asm); (case nX => k_asm); (case nT => k_asm); (case nE => k_is); (case nK => k_is); (case n1 => rfl); k_whole)))
  k_with "callWith ref" => (k_dflt (k_here; refine' callWith_K ?k1 ?k2 ?_; (case k1 => k_asm); (case k2 => k_is); k_whole))
  k_with "eval Lambda" => (k_dflt (exfalso; first | (exact absurd (by assumption) hyN) | (exact absurd hyC (by assumption)) | (exact absurd (by assumption) hfN) | (exact absurd hfZ (by assumption))))
  k_with "binaryOp FloorDiv int int" => (k_dflt (exfalso; first | (exact absurd (by assumption) hyN) | (exact absurd hyC (by assumption)) | (exact absurd (by assumption) hfN) | (exact absurd hfZ (by assumption))))
  k_with "call ref" => k_dflt (
    (k_here; (with_reducible show wpAny _ _ (call (Value.ref 199) _) _ _ _)); (rename Fr _ _ _ _ => frU); (rename News _ _ _ _ => nwU); (first | (show wpAny _ (AA (dp + 1) (un + 3) gd (_ :: fr)) _ _ _ _) | (show wpAny _ (AA (dp + 1 + 1) (un + 3 + 3) gd (_ :: _ :: fr)) _ _ _ _) | (show wpAny _ (AA (dp + 1 + 1 + 1) (un + 3 + 3 + 3) gd (_ :: _ :: _ :: fr)) _ _ _ _) | (show wpAny _ (AA (dp + 1 + 1 + 1 + 1) (un + 3 + 3 + 3 + 3) gd (_ :: _ :: _ :: _ :: fr)) _ _ _ _));
    (with_unfolding_all refine' PCall.useNK (c_limbs (k := 40) hW hW9 ?c1 ?c2 ?c3) (by assumption) frU (by assumption) nwU (by assumption) ?uhf ?uke ?uhd ?uhu ?_);
    (case c1 => assumption);
    (case c2 => assumption);
    (case c3 => decide);
    (case uhf => rfl); (case uke => rfl); (case uhd => omega); (case uhu => omega);
    (intro msU lU vsU nU hU tkU frV iU nwW neU neLU; intro rX; have cA := rX.1; have leA := rX.2; clear rX; clear frU nwU; (try dsimp only); (have n9 : @Ne Nat 229 lU := by omega); (try rw [fdiv_pos _ hy0] at cA)))
  k_with "call ref" => k_dflt (
    (k_here; (with_reducible show wpAny _ _ (call (Value.ref 171) _) _ _ _)); (rename Fr _ _ _ _ => frU); (rename News _ _ _ _ => nwU); (first | (show wpAny _ (AA (dp + 1) (un + 3) gd (_ :: fr)) _ _ _ _) | (show wpAny _ (AA (dp + 1 + 1) (un + 3 + 3) gd (_ :: _ :: fr)) _ _ _ _));
    (with_unfolding_all refine' RCall.useD (x := x) (y := y) (c_dex (W := W) (x := x) (y := y) hW hW9 ?c1 ?c2 ?c3 ?c4 ?c5 ?c6 ?c7 ?c8) (by assumption) frU (by assumption) nwU (by assumption) hXB hTB ?uD ?uhf ?uke ?uhd ?uhu ?_ ?_ ?_);
    (case c1 => is_list);
    (case c2 => l_ints);
    (case c3 => omega);
    (case c4 => is_list);
    (case c5 => l_ints);
    (case c6 => omega);
    (case c7 => assumption);
    (case c8 => assumption);
    (case uD => exact ktsDicts_push rfl (by assumption) hD); (case uhf => rfl); (case uke => rfl); (case uhd => omega); (case uhu => omega);
    (all_goals first | (intro q1; exact absurd q1 hyN) | (intro q1 q2; exact absurd hyC q1) | (intro q1 q2; exact absurd q2 hmN) | (intro q1 q2; exact absurd hmZ q2) | (have _ := hyC; intro q1 gR eR tR xsR hR tkR fgR sR uR) | (have _ := hmN; intro q1 q2 gR eR tR xsR hR tkR fgR sR uR) | (have _ := hmZ; intro q1 q2 ms lU vsU nU hU tkU frV iU nwW cM; clear frU nwU)))
  k_with "call ref" => k_dflt (
    (k_here; (with_reducible show wpAny _ _ (call (Value.ref 178) _) _ _ _)); (rename Fr _ _ _ _ => frU); (rename News _ _ _ _ => nwU); (first | (show wpAny _ (AA (dp + 1) (un + 3) gd (_ :: fr)) _ _ _ _) | (show wpAny _ (AA (dp + 1 + 1) (un + 3 + 3) gd (_ :: _ :: fr)) _ _ _ _));
    (with_unfolding_all refine' RCall.useD (x := x) (y := y) (c_newton (W := W) (x := x) (y := y) hW hW9 ?c1 ?c2 ?c3 ?c4 ?c5 ?c6 ?c7 ?c8) (by assumption) frU (by assumption) nwU (by assumption) hXB hTB ?uD ?uhf ?uke ?uhd ?uhu ?_ ?_ ?_);
    (case c1 => is_list);
    (case c2 => l_ints);
    (case c3 => omega);
    (case c4 => is_list);
    (case c5 => l_ints);
    (case c6 => omega);
    (case c7 => assumption);
    (case c8 => assumption);
    (case uD => exact ktsDicts_push rfl (by assumption) hD); (case uhf => rfl); (case uke => rfl); (case uhd => omega); (case uhu => omega);
    (all_goals first | (intro q1; exact absurd q1 hyN) | (intro q1 q2; exact absurd hyC q1) | (intro q1 q2; exact absurd q2 hmN) | (intro q1 q2; exact absurd hmZ q2) | (have _ := hyC; intro q1 gR eR tR xsR hR tkR fgR sR uR) | (have _ := hmN; intro q1 q2 gR eR tR xsR hR tkR fgR sR uR) | (have _ := hmZ; intro q1 q2 ms lU vsU nU hU tkU frV iU nwW cM; clear frU nwU)))
  k_with "leaving ref" => k_dflt (k_here; refine' leave_onX ?k0 ?k1 ?k2 ?k3 ?k4 ?_; (case k0 => exact rfl); (case k3 => assumption); (case k2 => assumption); (case k1 => assumption); (case k4 => assumption); k_whole; intro h' S' R' U'; (try dsimp only at S' R' U' ⊢))
  k_with "call ref" => k_dflt (
    (k_here; (with_reducible show wpAny _ _ (call (Value.ref 185) _) _ _ _)); (rename Fr _ _ _ _ => frU); (rename News _ _ _ _ => nwU); (first | (show wpAny _ (AA (dp + 1) (un + 3) gd (_ :: fr)) _ _ _ _) | (show wpAny _ (AA (dp + 1 + 1) (un + 3 + 3) gd (_ :: _ :: fr)) _ _ _ _) | (show wpAny _ (AA (dp + 1 + 1 + 1) (un + 3 + 3 + 3) gd (_ :: _ :: _ :: fr)) _ _ _ _) | (show wpAny _ (AA (dp + 1 + 1 + 1 + 1) (un + 3 + 3 + 3 + 3) gd (_ :: _ :: _ :: _ :: fr)) _ _ _ _));
    (with_unfolding_all refine' PCall.useB (c_isdiv (W := W) (x := x) (y := y) hW hW9 ?c1 ?c2 ?c3 ?c4 ?c5 ?c6 ?c7 ?c8) (by assumption) frU (by assumption) nwU (by assumption) ?uhf ?uke ?uhd ?uhu ?_);
    (case c1 => is_list);
    (case c2 => l_ints);
    (case c3 => omega);
    (case c4 => is_list);
    (case c5 => l_ints);
    (case c6 => omega);
    (case c7 => assumption);
    (case c8 => assumption);
    (case uhf => rfl); (case uke => rfl); (case uhd => omega); (case uhu => omega);
    (intro bl hU tkU frV nwV eb; clear frU nwU; (try dsimp only)))
  have hfill : ∀ w' h', (headK.heap_1 (World.params w')).In h' → PySem.Challenge.rw_nn0016_01.row.prog = PySem.Challenge.rw_nn0016_01.row.prog := by k_fill; exact fun _ _ _ => rfl
  clear hfill
  intro dp un gd base g fr Q E M hg hgs hcb hpre hXB hTB hD hdp hun hret
  have X := M.X
  have T := M.T
  refine' enterM M hg hgs hpre ?k6 ?k7 ?k8 ?k9 ?kB ?kD ?_ ?c2 ?c3 ?c4
  case k6 => k_is
  case k7 => k_is
  case k8 => omega
  case k9 => exact BindsTo.of_eq rfl
  case kB => exact rfl
  case kD => decide +kernel
  case c2 => exact rfl
  case c3 => exact rfl
  case c4 => exact rfl
  intro L' h₁ tk' cells' F' N' Y' l0' B'
  k_cells Y'
  (try dsimp only [AllLt] at l0')
  (try simp only [List.cons_append, List.nil_append] at N')
  show wpAny _ _ _ _ _ _
  try dsimp only
  k_fold
  tb_start
  (rename Fr _ _ _ _ => frU); (rename News _ _ _ _ => nwU)
  show wpAny _ (AA (dp + 1) (un + 3) gd (_ :: fr)) _ _ _ _
  refine TCall.useKeepS (d := 25) (u := 200) (S := Str.ofString "by zero") ?C (by assumption) frU (by assumption) nwU (by assumption) hXB hTB (by assumption) hcb (fun _ hq => hq) rfl rfl (by omega) (by omega) ?_
  case C =>
    clear frU nwU hret M hg hgs hpre X T hdp hun
    (repeat (rename Fr _ _ _ _ => zz; clear zz)); (repeat (rename News _ _ _ _ => zz; clear zz)); (repeat (rename Below _ _ _ _ => zz; clear zz)); (repeat (rename Frag.In _ _ => zz; clear zz)); (repeat (rename Top _ _ _ _ _ _ => zz; clear zz)); (repeat (rename KtsDicts _ _ => zz; clear zz)); (repeat (rename _ ≠ _ ∧ _ => zz; clear zz)); (repeat (rename AllNe _ _ => zz; clear zz)); (repeat (rename @Ne Addr _ _ => zz; clear zz)); (repeat (rename @Ne Nat _ _ => zz; clear zz))
    intro dp un gd base g fr Q E M hg hgs hcb hpre hXB hTB hD hdp hun hret
    have X := M.X
    have T := M.T
    refine' enterT M hg hgs hpre ?k6 ?k7 ?k8 ?k9 ?kB ?_ ?c2 ?c3 ?c4 ?c5
    case k6 => k_is
    case k7 => k_is
    case k8 => omega
    case k9 => exact BindsTo.of_eq rfl
    case kB => exact locs rfl
    case c2 => exact rfl
    case c3 => exact rfl
    case c4 => exact rfl
    case c5 => decide
    intro L' h₁ F' N' l0' B'
    (try dsimp only [AllLt] at l0')
    show wpAny _ _ _ _ _ _
    try dsimp only
    k_fold
    tb_start
    (try dsimp only); (try k_unfold); (try dsimp only)
    (rename News _ _ _ _ => nZ)
    refine hret _ _ _ _ (by first | assumption | exact KtsTurn.refl) (Fr.keep (by k_asm)) ⟨(by first | exact fun r hr => (nZ r hr).1 | exact fun r hr => (nZ r (.tail _ hr)).1), ?_⟩
    exact ⟨_, rfl⟩
  intro hT tkT h₀T tkZ T₁ F' N' B' X' Tp' D'
  (try dsimp only)
  tb_start
  (rename Fr _ _ _ _ => frU); (rename News _ _ _ _ => nwU)
  show wpAny _ (AA (dp + 1) (un + 3) gd (_ :: fr)) _ _ _ _
  refine TCall.useKeepS (d := 25) (u := 200) (S := Str.ofString "by zero") ?C (by assumption) frU (by assumption) nwU (by assumption) hXB hTB (by assumption) hcb (fun _ hq => hq) rfl rfl (by omega) (by omega) ?_
  case C =>
    clear frU nwU hret M hg hgs hpre X T hdp hun
    (repeat (rename Fr _ _ _ _ => zz; clear zz)); (repeat (rename News _ _ _ _ => zz; clear zz)); (repeat (rename Below _ _ _ _ => zz; clear zz)); (repeat (rename Frag.In _ _ => zz; clear zz)); (repeat (rename Top _ _ _ _ _ _ => zz; clear zz)); (repeat (rename KtsDicts _ _ => zz; clear zz)); (repeat (rename _ ≠ _ ∧ _ => zz; clear zz)); (repeat (rename AllNe _ _ => zz; clear zz)); (repeat (rename @Ne Addr _ _ => zz; clear zz)); (repeat (rename @Ne Nat _ _ => zz; clear zz))
    intro dp un gd base g fr Q E M hg hgs hcb hpre hXB hTB hD hdp hun hret
    have X := M.X
    have T := M.T
    refine' enterT M hg hgs hpre ?k6 ?k7 ?k8 ?k9 ?kB ?_ ?c2 ?c3 ?c4 ?c5
    case k6 => k_is
    case k7 => k_is
    case k8 => omega
    case k9 => exact BindsTo.of_eq rfl
    case kB => exact locs rfl
    case c2 => exact rfl
    case c3 => exact rfl
    case c4 => exact rfl
    case c5 => decide
    intro L' h₁ F' N' l0' B'
    (try dsimp only [AllLt] at l0')
    show wpAny _ _ _ _ _ _
    try dsimp only
    k_fold
    tb_start
    (try dsimp only); (try k_unfold); (try dsimp only)
    (rename News _ _ _ _ => nZ)
    refine hret _ _ _ _ (by first | assumption | exact KtsTurn.refl) (Fr.keep (by k_asm)) ⟨(by first | exact fun r hr => (nZ r hr).1 | exact fun r hr => (nZ r (.tail _ hr)).1), ?_⟩
    exact ⟨_, rfl⟩
  intro hT tkT h₀T2 tkZ T₂ F' N' B' X' Tp' D'
  (try dsimp only)
  tb_start
  all_goals (try (exfalso; first | (exact absurd (by assumption) hyN) | (exact absurd hyC (by assumption)) | (exact absurd (by assumption) hfN) | (exact absurd hfZ (by assumption)) | (exact clash_n hy hyN eb (by with_reducible assumption)) | (exact clash_0 hyC eb (by with_reducible assumption)) | (rename (¬ _ = _) => gX; exact gX (Can.inj (by assumption) (by assumption)))))
  (rename News _ _ _ _ => nZ)
  refine hret _ _ _ _ (T₁.trans T₂) (Fr.keep (by k_asm)) (postA_of (decide_eq_true (Can.inj (by assumption) (by assumption))) nZ (by k_mem) (by k_mem) (by k_mem) ⟨_, _, by assumption, by assumption⟩ ⟨_, _, by assumption, by assumption⟩)

theorem c_rightY {x y : Int} {W : Nat} {tx ty tw : Tok} (hW : 2 ≤ W) (hW9 : W ≤ 9) (hx : 0 ≤ x) (hx1 : x < (2 ^ W) ^ 40) (hy : 0 ≤ y) (hy1 : y < (2 ^ W) ^ 40) (hyN : y ≠ 0) (hmZ : x % y = 0) :
    TCall w p loose mean mg mb 234 [.int x tx, .int y ty, .int W tw] 30 300 [(229, tabObj #[])] PostA s := by
  have hy0 : 0 < y := by omega
  have hfZ : x.fmod y = 0 := by rw [fmod_pos _ hy0]; exact hmZ
  have hd0 : 0 ≤ x.fdiv y := Int.fdiv_nonneg hx hy
  have hd1 : x.fdiv y < (2 ^ W) ^ 40 := Int.lt_of_le_of_lt (by rw [fdiv_pos _ hy0]; exact Int.ediv_le_self _ hx) hx1
  w_top off
  k_with_none
  k_with "eval Call" => (k_dflt (k_here; first | ((with_reducible show wpAny _ _ (eval (Expr.Call (Expr.Name _ _) [Expr.Name _ _, Expr.Name _ _, Expr.Name _ _] [] _) _) _ _ _); (refine' cn3 ?nF ?nX ?nT ?nE ?nK ?n1 ?n2 ?n3 ?_); (case nF => k_asm); (case nX => k_asm); (case nT => k_asm); (case nE => k_is); (case nK => k_is); (case n1 => rfl); (case n2 => rfl); (case n3 => rfl); k_whole) | ((with_reducible show wpAny _ _ (eval (Expr.Call (Expr.Name _ _) [Expr.Name _ _, Expr.Name _ _] [] _) _) _ _ _); (refine' cn2 ?nF ?nX ?nT ?nE ?nK ?n1 ?n2 ?_); (case nF => k_asm); (case nX => k_asm); (case nT => k_asm); (case nE => k_is); (case nK => k_is); (case n1 => rfl); (case n2 => rfl); k_whole) | ((with_reducible show wpAny _ _ (eval (Expr.Call (Expr.Name _ _) [Expr.Name _ _] [] _) _) _ _ _); (refine' cn1 ?nF ?nX ?nT ?nE ?nK ?n1 ?_); (case nF => k_asm); (case nX => k_asm); (case nT => k_asm); (case nE => k_is); (case nK => k_is); (case n1 => rfl); k_whole)))
  k_with "callWith ref" => (k_dflt (k_here; refine' callWith_K ?k1 ?k2 ?_; (case k1 => k_asm); (case k2 => k_is); k_whole))
  k_with "eval Lambda" => (k_dflt (exfalso; first | (exact absurd (by assumption) hyN) | (exact absurd hyC (by assumption)) | (exact absurd (by assumption) hfN) | (exact absurd hfZ (by assumption))))
  k_with "binaryOp FloorDiv int int" => (k_dflt (exfalso; first | (exact absurd (by assumption) hyN) | (exact absurd hyC (by assumption)) | (exact absurd (by assumption) hfN) | (exact absurd hfZ (by assumption))))
  k_with "call ref" => k_dflt (
    (k_here; (with_reducible show wpAny _ _ (call (Value.ref 199) _) _ _ _)); (rename Fr _ _ _ _ => frU); (rename News _ _ _ _ => nwU); (first | (show wpAny _ (AA (dp + 1) (un + 3) gd (_ :: fr)) _ _ _ _) | (show wpAny _ (AA (dp + 1 + 1) (un + 3 + 3) gd (_ :: _ :: fr)) _ _ _ _) | (show wpAny _ (AA (dp + 1 + 1 + 1) (un + 3 + 3 + 3) gd (_ :: _ :: _ :: fr)) _ _ _ _) | (show wpAny _ (AA (dp + 1 + 1 + 1 + 1) (un + 3 + 3 + 3 + 3) gd (_ :: _ :: _ :: _ :: fr)) _ _ _ _));
    (with_unfolding_all refine' PCall.useNK (c_limbs (k := 40) hW hW9 ?c1 ?c2 ?c3) (by assumption) frU (by assumption) nwU (by assumption) ?uhf ?uke ?uhd ?uhu ?_);
    (case c1 => assumption);
    (case c2 => assumption);
    (case c3 => decide);
    (case uhf => rfl); (case uke => rfl); (case uhd => omega); (case uhu => omega);
    (intro msU lU vsU nU hU tkU frV iU nwW neU neLU; intro rX; have cA := rX.1; have leA := rX.2; clear rX; clear frU nwU; (try dsimp only); (have n9 : @Ne Nat 229 lU := by omega); (try rw [fdiv_pos _ hy0] at cA)))
  k_with "call ref" => k_dflt (
    (k_here; (with_reducible show wpAny _ _ (call (Value.ref 171) _) _ _ _)); (rename Fr _ _ _ _ => frU); (rename News _ _ _ _ => nwU); (first | (show wpAny _ (AA (dp + 1) (un + 3) gd (_ :: fr)) _ _ _ _) | (show wpAny _ (AA (dp + 1 + 1) (un + 3 + 3) gd (_ :: _ :: fr)) _ _ _ _));
    (with_unfolding_all refine' RCall.useD (x := x) (y := y) (c_dex (W := W) (x := x) (y := y) hW hW9 ?c1 ?c2 ?c3 ?c4 ?c5 ?c6 ?c7 ?c8) (by assumption) frU (by assumption) nwU (by assumption) hXB hTB ?uD ?uhf ?uke ?uhd ?uhu ?_ ?_ ?_);
    (case c1 => is_list);
    (case c2 => l_ints);
    (case c3 => omega);
    (case c4 => is_list);
    (case c5 => l_ints);
    (case c6 => omega);
    (case c7 => assumption);
    (case c8 => assumption);
    (case uD => exact ktsDicts_push rfl (by assumption) hD); (case uhf => rfl); (case uke => rfl); (case uhd => omega); (case uhu => omega);
    (all_goals first | (intro q1; exact absurd q1 hyN) | (intro q1 q2; exact absurd hyC q1) | (intro q1 q2; exact absurd q2 hmN) | (intro q1 q2; exact absurd hmZ q2) | (have _ := hyC; intro q1 gR eR tR xsR hR tkR fgR sR uR) | (have _ := hmN; intro q1 q2 gR eR tR xsR hR tkR fgR sR uR) | (have _ := hmZ; intro q1 q2 ms lU vsU nU hU tkU frV iU nwW cM; clear frU nwU)))
  k_with "call ref" => k_dflt (
    (k_here; (with_reducible show wpAny _ _ (call (Value.ref 178) _) _ _ _)); (rename Fr _ _ _ _ => frU); (rename News _ _ _ _ => nwU); (first | (show wpAny _ (AA (dp + 1) (un + 3) gd (_ :: fr)) _ _ _ _) | (show wpAny _ (AA (dp + 1 + 1) (un + 3 + 3) gd (_ :: _ :: fr)) _ _ _ _));
    (with_unfolding_all refine' RCall.useD (x := x) (y := y) (c_newton (W := W) (x := x) (y := y) hW hW9 ?c1 ?c2 ?c3 ?c4 ?c5 ?c6 ?c7 ?c8) (by assumption) frU (by assumption) nwU (by assumption) hXB hTB ?uD ?uhf ?uke ?uhd ?uhu ?_ ?_ ?_);
    (case c1 => is_list);
    (case c2 => l_ints);
    (case c3 => omega);
    (case c4 => is_list);
    (case c5 => l_ints);
    (case c6 => omega);
    (case c7 => assumption);
    (case c8 => assumption);
    (case uD => exact ktsDicts_push rfl (by assumption) hD); (case uhf => rfl); (case uke => rfl); (case uhd => omega); (case uhu => omega);
    (all_goals first | (intro q1; exact absurd q1 hyN) | (intro q1 q2; exact absurd hyC q1) | (intro q1 q2; exact absurd q2 hmN) | (intro q1 q2; exact absurd hmZ q2) | (have _ := hyC; intro q1 gR eR tR xsR hR tkR fgR sR uR) | (have _ := hmN; intro q1 q2 gR eR tR xsR hR tkR fgR sR uR) | (have _ := hmZ; intro q1 q2 ms lU vsU nU hU tkU frV iU nwW cM; clear frU nwU)))
  k_with "leaving ref" => k_dflt (k_here; refine' leave_onX ?k0 ?k1 ?k2 ?k3 ?k4 ?_; (case k0 => exact rfl); (case k3 => assumption); (case k2 => assumption); (case k1 => assumption); (case k4 => assumption); k_whole; intro h' S' R' U'; (try dsimp only at S' R' U' ⊢))
  k_with "call ref" => k_dflt (
    (k_here; (with_reducible show wpAny _ _ (call (Value.ref 185) _) _ _ _)); (rename Fr _ _ _ _ => frU); (rename News _ _ _ _ => nwU); (first | (show wpAny _ (AA (dp + 1) (un + 3) gd (_ :: fr)) _ _ _ _) | (show wpAny _ (AA (dp + 1 + 1) (un + 3 + 3) gd (_ :: _ :: fr)) _ _ _ _) | (show wpAny _ (AA (dp + 1 + 1 + 1) (un + 3 + 3 + 3) gd (_ :: _ :: _ :: fr)) _ _ _ _) | (show wpAny _ (AA (dp + 1 + 1 + 1 + 1) (un + 3 + 3 + 3 + 3) gd (_ :: _ :: _ :: _ :: fr)) _ _ _ _));
    (with_unfolding_all refine' PCall.useB (c_isdiv (W := W) (x := x) (y := y) hW hW9 ?c1 ?c2 ?c3 ?c4 ?c5 ?c6 ?c7 ?c8) (by assumption) frU (by assumption) nwU (by assumption) ?uhf ?uke ?uhd ?uhu ?_);
    (case c1 => is_list);
    (case c2 => l_ints);
    (case c3 => omega);
    (case c4 => is_list);
    (case c5 => l_ints);
    (case c6 => omega);
    (case c7 => assumption);
    (case c8 => assumption);
    (case uhf => rfl); (case uke => rfl); (case uhd => omega); (case uhu => omega);
    (intro bl hU tkU frV nwV eb; clear frU nwU; (try dsimp only)))
  k_with "call ref" => k_dflt (
    (k_here; (with_reducible show wpAny _ _ (call (Value.ref 164) _) _ _ _)); (rename Fr _ _ _ _ => frU); (rename News _ _ _ _ => nwU); (first | (show wpAny _ (AA (dp + 1) (un + 3) gd (_ :: fr)) _ _ _ _) | (show wpAny _ (AA (dp + 1 + 1) (un + 3 + 3) gd (_ :: _ :: fr)) _ _ _ _) | (show wpAny _ (AA (dp + 1 + 1 + 1) (un + 3 + 3 + 3) gd (_ :: _ :: _ :: fr)) _ _ _ _) | (show wpAny _ (AA (dp + 1 + 1 + 1 + 1) (un + 3 + 3 + 3 + 3) gd (_ :: _ :: _ :: _ :: fr)) _ _ _ _));
    (with_unfolding_all refine' PCall.useO (c_exq (W := W) (x := x) (y := y) hW hW9 ?c1 ?c2 ?c3 ?c4 ?c5 ?c6 ?c7 ?c8 ?c9) (by assumption) frU (by assumption) nwU (by assumption) ?uhf ?uke ?uhd ?uhu ?_ ?_);
    (case c1 => is_list);
    (case c2 => l_ints);
    (case c3 => omega);
    (case c4 => is_list);
    (case c5 => l_ints);
    (case c6 => omega);
    (case c7 => assumption);
    (case c8 => assumption);
    (case c9 => exact hyN);
    (case uhf => rfl); (case uke => rfl); (case uhd => omega); (case uhu => omega);
    ((focus (intro hU tkU frV nwV xN; clear frU nwU; (try dsimp only))); rotate_left; (focus (intro ms lU vsU nU hU tkU frV iU nwW xZ cM; clear frU nwU; (try dsimp only))); rotate_left; all_goals first | (exact absurd xZ hmN) | (exact absurd hmZ xN) | skip))
  k_with "binaryOp FloorDiv int int" => (refine floordiv_int hyN ?_ (Or.inl (PyProof.noPylong_of_log2 (log2_small (Can.bits (x := y) hW9 (by assumption) (by omega)) hyN))))
  have hfill : ∀ w' h', (headK.heap_1 (World.params w')).In h' → PySem.Challenge.rw_nn0016_01.row.prog = PySem.Challenge.rw_nn0016_01.row.prog := by k_fill; exact fun _ _ _ => rfl
  clear hfill
  intro dp un gd base g fr Q E M hg hgs hcb hpre hXB hTB hD hdp hun hret
  have X := M.X
  have T := M.T
  refine' enterM M hg hgs hpre ?k6 ?k7 ?k8 ?k9 ?kB ?kD ?_ ?c2 ?c3 ?c4
  case k6 => k_is
  case k7 => k_is
  case k8 => omega
  case k9 => exact BindsTo.of_eq rfl
  case kB => exact rfl
  case kD => decide +kernel
  case c2 => exact rfl
  case c3 => exact rfl
  case c4 => exact rfl
  intro L' h₁ tk' cells' F' N' Y' l0' B'
  k_cells Y'
  (try dsimp only [AllLt] at l0')
  (try simp only [List.cons_append, List.nil_append] at N')
  show wpAny _ _ _ _ _ _
  try dsimp only
  k_fold
  tb_start
  all_goals (try (exfalso; first | (exact absurd (by assumption) hyN) | (exact absurd hfZ (by assumption))))
  (rename Fr _ _ _ _ => frU); (rename News _ _ _ _ => nwU)
  show wpAny _ (AA (dp + 1) (un + 3) gd (_ :: fr)) _ _ _ _
  refine TCall.useKeepN (d := 25) (u := 200) (ms := msU) ?C (by assumption) frU (by assumption) nwU (by assumption) hXB hTB (by assumption) hcb (fun _ hq => hq) rfl rfl (by omega) (by omega) ?_
  case C =>
    clear frU nwU hret M hg hgs hpre X T hdp hun
    (repeat (rename Fr _ _ _ _ => zz; clear zz)); (repeat (rename News _ _ _ _ => zz; clear zz)); (repeat (rename Below _ _ _ _ => zz; clear zz)); (repeat (rename Frag.In _ _ => zz; clear zz)); (repeat (rename Top _ _ _ _ _ _ => zz; clear zz)); (repeat (rename KtsDicts _ _ => zz; clear zz)); (repeat (rename _ ≠ _ ∧ _ => zz; clear zz)); (repeat (rename AllNe _ _ => zz; clear zz)); (repeat (rename @Ne Addr _ _ => zz; clear zz)); (repeat (rename @Ne Nat _ _ => zz; clear zz))
    intro dp un gd base g fr Q E M hg hgs hcb hpre hXB hTB hD hdp hun hret
    have X := M.X
    have T := M.T
    refine' enterT M hg hgs hpre ?k6 ?k7 ?k8 ?k9 ?kB ?_ ?c2 ?c3 ?c4 ?c5
    case k6 => k_is
    case k7 => k_is
    case k8 => omega
    case k9 => exact BindsTo.of_eq rfl
    case kB => exact locs rfl
    case c2 => exact rfl
    case c3 => exact rfl
    case c4 => exact rfl
    case c5 => decide
    intro L' h₁ F' N' l0' B'
    (try dsimp only [AllLt] at l0')
    show wpAny _ _ _ _ _ _
    try dsimp only
    k_fold
    tb_start
    (try dsimp only); (try k_unfold); (try dsimp only)
    (rename News _ _ _ _ => nZ)
    refine hret _ _ _ _ (by first | assumption | exact KtsTurn.refl) (Fr.keep (by k_asm)) ⟨(by first | exact fun r hr => (nZ r hr).1 | exact fun r hr => (nZ r (.tail _ hr)).1), ?_⟩
    exact newL_eq (Can.inj (by assumption) cA) (newL_of nZ (by k_mem) (by assumption))
  intro l1 v1 n1 hT tkT h₀T T₁ F' i1 nwT B' X' Tp' D'
  have n91 : @Ne Nat 229 l1 := news_ne nwT (by k_mem) (by k_mem) (by intro e; cases e)
  (try dsimp only)
  tb_start
  (rename Fr _ _ _ _ => frU); (rename News _ _ _ _ => nwU)
  show wpAny _ (AA (dp + 1) (un + 3) gd (_ :: fr)) _ _ _ _
  refine TCall.useKeepN (d := 25) (u := 200) (ms := msU) ?C (by assumption) frU (by assumption) nwU (by assumption) hXB hTB (by assumption) hcb (fun _ hq => hq) rfl rfl (by omega) (by omega) ?_
  case C =>
    clear frU nwU hret M hg hgs hpre X T hdp hun
    (repeat (rename Fr _ _ _ _ => zz; clear zz)); (repeat (rename News _ _ _ _ => zz; clear zz)); (repeat (rename Below _ _ _ _ => zz; clear zz)); (repeat (rename Frag.In _ _ => zz; clear zz)); (repeat (rename Top _ _ _ _ _ _ => zz; clear zz)); (repeat (rename KtsDicts _ _ => zz; clear zz)); (repeat (rename _ ≠ _ ∧ _ => zz; clear zz)); (repeat (rename AllNe _ _ => zz; clear zz)); (repeat (rename @Ne Addr _ _ => zz; clear zz)); (repeat (rename @Ne Nat _ _ => zz; clear zz))
    intro dp un gd base g fr Q E M hg hgs hcb hpre hXB hTB hD hdp hun hret
    have X := M.X
    have T := M.T
    refine' enterT M hg hgs hpre ?k6 ?k7 ?k8 ?k9 ?kB ?_ ?c2 ?c3 ?c4 ?c5
    case k6 => k_is
    case k7 => k_is
    case k8 => omega
    case k9 => exact BindsTo.of_eq rfl
    case kB => exact locs rfl
    case c2 => exact rfl
    case c3 => exact rfl
    case c4 => exact rfl
    case c5 => decide
    intro L' h₁ F' N' l0' B'
    (try dsimp only [AllLt] at l0')
    show wpAny _ _ _ _ _ _
    try dsimp only
    k_fold
    tb_start
    (try dsimp only); (try k_unfold); (try dsimp only)
    (rename News _ _ _ _ => nZ)
    refine hret _ _ _ _ (by first | assumption | exact KtsTurn.refl) (Fr.keep (by k_asm)) ⟨(by first | exact fun r hr => (nZ r hr).1 | exact fun r hr => (nZ r (.tail _ hr)).1), ?_⟩
    exact newL_eq (Can.inj (by assumption) cA) (newL_of nZ (by k_mem) (by assumption))
  intro l2 v2 n2 hT tkT h₀T2 T₂ F' i2 nwT B' X' Tp' D'
  (try dsimp only)
  tb_start
  all_goals (try (exfalso; first | (exact absurd (by assumption) hyN) | (exact absurd hyC (by assumption)) | (exact absurd (by assumption) hfN) | (exact absurd hfZ (by assumption)) | (exact clash_n hy hyN eb (by with_reducible assumption)) | (exact clash_0 hyC eb (by with_reducible assumption)) | (rename (¬ _ = _) => gX; exact gX (Can.inj (by assumption) (by assumption)))))
  (rename News _ _ _ _ => nZ)
  refine hret _ _ _ _ (T₁.trans T₂) (Fr.keep (by k_asm)) (postA_of (decide_eq_true (Can.inj (by assumption) (by assumption))) nZ (by k_mem) (by k_mem) (by k_mem) ⟨_, _, by assumption, by assumption⟩ ⟨_, _, by assumption, by assumption⟩)

theorem c_right0B {x y : Int} {W : Nat} {tx ty tw : Tok} {ca cb : Addr} {oa ob : Obj} (ka : CodeO oa) (kb : CodeO ob) (hW : 2 ≤ W) (hW9 : W ≤ 9) (hx : 0 ≤ x) (hx1 : x < (2 ^ W) ^ 40) (hy : 0 ≤ y) (hy1 : y < (2 ^ W) ^ 40) (hyC : y = 0) (q0 : True) :
    TCall w p loose mean mg mb 234 [.int x tx, .int y ty, .int W tw] 30 300 [(229, Tab ca cb), (ca, oa), (cb, ob)] (fun g' h' v => (∀ r ∈ [((229 : Addr), Tab ca cb), (ca, oa), (cb, ob)], h'.get? r.1 = some r.2) ∧ v = .bool true) s := by
  obtain ⟨va9, ta9, da1, da2⟩ := ka
  obtain ⟨vb9, tb9, db1, db2⟩ := kb
  have q1 : True := True.intro
  have q2 : True := True.intro
  have q3 : True := True.intro
  have q4 : True := True.intro
  w_top off
  k_with_none
  k_with "eval Call" => (k_dflt (k_here; first | ((with_reducible show wpAny _ _ (eval (Expr.Call (Expr.Name _ _) [Expr.Name _ _, Expr.Name _ _, Expr.Name _ _] [] _) _) _ _ _); (refine' cn3 ?nF ?nX ?nT ?nE ?nK ?n1 ?n2 ?n3 ?_); (case nF => k_asm); (case nX => k_asm); (case nT => k_asm); (case nE => k_is); (case nK => k_is); (case n1 => rfl); (case n2 => rfl); (case n3 => rfl); k_whole) | ((with_reducible show wpAny _ _ (eval (Expr.Call (Expr.Name _ _) [Expr.Name _ _, Expr.Name _ _] [] _) _) _ _ _); (refine' cn2 ?nF ?nX ?nT ?nE ?nK ?n1 ?n2 ?_); (case nF => k_asm); (case nX => k_asm); (case nT => k_asm); (case nE => k_is); (case nK => k_is); (case n1 => rfl); (case n2 => rfl); k_whole) | ((with_reducible show wpAny _ _ (eval (Expr.Call (Expr.Name _ _) [Expr.Name _ _] [] _) _) _ _ _); (refine' cn1 ?nF ?nX ?nT ?nE ?nK ?n1 ?_); (case nF => k_asm); (case nX => k_asm); (case nT => k_asm); (case nE => k_is); (case nK => k_is); (case n1 => rfl); k_whole)))
  k_with "callWith ref" => (k_dflt (k_here; refine' callWith_K ?k1 ?k2 ?_; (case k1 => k_asm); (case k2 => k_is); k_whole))
  k_with "eval Lambda" => (k_dflt (exfalso; first | (exact absurd (by assumption) hyN) | (exact absurd hyC (by assumption)) | (exact absurd (by assumption) hfN) | (exact absurd hfZ (by assumption))))
  k_with "binaryOp FloorDiv int int" => (k_dflt (exfalso; first | (exact absurd (by assumption) hyN) | (exact absurd hyC (by assumption)) | (exact absurd (by assumption) hfN) | (exact absurd hfZ (by assumption))))
  k_with "call ref" => k_dflt (
    (k_here; (with_reducible show wpAny _ _ (call (Value.ref 199) _) _ _ _)); (rename Fr _ _ _ _ => frU); (rename News _ _ _ _ => nwU); (first | (show wpAny _ (AA (dp + 1) (un + 3) gd (_ :: fr)) _ _ _ _) | (show wpAny _ (AA (dp + 1 + 1) (un + 3 + 3) gd (_ :: _ :: fr)) _ _ _ _) | (show wpAny _ (AA (dp + 1 + 1 + 1) (un + 3 + 3 + 3) gd (_ :: _ :: _ :: fr)) _ _ _ _) | (show wpAny _ (AA (dp + 1 + 1 + 1 + 1) (un + 3 + 3 + 3 + 3) gd (_ :: _ :: _ :: _ :: fr)) _ _ _ _));
    (with_unfolding_all refine' PCall.useNK (c_limbs (k := 40) hW hW9 ?c1 ?c2 ?c3) (by assumption) frU (by assumption) nwU (by assumption) ?uhf ?uke ?uhd ?uhu ?_);
    (case c1 => assumption);
    (case c2 => assumption);
    (case c3 => decide);
    (case uhf => rfl); (case uke => rfl); (case uhd => omega); (case uhu => omega);
    (intro msU lU vsU nU hU tkU frV iU nwW neU neLU; intro rX; have cA := rX.1; have leA := rX.2; clear rX; clear frU nwU; (try dsimp only); (have n9 : @Ne Nat 229 lU := by omega); (try rw [fdiv_pos _ hy0] at cA)))
  k_with "call ref" => k_dflt (
    (k_here; (with_reducible show wpAny _ _ (call (Value.ref 171) _) _ _ _)); (rename Fr _ _ _ _ => frU); (rename News _ _ _ _ => nwU); (first | (show wpAny _ (AA (dp + 1) (un + 3) gd (_ :: fr)) _ _ _ _) | (show wpAny _ (AA (dp + 1 + 1) (un + 3 + 3) gd (_ :: _ :: fr)) _ _ _ _));
    (with_unfolding_all refine' RCall.useD (x := x) (y := y) (c_dex (W := W) (x := x) (y := y) hW hW9 ?c1 ?c2 ?c3 ?c4 ?c5 ?c6 ?c7 ?c8) (by assumption) frU (by assumption) nwU (by assumption) hXB hTB ?uD ?uhf ?uke ?uhd ?uhu ?_ ?_ ?_);
    (case c1 => is_list);
    (case c2 => l_ints);
    (case c3 => omega);
    (case c4 => is_list);
    (case c5 => l_ints);
    (case c6 => omega);
    (case c7 => assumption);
    (case c8 => assumption);
    (case uD => exact ktsDicts_push rfl (by assumption) hD); (case uhf => rfl); (case uke => rfl); (case uhd => omega); (case uhu => omega);
    (all_goals first | (intro q1; exact absurd q1 hyN) | (intro q1 q2; exact absurd hyC q1) | (intro q1 q2; exact absurd q2 hmN) | (intro q1 q2; exact absurd hmZ q2) | (have _ := hyC; intro q1 gR eR tR xsR hR tkR fgR sR uR) | (have _ := hmN; intro q1 q2 gR eR tR xsR hR tkR fgR sR uR) | (have _ := hmZ; intro q1 q2 ms lU vsU nU hU tkU frV iU nwW cM; clear frU nwU)))
  k_with "call ref" => k_dflt (
    (k_here; (with_reducible show wpAny _ _ (call (Value.ref 178) _) _ _ _)); (rename Fr _ _ _ _ => frU); (rename News _ _ _ _ => nwU); (first | (show wpAny _ (AA (dp + 1) (un + 3) gd (_ :: fr)) _ _ _ _) | (show wpAny _ (AA (dp + 1 + 1) (un + 3 + 3) gd (_ :: _ :: fr)) _ _ _ _));
    (with_unfolding_all refine' RCall.useD (x := x) (y := y) (c_newton (W := W) (x := x) (y := y) hW hW9 ?c1 ?c2 ?c3 ?c4 ?c5 ?c6 ?c7 ?c8) (by assumption) frU (by assumption) nwU (by assumption) hXB hTB ?uD ?uhf ?uke ?uhd ?uhu ?_ ?_ ?_);
    (case c1 => is_list);
    (case c2 => l_ints);
    (case c3 => omega);
    (case c4 => is_list);
    (case c5 => l_ints);
    (case c6 => omega);
    (case c7 => assumption);
    (case c8 => assumption);
    (case uD => exact ktsDicts_push rfl (by assumption) hD); (case uhf => rfl); (case uke => rfl); (case uhd => omega); (case uhu => omega);
    (all_goals first | (intro q1; exact absurd q1 hyN) | (intro q1 q2; exact absurd hyC q1) | (intro q1 q2; exact absurd q2 hmN) | (intro q1 q2; exact absurd hmZ q2) | (have _ := hyC; intro q1 gR eR tR xsR hR tkR fgR sR uR) | (have _ := hmN; intro q1 q2 gR eR tR xsR hR tkR fgR sR uR) | (have _ := hmZ; intro q1 q2 ms lU vsU nU hU tkU frV iU nwW cM; clear frU nwU)))
  k_with "leaving ref" => k_dflt (k_here; refine' leave_onX ?k0 ?k1 ?k2 ?k3 ?k4 ?_; (case k0 => exact rfl); (case k3 => assumption); (case k2 => assumption); (case k1 => assumption); (case k4 => assumption); k_whole; intro h' S' R' U'; (try dsimp only at S' R' U' ⊢))
  k_with "call ref" => k_dflt (
    (k_here; (with_reducible show wpAny _ _ (call (Value.ref 185) _) _ _ _)); (rename Fr _ _ _ _ => frU); (rename News _ _ _ _ => nwU); (first | (show wpAny _ (AA (dp + 1) (un + 3) gd (_ :: fr)) _ _ _ _) | (show wpAny _ (AA (dp + 1 + 1) (un + 3 + 3) gd (_ :: _ :: fr)) _ _ _ _) | (show wpAny _ (AA (dp + 1 + 1 + 1) (un + 3 + 3 + 3) gd (_ :: _ :: _ :: fr)) _ _ _ _) | (show wpAny _ (AA (dp + 1 + 1 + 1 + 1) (un + 3 + 3 + 3 + 3) gd (_ :: _ :: _ :: _ :: fr)) _ _ _ _));
    (with_unfolding_all refine' PCall.useB (c_isdiv (W := W) (x := x) (y := y) hW hW9 ?c1 ?c2 ?c3 ?c4 ?c5 ?c6 ?c7 ?c8) (by assumption) frU (by assumption) nwU (by assumption) ?uhf ?uke ?uhd ?uhu ?_);
    (case c1 => is_list);
    (case c2 => l_ints);
    (case c3 => omega);
    (case c4 => is_list);
    (case c5 => l_ints);
    (case c6 => omega);
    (case c7 => assumption);
    (case c8 => assumption);
    (case uhf => rfl); (case uke => rfl); (case uhd => omega); (case uhu => omega);
    (intro bl hU tkU frV nwV eb; clear frU nwU; (try dsimp only)))
  have hfill : ∀ w' h', (headK.heap_1 (World.params w')).In h' → PySem.Challenge.rw_nn0016_01.row.prog = PySem.Challenge.rw_nn0016_01.row.prog := by k_fill; exact fun _ _ _ => rfl
  clear hfill
  intro dp un gd base g fr Q E M hg hgs hcb hpre hXB hTB hD hdp hun hret
  have X := M.X
  have T := M.T
  refine' enterM M hg hgs hpre ?k6 ?k7 ?k8 ?k9 ?kB ?kD ?_ ?c2 ?c3 ?c4
  case k6 => k_is
  case k7 => k_is
  case k8 => omega
  case k9 => exact BindsTo.of_eq rfl
  case kB => exact rfl
  case kD => decide +kernel
  case c2 => exact rfl
  case c3 => exact rfl
  case c4 => exact rfl
  intro L' h₁ tk' cells' F' N' Y' l0' B'
  k_cells Y'
  (try dsimp only [AllLt] at l0')
  (try simp only [List.cons_append, List.nil_append] at N')
  show wpAny _ _ _ _ _ _
  try dsimp only
  k_fold
  tb_start
  (rename Fr _ _ _ _ => frU); (rename News _ _ _ _ => nwU)
  show wpAny _ (AA (dp + 1) (un + 3) gd (_ :: fr)) _ _ _ _
  refine TCall.useKeepS (d := 25) (u := 200) (S := Str.ofString "by zero") ?C (by assumption) frU (by assumption) nwU (by assumption) hXB hTB (by assumption) hcb (fun _ hq => hq) rfl rfl (by omega) (by omega) ?_
  case C =>
    clear frU nwU hret M hg hgs hpre X T hdp hun
    (repeat (rename Fr _ _ _ _ => zz; clear zz)); (repeat (rename News _ _ _ _ => zz; clear zz)); (repeat (rename Below _ _ _ _ => zz; clear zz)); (repeat (rename Frag.In _ _ => zz; clear zz)); (repeat (rename Top _ _ _ _ _ _ => zz; clear zz)); (repeat (rename KtsDicts _ _ => zz; clear zz)); (repeat (rename _ ≠ _ ∧ _ => zz; clear zz)); (repeat (rename AllNe _ _ => zz; clear zz)); (repeat (rename @Ne Addr _ _ => zz; clear zz)); (repeat (rename @Ne Nat _ _ => zz; clear zz))
    intro dp un gd base g fr Q E M hg hgs hcb hpre hXB hTB hD hdp hun hret
    have X := M.X
    have T := M.T
    refine' enterT M hg hgs hpre ?k6 ?k7 ?k8 ?k9 ?kB ?_ ?c2 ?c3 ?c4 ?c5
    case k6 => k_is
    case k7 => k_is
    case k8 => omega
    case k9 => exact BindsTo.of_eq rfl
    case kB => exact locs rfl
    case c2 => exact rfl
    case c3 => exact rfl
    case c4 => exact rfl
    case c5 => decide
    intro L' h₁ F' N' l0' B'
    (try dsimp only [AllLt] at l0')
    show wpAny _ _ _ _ _ _
    try dsimp only
    k_fold
    tb_start
    (try dsimp only); (try k_unfold); (try dsimp only)
    (rename News _ _ _ _ => nZ)
    refine hret _ _ _ _ (by first | assumption | exact KtsTurn.refl) (Fr.keep (by k_asm)) ⟨(by first | exact fun r hr => (nZ r hr).1 | exact fun r hr => (nZ r (.tail _ hr)).1), ?_⟩
    exact ⟨_, rfl⟩
  intro hT tkT h₀T tkZ T₁ F' N' B' X' Tp' D'
  (try dsimp only)
  tb_start
  (rename Fr _ _ _ _ => frU); (rename News _ _ _ _ => nwU)
  show wpAny _ (AA (dp + 1) (un + 3) gd (_ :: fr)) _ _ _ _
  refine TCall.useKeepS (d := 25) (u := 200) (S := Str.ofString "by zero") ?C (by assumption) frU (by assumption) nwU (by assumption) hXB hTB (by assumption) hcb (fun _ hq => hq) rfl rfl (by omega) (by omega) ?_
  case C =>
    clear frU nwU hret M hg hgs hpre X T hdp hun
    (repeat (rename Fr _ _ _ _ => zz; clear zz)); (repeat (rename News _ _ _ _ => zz; clear zz)); (repeat (rename Below _ _ _ _ => zz; clear zz)); (repeat (rename Frag.In _ _ => zz; clear zz)); (repeat (rename Top _ _ _ _ _ _ => zz; clear zz)); (repeat (rename KtsDicts _ _ => zz; clear zz)); (repeat (rename _ ≠ _ ∧ _ => zz; clear zz)); (repeat (rename AllNe _ _ => zz; clear zz)); (repeat (rename @Ne Addr _ _ => zz; clear zz)); (repeat (rename @Ne Nat _ _ => zz; clear zz))
    intro dp un gd base g fr Q E M hg hgs hcb hpre hXB hTB hD hdp hun hret
    have X := M.X
    have T := M.T
    refine' enterT M hg hgs hpre ?k6 ?k7 ?k8 ?k9 ?kB ?_ ?c2 ?c3 ?c4 ?c5
    case k6 => k_is
    case k7 => k_is
    case k8 => omega
    case k9 => exact BindsTo.of_eq rfl
    case kB => exact locs rfl
    case c2 => exact rfl
    case c3 => exact rfl
    case c4 => exact rfl
    case c5 => decide
    intro L' h₁ F' N' l0' B'
    (try dsimp only [AllLt] at l0')
    show wpAny _ _ _ _ _ _
    try dsimp only
    k_fold
    tb_start
    (try dsimp only); (try k_unfold); (try dsimp only)
    (rename News _ _ _ _ => nZ)
    refine hret _ _ _ _ (by first | assumption | exact KtsTurn.refl) (Fr.keep (by k_asm)) ⟨(by first | exact fun r hr => (nZ r hr).1 | exact fun r hr => (nZ r (.tail _ hr)).1), ?_⟩
    exact ⟨_, rfl⟩
  intro hT tkT h₀T2 tkZ T₂ F' N' B' X' Tp' D'
  (try dsimp only)
  tb_start
  all_goals (try (exfalso; first | (exact absurd (by assumption) hyN) | (exact absurd hyC (by assumption)) | (exact absurd (by assumption) hfN) | (exact absurd hfZ (by assumption)) | (exact clash_n hy hyN eb (by with_reducible assumption)) | (exact clash_0 hyC eb (by with_reducible assumption)) | (rename (¬ _ = _) => gX; exact gX (Can.inj (by assumption) (by assumption)))))
  (rename News _ _ _ _ => nZ)
  refine hret _ _ _ _ (T₁.trans T₂) (Fr.keep (by k_asm)) ⟨?_, congrArg Value.bool (decide_eq_true (Can.inj (by assumption) (by assumption)))⟩
  exact List.forall_mem_cons.mpr ⟨(nZ _ (by k_mem)).1, List.forall_mem_cons.mpr ⟨(nZ _ (by k_mem)).1, List.forall_mem_cons.mpr ⟨(nZ _ (by k_mem)).1, List.forall_mem_nil _⟩⟩⟩

theorem c_rightNB {x y : Int} {W : Nat} {tx ty tw : Tok} {ca cb : Addr} {oa ob : Obj} (ka : CodeO oa) (kb : CodeO ob) (hW : 2 ≤ W) (hW9 : W ≤ 9) (hx : 0 ≤ x) (hx1 : x < (2 ^ W) ^ 40) (hy : 0 ≤ y) (hy1 : y < (2 ^ W) ^ 40) (hyN : y ≠ 0) (hmN : x % y ≠ 0) :
    TCall w p loose mean mg mb 234 [.int x tx, .int y ty, .int W tw] 30 300 [(229, Tab ca cb), (ca, oa), (cb, ob)] (fun g' h' v => (∀ r ∈ [((229 : Addr), Tab ca cb), (ca, oa), (cb, ob)], h'.get? r.1 = some r.2) ∧ v = .bool true) s := by
  obtain ⟨va9, ta9, da1, da2⟩ := ka
  obtain ⟨vb9, tb9, db1, db2⟩ := kb
  have hfN : x.fmod y ≠ 0 := by rw [fmod_pos _ (by omega)]; exact hmN
  have q1 : True := True.intro
  have q2 : True := True.intro
  have q3 : True := True.intro
  w_top off
  k_with_none
  k_with "eval Call" => (k_dflt (k_here; first | ((with_reducible show wpAny _ _ (eval (Expr.Call (Expr.Name _ _) [Expr.Name _ _, Expr.Name _ _, Expr.Name _ _] [] _) _) _ _ _); (refine' cn3 ?nF ?nX ?nT ?nE ?nK ?n1 ?n2 ?n3 ?_); (case nF => k_asm); (case nX => k_asm); (case nT => k_asm); (case nE => k_is); (case nK => k_is); (case n1 => rfl); (case n2 => rfl); (case n3 => rfl); k_whole) | ((with_reducible show wpAny _ _ (eval (Expr.Call (Expr.Name _ _) [Expr.Name _ _, Expr.Name _ _] [] _) _) _ _ _); (refine' cn2 ?nF ?nX ?nT ?nE ?nK ?n1 ?n2 ?_); (case nF => k_asm); (case nX => k_asm); (case nT => k_asm); (case nE => k_is); (case nK => k_is); (case n1 => rfl); (case n2 => rfl); k_whole) | ((with_reducible show wpAny _ _ (eval (Expr.Call (Expr.Name _ _) [Expr.Name _ _] [] _) _) _ _ _); (refine' cn1 ?nF ?nX ?nT ?nE ?nK ?n1 ?_); (case nF => k_asm); (case nX => k_asm); (case nT => k_asm); (case nE => k_is); (case nK => k_is); (case n1 => rfl); k_whole)))
  k_with "callWith ref" => (k_dflt (k_here; refine' callWith_K ?k1 ?k2 ?_; (case k1 => k_asm); (case k2 => k_is); k_whole))
  k_with "eval Lambda" => (k_dflt (exfalso; first | (exact absurd (by assumption) hyN) | (exact absurd hyC (by assumption)) | (exact absurd (by assumption) hfN) | (exact absurd hfZ (by assumption))))
  k_with "binaryOp FloorDiv int int" => (k_dflt (exfalso; first | (exact absurd (by assumption) hyN) | (exact absurd hyC (by assumption)) | (exact absurd (by assumption) hfN) | (exact absurd hfZ (by assumption))))
  k_with "call ref" => k_dflt (
    (k_here; (with_reducible show wpAny _ _ (call (Value.ref 199) _) _ _ _)); (rename Fr _ _ _ _ => frU); (rename News _ _ _ _ => nwU); (first | (show wpAny _ (AA (dp + 1) (un + 3) gd (_ :: fr)) _ _ _ _) | (show wpAny _ (AA (dp + 1 + 1) (un + 3 + 3) gd (_ :: _ :: fr)) _ _ _ _) | (show wpAny _ (AA (dp + 1 + 1 + 1) (un + 3 + 3 + 3) gd (_ :: _ :: _ :: fr)) _ _ _ _) | (show wpAny _ (AA (dp + 1 + 1 + 1 + 1) (un + 3 + 3 + 3 + 3) gd (_ :: _ :: _ :: _ :: fr)) _ _ _ _));
    (with_unfolding_all refine' PCall.useNK (c_limbs (k := 40) hW hW9 ?c1 ?c2 ?c3) (by assumption) frU (by assumption) nwU (by assumption) ?uhf ?uke ?uhd ?uhu ?_);
    (case c1 => assumption);
    (case c2 => assumption);
    (case c3 => decide);
    (case uhf => rfl); (case uke => rfl); (case uhd => omega); (case uhu => omega);
    (intro msU lU vsU nU hU tkU frV iU nwW neU neLU; intro rX; have cA := rX.1; have leA := rX.2; clear rX; clear frU nwU; (try dsimp only); (have n9 : @Ne Nat 229 lU := by omega); (try rw [fdiv_pos _ hy0] at cA)))
  k_with "call ref" => k_dflt (
    (k_here; (with_reducible show wpAny _ _ (call (Value.ref 171) _) _ _ _)); (rename Fr _ _ _ _ => frU); (rename News _ _ _ _ => nwU); (first | (show wpAny _ (AA (dp + 1) (un + 3) gd (_ :: fr)) _ _ _ _) | (show wpAny _ (AA (dp + 1 + 1) (un + 3 + 3) gd (_ :: _ :: fr)) _ _ _ _));
    (with_unfolding_all refine' RCall.useD (x := x) (y := y) (c_dex (W := W) (x := x) (y := y) hW hW9 ?c1 ?c2 ?c3 ?c4 ?c5 ?c6 ?c7 ?c8) (by assumption) frU (by assumption) nwU (by assumption) hXB hTB ?uD ?uhf ?uke ?uhd ?uhu ?_ ?_ ?_);
    (case c1 => is_list);
    (case c2 => l_ints);
    (case c3 => omega);
    (case c4 => is_list);
    (case c5 => l_ints);
    (case c6 => omega);
    (case c7 => assumption);
    (case c8 => assumption);
    (case uD => exact ktsDicts_push rfl (by assumption) hD); (case uhf => rfl); (case uke => rfl); (case uhd => omega); (case uhu => omega);
    (all_goals first | (intro q1; exact absurd q1 hyN) | (intro q1 q2; exact absurd hyC q1) | (intro q1 q2; exact absurd q2 hmN) | (intro q1 q2; exact absurd hmZ q2) | (have _ := hyC; intro q1 gR eR tR xsR hR tkR fgR sR uR) | (have _ := hmN; intro q1 q2 gR eR tR xsR hR tkR fgR sR uR) | (have _ := hmZ; intro q1 q2 ms lU vsU nU hU tkU frV iU nwW cM; clear frU nwU)))
  k_with "call ref" => k_dflt (
    (k_here; (with_reducible show wpAny _ _ (call (Value.ref 178) _) _ _ _)); (rename Fr _ _ _ _ => frU); (rename News _ _ _ _ => nwU); (first | (show wpAny _ (AA (dp + 1) (un + 3) gd (_ :: fr)) _ _ _ _) | (show wpAny _ (AA (dp + 1 + 1) (un + 3 + 3) gd (_ :: _ :: fr)) _ _ _ _));
    (with_unfolding_all refine' RCall.useD (x := x) (y := y) (c_newton (W := W) (x := x) (y := y) hW hW9 ?c1 ?c2 ?c3 ?c4 ?c5 ?c6 ?c7 ?c8) (by assumption) frU (by assumption) nwU (by assumption) hXB hTB ?uD ?uhf ?uke ?uhd ?uhu ?_ ?_ ?_);
    (case c1 => is_list);
    (case c2 => l_ints);
    (case c3 => omega);
    (case c4 => is_list);
    (case c5 => l_ints);
    (case c6 => omega);
    (case c7 => assumption);
    (case c8 => assumption);
    (case uD => exact ktsDicts_push rfl (by assumption) hD); (case uhf => rfl); (case uke => rfl); (case uhd => omega); (case uhu => omega);
    (all_goals first | (intro q1; exact absurd q1 hyN) | (intro q1 q2; exact absurd hyC q1) | (intro q1 q2; exact absurd q2 hmN) | (intro q1 q2; exact absurd hmZ q2) | (have _ := hyC; intro q1 gR eR tR xsR hR tkR fgR sR uR) | (have _ := hmN; intro q1 q2 gR eR tR xsR hR tkR fgR sR uR) | (have _ := hmZ; intro q1 q2 ms lU vsU nU hU tkU frV iU nwW cM; clear frU nwU)))
  k_with "leaving ref" => k_dflt (k_here; refine' leave_onX ?k0 ?k1 ?k2 ?k3 ?k4 ?_; (case k0 => exact rfl); (case k3 => assumption); (case k2 => assumption); (case k1 => assumption); (case k4 => assumption); k_whole; intro h' S' R' U'; (try dsimp only at S' R' U' ⊢))
  k_with "call ref" => k_dflt (
    (k_here; (with_reducible show wpAny _ _ (call (Value.ref 185) _) _ _ _)); (rename Fr _ _ _ _ => frU); (rename News _ _ _ _ => nwU); (first | (show wpAny _ (AA (dp + 1) (un + 3) gd (_ :: fr)) _ _ _ _) | (show wpAny _ (AA (dp + 1 + 1) (un + 3 + 3) gd (_ :: _ :: fr)) _ _ _ _) | (show wpAny _ (AA (dp + 1 + 1 + 1) (un + 3 + 3 + 3) gd (_ :: _ :: _ :: fr)) _ _ _ _) | (show wpAny _ (AA (dp + 1 + 1 + 1 + 1) (un + 3 + 3 + 3 + 3) gd (_ :: _ :: _ :: _ :: fr)) _ _ _ _));
    (with_unfolding_all refine' PCall.useB (c_isdiv (W := W) (x := x) (y := y) hW hW9 ?c1 ?c2 ?c3 ?c4 ?c5 ?c6 ?c7 ?c8) (by assumption) frU (by assumption) nwU (by assumption) ?uhf ?uke ?uhd ?uhu ?_);
    (case c1 => is_list);
    (case c2 => l_ints);
    (case c3 => omega);
    (case c4 => is_list);
    (case c5 => l_ints);
    (case c6 => omega);
    (case c7 => assumption);
    (case c8 => assumption);
    (case uhf => rfl); (case uke => rfl); (case uhd => omega); (case uhu => omega);
    (intro bl hU tkU frV nwV eb; clear frU nwU; (try dsimp only)))
  k_with "call ref" => k_dflt (
    (k_here; (with_reducible show wpAny _ _ (call (Value.ref 164) _) _ _ _)); (rename Fr _ _ _ _ => frU); (rename News _ _ _ _ => nwU); (first | (show wpAny _ (AA (dp + 1) (un + 3) gd (_ :: fr)) _ _ _ _) | (show wpAny _ (AA (dp + 1 + 1) (un + 3 + 3) gd (_ :: _ :: fr)) _ _ _ _) | (show wpAny _ (AA (dp + 1 + 1 + 1) (un + 3 + 3 + 3) gd (_ :: _ :: _ :: fr)) _ _ _ _) | (show wpAny _ (AA (dp + 1 + 1 + 1 + 1) (un + 3 + 3 + 3 + 3) gd (_ :: _ :: _ :: _ :: fr)) _ _ _ _));
    (with_unfolding_all refine' PCall.useO (c_exq (W := W) (x := x) (y := y) hW hW9 ?c1 ?c2 ?c3 ?c4 ?c5 ?c6 ?c7 ?c8 ?c9) (by assumption) frU (by assumption) nwU (by assumption) ?uhf ?uke ?uhd ?uhu ?_ ?_);
    (case c1 => is_list);
    (case c2 => l_ints);
    (case c3 => omega);
    (case c4 => is_list);
    (case c5 => l_ints);
    (case c6 => omega);
    (case c7 => assumption);
    (case c8 => assumption);
    (case c9 => exact hyN);
    (case uhf => rfl); (case uke => rfl); (case uhd => omega); (case uhu => omega);
    ((focus (intro hU tkU frV nwV xN; clear frU nwU; (try dsimp only))); rotate_left; (focus (intro ms lU vsU nU hU tkU frV iU nwW xZ cM; clear frU nwU; (try dsimp only))); rotate_left; all_goals first | (exact absurd xZ hmN) | (exact absurd hmZ xN) | skip))
  have hfill : ∀ w' h', (headK.heap_1 (World.params w')).In h' → PySem.Challenge.rw_nn0016_01.row.prog = PySem.Challenge.rw_nn0016_01.row.prog := by k_fill; exact fun _ _ _ => rfl
  clear hfill
  intro dp un gd base g fr Q E M hg hgs hcb hpre hXB hTB hD hdp hun hret
  have X := M.X
  have T := M.T
  refine' enterM M hg hgs hpre ?k6 ?k7 ?k8 ?k9 ?kB ?kD ?_ ?c2 ?c3 ?c4
  case k6 => k_is
  case k7 => k_is
  case k8 => omega
  case k9 => exact BindsTo.of_eq rfl
  case kB => exact rfl
  case kD => decide +kernel
  case c2 => exact rfl
  case c3 => exact rfl
  case c4 => exact rfl
  intro L' h₁ tk' cells' F' N' Y' l0' B'
  k_cells Y'
  (try dsimp only [AllLt] at l0')
  (try simp only [List.cons_append, List.nil_append] at N')
  show wpAny _ _ _ _ _ _
  try dsimp only
  k_fold
  tb_start
  all_goals (try (exfalso; first | (exact absurd (by assumption) hyN) | (exact absurd (by assumption) hfN)))
  (rename Fr _ _ _ _ => frU); (rename News _ _ _ _ => nwU)
  show wpAny _ (AA (dp + 1) (un + 3) gd (_ :: fr)) _ _ _ _
  refine TCall.useKeepS (d := 25) (u := 200) (S := Str.ofString "not exact") ?C (by assumption) frU (by assumption) nwU (by assumption) hXB hTB (by assumption) hcb (fun _ hq => hq) rfl rfl (by omega) (by omega) ?_
  case C =>
    clear frU nwU hret M hg hgs hpre X T hdp hun
    (repeat (rename Fr _ _ _ _ => zz; clear zz)); (repeat (rename News _ _ _ _ => zz; clear zz)); (repeat (rename Below _ _ _ _ => zz; clear zz)); (repeat (rename Frag.In _ _ => zz; clear zz)); (repeat (rename Top _ _ _ _ _ _ => zz; clear zz)); (repeat (rename KtsDicts _ _ => zz; clear zz)); (repeat (rename _ ≠ _ ∧ _ => zz; clear zz)); (repeat (rename AllNe _ _ => zz; clear zz)); (repeat (rename @Ne Addr _ _ => zz; clear zz)); (repeat (rename @Ne Nat _ _ => zz; clear zz))
    intro dp un gd base g fr Q E M hg hgs hcb hpre hXB hTB hD hdp hun hret
    have X := M.X
    have T := M.T
    refine' enterT M hg hgs hpre ?k6 ?k7 ?k8 ?k9 ?kB ?_ ?c2 ?c3 ?c4 ?c5
    case k6 => k_is
    case k7 => k_is
    case k8 => omega
    case k9 => exact BindsTo.of_eq rfl
    case kB => exact locs rfl
    case c2 => exact rfl
    case c3 => exact rfl
    case c4 => exact rfl
    case c5 => decide
    intro L' h₁ F' N' l0' B'
    (try dsimp only [AllLt] at l0')
    show wpAny _ _ _ _ _ _
    try dsimp only
    k_fold
    tb_start
    (try dsimp only); (try k_unfold); (try dsimp only)
    (rename News _ _ _ _ => nZ)
    refine hret _ _ _ _ (by first | assumption | exact KtsTurn.refl) (Fr.keep (by k_asm)) ⟨(by first | exact fun r hr => (nZ r hr).1 | exact fun r hr => (nZ r (.tail _ hr)).1), ?_⟩
    exact ⟨_, rfl⟩
  intro hT tkT h₀T tkZ T₁ F' N' B' X' Tp' D'
  (try dsimp only)
  tb_start
  (rename Fr _ _ _ _ => frU); (rename News _ _ _ _ => nwU)
  show wpAny _ (AA (dp + 1) (un + 3) gd (_ :: fr)) _ _ _ _
  refine TCall.useKeepS (d := 25) (u := 200) (S := Str.ofString "not exact") ?C (by assumption) frU (by assumption) nwU (by assumption) hXB hTB (by assumption) hcb (fun _ hq => hq) rfl rfl (by omega) (by omega) ?_
  case C =>
    clear frU nwU hret M hg hgs hpre X T hdp hun
    (repeat (rename Fr _ _ _ _ => zz; clear zz)); (repeat (rename News _ _ _ _ => zz; clear zz)); (repeat (rename Below _ _ _ _ => zz; clear zz)); (repeat (rename Frag.In _ _ => zz; clear zz)); (repeat (rename Top _ _ _ _ _ _ => zz; clear zz)); (repeat (rename KtsDicts _ _ => zz; clear zz)); (repeat (rename _ ≠ _ ∧ _ => zz; clear zz)); (repeat (rename AllNe _ _ => zz; clear zz)); (repeat (rename @Ne Addr _ _ => zz; clear zz)); (repeat (rename @Ne Nat _ _ => zz; clear zz))
    intro dp un gd base g fr Q E M hg hgs hcb hpre hXB hTB hD hdp hun hret
    have X := M.X
    have T := M.T
    refine' enterT M hg hgs hpre ?k6 ?k7 ?k8 ?k9 ?kB ?_ ?c2 ?c3 ?c4 ?c5
    case k6 => k_is
    case k7 => k_is
    case k8 => omega
    case k9 => exact BindsTo.of_eq rfl
    case kB => exact locs rfl
    case c2 => exact rfl
    case c3 => exact rfl
    case c4 => exact rfl
    case c5 => decide
    intro L' h₁ F' N' l0' B'
    (try dsimp only [AllLt] at l0')
    show wpAny _ _ _ _ _ _
    try dsimp only
    k_fold
    tb_start
    (try dsimp only); (try k_unfold); (try dsimp only)
    (rename News _ _ _ _ => nZ)
    refine hret _ _ _ _ (by first | assumption | exact KtsTurn.refl) (Fr.keep (by k_asm)) ⟨(by first | exact fun r hr => (nZ r hr).1 | exact fun r hr => (nZ r (.tail _ hr)).1), ?_⟩
    exact ⟨_, rfl⟩
  intro hT tkT h₀T2 tkZ T₂ F' N' B' X' Tp' D'
  (try dsimp only)
  tb_start
  all_goals (try (exfalso; first | (exact absurd (by assumption) hyN) | (exact absurd hyC (by assumption)) | (exact absurd (by assumption) hfN) | (exact absurd hfZ (by assumption)) | (exact clash_n hy hyN eb (by with_reducible assumption)) | (exact clash_0 hyC eb (by with_reducible assumption)) | (rename (¬ _ = _) => gX; exact gX (Can.inj (by assumption) (by assumption)))))
  (rename News _ _ _ _ => nZ)
  refine hret _ _ _ _ (T₁.trans T₂) (Fr.keep (by k_asm)) ⟨?_, congrArg Value.bool (decide_eq_true (Can.inj (by assumption) (by assumption)))⟩
  exact List.forall_mem_cons.mpr ⟨(nZ _ (by k_mem)).1, List.forall_mem_cons.mpr ⟨(nZ _ (by k_mem)).1, List.forall_mem_cons.mpr ⟨(nZ _ (by k_mem)).1, List.forall_mem_nil _⟩⟩⟩

theorem c_rightYB {x y : Int} {W : Nat} {tx ty tw : Tok} {ca cb : Addr} {oa ob : Obj} (ka : CodeO oa) (kb : CodeO ob) (hW : 2 ≤ W) (hW9 : W ≤ 9) (hx : 0 ≤ x) (hx1 : x < (2 ^ W) ^ 40) (hy : 0 ≤ y) (hy1 : y < (2 ^ W) ^ 40) (hyN : y ≠ 0) (hmZ : x % y = 0) :
    TCall w p loose mean mg mb 234 [.int x tx, .int y ty, .int W tw] 30 300 [(229, Tab ca cb), (ca, oa), (cb, ob)] (fun g' h' v => (∀ r ∈ [((229 : Addr), Tab ca cb), (ca, oa), (cb, ob)], h'.get? r.1 = some r.2) ∧ v = .bool true) s := by
  obtain ⟨va9, ta9, da1, da2⟩ := ka
  obtain ⟨vb9, tb9, db1, db2⟩ := kb
  have hy0 : 0 < y := by omega
  have hfZ : x.fmod y = 0 := by rw [fmod_pos _ hy0]; exact hmZ
  have hd0 : 0 ≤ x.fdiv y := Int.fdiv_nonneg hx hy
  have hd1 : x.fdiv y < (2 ^ W) ^ 40 := Int.lt_of_le_of_lt (by rw [fdiv_pos _ hy0]; exact Int.ediv_le_self _ hx) hx1
  w_top off
  k_with_none
  k_with "eval Call" => (k_dflt (k_here; first | ((with_reducible show wpAny _ _ (eval (Expr.Call (Expr.Name _ _) [Expr.Name _ _, Expr.Name _ _, Expr.Name _ _] [] _) _) _ _ _); (refine' cn3 ?nF ?nX ?nT ?nE ?nK ?n1 ?n2 ?n3 ?_); (case nF => k_asm); (case nX => k_asm); (case nT => k_asm); (case nE => k_is); (case nK => k_is); (case n1 => rfl); (case n2 => rfl); (case n3 => rfl); k_whole) | ((with_reducible show wpAny _ _ (eval (Expr.Call (Expr.Name _ _) [Expr.Name _ _, Expr.Name _ _] [] _) _) _ _ _); (refine' cn2 ?nF ?nX ?nT ?nE ?nK ?n1 ?n2 ?_); (case nF => k_asm); (case nX => k_asm); (case nT => k_asm); (case nE => k_is); (case nK => k_is); (case n1 => rfl); (case n2 => rfl); k_whole) | ((with_reducible show wpAny _ _ (eval (Expr.Call (Expr.Name _ _) [Expr.Name _ _] [] _) _) _ _ _); (refine' cn1 ?nF ?nX ?nT ?nE ?nK ?n1 ?_); (case nF => k_asm); (case nX => k_asm); (case nT => k_asm); (case nE => k_is); (case nK => k_is); (case n1 => rfl); k_whole)))
  k_with "callWith ref" => (k_dflt (k_here; refine' callWith_K ?k1 ?k2 ?_; (case k1 => k_asm); (case k2 => k_is); k_whole))
  k_with "eval Lambda" => (k_dflt (exfalso; first | (exact absurd (by assumption) hyN) | (exact absurd hyC (by assumption)) | (exact absurd (by assumption) hfN) | (exact absurd hfZ (by assumption))))
  k_with "binaryOp FloorDiv int int" => (k_dflt (exfalso; first | (exact absurd (by assumption) hyN) | (exact absurd hyC (by assumption)) | (exact absurd (by assumption) hfN) | (exact absurd hfZ (by assumption))))
  k_with "call ref" => k_dflt (
    (k_here; (with_reducible show wpAny _ _ (call (Value.ref 199) _) _ _ _)); (rename Fr _ _ _ _ => frU); (rename News _ _ _ _ => nwU); (first | (show wpAny _ (AA (dp + 1) (un + 3) gd (_ :: fr)) _ _ _ _) | (show wpAny _ (AA (dp + 1 + 1) (un + 3 + 3) gd (_ :: _ :: fr)) _ _ _ _) | (show wpAny _ (AA (dp + 1 + 1 + 1) (un + 3 + 3 + 3) gd (_ :: _ :: _ :: fr)) _ _ _ _) | (show wpAny _ (AA (dp + 1 + 1 + 1 + 1) (un + 3 + 3 + 3 + 3) gd (_ :: _ :: _ :: _ :: fr)) _ _ _ _));
    (with_unfolding_all refine' PCall.useNK (c_limbs (k := 40) hW hW9 ?c1 ?c2 ?c3) (by assumption) frU (by assumption) nwU (by assumption) ?uhf ?uke ?uhd ?uhu ?_);
    (case c1 => assumption);
    (case c2 => assumption);
    (case c3 => decide);
    (case uhf => rfl); (case uke => rfl); (case uhd => omega); (case uhu => omega);
    (intro msU lU vsU nU hU tkU frV iU nwW neU neLU; intro rX; have cA := rX.1; have leA := rX.2; clear rX; clear frU nwU; (try dsimp only); (have n9 : @Ne Nat 229 lU := by omega); (try rw [fdiv_pos _ hy0] at cA)))
  k_with "call ref" => k_dflt (
    (k_here; (with_reducible show wpAny _ _ (call (Value.ref 171) _) _ _ _)); (rename Fr _ _ _ _ => frU); (rename News _ _ _ _ => nwU); (first | (show wpAny _ (AA (dp + 1) (un + 3) gd (_ :: fr)) _ _ _ _) | (show wpAny _ (AA (dp + 1 + 1) (un + 3 + 3) gd (_ :: _ :: fr)) _ _ _ _));
    (with_unfolding_all refine' RCall.useD (x := x) (y := y) (c_dex (W := W) (x := x) (y := y) hW hW9 ?c1 ?c2 ?c3 ?c4 ?c5 ?c6 ?c7 ?c8) (by assumption) frU (by assumption) nwU (by assumption) hXB hTB ?uD ?uhf ?uke ?uhd ?uhu ?_ ?_ ?_);
    (case c1 => is_list);
    (case c2 => l_ints);
    (case c3 => omega);
    (case c4 => is_list);
    (case c5 => l_ints);
    (case c6 => omega);
    (case c7 => assumption);
    (case c8 => assumption);
    (case uD => exact ktsDicts_push rfl (by assumption) hD); (case uhf => rfl); (case uke => rfl); (case uhd => omega); (case uhu => omega);
    (all_goals first | (intro q1; exact absurd q1 hyN) | (intro q1 q2; exact absurd hyC q1) | (intro q1 q2; exact absurd q2 hmN) | (intro q1 q2; exact absurd hmZ q2) | (have _ := hyC; intro q1 gR eR tR xsR hR tkR fgR sR uR) | (have _ := hmN; intro q1 q2 gR eR tR xsR hR tkR fgR sR uR) | (have _ := hmZ; intro q1 q2 ms lU vsU nU hU tkU frV iU nwW cM; clear frU nwU)))
  k_with "call ref" => k_dflt (
    (k_here; (with_reducible show wpAny _ _ (call (Value.ref 178) _) _ _ _)); (rename Fr _ _ _ _ => frU); (rename News _ _ _ _ => nwU); (first | (show wpAny _ (AA (dp + 1) (un + 3) gd (_ :: fr)) _ _ _ _) | (show wpAny _ (AA (dp + 1 + 1) (un + 3 + 3) gd (_ :: _ :: fr)) _ _ _ _));
    (with_unfolding_all refine' RCall.useD (x := x) (y := y) (c_newton (W := W) (x := x) (y := y) hW hW9 ?c1 ?c2 ?c3 ?c4 ?c5 ?c6 ?c7 ?c8) (by assumption) frU (by assumption) nwU (by assumption) hXB hTB ?uD ?uhf ?uke ?uhd ?uhu ?_ ?_ ?_);
    (case c1 => is_list);
    (case c2 => l_ints);
    (case c3 => omega);
    (case c4 => is_list);
    (case c5 => l_ints);
    (case c6 => omega);
    (case c7 => assumption);
    (case c8 => assumption);
    (case uD => exact ktsDicts_push rfl (by assumption) hD); (case uhf => rfl); (case uke => rfl); (case uhd => omega); (case uhu => omega);
    (all_goals first | (intro q1; exact absurd q1 hyN) | (intro q1 q2; exact absurd hyC q1) | (intro q1 q2; exact absurd q2 hmN) | (intro q1 q2; exact absurd hmZ q2) | (have _ := hyC; intro q1 gR eR tR xsR hR tkR fgR sR uR) | (have _ := hmN; intro q1 q2 gR eR tR xsR hR tkR fgR sR uR) | (have _ := hmZ; intro q1 q2 ms lU vsU nU hU tkU frV iU nwW cM; clear frU nwU)))
  k_with "leaving ref" => k_dflt (k_here; refine' leave_onX ?k0 ?k1 ?k2 ?k3 ?k4 ?_; (case k0 => exact rfl); (case k3 => assumption); (case k2 => assumption); (case k1 => assumption); (case k4 => assumption); k_whole; intro h' S' R' U'; (try dsimp only at S' R' U' ⊢))
  k_with "call ref" => k_dflt (
    (k_here; (with_reducible show wpAny _ _ (call (Value.ref 185) _) _ _ _)); (rename Fr _ _ _ _ => frU); (rename News _ _ _ _ => nwU); (first | (show wpAny _ (AA (dp + 1) (un + 3) gd (_ :: fr)) _ _ _ _) | (show wpAny _ (AA (dp + 1 + 1) (un + 3 + 3) gd (_ :: _ :: fr)) _ _ _ _) | (show wpAny _ (AA (dp + 1 + 1 + 1) (un + 3 + 3 + 3) gd (_ :: _ :: _ :: fr)) _ _ _ _) | (show wpAny _ (AA (dp + 1 + 1 + 1 + 1) (un + 3 + 3 + 3 + 3) gd (_ :: _ :: _ :: _ :: fr)) _ _ _ _));
    (with_unfolding_all refine' PCall.useB (c_isdiv (W := W) (x := x) (y := y) hW hW9 ?c1 ?c2 ?c3 ?c4 ?c5 ?c6 ?c7 ?c8) (by assumption) frU (by assumption) nwU (by assumption) ?uhf ?uke ?uhd ?uhu ?_);
    (case c1 => is_list);
    (case c2 => l_ints);
    (case c3 => omega);
    (case c4 => is_list);
    (case c5 => l_ints);
    (case c6 => omega);
    (case c7 => assumption);
    (case c8 => assumption);
    (case uhf => rfl); (case uke => rfl); (case uhd => omega); (case uhu => omega);
    (intro bl hU tkU frV nwV eb; clear frU nwU; (try dsimp only)))
  k_with "call ref" => k_dflt (
    (k_here; (with_reducible show wpAny _ _ (call (Value.ref 164) _) _ _ _)); (rename Fr _ _ _ _ => frU); (rename News _ _ _ _ => nwU); (first | (show wpAny _ (AA (dp + 1) (un + 3) gd (_ :: fr)) _ _ _ _) | (show wpAny _ (AA (dp + 1 + 1) (un + 3 + 3) gd (_ :: _ :: fr)) _ _ _ _) | (show wpAny _ (AA (dp + 1 + 1 + 1) (un + 3 + 3 + 3) gd (_ :: _ :: _ :: fr)) _ _ _ _) | (show wpAny _ (AA (dp + 1 + 1 + 1 + 1) (un + 3 + 3 + 3 + 3) gd (_ :: _ :: _ :: _ :: fr)) _ _ _ _));
    (with_unfolding_all refine' PCall.useO (c_exq (W := W) (x := x) (y := y) hW hW9 ?c1 ?c2 ?c3 ?c4 ?c5 ?c6 ?c7 ?c8 ?c9) (by assumption) frU (by assumption) nwU (by assumption) ?uhf ?uke ?uhd ?uhu ?_ ?_);
    (case c1 => is_list);
    (case c2 => l_ints);
    (case c3 => omega);
    (case c4 => is_list);
    (case c5 => l_ints);
    (case c6 => omega);
    (case c7 => assumption);
    (case c8 => assumption);
    (case c9 => exact hyN);
    (case uhf => rfl); (case uke => rfl); (case uhd => omega); (case uhu => omega);
    ((focus (intro hU tkU frV nwV xN; clear frU nwU; (try dsimp only))); rotate_left; (focus (intro ms lU vsU nU hU tkU frV iU nwW xZ cM; clear frU nwU; (try dsimp only))); rotate_left; all_goals first | (exact absurd xZ hmN) | (exact absurd hmZ xN) | skip))
  k_with "binaryOp FloorDiv int int" => (refine floordiv_int hyN ?_ (Or.inl (PyProof.noPylong_of_log2 (log2_small (Can.bits (x := y) hW9 (by assumption) (by omega)) hyN))))
  have hfill : ∀ w' h', (headK.heap_1 (World.params w')).In h' → PySem.Challenge.rw_nn0016_01.row.prog = PySem.Challenge.rw_nn0016_01.row.prog := by k_fill; exact fun _ _ _ => rfl
  clear hfill
  intro dp un gd base g fr Q E M hg hgs hcb hpre hXB hTB hD hdp hun hret
  have X := M.X
  have T := M.T
  refine' enterM M hg hgs hpre ?k6 ?k7 ?k8 ?k9 ?kB ?kD ?_ ?c2 ?c3 ?c4
  case k6 => k_is
  case k7 => k_is
  case k8 => omega
  case k9 => exact BindsTo.of_eq rfl
  case kB => exact rfl
  case kD => decide +kernel
  case c2 => exact rfl
  case c3 => exact rfl
  case c4 => exact rfl
  intro L' h₁ tk' cells' F' N' Y' l0' B'
  k_cells Y'
  (try dsimp only [AllLt] at l0')
  (try simp only [List.cons_append, List.nil_append] at N')
  show wpAny _ _ _ _ _ _
  try dsimp only
  k_fold
  tb_start
  all_goals (try (exfalso; first | (exact absurd (by assumption) hyN) | (exact absurd hfZ (by assumption))))
  (rename Fr _ _ _ _ => frU); (rename News _ _ _ _ => nwU)
  show wpAny _ (AA (dp + 1) (un + 3) gd (_ :: fr)) _ _ _ _
  refine TCall.useKeepN (d := 25) (u := 200) (ms := msU) ?C (by assumption) frU (by assumption) nwU (by assumption) hXB hTB (by assumption) hcb (fun _ hq => hq) rfl rfl (by omega) (by omega) ?_
  case C =>
    clear frU nwU hret M hg hgs hpre X T hdp hun
    (repeat (rename Fr _ _ _ _ => zz; clear zz)); (repeat (rename News _ _ _ _ => zz; clear zz)); (repeat (rename Below _ _ _ _ => zz; clear zz)); (repeat (rename Frag.In _ _ => zz; clear zz)); (repeat (rename Top _ _ _ _ _ _ => zz; clear zz)); (repeat (rename KtsDicts _ _ => zz; clear zz)); (repeat (rename _ ≠ _ ∧ _ => zz; clear zz)); (repeat (rename AllNe _ _ => zz; clear zz)); (repeat (rename @Ne Addr _ _ => zz; clear zz)); (repeat (rename @Ne Nat _ _ => zz; clear zz))
    intro dp un gd base g fr Q E M hg hgs hcb hpre hXB hTB hD hdp hun hret
    have X := M.X
    have T := M.T
    refine' enterT M hg hgs hpre ?k6 ?k7 ?k8 ?k9 ?kB ?_ ?c2 ?c3 ?c4 ?c5
    case k6 => k_is
    case k7 => k_is
    case k8 => omega
    case k9 => exact BindsTo.of_eq rfl
    case kB => exact locs rfl
    case c2 => exact rfl
    case c3 => exact rfl
    case c4 => exact rfl
    case c5 => decide
    intro L' h₁ F' N' l0' B'
    (try dsimp only [AllLt] at l0')
    show wpAny _ _ _ _ _ _
    try dsimp only
    k_fold
    tb_start
    (try dsimp only); (try k_unfold); (try dsimp only)
    (rename News _ _ _ _ => nZ)
    refine hret _ _ _ _ (by first | assumption | exact KtsTurn.refl) (Fr.keep (by k_asm)) ⟨(by first | exact fun r hr => (nZ r hr).1 | exact fun r hr => (nZ r (.tail _ hr)).1), ?_⟩
    exact newL_eq (Can.inj (by assumption) cA) (newL_of nZ (by k_mem) (by assumption))
  intro l1 v1 n1 hT tkT h₀T T₁ F' i1 nwT B' X' Tp' D'
  have n91 : @Ne Nat 229 l1 := news_ne nwT (by k_mem) (by k_mem) (by intro e; cases e)
  (try dsimp only)
  tb_start
  (rename Fr _ _ _ _ => frU); (rename News _ _ _ _ => nwU)
  show wpAny _ (AA (dp + 1) (un + 3) gd (_ :: fr)) _ _ _ _
  refine TCall.useKeepN (d := 25) (u := 200) (ms := msU) ?C (by assumption) frU (by assumption) nwU (by assumption) hXB hTB (by assumption) hcb (fun _ hq => hq) rfl rfl (by omega) (by omega) ?_
  case C =>
    clear frU nwU hret M hg hgs hpre X T hdp hun
    (repeat (rename Fr _ _ _ _ => zz; clear zz)); (repeat (rename News _ _ _ _ => zz; clear zz)); (repeat (rename Below _ _ _ _ => zz; clear zz)); (repeat (rename Frag.In _ _ => zz; clear zz)); (repeat (rename Top _ _ _ _ _ _ => zz; clear zz)); (repeat (rename KtsDicts _ _ => zz; clear zz)); (repeat (rename _ ≠ _ ∧ _ => zz; clear zz)); (repeat (rename AllNe _ _ => zz; clear zz)); (repeat (rename @Ne Addr _ _ => zz; clear zz)); (repeat (rename @Ne Nat _ _ => zz; clear zz))
    intro dp un gd base g fr Q E M hg hgs hcb hpre hXB hTB hD hdp hun hret
    have X := M.X
    have T := M.T
    refine' enterT M hg hgs hpre ?k6 ?k7 ?k8 ?k9 ?kB ?_ ?c2 ?c3 ?c4 ?c5
    case k6 => k_is
    case k7 => k_is
    case k8 => omega
    case k9 => exact BindsTo.of_eq rfl
    case kB => exact locs rfl
    case c2 => exact rfl
    case c3 => exact rfl
    case c4 => exact rfl
    case c5 => decide
    intro L' h₁ F' N' l0' B'
    (try dsimp only [AllLt] at l0')
    show wpAny _ _ _ _ _ _
    try dsimp only
    k_fold
    tb_start
    (try dsimp only); (try k_unfold); (try dsimp only)
    (rename News _ _ _ _ => nZ)
    refine hret _ _ _ _ (by first | assumption | exact KtsTurn.refl) (Fr.keep (by k_asm)) ⟨(by first | exact fun r hr => (nZ r hr).1 | exact fun r hr => (nZ r (.tail _ hr)).1), ?_⟩
    exact newL_eq (Can.inj (by assumption) cA) (newL_of nZ (by k_mem) (by assumption))
  intro l2 v2 n2 hT tkT h₀T2 T₂ F' i2 nwT B' X' Tp' D'
  (try dsimp only)
  tb_start
  all_goals (try (exfalso; first | (exact absurd (by assumption) hyN) | (exact absurd hyC (by assumption)) | (exact absurd (by assumption) hfN) | (exact absurd hfZ (by assumption)) | (exact clash_n hy hyN eb (by with_reducible assumption)) | (exact clash_0 hyC eb (by with_reducible assumption)) | (rename (¬ _ = _) => gX; exact gX (Can.inj (by assumption) (by assumption)))))
  (rename News _ _ _ _ => nZ)
  refine hret _ _ _ _ (T₁.trans T₂) (Fr.keep (by k_asm)) ⟨?_, congrArg Value.bool (decide_eq_true (Can.inj (by assumption) (by assumption)))⟩
  exact List.forall_mem_cons.mpr ⟨(nZ _ (by k_mem)).1, List.forall_mem_cons.mpr ⟨(nZ _ (by k_mem)).1, List.forall_mem_cons.mpr ⟨(nZ _ (by k_mem)).1, List.forall_mem_nil _⟩⟩⟩

theorem c_rightA {x y : Int} {W : Nat} {tx ty tw : Tok} (hW : 2 ≤ W) (hW9 : W ≤ 9) (hx : 0 ≤ x) (hx1 : x < (2 ^ W) ^ 40) (hy : 0 ≤ y) (hy1 : y < (2 ^ W) ^ 40) (hyd : y = 0 ∨ x % y = 0) :
    TCall w p loose mean mg mb 234 [.int x tx, .int y ty, .int W tw] 30 300 [(229, tabObj #[])] PostA s := by
  by_cases h0 : y = 0
  · exact c_right0 hW hW9 hx hx1 hy hy1 h0 True.intro
  · exact c_rightY hW hW9 hx hx1 hy hy1 h0 (hyd.resolve_left h0)
theorem c_rightB {x y : Int} {W : Nat} {tx ty tw : Tok} {ca cb : Addr} {oa ob : Obj} (ka : CodeO oa) (kb : CodeO ob) (hW : 2 ≤ W) (hW9 : W ≤ 9) (hx : 0 ≤ x) (hx1 : x < (2 ^ W) ^ 40) (hy : 0 ≤ y) (hy1 : y < (2 ^ W) ^ 40) :
    TCall w p loose mean mg mb 234 [.int x tx, .int y ty, .int W tw] 30 300 [(229, Tab ca cb), (ca, oa), (cb, ob)] (fun g' h' v => (∀ r ∈ [((229 : Addr), Tab ca cb), (ca, oa), (cb, ob)], h'.get? r.1 = some r.2) ∧ v = .bool true) s := by
  by_cases h0 : y = 0
  · exact c_right0B ka kb hW hW9 hx hx1 hy hy1 h0 True.intro
  by_cases h1 : x % y = 0
  · exact c_rightYB ka kb hW hW9 hx hx1 hy hy1 h0 h1
  · exact c_rightNB ka kb hW hW9 hx hx1 hy hy1 h0 h1
theorem c_cellI {a : Addr} {va : List Value} {na : List Int} {n : Int} {tn : Tok} (ha : s.heap.IsList a va.toArray) (ia : IntsAre va na) (ba : na.length < 1000) (h0 : 0 ≤ n) (bn : n < 1000) (hb : ∀ j, Builtin.Int.intBits (na.getD j 0) ≤ 1048576) :
    PCall w p loose mean mg mb 192 [.ref a, .int n tn] 3 40 (fun h' v => ∃ (r : Int) (tk : Tok), v = .int r tk ∧ Builtin.Int.intBits r ≤ 1100000 ∧ 0 ≤ r) s := by
  obtain ⟨k, rfl⟩ := Int.eq_ofNat_of_zero_le h0
  exact c_cell ha ia ba (by omega) hb
theorem c_wideI {a : Addr} {va : List Value} {na : List Int} {n : Int} {W : Nat} {tn tw tm : Tok} (hW : 2 ≤ W) (hW9 : W ≤ 9) (ha : s.heap.IsList a va.toArray) (ia : IntsAre va na) (ba : na.length < 1000) (h0 : 0 ≤ n) (bn : n < 900) (hb : ∀ j, Builtin.Int.intBits (na.getD j 0) ≤ 1048576) :
    PCall w p loose mean mg mb 220 [.ref a, .int n tn, .int W tw, .int 6 tm] 5 60 (fun h' v => ∃ (r : Int) (tk : Tok), v = .int r tk ∧ 0 ≤ r ∧ r < 2 ^ (W * 6)) s := by
  obtain ⟨k, rfl⟩ := Int.eq_ofNat_of_zero_le h0
  exact c_wide hW hW9 ha ia ba (by omega) hb

end
end Mine
end
section
open PySem PySem.W PySem.Calls PyProof.Rows
set_option Elab.async false
set_option maxRecDepth 100000
set_option maxHeartbeats 8000000
namespace Mine
local macro_rules | `(tactic| tb_start) => `(tactic| repeat' (first | (k_unfold; (try dsimp only)) | (k_end; wrow_close) | ((fail_if_success (with_reducible show wpAny _ _ (pyIter _) _ _ _)); (fail_if_success (with_reducible show wpAny _ _ (exec (Stmt.While _ _ _ _) _) _ _ _)); (fail_if_success (with_reducible show wpAny _ _ (call (Value.ref 227) _) _ _ _)); first | walk1 | (dsimp only; walk1) | (leave1; walk_say "STEP leave1"; try dsimp only)) | fail "no step"))
local macro_rules | `(tactic| tb_rel) => `(tactic| repeat' (first | (k_unfold; (try dsimp only)) | (k_end; kc_close) | (first | walk1 | (dsimp only; walk1) | (leave1; walk_say "STEP leave1"; try dsimp only)) | fail "no step"))
local macro_rules | `(tactic| k_room) => `(tactic| first | exact room_of (by assumption) | exact room_of2 (by assumption) | exact room_of3 (by assumption) | exact room_of4 (by assumption))
local macro_rules | `(tactic| walk_at $s:str) => `(tactic| k_extra $s)
local macro_rules | `(tactic| kmk_nums) => `(tactic| first | ((with_reducible refine' kmk_from ?gi ?gx); (case gi => l_ints); (case gx => omega)) | ((with_reducible refine' kmk_upto ?gi ?gx); (case gi => l_ints); (case gx => omega)) | ((with_reducible refine' kmk_run ?gi ?gx ?gy); (case gi => l_ints); (case gx => omega); (case gy => omega)))
local macro_rules | `(tactic| kst_allIn) => `(tactic| first | exact List.forall_mem_nil _ | ((fail_if_success (with_reducible refine List.forall_mem_cons.mpr ?_)); intro p9 h9; kst_mem))
section
variable {w : World} {p : Program} {loose : List Str} {mean : ExcName → Option Value} {mg mb : Str → Option Value} {s : Shared}
theorem mod_pos_facts {prog : Program} {A : Around} {a b : Int} {t u : Tok} {Q E : Value → Shared → Prop} (hb : 0 < b) (h : 0 ≤ a.fmod b → a.fmod b < b → Q (.int (a.fmod b) s.toks) { s with toks := s.toks + 1 }) : wpAny (model prog w) A (binaryOp .Mod (.int a t) (.int b u)) Q E s :=
  mod_int' (Int.ne_of_gt hb) (h (Int.fmod_nonneg_of_pos a hb) (Int.fmod_lt_of_pos a hb))
theorem name_post {α : Type} {M : Model} {A : Around} {T : Sem α} {Q : α → Shared → Prop} {E : Value → Shared → Prop} (h : ∀ q : α → Shared → Prop, (∀ a s', q a s' = Q a s') → wpAny M A T q E s) : wpAny M A T Q E s := h Q (fun _ _ => rfl)
def headAs : List Addr := [2, 3, 15, 22, 23, 24, 25, 28, 35, 36, 37, 40, 47, 48, 49, 52, 59, 60, 61, 64, 71, 72, 73, 76, 78, 79, 81, 82, 83, 85, 86, 88, 89, 90, 92, 93, 95, 96, 97, 99, 100, 102, 103, 104, 106, 107, 109, 110, 111, 113, 114, 116, 117, 118, 120, 121, 123, 124, 125, 128, 129, 130, 132, 133, 135, 136, 137, 139, 140, 142, 143, 144, 146, 147, 149, 150, 151, 153, 154, 156, 157, 158, 160, 161, 163, 164, 165, 167, 168, 170, 171, 172, 174, 175, 177, 178, 179, 181, 182, 184, 185, 186, 188, 189, 191, 192, 193, 195, 196, 198, 199, 200, 202, 203, 205, 206, 207, 209, 210, 212, 213, 214, 216, 217, 219, 220, 221, 223, 224, 226, 227, 228, 230, 231, 233, 234, 235, 237, 238, 240, 241]
theorem lw.tw7354701998752222719 : True := trivial
theorem lw.tw17336273719469698614 : True := trivial
theorem lw.tw14843878558821954121 : True := trivial
theorem lw.tw13512719021394467649 : True := trivial
theorem lw.tw4175258154043018535 : True := trivial
theorem lw.tw6299266615895790922 : True := trivial
theorem lw.tw5517406042287352298 : True := trivial
theorem lw.tw439672959484452301 : True := trivial
theorem lw.tw9511479740069678704 : True := trivial
theorem lw.tw174480031263443139 : True := trivial
theorem lw.tw7058706912773285576 : True := trivial
theorem lw.tw3026325867143632422 : True := trivial
theorem lw.tw14534127025253390803 : True := trivial
theorem lw.tw14880405416071737746 : True := trivial
theorem lw.tw6799127913638533142 : True := trivial
theorem lw.tw6903592774226965832 : True := trivial
theorem lw.tw8874177672113873090 : True := trivial
theorem lw.tw3265500764432571017 : True := trivial
theorem lw.tw15342221039949233877 : True := trivial
theorem lw.tw14203588852208617767 : True := trivial
theorem lw.tw1325681719862613833 : True := trivial
theorem lw.tw13781836975442383820 : True := trivial
theorem lw.tw10106605045391224447 : True := trivial
theorem lw.tw7189068972884582988 : True := trivial
theorem lw.tw9316087111745746763 : True := trivial
theorem lw.tw3436552678863964959 : True := trivial
theorem lw.tw14650163655834533274 : True := trivial
theorem lw.tw15229853000703575882 : True := trivial
theorem lw.tw3750273637933945106 : True := trivial
theorem lw.tw7881164409777676733 : True := trivial
theorem lw.tw6112132899067165738 : True := trivial
theorem lw.tw18230006772450539484 : True := trivial
theorem lw.tw9056326037219361189 : True := trivial
theorem lw.tw11756508641171020031 : True := trivial
theorem lw.tw6814344940751239686 : True := trivial
theorem lw.tw1310913851245765076 : True := trivial
theorem lw.tw17901152513921141520 : True := trivial
theorem lw.tw18101366825639845640 : True := trivial
theorem lw.tw14453595092798269509 : True := trivial
theorem lw.tw17039302927321631275 : True := trivial
theorem lw.tw12531085829828616791 : True := trivial
theorem lw.tw2728723448574839437 : True := trivial
theorem lw.tw14188204940708016502 : True := trivial
theorem lw.tw16422276800740897626 : True := trivial
theorem lw.tw3453307533378645314 : True := trivial
theorem lw.tw16245946606688994635 : True := trivial
theorem lw.tw13462248821441109164 : True := trivial
theorem lw.tw11286082877446546850 : True := trivial
theorem lw.tw5120603057336474744 : True := trivial
theorem lw.tw13812978171614604295 : True := trivial
theorem lw.tw15260783596971280169 : True := trivial
theorem lw.tw9313646715379310401 : True := trivial
theorem lw.tw15050411701861509684 : True := trivial
theorem lw.tw8882095308859785569 : True := trivial
theorem lw.tw9400196164473918434 : True := trivial
theorem lw.tw5240526761256716816 : True := trivial
theorem lw.tw12070895160491960466 : True := trivial
theorem lw.tw5269838769808955693 : True := trivial
theorem lw.tw11649989654421344314 : True := trivial
theorem lw.tw11824532762523205608 : True := trivial
theorem lw.tw2126479162733969907 : True := trivial
theorem lw.tw10348570772791008018 : True := trivial
theorem lw.tw1736035804428334459 : True := trivial
theorem lw.tw14143514423829012251 : True := trivial
theorem lw.tw1847964227188715308 : True := trivial
theorem lw.tw1654789692914391279 : True := trivial
theorem lw.tw17412605069877527787 : True := trivial
theorem lw.tw3216045699829945555 : True := trivial
theorem lw.tw11875705124535896234 : True := trivial
theorem lw.tw3310007832761007587 : True := trivial
theorem lw.tw6037255237548188103 : True := trivial
theorem lw.tw15783676720391096035 : True := trivial
theorem lw.tw14313457996713366343 : True := trivial
theorem lw.tw1839436229535271881 : True := trivial
theorem lw.tw14515130646643554482 : True := trivial
theorem lw.tw15734304353961484661 : True := trivial
theorem lw.tw1135544867389292378 : True := trivial
theorem lw.tw6239941699265708415 : True := trivial
theorem lw.tw11253980186932415051 : True := trivial
theorem lw.tw17647627701303220306 : True := trivial
theorem lw.tw10926508707637505486 : True := trivial
theorem lw.tw14973671591502807323 : True := trivial
theorem lw.tw9275452319313045491 : True := trivial
theorem lw.tw12467140607368845564 : True := trivial
theorem lw.tw16538178018648087339 : True := trivial
theorem lw.tw11769305578385676581 : True := trivial
theorem lw.tw14299186527867534953 : True := trivial
theorem lw.tw1989031285474326460 : True := trivial
theorem lw.tw13634086120482928709 : True := trivial
theorem lw.tw16352847881934093249 : True := trivial
theorem lw.tw9472251233523466312 : True := trivial
theorem lw.tw15097034107641248085 : True := trivial
theorem lw.tw18206242180343903329 : True := trivial
theorem lw.tw13826436541272111381 : True := trivial
theorem lw.tw13300493298274328482 : True := trivial
theorem lw.tw9565708750772111043 : True := trivial
theorem lw.tw18020677010010947878 : True := trivial
theorem lw.tw13354821572951107339 : True := trivial
theorem lw.tw15391691513707590925 : True := trivial
theorem lw.tw11874014950766016339 : True := trivial
theorem lw.tw5289687120291629752 : True := trivial
theorem lw.tw9416090777510914199 : True := trivial
theorem lw.tw7542985166385474556 : True := trivial
theorem lw.tw9094531131771532021 : True := trivial
theorem lw.tw5226352245482644533 : True := trivial
theorem lw.tw11640516483384782274 : True := trivial
theorem lw.tw1431177976898993418 : True := trivial
theorem lw.tw11365080818784845843 : True := trivial
theorem lw.tw17334630850782682474 : True := trivial
theorem lw.tw17908944948056650558 : True := trivial
theorem lw.tw15027898837565833751 : True := trivial
theorem lw.tw1809813553867625865 : True := trivial
theorem lw.tw8442082746739644537 : True := trivial
theorem lw.tw16404199504940070675 : True := trivial
theorem lw.tw3519179381888797458 : True := trivial
theorem lw.tw1876618598211042451 : True := trivial
theorem lw.tw11535483028803984271 : True := trivial
theorem lw.tw8246863842855147935 : True := trivial
theorem lw.tw12501060795055605031 : True := trivial
theorem lw.tw1350009287321311362 : True := trivial
theorem lw.tw3638221728159039301 : True := trivial
theorem lw.tw5121191181463911202 : True := trivial
theorem lw.tw16983934774078632464 : True := trivial
theorem lw.tw16151321626194072984 : True := trivial
theorem lw.tw17044090882335377625 : True := trivial
theorem lw.tw8025894159955060640 : True := trivial
theorem lw.tw13081623982401290208 : True := trivial
theorem lw.tw1668414076191221994 : True := trivial
theorem lw.tw14908238743736060978 : True := trivial
theorem lw.tw230481362149788060 : True := trivial
theorem lw.tw16846425535445488692 : True := trivial
theorem lw.tw17910509220365671366 : True := trivial
theorem lw.tw12216277464231794405 : True := trivial
theorem lw.tw3860092497897585584 : True := trivial
theorem lw.tw1482713583409310906 : True := trivial
theorem lw.tw13744871130496311760 : True := trivial
theorem lw.tw9151404706590826812 : True := trivial
theorem lw.tw13194753877372116797 : True := trivial
theorem lw.tw9710619712257314061 : True := trivial
theorem lw.tw3212196351089362245 : True := trivial
theorem lw.tw8951352356946975707 : True := trivial
theorem lw.tw803316715078434274 : True := trivial
theorem lw.tw12979789523300072822 : True := trivial
theorem lw.tw10973875396576306716 : True := trivial
theorem lw.tw4378529986275816577 : True := trivial
theorem lw.tw1955935782562874126 : True := trivial
theorem lw.tw15123634030269105820 : True := trivial
theorem lw.tw710445164594128219 : True := trivial
theorem lw.tw88752283220686995 : True := trivial
theorem lw.tw10766919648775900194 : True := trivial
theorem lw.tw3559792294548730621 : True := trivial
theorem lw.tw3958593447527780129 : True := trivial
theorem lw.tw7759430194721377177 : True := trivial
theorem lw.tw10442224153862837426 : True := trivial
theorem lw.tw4069221389661104927 : True := trivial
theorem lw.tw5930889997969185782 : True := trivial
theorem lw.tw15280533218449400155 : True := trivial
theorem lw.tw5273606799455421994 : True := trivial
theorem lw.tw16641316622707354157 : True := trivial
theorem lw.tw18203621218350587520 : True := trivial
theorem lw.tw17979838726413043233 : True := trivial
theorem lw.tw5223298753464291767 : True := trivial
theorem lw.tw9332950331247461443 : True := trivial
theorem lw.tw1303164170283710434 : True := trivial
theorem lw.tw16415051718763276966 : True := trivial
theorem lw.tw9229304353933812312 : True := trivial
theorem lw.tw2152595304545690144 : True := trivial
theorem lw.tw10862709263394318849 : True := trivial
theorem lw.tw14848149323565397380 : True := trivial
theorem lw.tw5310784662753428157 : True := trivial
theorem lw.tw9583704980485265591 : True := trivial
theorem lw.tw3413553794557977006 : True := trivial
theorem lw.tw14550068577204220713 : True := trivial
theorem lw.tw12565892555420928046 : True := trivial
theorem lw.tw2560294998621936434 : True := trivial
theorem lw.tw8512887300302467750 : True := trivial
theorem lw.tw10197630952949568916 : True := trivial
theorem lw.tw16275348069273192753 : True := trivial
theorem lw.tw7528062553311529165 : True := trivial
theorem lw.tw17906540666941900779 : True := trivial
theorem lw.tw2216490378672380859 : True := trivial
theorem lw.tw573044837200724273 : True := trivial
theorem lw.tw15517947993786097192 : True := trivial
theorem lw.tw14219245391044654346 : True := trivial
theorem lw.tw4905469700632492720 : True := trivial
theorem lw.tw5513836429902782374 : True := trivial
theorem lw.tw8778285449989737452 : True := trivial
theorem lw.tw3830327320735588920 : True := trivial
theorem lw.tw1382531396708187730 : True := trivial
theorem lw.tw6088638495954117958 : True := trivial
theorem lw.tw17410934078381858187 : True := trivial
theorem lw.tw8082835867196329021 : True := trivial
theorem lw.tw7398356799041312690 : True := trivial
theorem lw.tw7008517822597881210 : True := trivial
theorem lw.tw12633509988362100533 : True := trivial
theorem lw.tw3740446445769817644 : True := trivial
theorem lw.tw11662004295318574763 : True := trivial
theorem lw.tw104257400815191054 : True := trivial
theorem lw.tw16227401861942314340 : True := trivial
theorem lw.tw7165779647641055716 : True := trivial
theorem lw.tw4944422458902330467 : True := trivial
theorem lw.tw14237754788401170372 : True := trivial
theorem lw.tw15165449247966872077 : True := trivial
theorem lw.tw12344856833693122231 : True := trivial
theorem lw.tw16868007599928149544 : True := trivial
theorem lw.tw7109427883695973335 : True := trivial
theorem lw.tw16126582144888490407 : True := trivial
theorem lw.tw6011388537456711008 : True := trivial
theorem lw.tw14709397736283072154 : True := trivial
theorem lw.tw12888799943694294151 : True := trivial
theorem lw.tw12443114382984109461 : True := trivial
theorem lw.tw457332915405927469 : True := trivial
theorem lw.tw15167015715368795234 : True := trivial
theorem lw.tw6613632656361623883 : True := trivial
theorem lw.tw13704789194636189105 : True := trivial
theorem lw.tw6633518640258918198 : True := trivial
theorem lw.tw2706972089827662203 : True := trivial
theorem lw.tw3629766707106022920 : True := trivial
theorem lw.tw10322518125202692026 : True := trivial
theorem lw.tw7083624736984453433 : True := trivial
theorem lw.tw13475514936144373417 : True := trivial
theorem lw.tw15056957524911555946 : True := trivial
theorem lw.tw2312806801312652202 : True := trivial
theorem lw.tw18039993929341746704 : True := trivial
theorem lw.tw7941100001078988360 : True := trivial
theorem lw.tw15198534905864242990 : True := trivial
theorem lw.tw8177169113014167538 : True := trivial
theorem lw.tw16948133334344601393 : True := trivial
theorem lw.tw3510069300941225567 : True := trivial
theorem lw.tw16153684915139732870 : True := trivial
theorem lw.tw12725609355865626280 : True := trivial
theorem lw.tw3406476455208411237 : True := trivial
theorem lw.tw15498051929714495385 : True := trivial
theorem lw.tw1519186473073463977 : True := trivial
theorem lw.tw15091034527916664192 : True := trivial
set_option Elab.async true in
theorem lw : PySem.Challenge.rw_nn0016_01.Holds := by
  (w_on; o_law; (o_head (kHook headK.heap_1 headAs (fun _ => by kernel_rfl))); (case hw => w_witness2))
  w_top off
  k_with_none
  k_with "eval Call" => (k_dflt (k_here; first | ((with_reducible show wpAny _ _ (eval (Expr.Call (Expr.Name _ _) [Expr.Name _ _, Expr.Name _ _, Expr.Name _ _] [] _) _) _ _ _); (refine' cn3 ?nF ?nX ?nT ?nE ?nK ?n1 ?n2 ?n3 ?_); (case nF => k_asm); (case nX => k_asm); (case nT => k_asm); (case nE => k_is); (case nK => k_is); (case n1 => rfl); (case n2 => rfl); (case n3 => rfl); k_whole) | ((with_reducible show wpAny _ _ (eval (Expr.Call (Expr.Name _ _) [Expr.Name _ _, Expr.Name _ _] [] _) _) _ _ _); (refine' cn2 ?nF ?nX ?nT ?nE ?nK ?n1 ?n2 ?_); (case nF => k_asm); (case nX => k_asm); (case nT => k_asm); (case nE => k_is); (case nK => k_is); (case n1 => rfl); (case n2 => rfl); k_whole) | ((with_reducible show wpAny _ _ (eval (Expr.Call (Expr.Name _ _) [Expr.Name _ _] [] _) _) _ _ _); (refine' cn1 ?nF ?nX ?nT ?nE ?nK ?n1 ?_); (case nF => k_asm); (case nX => k_asm); (case nT => k_asm); (case nE => k_is); (case nK => k_is); (case n1 => rfl); k_whole)))
  k_with "call ref" => k_dflt (
    (k_here; (with_reducible show wpAny _ _ (call (Value.ref 192) _) _ _ _)); (rename Fr _ _ _ _ => frU); (rename News _ _ _ _ => nwU); (show wpAny _ (AA (1 + claimMargin + 1) (4 + 3) (some []) [_]) _ _ _ _);
    (with_unfolding_all refine' PCall.useI (c_cellI ?c1 ?c2 ?c3 ?c4 ?c5 ?c6) (by assumption) frU (by assumption) nwU (by assumption) ?uhf ?uke ?uhd ?uhu ?_);
    (case c1 => is_list);
    (case c2 => exact iS);
    (case c3 => exact script_len iS (by assumption));
    (case c4 => omega);
    (case c5 => omega);
    (case c6 => exact hSB);
    (case uhf => rfl); (case uke => rfl); (case uhd => decide); (case uhu => decide);
    (intro rC hU tkU tU frV nwV; intro rX; have bU := rX.1; have zU := rX.2; clear rX; clear frU nwU; (try dsimp only)))
  k_with "call ref" => k_dflt (
    (k_here; (with_reducible show wpAny _ _ (call (Value.ref 220) _) _ _ _)); (rename Fr _ _ _ _ => frU); (rename News _ _ _ _ => nwU); (show wpAny _ (AA (1 + claimMargin + 1) (4 + 3) (some []) [_]) _ _ _ _);
    (with_unfolding_all refine' PCall.useI (c_wideI (n := 4 * _ + 1) hW.1 hW.2 ?c1 ?c2 ?c3 ?c4 ?c5 ?c6) (by assumption) frU (by assumption) nwU (by assumption) ?uhf ?uke ?uhd ?uhu ?_);
    (case c1 => is_list);
    (case c2 => exact iS);
    (case c3 => exact script_len iS (by assumption));
    (case c4 => omega);
    (case c5 => omega);
    (case c6 => exact hSB);
    (case uhf => rfl); (case uke => rfl); (case uhd => decide); (case uhu => decide);
    (intro rQ hU tkU tU frV nwV; intro rX; have q1 := rX.1; have q2 := rX.2; clear rX; clear frU nwU; (try dsimp only)))
  k_with "call ref" => k_dflt (
    (k_here; (with_reducible show wpAny _ _ (call (Value.ref 220) _) _ _ _)); (rename Fr _ _ _ _ => frU); (rename News _ _ _ _ => nwU); (show wpAny _ (AA (1 + claimMargin + 1) (4 + 3) (some []) [_]) _ _ _ _);
    (with_unfolding_all refine' PCall.useI (c_wideI (n := 4 * _ + 3) hW.1 hW.2 ?c1 ?c2 ?c3 ?c4 ?c5 ?c6) (by assumption) frU (by assumption) nwU (by assumption) ?uhf ?uke ?uhd ?uhu ?_);
    (case c1 => is_list);
    (case c2 => exact iS);
    (case c3 => exact script_len iS (by assumption));
    (case c4 => omega);
    (case c5 => omega);
    (case c6 => exact hSB);
    (case uhf => rfl); (case uke => rfl); (case uhd => decide); (case uhu => decide);
    (intro rB hU tkU tU frV nwV; intro rX; have b1 := rX.1; have b2 := rX.2; clear rX; clear frU nwU; (try dsimp only)))
  k_with "binaryOp LShift int int" => first
    | (refine lshift_int_small (by omega) (by omega) (by decide) ?_; have s3 := three_facts hW.1)
    | (refine lshift_int (shl_pack hW b1 b2).1 (shl_pack hW b1 b2).2.1 ?_; have sB := (shl_pack (r := rC) hW b1 b2).2.2)
  k_with "binaryOp Mult int int" => first
    | (refine mul_int ?_ (PySem.IntMulOk.of_left (PySem.intBits_le_64 (by omega) (by omega))))
    | (refine mul_int ?_ (PySem.IntMulOk.of_left (lt64 hW.2 q1 q2)); have sP := prod_facts q1 q2 sB.1 sB.2)
  k_with "storeName" => (rw [w_is]; have hW := w_facts rC)
  k_with "binaryOp Mod int int" => (k_dflt (refine mod_pos_facts (by omega) ?_; intro m1 m2))
  k_with "call ref" => k_dflt (
    (k_here; (with_reducible show wpAny _ _ (call (Value.ref 234) _) _ _ _)); (rename Fr _ _ _ _ => frU); (rename News _ _ _ _ => nwU); (show wpAny _ (AA (1 + claimMargin + 1) (4 + 3) (some []) [_]) _ _ _ _);
    (have sZ := big_facts hW.1);
    (with_unfolding_all refine' TCall.useTopB (c_rightB ?uka ?ukb hW.1 hW.2 ?c1 ?c2 ?c3 ?c4) (by assumption) frU (by assumption) nwU (by assumption) codeHd ?uP ?uhf ?uke ?uhd ?uhu ?_);
    (case uP => exact List.forall_mem_cons.mpr ⟨by k_mem, List.forall_mem_cons.mpr ⟨by k_mem, List.forall_mem_cons.mpr ⟨by k_mem, List.forall_mem_nil _⟩⟩⟩);
    (case uka => assumption); (case ukb => assumption);
    (case c1 => first | omega | (split <;> omega)); (case c2 => first | omega | (split <;> omega)); (case c3 => omega); (case c4 => omega);
    (case uhf => rfl); (case uke => rfl); (case uhd => decide); (case uhu => decide);
    (clear sZ frU nwU); (rintro hT tkT frV nwV); (try dsimp only); (try (refine ⟨rfl, ?_⟩)); (try dsimp only))
  k_with "call ref" => k_dflt (
    (k_here; (with_reducible show wpAny _ _ (call (Value.ref 234) _) _ _ _)); (rename Fr _ _ _ _ => frU); (rename News _ _ _ _ => nwU); (show wpAny _ (AA (1 + claimMargin + 1) (4 + 3) (some []) [_]) _ _ _ _);
    (have sZ := big_facts hW.1);
    (with_unfolding_all refine' TCall.useTopA (c_rightA hW.1 hW.2 ?c1 ?c2 ?c3 ?c4 ?c5) (by assumption) frU (by assumption) nwU (by assumption) codeHd ?uU ?uhf ?uke ?uhd ?uhu ?_);
    (case uU => k_updF); (case c5 => exact .inr (Int.mul_emod_left _ _));
    (case c1 => first | omega | (split <;> omega)); (case c2 => first | omega | (split <;> omega)); (case c3 => omega); (case c4 => omega);
    (case uhf => rfl); (case uke => rfl); (case uhd => decide); (case uhu => decide);
    (clear sZ frU nwU); (rintro hT tkT cA1 oA1 cA2 oA2 kA1 kA2 nA1 nA2 frV nwV); (try dsimp only [AllNe] at nA1 nA2); (try dsimp only); (try (refine ⟨rfl, ?_⟩)); (try dsimp only))
  k_with "callWith ref" => (k_dflt (k_here; refine' callWith_K ?k1 ?k2 ?_; (case k1 => k_asm); (case k2 => k_is); k_whole))
  k_with "eval Call" => (k_dflt (refine Call_ ?_))
  k_with "eval Call" => (k_dflt (k_here; first | ((with_reducible show wpAny _ _ (eval (Expr.Call (Expr.Name _ _) [Expr.Name _ _, Expr.Name _ _, Expr.Name _ _] [] _) _) _ _ _); (refine' cn3 ?nF ?nX ?nT ?nE ?nK ?n1 ?n2 ?n3 ?_); (case nF => k_asm); (case nX => k_asm); (case nT => k_asm); (case nE => k_is); (case nK => k_is); (case n1 => rfl); (case n2 => rfl); (case n3 => rfl); k_whole) | ((with_reducible show wpAny _ _ (eval (Expr.Call (Expr.Name _ _) [Expr.Name _ _, Expr.Name _ _] [] _) _) _ _ _); (refine' cn2 ?nF ?nX ?nT ?nE ?nK ?n1 ?n2 ?_); (case nF => k_asm); (case nX => k_asm); (case nT => k_asm); (case nE => k_is); (case nK => k_is); (case n1 => rfl); (case n2 => rfl); k_whole) | ((with_reducible show wpAny _ _ (eval (Expr.Call (Expr.Name _ _) [Expr.Name _ _] [] _) _) _ _ _); (refine' cn1 ?nF ?nX ?nT ?nE ?nK ?n1 ?_); (case nF => k_asm); (case nX => k_asm); (case nT => k_asm); (case nE => k_is); (case nK => k_is); (case n1 => rfl); k_whole)))
  k_with "exec If" => ((with_reducible show wpAny _ _ (exec (Stmt.If (Expr.UnaryOp UnaryOp.Not (Expr.Call _ _ [] _) _) _ [] _) _) _ _ _); k_dflt (refine' ifnot_true ?_))
  k_go0
  (all_goals try k_fold)
  (rename IntsAre _ _ => iS)
  have hSB := script_bits iS (by lay_of)
  refine wpAny_mono (show wpAny _ _ _ _ (fun _ _ => False) _ from ?_) (fun _ _ x => x) (fun _ _ x => x.elim)
  refine name_post ?_
  intro Qf hQf
  tb_rel
  rw [hQf]
  (try dsimp only)
  tb_rel
  done

end
end Mine
end
set_option maxRecDepth 100000 in
set_option maxHeartbeats 8000000 in
theorem PySem.Challenge.cw_nn0016_01_holds : PySem.Challenge.rw_nn0016_01.Holds := by
  exact Mine.lw
