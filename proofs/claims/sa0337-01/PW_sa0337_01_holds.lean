import PyProof.Rows.All
import Wide.All
import OpenK.AllK
import Wide.FinOn
import Lean
import PySem.Challenge.RW_sa0337_01
open PySem PySem.W PyProof.Rows PySem.Calls
set_option Elab.async false
set_option maxRecDepth 100000
namespace Mine

set_option maxHeartbeats 8000000 in
open_top hd for PySem.Challenge.rw_sa0337_01




structure Hid (G : Prop) : Prop where
  get : G
theorem cut_path {G R : Prop} (walk : Hid G → R) (pf : G) : R := walk ⟨pf⟩

theorem room0 {dp b n : Nat} (h : dp + b < n) : dp < n := Nat.lt_of_le_of_lt (Nat.le_add_right _ _) h
theorem room {dp c a b n : Nat} (h : dp + b < n) (e : Nat.ble (c + a) b = true) : dp + c + a < n :=
  Nat.lt_of_le_of_lt (Nat.add_assoc dp c a ▸ Nat.add_le_add_left (Nat.le_of_ble_eq_true e) dp) h

abbrev PG : Program := PySem.Challenge.rw_sa0337_01.prog

/-- a list of ints at an address -/
def Ints (h : Heap) (a : Addr) (xs : List Int) : Prop := ∃ vs, h.IsList a vs.toArray ∧ IntsAre vs xs

/-- what a call that gives a new list of ints hands on -/
def RetInts (s : Shared) (Q : Value → Shared → Prop) (ys : List Int) : Prop :=
  ∀ h' tk' a vs n, s.heap.StaysIn h' → s.heap.get? a = none → h'.get? a = some { cls := .type "list", data := .seq (List.toArray vs) n } → IntsAre vs ys → Q (.ref a) { s with heap := h', toks := tk' }

abbrev Ar (dp un : Nat) (fr : Option (List Env)) (gd : Option (List Code)) : Around := { handled := none, depth := dp, frames := fr, guards := gd, units := un }

section
variable {w : World} {E : Value → Shared → Prop} {s : Shared} {p : Program} {loose : List Str} {mean : ExcName → Option Value} {mg mb : Str → Option Value} {dp un : Nat} {fr : Option (List Env)} {gd : Option (List Code)}

theorem enter {Q : Value → Shared → Prop} {K : Frag} {name qual : Str} {params : Arguments} {body : List Stmt} {scope : Scope} {dV kV doc pm cdv ct oc : Value} {an od : Option Addr} {osl : Array (Option Value)} {f : Addr} {args : List Value} {binds : List (Str × Value)} (ps : List (Str × Value))
    (X : K.In s.heap) (T : Top p loose mean mg mb s.heap)
    (ho : K.lookup f = some ⟨oc, od, .func (fnOf name qual params body scope dV kV doc pm an cdv ct), osl⟩) (hcd : codeIn K cdv qual = true) (hroom : dp < recursionLimit)
    (hbind : bindArgs (fnOf name qual params body scope dV kV doc pm an cdv ct) ⟨args, []⟩ = pure binds) (hloc : ∀ y ∈ binds, scope.names.lookup y.1 = some .local)
    (hps : ∀ p ∈ ps, binds.reverse.lookup p.1 = some p.2)
    (hco : scope.isCoroutine = false) (hgen : scope.isGenerator = false) (hk : scope.kind = .function) (hcell : ∀ x ∈ scope.names, x.2 ≠ .cell)
    (h : ∀ L u h₁ tk, Fr s.heap L h₁ (kstB u ps) → News s.heap L h₁ [] → Top p loose mean mg mb s.heap → K.In s.heap →
      wpAny (model PG w) ((Ar dp un fr gd).deeper (envOf qual scope L f cdv)) (execs body (envOf qual scope L f cdv))
        (fun fl s' => Q (match fl with | .ret v => v | _ => .none) s') (fun _ _ => False)
        { s with heap := h₁, toks := tk }) :
    wpAny (model PG w) (Ar dp un fr gd) (call (.ref f) args) Q E s := by
  refine wpAny_call (codeAny_call_def (fd := fnOf name qual params body scope dV kV doc pm an cdv ct) (body := body) (binds := binds) hroom (X _ _ ho) rfl T.nolimit (codeRec_of X hcd) rfl (.of_eq hbind) hcell hloc (fun h₁ hns hk₁ => ?_) hco hgen hk)
  have F : Fr s.heap s.heap.objs.size h₁ (fun x => binds.reverse.lookup x) := ⟨hns, hk₁, Nat.le_refl _⟩
  have e : kstB (fun x => binds.reverse.lookup x) ps = fun x => binds.reverse.lookup x := by funext y; exact kstB_eq hps fun _ => rfl
  exact wpAny_mono (h _ _ _ _ (by rw [e]; exact F) (fun _ hp => nomatch hp) T X) (fun _ _ x => x) fun _ _ x => x.elim

theorem enterC {Q : Value → Shared → Prop} {K : Frag} {name qual : Str} {params : Arguments} {body : List Stmt} {scope : Scope} {dV kV doc pm cdv ct oc : Value} {an od : Option Addr} {osl : Array (Option Value)} {f : Addr} {args : List Value} {binds : List (Str × Value)} (ps : List (Str × Value))
    (X : K.In s.heap) (T : Top p loose mean mg mb s.heap)
    (ho : K.lookup f = some ⟨oc, od, .func (fnOf name qual params body scope dV kV doc pm an cdv ct), osl⟩) (hcd : codeIn K cdv qual = true) (hroom : dp < recursionLimit)
    (hbind : bindArgs (fnOf name qual params body scope dV kV doc pm an cdv ct) ⟨args, []⟩ = pure binds)
    (hkind : (binds.all fun y => scope.names.lookup y.1 == some .local || scope.names.lookup y.1 == some .cell) = true)
    (hnd : ((cellsFrom 0 scope.names []).map (·.1)).Nodup)
    (hps : ∀ L, ∀ p ∈ ps, bindL (envOfC qual scope L f cdv).kindOf binds (fun _ => none) p.1 = some p.2)
    (hco : scope.isCoroutine = false) (hgen : scope.isGenerator = false) (hk : scope.kind = .function)
    (h : ∀ L u h₁ tk cells, Fr s.heap L h₁ (kstB u ps) → News s.heap L h₁ cells → CellsAre (bindC (envOfC qual scope L f cdv).kindOf binds fun _ => none) (cellsFrom (L + 1) scope.names []) cells → Top p loose mean mg mb s.heap → K.In s.heap →
      wpAny (model PG w) ((Ar dp un fr gd).deeper (envOfC qual scope L f cdv)) (execs body (envOfC qual scope L f cdv))
        (fun fl s' => Q (match fl with | .ret v => v | _ => .none) s') (fun _ _ => False)
        { s with heap := h₁, toks := tk }) :
    wpAny (model PG w) (Ar dp un fr gd) (call (.ref f) args) Q E s := by
  refine wpAny_call ?_
  refine codeAny_call_function (fd := fnOf name qual params body scope dV kV doc pm an cdv ct) hroom (X _ _ ho) rfl hco hgen rfl (codeRec_of X hcd) (BindsTo.of_eq hbind _ _ _ _ ?_)
  refine wpAny_newFunctionEnv_cells hk (kindsX hkind _) fun env' he s' x => ?_
  subst he
  refine ⟨T.nolimit.keeps x.toInCall.keep, codeAny_func ?_⟩
  obtain ⟨h₁, tk, rfl, _⟩ := x.done
  have hk₁ := x.toInCall.keep
  obtain ⟨cells, NC, Y⟩ := Cl.news (h₀ := s.heap) (Nat.le_refl _) fun n c hm => ⟨x.cell n c (lookup_of_mem_nodup (cellsFrom_names scope.names 0 (s.heap.objs.size + 1) [] [] rfl ▸ hnd) hm), x.above n c hm⟩
  have F : Fr s.heap s.heap.objs.size h₁ (bindL (envOfC qual scope s.heap.objs.size f cdv).kindOf binds fun _ => none) := ⟨x.toInCall.ns, hk₁, Nat.le_refl _⟩
  have e : kstB (bindL (envOfC qual scope s.heap.objs.size f cdv).kindOf binds fun _ => none) ps = bindL (envOfC qual scope s.heap.objs.size f cdv).kindOf binds fun _ => none := by funext y; exact kstB_eq (hps _) fun _ => rfl
  exact wpAny_mono (h _ _ _ _ cells (by rw [e]; exact F) NC Y T X) (fun _ _ x => x) fun _ _ x => x.elim
end

/-! where the walker stops: each says nothing, and fits one kind of goal -/
section
variable {M : Model} {A : Around} {E : Value → Shared → Prop} {s : Shared} {v : Env}
theorem sFor {a b c d e Q} (h : wpAny M A (exec (Stmt.For a b c d e) v) Q E s) : wpAny M A (exec (Stmt.For a b c d e) v) Q E s := h
theorem sWhile {a b c d Q} (h : wpAny M A (exec (Stmt.While a b c d) v) Q E s) : wpAny M A (exec (Stmt.While a b c d) v) Q E s := h
theorem sIter {a Q} (h : wpAny M A (pyIter a) Q E s) : wpAny M A (pyIter a) Q E s := h
theorem sEnum {a Q} (h : wpAny M A (call (Value.type "enumerate") a) Q E s) : wpAny M A (call (Value.type "enumerate") a) Q E s := h
theorem sZip {a Q} (h : wpAny M A (call (Value.type "zip") a) Q E s) : wpAny M A (call (Value.type "zip") a) Q E s := h
theorem sCall {a b Q} (h : wpAny M A (call (Value.ref a) b) Q E s) : wpAny M A (call (Value.ref a) b) Q E s := h
theorem sComp {a b c d Q} (h : wpAny M A (eval (Expr.ListComp a b c d) v) Q E s) : wpAny M A (eval (Expr.ListComp a b c d) v) Q E s := h
theorem sAComp {a b c d e f Q} (h : wpAny M A (exec (Stmt.Assign a (Expr.ListComp b c d e) f) v) Q E s) : wpAny M A (exec (Stmt.Assign a (Expr.ListComp b c d e) f) v) Q E s := h
theorem s165 {b Q} (h : wpAny M A (call (Value.ref 165) b) Q E s) : wpAny M A (call (Value.ref 165) b) Q E s := h
theorem sCSrc {prog w h₀ L m elt x sc cl Fin xv} (h : PyProof.Rows.LCg.CompSrc prog w A h₀ L m v elt x sc cl Fin xv s) : PyProof.Rows.LCg.CompSrc prog w A h₀ L m v elt x sc cl Fin xv s := h
theorem s158 {b Q} (h : wpAny M A (call (Value.ref 158) b) Q E s) : wpAny M A (call (Value.ref 158) b) Q E s := h
end



/-- the number that a row of limbs bears -/
def num (W : Nat) : List Int → Int
  | [] => 0
  | x :: r => x + (2 : Int) ^ W * num W r
def Dig (W : Nat) (xs : List Int) : Prop := ∀ x ∈ xs, 0 ≤ x ∧ x < (2 : Int) ^ W
def strip : List Int → List Int
  | [] => []
  | x :: r => match strip r with
    | [] => if x = 0 then [] else [x]
    | y :: t => x :: y :: t
/-- the limbs of a number, the last not 0 -/
def limbs (W N : Nat) : List Int :=
  if h : N = 0 ∨ W = 0 then [] else ((N % 2 ^ W : Nat) : Int) :: limbs W (N / 2 ^ W)
termination_by N
decreasing_by
  have h1 : N ≠ 0 := fun e => h (.inl e)
  have h2 : W ≠ 0 := fun e => h (.inr e)
  exact Nat.div_lt_self (Nat.pos_of_ne_zero h1) (Nat.one_lt_two_pow h2)

theorem pow_pos' (k : Nat) : (0 : Int) < 2 ^ k := Int.pow_pos (by decide)
theorem pow_nat (k : Nat) : ((2 ^ k : Nat) : Int) = (2 : Int) ^ k := by simp
theorem pow_mul_succ (W k : Nat) : (2 : Int) ^ (W * (k + 1)) = 2 ^ W * 2 ^ (W * k) := by
  rw [Nat.mul_succ, Int.pow_add, Int.mul_comm]
theorem Dig.nil {W : Nat} : Dig W [] := fun _ h => nomatch h
theorem Dig.cons {W : Nat} {x : Int} {r : List Int} (h0 : 0 ≤ x) (h1 : x < 2 ^ W) (h : Dig W r) : Dig W (x :: r) := fun y hy => by
  rcases List.mem_cons.mp hy with rfl | hy
  · exact ⟨h0, h1⟩
  · exact h y hy
theorem Dig.head {W : Nat} {x : Int} {r : List Int} (h : Dig W (x :: r)) : 0 ≤ x ∧ x < 2 ^ W := h x (.head _)
theorem Dig.tail {W : Nat} {x : Int} {r : List Int} (h : Dig W (x :: r)) : Dig W r := fun y hy => h y (.tail _ hy)
theorem Dig.append {W : Nat} {xs ys : List Int} (h : Dig W xs) (k : Dig W ys) : Dig W (xs ++ ys) := fun y hy => (List.mem_append.mp hy).elim (h y) (k y)
theorem Dig.take {W : Nat} {xs : List Int} (h : Dig W xs) (k : Nat) : Dig W (xs.take k) := fun y hy => h y (List.mem_of_mem_take hy)
theorem Dig.set {W : Nat} {xs : List Int} (h : Dig W xs) (k : Nat) {v : Int} (h0 : 0 ≤ v) (h1 : v < 2 ^ W) : Dig W (xs.set k v) := fun y hy => by
  rcases List.mem_or_eq_of_mem_set hy with hy | rfl
  · exact h y hy
  · exact ⟨h0, h1⟩
theorem Dig.getD {W : Nat} {xs : List Int} (h : Dig W xs) (k : Nat) : 0 ≤ xs.getD k 0 ∧ xs.getD k 0 < 2 ^ W := by
  rw [List.getD_eq_getElem?_getD]
  cases e : xs[k]? with
  | none => exact ⟨Int.le_refl _, pow_pos' W⟩
  | some x => exact h x (List.mem_of_getElem? e)

theorem num_nil (W : Nat) : num W [] = 0 := rfl
theorem num_cons (W : Nat) (x : Int) (r : List Int) : num W (x :: r) = x + 2 ^ W * num W r := rfl
theorem num_append (W : Nat) (xs ys : List Int) : num W (xs ++ ys) = num W xs + 2 ^ (W * xs.length) * num W ys := by
  induction xs with
  | nil => simp [num]
  | cons x r ih =>
    rw [List.cons_append, num_cons, num_cons, ih, List.length_cons, pow_mul_succ]
    grind
theorem num_one (W : Nat) (x : Int) : num W [x] = x := by simp [num]
theorem num_nonneg {W : Nat} : ∀ {xs : List Int}, Dig W xs → 0 ≤ num W xs
  | [], _ => Int.le_refl _
  | x :: r, h => by
    have h1 := h.head.1
    have h2 := Int.mul_nonneg (Int.le_of_lt (pow_pos' W)) (num_nonneg h.tail)
    rw [num_cons]; omega
theorem num_lt {W : Nat} : ∀ {xs : List Int}, Dig W xs → num W xs < 2 ^ (W * xs.length)
  | [], _ => by simp [num]
  | x :: r, h => by
    have h1 := h.head.2
    have ih := num_lt h.tail
    have h3 : num W r + 1 ≤ 2 ^ (W * r.length) := ih
    have h4 := Int.mul_le_mul_of_nonneg_left h3 (Int.le_of_lt (pow_pos' W))
    rw [num_cons, List.length_cons, pow_mul_succ]
    rw [Int.mul_add] at h4
    omega
theorem num_set (W : Nat) (v : Int) : ∀ (xs : List Int) (k : Nat), k < xs.length → num W (xs.set k v) = num W xs + 2 ^ (W * k) * (v - xs.getD k 0)
  | [], k, h => absurd h (Nat.not_lt_zero _)
  | x :: r, 0, _ => by simp [num]; omega
  | x :: r, k + 1, h => by
    have ih := num_set W v r k (Nat.lt_of_succ_lt_succ h)
    rw [List.set_cons_succ, num_cons, num_cons, ih, pow_mul_succ, List.getD_cons_succ]
    grind
theorem num_take_succ {W : Nat} {xs : List Int} {i : Nat} {x : Int} (h : xs[i]? = some x) : num W (xs.take (i + 1)) = num W (xs.take i) + 2 ^ (W * i) * x := by
  have hi : i < xs.length := (List.getElem?_eq_some_iff.mp h).1
  rw [List.take_add_one, h, num_append, List.length_take, Nat.min_eq_left (Nat.le_of_lt hi)]
  simp [num]
theorem num_zeros {W : Nat} : ∀ {xs : List Int}, (∀ x ∈ xs, x = 0) → num W xs = 0
  | [], _ => rfl
  | x :: r, h => by rw [num_cons, num_zeros (xs := r) fun y hy => h y (.tail _ hy), h x (.head _)]; simp
theorem num_replicate (W n : Nat) : num W (List.replicate n 0) = 0 := num_zeros fun _ h => List.eq_of_mem_replicate h

theorem limbs_zero (W : Nat) : limbs W 0 = [] := by rw [limbs]; simp
theorem limbs_pos {W N : Nat} (hW : 1 ≤ W) (hN : N ≠ 0) : limbs W N = ((N % 2 ^ W : Nat) : Int) :: limbs W (N / 2 ^ W) := by
  rw [limbs, dif_neg]
  omega
theorem limbs_cons {W : Nat} (hW : 1 ≤ W) {x M : Nat} (hx : x < 2 ^ W) (h : x ≠ 0 ∨ M ≠ 0) : limbs W (x + 2 ^ W * M) = (x : Int) :: limbs W M := by
  have hp : 0 < 2 ^ W := Nat.two_pow_pos W
  have hne : x + 2 ^ W * M ≠ 0 := by
    rcases h with h | h
    · omega
    · have := Nat.mul_pos hp (Nat.pos_of_ne_zero h); omega
  rw [limbs_pos hW hne, Nat.add_mul_mod_self_left, Nat.mod_eq_of_lt hx, Nat.add_mul_div_left _ _ hp, Nat.div_eq_of_lt hx, Nat.zero_add]
theorem dig_limbs (W : Nat) (N : Nat) : Dig W (limbs W N) := by
  induction N using Nat.strongRecOn with
  | ind N ih =>
    by_cases h : N = 0 ∨ W = 0
    · rw [limbs, dif_pos h]; exact .nil
    · rw [limbs, dif_neg h]
      have h1 : N ≠ 0 := fun e => h (.inl e)
      have h2 : W ≠ 0 := fun e => h (.inr e)
      refine .cons (Int.natCast_nonneg _) ?_ (ih _ (Nat.div_lt_self (Nat.pos_of_ne_zero h1) (Nat.one_lt_two_pow h2)))
      rw [← pow_nat]
      exact Int.ofNat_lt.mpr (Nat.mod_lt _ (Nat.two_pow_pos W))
theorem num_limbs {W : Nat} (hW : 1 ≤ W) (N : Nat) : num W (limbs W N) = N := by
  induction N using Nat.strongRecOn with
  | ind N ih =>
    by_cases h : N = 0
    · subst h; rw [limbs_zero]; rfl
    · rw [limbs_pos hW h, num_cons, ih _ (Nat.div_lt_self (Nat.pos_of_ne_zero h) (Nat.one_lt_two_pow (by omega))), ← pow_nat]
      have := Nat.mod_add_div N (2 ^ W)
      exact_mod_cast this
theorem limbs_eq_nil {W : Nat} (hW : 1 ≤ W) {N : Nat} : limbs W N = [] ↔ N = 0 := by
  constructor
  · intro h
    by_cases h0 : N = 0
    · exact h0
    · rw [limbs_pos hW h0] at h; cases h
  · rintro rfl; exact limbs_zero W
theorem strip_limbs {W : Nat} (hW : 1 ≤ W) : ∀ {xs : List Int} {N : Nat}, Dig W xs → num W xs = N → strip xs = limbs W N
  | [], N, _, h => by
    have : N = 0 := by have : (0 : Int) = N := h; omega
    subst this; rw [limbs_zero]; rfl
  | x :: r, N, hd, h => by
    have hr := num_nonneg hd.tail
    obtain ⟨M, hM⟩ : ∃ M : Nat, num W r = M := ⟨(num W r).toNat, by omega⟩
    have ih := strip_limbs hW hd.tail hM
    obtain ⟨h0, h1⟩ := hd.head
    obtain ⟨y, rfl⟩ : ∃ y : Nat, x = y := ⟨x.toNat, by omega⟩
    have hy : y < 2 ^ W := by rw [← pow_nat] at h1; exact Int.ofNat_lt.mp h1
    have hN : N = y + 2 ^ W * M := by
      rw [num_cons, hM, ← pow_nat] at h
      exact_mod_cast h.symm
    subst hN
    unfold strip
    rw [ih]
    by_cases hM0 : M = 0
    · subst hM0
      rw [limbs_zero]
      by_cases hy0 : y = 0
      · subst hy0; simp [limbs_zero]
      · rw [limbs_cons hW hy (.inl hy0), limbs_zero]
        simp [hy0]
    · rw [limbs_cons hW hy (.inr hM0)]
      rw [limbs_pos hW hM0]
theorem strip_of_ge {W : Nat} : ∀ {xs : List Int}, Dig W xs → (xs ≠ [] → (2 : Int) ^ (W * (xs.length - 1)) ≤ num W xs) → strip xs = xs
  | [], _, _ => rfl
  | x :: r, hd, h => by
    have h' := h (by simp)
    rw [num_cons, List.length_cons, Nat.add_sub_cancel] at h'
    cases r with
    | nil =>
      have : x ≠ 0 := by rintro rfl; simp [num] at h'
      simp [strip, this]
    | cons y t =>
      have ih := strip_of_ge hd.tail (fun _ => by
        rw [List.length_cons, Nat.add_sub_cancel]
        rw [List.length_cons, pow_mul_succ] at h'
        have hx := hd.head.2
        refine Int.not_lt.mp fun hc => ?_
        have h3 : num W (y :: t) + 1 ≤ 2 ^ (W * t.length) := hc
        have h4 := Int.mul_le_mul_of_nonneg_left h3 (Int.le_of_lt (pow_pos' W))
        rw [Int.mul_add] at h4
        omega)
      unfold strip
      rw [ih]
theorem limbs_of {W : Nat} (hW : 1 ≤ W) {xs : List Int} {N : Nat} (hd : Dig W xs) (hn : num W xs = N) (h : xs ≠ [] → (2 : Int) ^ (W * (xs.length - 1)) ≤ N) : xs = limbs W N := by
  rw [← strip_limbs hW hd hn]
  exact (strip_of_ge hd fun hx => by rw [hn]; exact h hx).symm
theorem limbs_ge {W : Nat} (hW : 1 ≤ W) : ∀ {N : Nat}, N ≠ 0 → 2 ^ (W * ((limbs W N).length - 1)) ≤ N := by
  intro N
  induction N using Nat.strongRecOn with
  | ind N ih =>
    intro hN
    rw [limbs_pos hW hN, List.length_cons, Nat.add_sub_cancel]
    by_cases hq : N / 2 ^ W = 0
    · rw [hq, limbs_zero]; simp; omega
    · have ih' := ih _ (Nat.div_lt_self (Nat.pos_of_ne_zero hN) (Nat.one_lt_two_pow (by omega))) hq
      have hl : 1 ≤ (limbs W (N / 2 ^ W)).length := by
        rw [limbs_pos hW hq, List.length_cons]; omega
      obtain ⟨k, hk⟩ : ∃ k, (limbs W (N / 2 ^ W)).length = k + 1 := ⟨_, (Nat.sub_add_cancel hl).symm⟩
      rw [hk] at ih' ⊢
      rw [Nat.add_sub_cancel] at ih'
      rw [Nat.mul_succ, Nat.pow_add]
      exact (Nat.le_div_iff_mul_le (Nat.two_pow_pos W)).mp ih'
theorem limbs_len {W N k : Nat} (hW : 1 ≤ W) (h : N < 2 ^ k) : (limbs W N).length ≤ k := by
  by_cases hN : N = 0
  · subst hN; rw [limbs_zero]; exact Nat.zero_le _
  · have h1 := limbs_ge hW hN
    have h2 : 2 ^ (W * ((limbs W N).length - 1)) < 2 ^ k := Nat.lt_of_le_of_lt h1 h
    have h3 := (Nat.pow_lt_pow_iff_right (by decide : 1 < 2)).mp h2
    have h4 : (limbs W N).length - 1 ≤ W * ((limbs W N).length - 1) := Nat.le_mul_of_pos_left _ hW
    omega

theorem strip_zeros : ∀ {xs : List Int}, (∀ i, i < xs.length → xs[i]? = some 0) → strip xs = []
  | [], _ => rfl
  | x :: r, h => by
    have h0 : x = 0 := by simpa using h 0 (by simp)
    have ih := strip_zeros (xs := r) fun i hi => by simpa using h (i + 1) (by simpa using hi)
    unfold strip
    rw [ih]
    simp [h0]
theorem strip_take : ∀ {xs : List Int} {e : Nat}, e ≤ xs.length → (∀ i, e ≤ i → i < xs.length → xs[i]? = some 0) → (e = 0 ∨ xs.getD (e - 1) 0 ≠ 0) → strip xs = xs.take e
  | xs, 0, _, h, _ => by rw [strip_zeros fun i hi => h i (Nat.zero_le _) hi]; simp
  | [], e + 1, h, _, _ => by simp at h
  | x :: r, e + 1, he, h, hl => by
    have he' : e ≤ r.length := by simpa using he
    have h' : ∀ i, e ≤ i → i < r.length → r[i]? = some 0 := fun i h1 h2 => by simpa using h (i + 1) (by omega) (by simpa using h2)
    cases e with
    | zero =>
      have ih := strip_take (xs := r) (e := 0) he' h' (.inl rfl)
      have hx : x ≠ 0 := by simpa using hl
      unfold strip
      rw [ih]
      simp [hx]
    | succ k =>
      have ih := strip_take (xs := r) (e := k + 1) he' h' (.inr (by simpa using hl))
      cases r with
      | nil => simp at he'
      | cons y t =>
        unfold strip
        rw [ih]
        simp

/-- & with a mask -/
theorem and_mask {x : Int} (hx : 0 ≤ x) (W : Nat) : Builtin.bitAnd x (2 ^ W - 1) = x % 2 ^ W := by
  have hp := pow_pos' W
  obtain ⟨y, rfl⟩ : ∃ y : Nat, x = y := ⟨x.toNat, by omega⟩
  have e : (2 : Int) ^ W - 1 = ((2 ^ W - 1 : Nat) : Int) := by
    have := Nat.two_pow_pos W
    rw [Int.natCast_sub this, pow_nat]; rfl
  unfold Builtin.bitAnd
  rw [e]
  simp only [Int.natCast_nonneg, decide_true, Int.toNat_natCast, Nat.and_two_pow_sub_one_eq_mod]
  rw [Int.natCast_emod, pow_nat]
/-- | of parts that do not meet -/
theorem or_parts {c x : Int} {k : Nat} (hc : 0 ≤ c) (hck : c < 2 ^ k) (hx : 0 ≤ x) : Builtin.bitOr c (x * 2 ^ k) = c + x * 2 ^ k := by
  obtain ⟨y, rfl⟩ : ∃ y : Nat, x = y := ⟨x.toNat, by omega⟩
  obtain ⟨d, rfl⟩ : ∃ d : Nat, c = d := ⟨c.toNat, by omega⟩
  have hd : d < 2 ^ k := by rw [← pow_nat] at hck; exact Int.ofNat_lt.mp hck
  have e : ((y : Int) * 2 ^ k) = ((2 ^ k * y : Nat) : Int) := by rw [Int.natCast_mul, pow_nat, Int.mul_comm]
  rw [e]
  have e2 : Builtin.bitOr (d : Int) ((2 ^ k * y : Nat) : Int) = ((d ||| 2 ^ k * y : Nat) : Int) := by
    unfold Builtin.bitOr Builtin.bitAnd Builtin.bitNot
    have h1 : decide ((0 : Int) ≤ -(d : Int) - 1) = false := by simp; omega
    have h2 : decide ((0 : Int) ≤ -((2 ^ k * y : Nat) : Int) - 1) = false := by simp only [decide_eq_false_iff_not]; omega
    simp only [h1, h2]
    have h3 : (-(-(d : Int) - 1) - 1).toNat = d := by omega
    have h4 : (-(-((2 ^ k * y : Nat) : Int) - 1) - 1).toNat = 2 ^ k * y := by omega
    rw [h3, h4]
    omega
  rw [e2, Nat.or_comm, ← Nat.two_pow_add_eq_or_of_lt hd]
  omega
theorem fdiv_pow {x : Int} (k : Nat) : x.fdiv (2 ^ k) = x / 2 ^ k := Int.fdiv_eq_ediv_of_nonneg _ (Int.le_of_lt (pow_pos' k))
theorem fmod_pow {x : Int} (k : Nat) : x.fmod (2 ^ k) = x % 2 ^ k := Int.fmod_eq_emod_of_nonneg _ (Int.le_of_lt (pow_pos' k))
/-- one more limb out of a carry -/
theorem push_turn {W k : Nat} {fs : List Int} {c d S : Int} (hk : fs.length = k) (hd : Dig W fs) (h : num W fs + 2 ^ (W * k) * c = S) :
    Dig W (fs ++ [(c + d) % 2 ^ W]) ∧ num W (fs ++ [(c + d) % 2 ^ W]) + 2 ^ (W * (k + 1)) * ((c + d) / 2 ^ W) = S + 2 ^ (W * k) * d := by
  have hp := pow_pos' W
  have hm := Int.emod_nonneg (c + d) (Int.ne_of_gt hp)
  have hm2 := Int.emod_lt_of_pos (c + d) hp
  refine ⟨hd.append (.cons hm hm2 .nil), ?_⟩
  rw [num_append, num_one, pow_mul_succ, hk]
  have e3 := Int.emod_add_mul_ediv (c + d) (2 ^ W)
  generalize (c + d) % 2 ^ W = m at *
  generalize (c + d) / 2 ^ W = q at *
  generalize (2 : Int) ^ (W * k) = P at *
  generalize (2 : Int) ^ W = M at *
  clear hm hm2 hp
  grind
theorem getD_get {xs : List Int} {i : Nat} (h : i < xs.length) : xs[i]? = some (xs.getD i 0) := by
  rw [List.getD_eq_getElem?_getD, List.getElem?_eq_getElem h]; rfl
theorem limbs_len_pos {W N : Nat} (hW : 1 ≤ W) (h : limbs W N ≠ []) : (2 : Int) ^ (W * ((limbs W N).length - 1)) ≤ N := by
  rw [← pow_nat]
  refine Int.ofNat_le.mpr (limbs_ge hW fun e => h (by rw [e, limbs_zero]))
theorem limbs_lt {W N : Nat} (hW : 1 ≤ W) : (N : Int) < 2 ^ (W * (limbs W N).length) := by
  have := num_lt (dig_limbs W N)
  rwa [num_limbs hW] at this


abbrev Ledger := List (Addr × Obj)
/-- a list of ints, as the ledger bears it -/
structure LI where
  vs : List Value
  xs : List Int
  n : Nat

/-- a name and its value, but for the value's token -/
abbrev Nm := Str × (Tok → Value)
abbrev iN (x : Str) (i : Int) : Nm := (x, fun t => .int i t)
abbrev rN (x : Str) (a : Addr) : Nm := (x, fun _ => .ref a)
def KB (u : Str → Option Value) : List Nm → (Nat → Tok) → Str → Option Value
  | [], _ => u
  | p :: r, ts => fun z => if z = p.1 then some (p.2 (ts 0)) else KB u r (fun i => ts (i + 1)) z
def Knows (m : Str → Option Value) (ps : List Nm) : Prop := ∀ p ∈ ps, ∃ t, m p.1 = some (p.2 t)
theorem Knows.nil {m : Str → Option Value} : Knows m [] := fun _ h => nomatch h
theorem Knows.cons {m : Str → Option Value} {x : Str} {f : Tok → Value} {r : List Nm} (t : Tok) (h : m x = some (f t)) (k : Knows m r) : Knows m ((x, f) :: r) := fun q hq => by
  rcases List.mem_cons.mp hq with rfl | hq
  · exact ⟨t, h⟩
  · exact k q hq
theorem Knows.cons' {m : Str → Option Value} {x : Str} {f : Tok → Value} {r : List Nm} (h : ∃ t, m x = some (f t)) (k : Knows m r) : Knows m ((x, f) :: r) := let ⟨t, h⟩ := h; .cons t h k
theorem Knows.consI {m : Str → Option Value} {x : Str} {i j : Int} {t : Tok} {r : List Nm} (h : m x = some (.int i t)) (e : i = j) (k : Knows m r) : Knows m (iN x j :: r) := e ▸ Knows.cons t h k
theorem knows_kb {m : Str → Option Value} : ∀ {ps : List Nm}, Knows m ps → ∃ ts, KB m ps ts = m
  | [], _ => ⟨fun _ => 0, rfl⟩
  | p :: r, h => by
    obtain ⟨ts, e⟩ := knows_kb (m := m) (ps := r) fun q hq => h q (.tail _ hq)
    obtain ⟨t, ht⟩ := h p (.head _)
    refine ⟨fun i => match i with | 0 => t | i + 1 => ts i, ?_⟩
    funext z
    show (if z = p.1 then some (p.2 t) else KB m r ts z) = m z
    by_cases q : z = p.1
    · rw [if_pos q, q, ht]
    · rw [if_neg q, e]
/-- a frame of which some names are known -/
theorem fr_known {h₀ h : Heap} {L : Addr} {m : Str → Option Value} {ps : List Nm} (F : Fr h₀ L h m) (hk : Knows m ps) : ∃ ts, Fr h₀ L h (KB m ps ts) := by
  obtain ⟨ts, e⟩ := knows_kb hk
  exact ⟨ts, by rw [e]; exact F⟩
theorem fr_known1 {h₀ h : Heap} {L : Addr} {x : Str} {v : Value} {m : Str → Option Value} {ps : List Nm} (F : Fr h₀ L h (fun y => if y = x then some v else m y)) (hk : Knows m ps) : ∃ ts, Fr h₀ L h (fun y => if y = x then some v else KB m ps ts y) := by
  obtain ⟨ts, e⟩ := knows_kb hk
  exact ⟨ts, by rw [e]; exact F⟩
theorem fr_known2 {h₀ h : Heap} {L : Addr} {x z : Str} {v u : Value} {m : Str → Option Value} {ps : List Nm} (F : Fr h₀ L h (fun y => if y = x then some v else if y = z then some u else m y)) (hk : Knows m ps) : ∃ ts, Fr h₀ L h (fun y => if y = x then some v else if y = z then some u else KB m ps ts y) := by
  obtain ⟨ts, e⟩ := knows_kb hk
  exact ⟨ts, by rw [e]; exact F⟩

section
variable {prog : Program} {w : World} {A : Around} {E : Value → Shared → Prop} {s : Shared} {env : Env} {h₀ : Heap} {L : Addr} {Q : Flow → Shared → Prop}

/-- the end of a while's turn -/
def WEnd {σ : Type} (h₀ : Heap) (L : Addr) (s : Shared) (Led : σ → Ledger) (ps : σ → List Nm) (P : σ → Prop) (μ : σ → Nat) (k : Nat) (s₂ : Shared) : Prop :=
  ∃ (c' : σ) (h' : Heap) (tk : Nat) (m' : Str → Option Value) (news' : Ledger), s₂ = { s with heap := h', toks := tk } ∧ Fr h₀ L h' m' ∧ News h₀ L h' news' ∧ (∀ p ∈ Led c', p ∈ news') ∧ Knows m' (ps c') ∧ P c' ∧ μ c' < k
def WPost {σ : Type} (h₀ : Heap) (L : Addr) (s : Shared) (Led : σ → Ledger) (ps : σ → List Nm) (P : σ → Prop) (μ : σ → Nat) (k : Nat) (Q : Flow → Shared → Prop) (f : Flow) (s₂ : Shared) : Prop :=
  match f with
  | .ret v => Q (.ret v) s₂
  | .brk => Q .next s₂
  | _ => WEnd h₀ L s Led ps P μ k s₂

theorem my_while {σ : Type} {test : Expr} {body : List Stmt} {pos : Pos} {m₀ : Str → Option Value} (Led : σ → Ledger) (ps : σ → List Nm) (P : σ → Prop) (μ : σ → Nat) (c₀ : σ)
    (F : Fr h₀ L s.heap m₀) (N : News h₀ L s.heap (Led c₀)) (hk : Knows m₀ (ps c₀)) (hp : P c₀)
    (turn : ∀ (c : σ) (u : Str → Option Value) ts h tk, P c → Fr h₀ L h (KB u (ps c) ts) → News h₀ L h (Led c) →
      wpAny (model prog w) A (isTrue test env (eval test env)) (fun b s₂ =>
        if b = true then wpAny (model prog w) A (execs body env) (WPost h₀ L s Led ps P μ (μ c) Q) E s₂ else Q .next s₂) E { s with heap := h, toks := tk })
    (hE : PassesOwn (model prog w) A env E) :
    wpAny (model prog w) A (exec (.While test body [] pos) env) Q E s := by
  refine While_inv2 (fun n m nx => ∃ c : σ, nx = Led c ∧ μ c = n ∧ Knows m (ps c) ∧ P c) F N ⟨c₀, rfl, rfl, hk, hp⟩ ?_ hE
  rintro n m₁ nx h tk F₁ N₁ ⟨c, rfl, rfl, h1, hp'⟩
  obtain ⟨ts, F₂⟩ := fr_known F₁ h1
  refine wpAny_mono (turn c m₁ ts h tk hp' F₂ N₁) (fun b s₂ p => ?_) fun _ _ x => x
  cases b with
  | false => simpa using p
  | true =>
    simp only [if_true] at p ⊢
    refine wpAny_mono p (fun f s₃ q => ?_) fun _ _ x => x
    cases f with
    | ret v => exact q
    | brk => exact q
    | next =>
      obtain ⟨c', h', tk', m', news', rfl, F', N', hn, hk9, hp9, hm9⟩ := q
      exact ⟨h', tk', m', Led c', μ c', rfl, F', fun p hp => N' p (hn p hp), hm9, c', rfl, rfl, hk9, hp9⟩
    | cont =>
      obtain ⟨c', h', tk', m', news', rfl, F', N', hn, hk9, hp9, hm9⟩ := q
      exact ⟨h', tk', m', Led c', μ c', rfl, F', fun p hp => N' p (hn p hp), hm9, c', rfl, rfl, hk9, hp9⟩

/-- the end of a for's turn -/
def TEnd (h₀ : Heap) (L : Addr) (J : (Str → Option Value) → Ledger → Prop) (own : Ledger) (s₁ s₂ : Shared) : Prop :=
  ∃ h' tk m' nx news', s₂ = { s₁ with heap := h', toks := tk } ∧ Fr h₀ L h' m' ∧ News h₀ L h' news' ∧ (∀ p ∈ nx, p ∈ news') ∧ (∀ p ∈ own, p ∈ news') ∧ (∀ p ∈ nx, ∀ q ∈ own, p.1 ≠ q.1) ∧ J m' nx
def TPost (h₀ : Heap) (L : Addr) (J : (Str → Option Value) → Ledger → Prop) (own : Ledger) (s₁ : Shared) (Q : Flow → Shared → Prop) (f : Flow) (s₂ : Shared) : Prop :=
  match f with
  | .ret v => Q (.ret v) s₂
  | .brk => Q .next s₂
  | _ => TEnd h₀ L J own s₁ s₂

theorem ret_ints {s : Shared} {Q : Value → Shared → Prop} {ys zs : List Int} {D L : Addr} {h' : Heap} {tk n : Nat} {m : Str → Option Value} {ws : List Value} {news : Ledger} (hret : RetInts s Q ys) (F : Fr s.heap L h' m) (N : News s.heap L h' news)
    (hm : (D, ({ cls := .type "list", data := .seq ws.toArray n } : Obj)) ∈ news) (hI : IntsAre ws zs) (e : zs = ys) : Q (.ref D) { s with heap := h', toks := tk } := by
  subst e
  exact hret h' tk D ws n F.keep (N _ hm).2.2 (N _ hm).1 hI

theorem after_call {h h' : Heap} {m : Str → Option Value} {news : Ledger} {a : Addr} {o : Obj} (F : Fr h₀ L h m) (N : News h₀ L h news) (hst : h.StaysIn h') (hfr : h.get? a = none) (hg : h'.get? a = some o) :
    Fr h₀ L h' m ∧ News h₀ L h' ((a, o) :: news) ∧ ∀ p ∈ news, p.1 ≠ a := by
  refine ⟨F.keeps hst, fun p hp => ?_, fun p hp e => by have h1 := (N p hp).1; rw [e, hfr] at h1; cases h1⟩
  rcases List.mem_cons.mp hp with rfl | hp
  · refine ⟨hg, ?_, ?_⟩
    · obtain ⟨o', _, _, h2, _⟩ := F.ns
      intro (e : a = L)
      rw [← e, hfr] at h2; cases h2
    · cases e : h₀.get? a with
      | none => rfl
      | some o' => rw [F.keep a o' e] at hfr; cases hfr
  · exact N.grown hst p hp
theorem ints_of {h : Heap} {news : Ledger} {a : Addr} {vs : List Value} {xs : List Int} {n : Nat} (N : News h₀ L h news) (hm : (a, ({ cls := .type "list", data := .seq vs.toArray n } : Obj)) ∈ news) (hi : IntsAre vs xs) : Ints h a xs :=
  ⟨vs, ⟨_, (N _ hm).1, rfl, n, rfl⟩, hi⟩
theorem ints_keep {h h' : Heap} {a : Addr} {xs : List Int} (hst : h.StaysIn h') (hi : Ints h a xs) : Ints h' a xs :=
  let ⟨vs, hl, hi⟩ := hi; ⟨vs, hl.at fun o e => hst a o e, hi⟩

variable {x : Str} {body : List Stmt}
theorem g_loop {I : Addr} {fp wr : List Addr} {n : Nat} {P : Nat → Value → Prop} {St : Nat → Heap → Prop} {m₀ : Str → Option Value} {news : Ledger} (J : Nat → (Str → Option Value) → Ledger → Prop)
    (W : Walks prog w A I fp wr n P St) (hpres : ∀ i h, St i h → ∀ b ∈ fp, ∃ o, h.get? b = some o) (hLf : env.locals ∉ fp) (hwr : ∀ b ∈ wr, h₀.get? b = none) (hfp : ∀ q ∈ news, q.1 ∉ fp) (hst : St 0 s.heap)
    (F : Fr h₀ env.locals s.heap m₀) (N : News h₀ env.locals s.heap news) (hj : J 0 m₀ news)
    (turn : ∀ i v m₁ nx h tk own, i < n → P i v → J i m₁ nx → OwnOff own (nx.map (·.1)) → Fr h₀ env.locals h (fun y => if y = x then some v else m₁ y) → News h₀ env.locals h (nx ++ own) →
      wpAny (model prog w) A (execs body env) (TPost h₀ env.locals (J (i + 1)) own { s with heap := h, toks := tk } Q) E { s with heap := h, toks := tk })
    (done : ∀ m₁ nx h tk, J n m₁ nx → Fr h₀ env.locals h m₁ → News h₀ env.locals h nx → Q .next { s with heap := h, toks := tk }) :
    LoopAtV prog w A h₀ env x body Q E (.ref I) s := by
  let J' : Nat → (Str → Option Value) → Ledger → Prop := fun i m₁ news₁ => (∀ q ∈ news₁, q.1 ∉ fp) ∧ J i m₁ news₁
  refine ⟨I, fp, wr, n, P, St, m₀, news, J', rfl, W, hLf, hwr, fun p hp h => hfp p hp (W.sub _ h), hst, F, N, ⟨hfp, hj⟩, ?_, ?_⟩
  · rintro i v m₁ nx s₁ own ⟨hh', tk', rfl⟩ hin hP ⟨hoffp, hJ⟩ _ hown _ hall hst₁ F₁ N₁
    have hoff : OwnOff own (nx.map (·.1)) := by
      intro p hp b hb e
      obtain ⟨q, hq, rfl⟩ := List.mem_map.mp hb
      exact hoffp q hq (e ▸ hown p hp)
    have N₂ : News h₀ env.locals hh' (nx ++ own) := fun p hp => N₁ p ((List.mem_append.mp hp).elim (fun h => List.mem_append.mpr (.inr h)) fun h => List.mem_append.mpr (.inl h))
    refine wpAny_mono (turn i v m₁ nx hh' tk' own hin hP hJ hoff F₁ N₂) (fun f s₂ p => ?_) fun _ _ e => e
    have fin : TEnd h₀ env.locals (J (i + 1)) own { s with heap := hh', toks := tk' } s₂ → LoopStepU h₀ env.locals wr own (J' (i + 1)) { s with heap := hh', toks := tk' } .next s₂ := by
      rintro ⟨h', tk, m', nx', news', rfl, F', N', hn, ho, hd, hm⟩
      have hnfp : ∀ p ∈ nx', p.1 ∉ fp := by
        intro p hp hq
        obtain ⟨o, ho'⟩ := hpres _ _ hst₁ _ hq
        exact hd p hp _ (hall _ hq (N' p (hn p hp)).2.2 o ho') rfl
      exact ⟨rfl, h', tk, m', nx', rfl, F', fun p hp => N' p ((List.mem_append.mp hp).elim (ho p) (hn p)), fun p hp hq => hnfp p hp (W.sub _ hq), hnfp, hm⟩
    cases f with
    | ret v => exact .ret p
    | brk => exact .brk p
    | next => exact .next (fin p)
    | cont => exact .cont (fin p)
  · rintro h' tk m' news' F' N' _ ⟨_, hJ⟩
    exact done m' news' h' tk hJ F' N'

/-- a state of the loop: its ledger, its names, what holds -/
def JS {σ : Type} (Led : σ → Ledger) (ps : σ → List Nm) (P : Nat → σ → Prop) (i : Nat) (m : Str → Option Value) (nx : Ledger) : Prop :=
  ∃ c : σ, nx = Led c ∧ Knows m (ps c) ∧ P i c

theorem t_end {σ : Type} {Led : σ → Ledger} {ps : σ → List Nm} {P : Nat → σ → Prop} {i : Nat} {own news' : Ledger} {s₁ : Shared} {h' : Heap} {tk : Nat} {m' : Str → Option Value} (c : σ)
    (F : Fr h₀ L h' m') (N : News h₀ L h' news') (hn : ∀ p ∈ Led c, p ∈ news') (ho : ∀ p ∈ own, p ∈ news') (hd : ∀ p ∈ Led c, ∀ q ∈ own, p.1 ≠ q.1) (hk : Knows m' (ps c)) (hp : P i c) :
    TEnd h₀ L (JS Led ps P i) own s₁ { s₁ with heap := h', toks := tk } := ⟨h', tk, m', Led c, news', rfl, F, N, hn, ho, hd, c, rfl, hk, hp⟩
theorem t_end1 {σ : Type} {Led : σ → Ledger} {ps : σ → List Nm} {P : Nat → σ → Prop} {i : Nat} {own : Ledger} {s₁ : Shared} {h' : Heap} {tk : Nat} {m' : Str → Option Value} {a : Addr} {o : Obj} (c : σ) (hL : Led c = [(a, o)])
    (F : Fr h₀ L h' m') (N : News h₀ L h' ((a, o) :: own)) (hof : ∀ p ∈ own, p.1 ≠ a) (hk : Knows m' (ps c)) (hp : P i c) :
    TEnd h₀ L (JS Led ps P i) own s₁ { s₁ with heap := h', toks := tk } :=
  t_end c F N (by rw [hL]; intro q hq; rw [List.mem_singleton.mp hq]; exact .head _) (fun q hq => .tail _ hq) (by rw [hL]; intro q hq q' hq' e; rw [List.mem_singleton.mp hq] at e; exact hof q' hq' e.symm) hk hp
theorem w_end' {σ : Type} {Led : σ → Ledger} {ps : σ → List Nm} {P : σ → Prop} {μ : σ → Nat} {k : Nat} {news' : Ledger} {s₁ : Shared} {h' : Heap} {tk : Nat} {m' : Str → Option Value} (c : σ)
    (F : Fr h₀ L h' m') (N : News h₀ L h' news') (hn : ∀ p ∈ Led c, p ∈ news') (hk : Knows m' (ps c)) (hp : P c) (hm : μ c < k) :
    WEnd h₀ L s₁ Led ps P μ k { s₁ with heap := h', toks := tk } := ⟨c, h', tk, m', news', rfl, F, N, hn, hk, hp, hm⟩

/-- a range, its step any -/
theorem l_range {σ : Type} {r : Addr} {a b c : Int} {t₀ u₀ v₀ : Tok} {n : Nat} {m₀ : Str → Option Value} (Led : σ → Ledger) (ps : σ → List Nm) (P : Nat → σ → Prop) (c₀ : σ)
    (hh : A.handled = none) (hr : IsRange s.heap r a b c t₀ u₀ v₀) (hsmall : Builtin.Range.small a b c = true) (hn : Builtin.Range.rangeSize a b c = (n : Int))
    (F : Fr h₀ env.locals s.heap m₀) (N : News h₀ env.locals s.heap (Led c₀)) (hk : Knows m₀ (ps c₀)) (hp : P 0 c₀)
    (turn : ∀ (i : Nat) (d : σ) t (u : Str → Option Value) ts h tk own, i < n → OwnOff own ((Led d).map (·.1)) → P i d →
      Fr h₀ env.locals h (fun y => if y = x then some (.int (a + (i : Int) * c) t) else KB u (ps d) ts y) → News h₀ env.locals h (Led d ++ own) →
      wpAny (model prog w) A (execs body env) (TPost h₀ env.locals (JS Led ps P (i + 1)) own { s with heap := h, toks := tk } Q) E { s with heap := h, toks := tk })
    (done : ∀ (d : σ) (u : Str → Option Value) ts h tk, P n d → Fr h₀ env.locals h (KB u (ps d) ts) → News h₀ env.locals h (Led d) → Q .next { s with heap := h, toks := tk }) :
    wpAny (model prog w) A (pyIter (.ref r)) (fun it s₂ => LoopAtV prog w A h₀ env x body Q E it s₂) E s := by
  refine wpAny_pyIter_range hr hsmall ?_
  have W : Walks prog w A s.heap.objs.size [s.heap.objs.size] [s.heap.objs.size] n (fun i v => i < n ∧ ∃ t, v = .int (a + i * c) t)
      (fun i h => IsRangeIter h s.heap.objs.size (a + (i : Nat) * c) ((n : Int) - (i : Nat)) c) := (Walks.range hh _ a c n).bound
  refine g_loop (JS Led ps P) W ?_ ?_ ?_ ?_ (by show IsRangeIter _ _ _ _ _; rw [hn]; simpa using Heap.get?_push_size _ rfl) (F.push _) (fun p hp => ⟨Heap.get?_push_of_some _ (N p hp).1, (N p hp).2⟩) ⟨c₀, rfl, hk, hp⟩ ?_ ?_
  · intro i h hst b hb
    rw [List.mem_singleton.mp hb]
    exact ⟨_, hst⟩
  · intro hm
    exact absurd F.ns.lt ((List.mem_singleton.mp hm) ▸ Nat.lt_irrefl _)
  · intro b hb
    rw [List.mem_singleton.mp hb]
    exact next_is_new F
  · intro p hp hI
    exact absurd (Heap.lt_size (N p hp).1) ((List.mem_singleton.mp hI) ▸ Nat.lt_irrefl _)
  · rintro i v m₁ nx h tk own hi ⟨_, t, rfl⟩ ⟨d, rfl, h1, hp'⟩ hoff F₁ N₁
    obtain ⟨ts, F₂⟩ := fr_known1 F₁ h1
    exact turn i d t m₁ ts h tk own hi hoff hp' F₂ N₁
  · rintro m₁ nx h tk ⟨d, rfl, h1, hp'⟩ F₁ N₁
    obtain ⟨ts, F₂⟩ := fr_known F₁ h1
    exact done d m₁ ts h tk hp' F₂ N₁

/-- a range by ones -/
theorem l_range1 {σ : Type} {r : Addr} {a b : Int} {t₀ u₀ v₀ : Tok} {m₀ : Str → Option Value} {news₀ : Ledger} (Led : σ → Ledger) (ps : σ → List Nm) (P : Nat → σ → Prop) (c₀ : σ)
    (hh : A.handled = none) (hr : IsRange s.heap r a b 1 t₀ u₀ v₀) (hab : -(2 ^ 62) ≤ a ∧ a < 2 ^ 62 ∧ -(2 ^ 62) ≤ b ∧ b < 2 ^ 62)
    (F : Fr h₀ env.locals s.heap m₀) (N : News h₀ env.locals s.heap news₀) (hsub : ∀ p ∈ Led c₀, p ∈ news₀) (hk : Knows m₀ (ps c₀)) (hp : P 0 c₀)
    (turn : ∀ (i : Nat) (d : σ) t (u : Str → Option Value) ts h tk own, a + (i : Int) < b → OwnOff own ((Led d).map (·.1)) → P i d →
      Fr h₀ env.locals h (fun y => if y = x then some (.int (a + (i : Int)) t) else KB u (ps d) ts y) → News h₀ env.locals h (Led d ++ own) →
      wpAny (model prog w) A (execs body env) (TPost h₀ env.locals (JS Led ps P (i + 1)) own { s with heap := h, toks := tk } Q) E { s with heap := h, toks := tk })
    (done : ∀ (d : σ) (u : Str → Option Value) ts h tk, P (b - a).toNat d → Fr h₀ env.locals h (KB u (ps d) ts) → News h₀ env.locals h (Led d) → Q .next { s with heap := h, toks := tk }) :
    wpAny (model prog w) A (pyIter (.ref r)) (fun it s₂ => LoopAtV prog w A h₀ env x body Q E it s₂) E s := by
  refine l_range (n := (b - a).toNat) Led ps P c₀ hh hr (small_one hab.1 hab.2.1 hab.2.2.1 hab.2.2.2) (rangeSize_nat a b) F (kst_newsOf N hsub) hk hp (fun i d t u ts h tk own hi hoff hP F' N' => ?_) done
  have e : a + (i : Int) * 1 = a + (i : Int) := by omega
  rw [e] at F'
  exact turn i d t u ts h tk own (by omega) hoff hP F' N'

theorem areInts' {vs : List Value} {ns : List Int} (h : IntsAre vs ns) : AreOf ItemKind.int vs ns := h.areOf
/-- a list, wherever it stands (off the loop's own ledger) -/
theorem l_list {σ : Type} {l : Addr} {vs : List Value} {m₀ : Str → Option Value} (Led : σ → Ledger) (ps : σ → List Nm) (P : Nat → σ → Prop) (c₀ : σ)
    (hh : A.handled = none) (hl : s.heap.IsList l vs.toArray) (hlL : l ≠ env.locals)
    (F : Fr h₀ env.locals s.heap m₀) (N : News h₀ env.locals s.heap (Led c₀)) (hoff : ∀ q ∈ Led c₀, q.1 ≠ l) (hk : Knows m₀ (ps c₀)) (hp : P 0 c₀)
    (turn : ∀ (i : Nat) (d : σ) v (u : Str → Option Value) ts h tk own, vs[i]? = some v → OwnOff own ((Led d).map (·.1)) → P i d →
      Fr h₀ env.locals h (fun y => if y = x then some v else KB u (ps d) ts y) → News h₀ env.locals h (Led d ++ own) →
      wpAny (model prog w) A (execs body env) (TPost h₀ env.locals (JS Led ps P (i + 1)) own { s with heap := h, toks := tk } Q) E { s with heap := h, toks := tk })
    (done : ∀ (d : σ) (u : Str → Option Value) ts h tk, P vs.length d → Fr h₀ env.locals h (KB u (ps d) ts) → News h₀ env.locals h (Led d) → Q .next { s with heap := h, toks := tk }) :
    wpAny (model prog w) A (pyIter (.ref l)) (fun it s₂ => LoopAtV prog w A h₀ env x body Q E it s₂) E s := by
  obtain ⟨ol, hol, _⟩ := id hl
  have hlt : l < s.heap.objs.size := Heap.lt_size hol
  have hne : l ≠ s.heap.objs.size := Nat.ne_of_lt hlt
  refine wpAny_pyIter_list hl ?_
  have W := Walks.list (prog := prog) (w := w) hh s.heap.objs.size l hne vs.toArray
  refine g_loop (JS Led ps P) W ?_ ?_ ?_ ?_ ⟨⟨_, Heap.get?_push_size _ rfl, rfl, rfl⟩, hl.at fun o e => Heap.get?_push_of_some _ e⟩ (F.push _) (fun p hp => ⟨Heap.get?_push_of_some _ (N p hp).1, (N p hp).2⟩) ⟨c₀, rfl, hk, hp⟩ ?_ ?_
  · rintro i h ⟨⟨o, ho, _⟩, ⟨o', ho', _⟩⟩ b hb
    rcases List.mem_cons.mp hb with rfl | hb
    · exact ⟨_, ho⟩
    · rw [List.mem_singleton.mp hb]; exact ⟨_, ho'⟩
  · intro hm
    rcases List.mem_cons.mp hm with e | hm
    · exact absurd F.ns.lt (e ▸ Nat.lt_irrefl _)
    · exact hlL (List.mem_singleton.mp hm).symm
  · intro b hb
    rw [List.mem_singleton.mp hb]
    exact next_is_new F
  · intro p hp hI
    rcases List.mem_cons.mp hI with e | hm
    · exact absurd (Heap.lt_size (N p hp).1) (e ▸ Nat.lt_irrefl _)
    · exact hoff p hp (List.mem_singleton.mp hm)
  · rintro i v m₁ nx h tk own hi hv ⟨d, rfl, h1, hp'⟩ hoff F₁ N₁
    obtain ⟨ts, F₂⟩ := fr_known1 F₁ h1
    exact turn i d v m₁ ts h tk own (by simpa using hv) hoff hp' F₂ N₁
  · rintro m₁ nx h tk ⟨d, rfl, h1, hp'⟩ F₁ N₁
    obtain ⟨ts, F₂⟩ := fr_known F₁ h1
    exact done d m₁ ts h tk (by simpa using hp') F₂ N₁

/-- a list of ints that stood ahead of the call -/
theorem l_ints0 {σ : Type} {l : Addr} {vs : List Value} {as : List Int} {m₀ : Str → Option Value} {news₀ : Ledger} (Led : σ → Ledger) (ps : σ → List Nm) (P : Nat → σ → Prop) (c₀ : σ)
    (hh : A.handled = none) (hl : h₀.IsList l vs.toArray) (hi : IntsAre vs as)
    (F : Fr h₀ env.locals s.heap m₀) (N : News h₀ env.locals s.heap news₀) (hsub : ∀ p ∈ Led c₀, p ∈ news₀) (hk : Knows m₀ (ps c₀)) (hp : P 0 c₀)
    (turn : ∀ (i : Nat) (d : σ) a t (u : Str → Option Value) ts h tk own, as[i]? = some a → OwnOff own ((Led d).map (·.1)) → P i d →
      Fr h₀ env.locals h (fun y => if y = x then some (.int a t) else KB u (ps d) ts y) → News h₀ env.locals h (Led d ++ own) →
      wpAny (model prog w) A (execs body env) (TPost h₀ env.locals (JS Led ps P (i + 1)) own { s with heap := h, toks := tk } Q) E { s with heap := h, toks := tk })
    (done : ∀ (d : σ) (u : Str → Option Value) ts h tk, P as.length d → Fr h₀ env.locals h (KB u (ps d) ts) → News h₀ env.locals h (Led d) → Q .next { s with heap := h, toks := tk }) :
    wpAny (model prog w) A (pyIter (.ref l)) (fun it s₂ => LoopAtV prog w A h₀ env x body Q E it s₂) E s := by
  obtain ⟨ol, hol, _⟩ := id hl
  have hlt : l < h₀.objs.size := Heap.lt_size hol
  refine l_list Led ps P c₀ hh (hl.at fun o e => F.keep l o e) (Nat.ne_of_lt (Nat.lt_of_lt_of_le hlt F.above)) F (kst_newsOf N hsub) (fun q hq e => ?_) hk hp (fun i d v u ts h tk own hv hoff hP F' N' => ?_) (by rw [hi.length]; exact done)
  · have h1 := (N q (hsub q hq)).2.2
    rw [e, hol] at h1; cases h1
  · obtain ⟨a, ha, t, rfl⟩ := (areInts' hi).get i v hv
    exact turn i d a t u ts h tk own ha hoff hP F' N'

/-- enumerate, once its source is known: the ledger's addresses stay -/
theorem l_pair {σ : Type} {as : List Int} {xv : Value} {xi xc : Str} {m₀ : Str → Option Value} {news : Ledger} (Led : σ → Ledger) (ps : σ → List Nm) (P : Nat → σ → Prop) (c₀ : σ)
    (hL : news = Led c₀) (S : PairSrcL prog w A E h₀ env.locals ItemKind.int as xv s m₀ news) (hadr : ∀ c, (Led c).map (·.1) = (Led c₀).map (·.1)) (hk : Knows m₀ (ps c₀)) (hp : P 0 c₀)
    (turn : ∀ (i : Nat) (d : σ) (a : Int) t t' (u : Str → Option Value) ts h tk own, as[i]? = some a → OwnOff own ((Led d).map (·.1)) → P i d →
      Fr h₀ env.locals h (fun y => if y = xc then some (.int a t') else if y = xi then some (.int (i : Nat) t) else KB u (ps d) ts y) → News h₀ env.locals h (Led d ++ own) →
      wpAny (model prog w) A (execs body env) (TPost h₀ env.locals (JS Led ps P (i + 1)) own { s with heap := h, toks := tk } Q) E { s with heap := h, toks := tk })
    (done : ∀ (d : σ) (u : Str → Option Value) ts h tk, P as.length d → Fr h₀ env.locals h (KB u (ps d) ts) → News h₀ env.locals h (Led d) → Q .next { s with heap := h, toks := tk }) :
    wpAny (model prog w) A (pyIter xv) (fun it s₂ => PairAt3 prog w A h₀ env xi xc body Q E it s₂) E s := by
  subst hL
  refine S env rfl xi xc body Q (JS Led ps P) ⟨c₀, rfl, hk, hp⟩ ?_ ?_
  · rintro i a t v m₁ news₁ s₁ own ⟨h, tk, rfl⟩ hi ⟨t', rfl⟩ ⟨d, rfl, h1, hp'⟩ ha hoff F₁ N₁
    have hoff' : OwnOff own ((Led d).map (·.1)) := by
      intro p hp b hb e
      rw [ha] at hb
      obtain ⟨q, hq, rfl⟩ := List.mem_map.mp hb
      exact hoff p hp q hq e
    have N₂ : News h₀ env.locals h (Led d ++ own) := fun p hp => N₁ p ((List.mem_append.mp hp).elim (fun h => List.mem_append.mpr (.inr h)) fun h => List.mem_append.mpr (.inl h))
    obtain ⟨ts, F₂⟩ := fr_known2 F₁ h1
    refine wpAny_mono (turn i d a t t' m₁ ts h tk own hi hoff' hp' F₂ N₂) (fun f s₂ p => ?_) fun _ _ e => e
    have fin : TEnd h₀ env.locals (JS Led ps P (i + 1)) own { s with heap := h, toks := tk } s₂ → LoopStep2 h₀ env.locals own (Led d) (JS Led ps P (i + 1)) { s with heap := h, toks := tk } .next s₂ := by
      rintro ⟨h', tk, m', nx', news', rfl, F', N', hn, ho, hd, c', rfl, hm⟩
      exact ⟨rfl, h', tk, m', _, rfl, F', fun p hp => N' p ((List.mem_append.mp hp).elim (ho p) (hn p)), by rw [hadr c', hadr d], c', rfl, hm⟩
    cases f with
    | ret v => exact p
    | brk => exact p
    | next => exact fin p
    | cont => exact fin p
  · rintro h' tk m' news' F' N' _ ⟨d, rfl, h1, hp'⟩
    obtain ⟨ts, F₂⟩ := fr_known F' h1
    exact done d m' ts h' tk hp' F₂ N'

theorem areInts {vs : List Value} {ns : List Int} (h : IntsAre vs ns) : AreOf ItemKind.int vs ns := by
  induction h with
  | nil => exact .nil
  | cons n t _ ih => exact .cons ⟨t, rfl⟩ ih

/-- enumerate over a list that stood ahead of the call -/
theorem l_enum {σ : Type} {as : List Int} {l : Addr} {vs : List Value} {xi xc : Str} {m₀ : Str → Option Value} {news₀ : Ledger} (Led : σ → Ledger) (ps : σ → List Nm) (P : Nat → σ → Prop) (c₀ : σ)
    (hh : A.handled = none) (hl : h₀.IsList l vs.toArray) (hi : IntsAre vs as)
    (F : Fr h₀ env.locals s.heap m₀) (N : News h₀ env.locals s.heap news₀) (hsub : ∀ p ∈ Led c₀, p ∈ news₀) (hadr : ∀ c, (Led c).map (·.1) = (Led c₀).map (·.1)) (hk : Knows m₀ (ps c₀)) (hp : P 0 c₀)
    (turn : ∀ (i : Nat) (d : σ) (a : Int) t t' (u : Str → Option Value) ts h tk own, as[i]? = some a → OwnOff own ((Led d).map (·.1)) → P i d →
      Fr h₀ env.locals h (fun y => if y = xc then some (.int a t') else if y = xi then some (.int (i : Nat) t) else KB u (ps d) ts y) → News h₀ env.locals h (Led d ++ own) →
      wpAny (model prog w) A (execs body env) (TPost h₀ env.locals (JS Led ps P (i + 1)) own { s with heap := h, toks := tk } Q) E { s with heap := h, toks := tk })
    (done : ∀ (d : σ) (u : Str → Option Value) ts h tk, P as.length d → Fr h₀ env.locals h (KB u (ps d) ts) → News h₀ env.locals h (Led d) → Q .next { s with heap := h, toks := tk }) :
    wpAny (model prog w) A (call (.type "enumerate") [.ref l]) (fun xv s₁ => wpAny (model prog w) A (pyIter xv) (fun it s₂ => PairAt3 prog w A h₀ env xi xc body Q E it s₂) E s₁) E s := by
  refine call_enum_list (K := ItemKind.int) (as := as) hh hl (areInts hi) F (kst_newsOf N hsub) fun h' e F' N' S => ?_
  exact l_pair (as := as) Led ps P c₀ rfl S hadr hk hp turn done
end

section
open PySem.Spec PyProof.Rows.LCg PyProof.Rows.LCp
section
variable {prog : Program} {w : World} {A : Around} {E : Value → Shared → Prop} {s : Shared} {h₀ : Heap} {L : Addr} {m : Str → Option Value} {env : Env}

/-- what a block over pairs asks behind its source -/
def PairSt (prog : Program) (w : World) (A : Around) (h₀ : Heap) (L : Addr) (m : Str → Option Value) (env : Env) (elt : Expr) (x x₂ : Str) (scope : Scope) (cl : List (Str × Addr)) (Q : Value → Shared → Prop) (it : Value) (s₂ : Shared) : Prop :=
  ∃ (I : Addr) (fp wr : List Addr) (n : Nat) (Pt : Nat → Array Value → Prop) (St : Nat → Heap → Prop) (Mid : Nat → Addr → Heap → Prop) (P2 : Nat → Value → Value → Prop) (news : Ledger) (G : Nat → Value → Prop),
    it = .ref I ∧ WalksT prog w A I fp wr n Pt St Mid ∧ (∀ i vals, Pt i vals → ∃ v0 v1, vals = #[v0, v1] ∧ P2 i v0 v1) ∧ n ≤ sizeLine ∧ St 0 s₂.heap ∧ (∀ b ∈ fp, b < s₂.heap.objs.size) ∧ Fr h₀ L s₂.heap m ∧ News h₀ L s₂.heap news ∧ L ∉ fp ∧ (∀ b ∈ wr, h₀.get? b = none) ∧ (∀ p ∈ news, p.1 ∉ wr) ∧
    (∀ i v0 v1 C m₂ (s₃ : Shared) (E' : Value → Shared → Prop), i < n → P2 i v0 v1 → s₃.heap.Ns C m₂ → m₂ x = some v0 → m₂ x₂ = some v1 → Fr h₀ L s₃.heap m → News h₀ L s₃.heap news →
      wpAny (model prog w) A (eval elt (compEnvC scope cl C env)) (fun y s₄ => G i y ∧ Keeps s₃ s₄) E' s₃) ∧
    ∀ D h' tk ys, Fr h₀ L h' m → News h₀ L h' ((D, lst ys) :: news) → (∀ p ∈ news, p.1 ≠ D) → ys.length = n → (∀ j y, ys[j]? = some y → G j y) → Q (.ref D) { s₂ with heap := h', toks := tk }

theorem ListComp_T {elt iter : Expr} {x x₂ : Str} {px px₂ tp : Pos} {tk} {scope : Scope} {cl : List (Str × Addr)} {pos : Pos} {Q : Value → Shared → Prop} (_F₀ : Fr h₀ L s.heap m) (hh : A.handled = none)
    (hclos : closureFor scope env = pure cl) (hcell : ∀ y ∈ scope.names, y.2 ≠ .cell) (hkind : scope.kind = .function)
    (hnames : ∀ y ∈ scope.names, y.2 = .local → scope.names.lookup y.1 = some .local) (hx : scope.names.lookup x = some .local) (hx₂ : scope.names.lookup x₂ = some .local) (hxx : x ≠ x₂)
    (h : wpAny (model prog w) A (eval iter env) (fun xv s₁ => wpAny (model prog w) A (pyIter xv) (PairSt prog w A h₀ L m env elt x x₂ scope cl Q) E s₁) E s)
    (hs : ∀ x, foldedSetIterable iter env x = pure x) :
    wpAny (model prog w) A (eval (.ListComp elt [⟨.Tuple [.Name x px, .Name x₂ px₂] tk tp, iter, [], 0⟩] scope pos) env) Q E s := by
  rw [eval_ListComp]
  refine wpAny_comprehension_free (use := none) rfl hs hclos hkind hnames (wpAny_mono h (fun xv s₁ h₁ => wpAny_mono h₁ (fun it s₂ h₂ => ?_) fun _ _ e => e) fun _ _ e => e)
  obtain ⟨I, fp, wr, n, Pt, St, Mid, P2, news, G, rfl, W, h2, hsz, hst, hfp, F, N, hLf, hwr, hnw, helt, hfin⟩ := h₂
  refine wpAny_newObj_type (wpAny_newFunctionEnv hcell (by intro y hy; simp at hy) (fun h₁ hns₁ hsb₁ => ?_) hkind)
  dsimp only at hns₁ hsb₁ ⊢
  generalize hH2 : s₂.heap.push { cls := .type "list", dict := none, data := .seq ([] : List Value).toArray } = H2 at hns₁ hsb₁ ⊢
  have hC : H2.objs.size = s₂.heap.objs.size + 1 := by rw [← hH2, Heap.size_push]
  have hDC : s₂.heap.objs.size ≠ H2.objs.size := by rw [hC]; exact Nat.ne_of_lt (Nat.lt_succ_self _)
  have below : ∀ b, b < s₂.heap.objs.size → b ≠ H2.objs.size ∧ b ≠ s₂.heap.objs.size := fun b hb => ⟨by rw [hC]; exact Nat.ne_of_lt (Nat.lt_succ_of_lt hb), Nat.ne_of_lt hb⟩
  have hDf : s₂.heap.objs.size ∉ fp := fun hm => Nat.lt_irrefl _ (hfp _ hm)
  have hCf : H2.objs.size ∉ fp := fun hm => by have := hfp _ hm; rw [hC] at this; exact Nat.lt_irrefl _ (Nat.lt_of_succ_lt this)
  have hCw : H2.objs.size ∉ wr := fun h => hCf (W.sub _ h)
  have hDw : s₂.heap.objs.size ∉ wr := fun h => hDf (W.sub _ h)
  have hLw : L ∉ wr := fun h => hLf (W.sub _ h)
  have old : ∀ b o, s₂.heap.get? b = some o → h₁.get? b = some o := fun b o e => hsb₁.extBut b o (below b (Heap.lt_size e)).1 (Heap.get?_push_of_some _ (hH2 ▸ Heap.get?_push_of_some _ e))
  have hacc : h₁.get? s₂.heap.objs.size = some (lst []) := hsb₁.extBut _ _ hDC (Heap.get?_push_of_some _ (hH2 ▸ Heap.get?_push_size _ rfl))
  have hst₁ : St 0 h₁ := W.frame _ _ _ hst fun b _ o e => old b o e
  have fresh : ∀ a, s₂.heap.objs.size ≤ a → s₂.heap.get? a = none := fun a ha => by
    cases e : s₂.heap.get? a with
    | none => rfl
    | some o' => exact absurd (Heap.lt_size e) (Nat.not_lt.mpr ha)
  have fresh₀ : ∀ a, s₂.heap.objs.size ≤ a → h₀.get? a = none := fun a ha => by
    cases e : h₀.get? a with
    | none => rfl
    | some o' => have := F.keep a o' e; rw [fresh a ha] at this; cases this
  have hD₀ : h₀.get? s₂.heap.objs.size = none := fresh₀ _ (Nat.le_refl _)
  have hC₀ : h₀.get? H2.objs.size = none := fresh₀ _ (by rw [hC]; exact Nat.le_succ _)
  have hLlt : L < s₂.heap.objs.size := F.ns.lt
  have hDL : s₂.heap.objs.size ≠ L := Ne.symm (below L hLlt).2
  have hCL : H2.objs.size ≠ L := Ne.symm (below L hLlt).1
  have offD : ∀ p ∈ news, p.1 ≠ s₂.heap.objs.size := fun p hp => (below _ (Heap.lt_size (N p hp).1)).2
  have offC : ∀ p ∈ news, p.1 ≠ H2.objs.size := fun p hp => (below _ (Heap.lt_size (N p hp).1)).1
  have old0 : ∀ b o, h₀.get? b = some o → b ∉ wr := fun b o e hb => by rw [hwr b hb] at e; cases e
  have loop : ∀ (R : Result → Shared → Prop), (∀ h₂ tk₂ m' ys, Fr h₀ L h₂ m → News h₀ L h₂ ((s₂.heap.objs.size, lst ys) :: news) → h₂.Ns H2.objs.size m' → ys.length = n → (∀ j y, ys[j]? = some y → G j y) → R (.ok .next) { s₂ with heap := h₂, toks := tk₂ }) → ∀ s₃ : Shared, s₃ = { s₂ with heap := h₁, toks := s₂.toks + ([] : List (Str × Value)).length } →
      codeAny (model prog w) A (.compLoop (.ListComp elt [⟨.Tuple [.Name x px, .Name x₂ px₂] tk tp, iter, [], 0⟩] scope pos) 0 (.ref I) (.ref s₂.heap.objs.size) (compEnvC scope cl H2.objs.size env)) R s₃ := by
    rintro R hR s₃ rfl
    refine codeAny_compLoop_pair
      (fun k s' => ∃ h' tk i ys m', s' = { s₂ with heap := h', toks := tk } ∧ i ≤ n ∧ k = n + 1 - i ∧ ys.length = i ∧ St i h' ∧ Fr h₀ L h' m ∧ h'.Ns H2.objs.size m' ∧ News h₀ L h' ((s₂.heap.objs.size, lst ys) :: news) ∧ (∀ j y, ys[j]? = some y → G j y)) ?_ (n + 1)
      ⟨h₁, _, 0, [], _, rfl, Nat.zero_le _, rfl, rfl, hst₁, F.keeps old, hns₁, fun p hp => ?_, fun j y e => by simp at e⟩
    · rintro k s' ⟨h', tk, i, ys, m', rfl, hi, rfl, hyl, hst', F', hn', N', hG⟩
      have next : ∀ h₂ : Heap, (∀ b o, b ∉ wr → h'.get? b = some o → h₂.get? b = some o) → Fr h₀ L h₂ m ∧ News h₀ L h₂ ((s₂.heap.objs.size, lst ys) :: news) := fun h₂ hk₂ =>
        ⟨⟨F'.ns.at' fun o e => hk₂ _ o hLw e, fun b o e => hk₂ b o (old0 b o e) (F'.keep b o e), F'.above⟩, fun p hp => ⟨hk₂ _ _ (by
          rcases List.mem_cons.mp hp with rfl | hp
          · exact hDw
          · exact hnw p hp) (N' p hp).1, (N' p hp).2⟩⟩
      by_cases hlt : i < n
      · refine W.item i _ _ _ hlt hst' fun T vals h₂ tk₂ hPt _ hT hMid hk₂ => ?_
        obtain ⟨v0, v1, rfl, hP2⟩ := h2 i vals hPt
        refine W.go _ _ _ i T _ _ _ hMid fun h₃ hst₃ hk₃ => ?_
        have ht₃ : h₃.IsTuple T #[v0, v1] := hT.at fun o e => hk₃ T o (W.apart i T h₂ hMid) e
        refine wpAny_assign_Tuple hh ht₃ rfl rfl fun h₄ hx₄ => ?_
        replace hx₄ : Heap.ExtBut h₃.objs.size h₃ h₄ := hx₄
        have up₄ : ∀ b o, h₃.get? b = some o → h₄.get? b = some o := fun b o x => hx₄ b o (Nat.ne_of_lt (Heap.lt_size x)) x
        have up : ∀ b o, b ∉ wr → h'.get? b = some o → h₄.get? b = some o := fun b o hb e => up₄ b o (hk₃ b o hb (hk₂ b o hb e))
        obtain ⟨F₄, N₄⟩ := next h₄ up
        refine assignInOrder_cons (wpAny_assign_Name (wpAny_storeName_local (lookup_relabel_local hx) (hn'.at' fun o e => up _ o hCw e) (fun h₅ hn₅ hs₅ => ?_) (by simp [compEnvC, relabel, hkind])))
        refine assignInOrder_cons (wpAny_assign_Name (wpAny_storeName_local (lookup_relabel_local hx₂) hn₅ (fun h₆ hn₆ hs₆ => ?_) (by simp [compEnvC, relabel, hkind])))
        refine assignInOrder_nil ?_
        have old6 : ∀ b o, b ≠ H2.objs.size → h₄.get? b = some o → h₆.get? b = some o := fun b o hb e => hs₆.extBut b o hb (hs₅.extBut b o hb e)
        have hst₆ : St (i + 1) h₆ := W.frame _ _ _ hst₃ fun b hb o e => old6 b o (fun q => hCf (by rw [← q]; exact hb)) (up₄ b o e)
        have F₆ : Fr h₀ L h₆ m := (F₄.change hs₅ hCL hC₀).change hs₆ hCL hC₀
        have N₆ : News h₀ L h₆ ((s₂.heap.objs.size, lst ys) :: news) := fun p hp => ⟨old6 _ _ (by
          rcases List.mem_cons.mp hp with rfl | hp
          · exact hDC
          · exact offC p hp) (N₄ p hp).1, (N₄ p hp).2⟩
        refine wpAny_mono (helt i v0 v1 H2.objs.size _ _ _ hlt hP2 hn₆ (by simp [hxx]) (by simp) F₆ (fun p hp => N₆ p (.tail _ hp))) (fun y s₇ h₇ => ?_) fun _ _ e => e
        obtain ⟨hGy, h₇, tk₇, rfl, hk₇⟩ := h₇
        have zD := hk₇ _ _ (N₆ _ (.head _)).1
        refine append_at (hsz := by show ys.toArray.size ≤ sizeLine; rw [List.size_toArray, hyl]; exact Nat.le_trans hi hsz) zD fun h₈ hs₈ hD₈ => ?_
        refine ⟨n + 1 - (i + 1), by omega, h₈, tk₇, i + 1, ys ++ [y], _, rfl, hlt, rfl, by rw [List.length_append, List.length_singleton, hyl], W.frame _ _ _ hst₆ fun b hb o e => hs₈.extBut b o (fun q => hDf (q ▸ hb)) (hk₇ b o e), (F₆.keeps hk₇).change hs₈ hDL hD₀,
          (hn₆.keeps hk₇).sameBut hs₈ (Ne.symm hDC), fun p hp => ?_, fun j u hj => ?_⟩
        · rcases List.mem_cons.mp hp with rfl | hp
          · exact ⟨hD₈.trans (congrArg some (lst_snoc ys y)), hDL, hD₀⟩
          · have z := N₆ p (.tail _ hp)
            exact ⟨hs₈.extBut _ _ (offD p hp) (hk₇ _ _ z.1), z.2⟩
        · rcases Nat.lt_trichotomy j ys.length with h | h | h
          · exact hG j u (by rwa [List.getElem?_append_left h] at hj)
          · subst h; simp at hj; subst hj; rw [hyl]; exact hGy
          · have hnone : (ys ++ [y])[j]? = none := List.getElem?_eq_none (by rw [List.length_append, List.length_singleton]; omega)
            rw [hnone] at hj; cases hj
      · obtain rfl : i = n := Nat.le_antisymm hi (Nat.not_lt.mp hlt)
        refine W.done _ _ _ hst' fun h₂ tk₂ hk₂ => ?_
        obtain ⟨F₂, N₂⟩ := next h₂ hk₂
        exact hR h₂ tk₂ m' ys F₂ N₂ (hn'.at' fun o e => hk₂ _ o hCw e) hyl hG
    · rcases List.mem_cons.mp hp with rfl | hp
      · exact ⟨hacc, hDL, hD₀⟩
      · exact ⟨old _ _ (N p hp).1, (N p hp).2⟩
  refine codeAny_compStart_list (loop _ ?_ _ rfl) (W.self 0 _ _ _ hst₁ (loop _ ?_ _ rfl))
  all_goals
    intro h₂ tk₂ m' ys F₂ N₂ hn₂ hyl hG
    refine ⟨m', hn₂, fun h'' hs'' => ?_⟩
    refine hfin s₂.heap.objs.size h'' tk₂ ys (F₂.change hs'' hCL hC₀) (fun p hp => ?_) offD hyl hG
    refine ⟨hs''.extBut _ _ ?_ (N₂ p hp).1, (N₂ p hp).2⟩
    rcases List.mem_cons.mp hp with rfl | hp
    · exact hDC
    · exact offC p hp

theorem pst_enum {elt : Expr} {x x₂ : Str} {scope : Scope} {cl : List (Str × Addr)} {Q : Value → Shared → Prop} {l : Addr} {vs : List Value} {as : List Int} {news : Ledger} (G : Nat → Value → Prop) (hh : A.handled = none)
    (hl : s.heap.IsList l vs.toArray) (hi : IntsAre vs as) (hlL : l ≠ L) (hsz : as.length ≤ sizeLine) (F : Fr h₀ L s.heap m) (N : News h₀ L s.heap news)
    (helt : ∀ i a t t' C m₂ (s₃ : Shared) (E' : Value → Shared → Prop), as[i]? = some a → s₃.heap.Ns C m₂ → m₂ x = some (.int (i : Nat) t) → m₂ x₂ = some (.int a t') → Fr h₀ L s₃.heap m → News h₀ L s₃.heap news →
      wpAny (model prog w) A (eval elt (compEnvC scope cl C env)) (fun y s₄ => G i y ∧ Keeps s₃ s₄) E' s₃)
    (hfin : ∀ D h' tk ys, Fr h₀ L h' m → News h₀ L h' ((D, lst ys) :: news) → (∀ p ∈ news, p.1 ≠ D) → ys.length = as.length → (∀ j y, ys[j]? = some y → G j y) → Q (.ref D) { s with heap := h', toks := tk }) :
    wpAny (model prog w) A (call (.type "enumerate") [.ref l]) (fun xv s₁ => wpAny (model prog w) A (pyIter xv) (PairSt prog w A h₀ L m env elt x x₂ scope cl Q) E s₁) E s := by
  obtain ⟨ol, hol, _⟩ := id hl
  have hlt : l < s.heap.objs.size := Heap.lt_size hol
  have hLs : L < s.heap.objs.size := F.ns.lt
  have hab : h₀.objs.size ≤ L := F.above
  refine call_enumerate_list hl fun h' he hit hz hk => ?_
  refine wpAny_pyIter_enum he ?_
  have hlen : vs.toArray.size = as.length := by simp [hi.length]
  refine ⟨_, _, _, vs.toArray.size, _, _, _, (fun i v0 v1 => ∃ t, v0 = .int (i : Nat) t ∧ ∃ a t', as[i]? = some a ∧ v1 = .int a t'), news, G, rfl,
    WalksT.enumerate hh (s.heap.objs.size + 1) s.heap.objs.size l (Nat.succ_ne_self _) (Nat.ne_of_lt (Nat.lt_succ_of_lt hlt)) (Nat.ne_of_lt hlt) vs.toArray, ?_, by rw [hlen]; exact hsz, ⟨⟨_, by simpa using he⟩, hit, hl.at fun o e => hk l o e⟩, ?_, F.keeps hk, N.grown hk, ?_, ?_, ?_, ?_, ?_⟩
  · rintro i vals ⟨t, x, hx, rfl⟩
    obtain ⟨a, ha, t', rfl⟩ := hi.areOf.get i x (by simpa using hx)
    exact ⟨_, _, rfl, t, rfl, a, t', ha, rfl⟩
  · intro b hb
    show b < h'.objs.size
    rw [hz]
    simp only [List.mem_cons, List.not_mem_nil, or_false] at hb
    rcases hb with rfl | rfl | rfl
    · exact Nat.lt_succ_self _
    · exact Nat.lt_succ_of_lt (Nat.lt_succ_self _)
    · exact Nat.lt_succ_of_lt (Nat.lt_succ_of_lt hlt)
  · intro hm
    simp only [List.mem_cons, List.not_mem_nil, or_false] at hm
    rcases hm with e | e | e
    · exact Nat.ne_of_lt (Nat.lt_succ_of_lt hLs) e
    · exact Nat.ne_of_lt hLs e
    · exact hlL e.symm
  · intro b hb
    simp only [List.mem_cons, List.not_mem_nil, or_false] at hb
    rcases hb with rfl | rfl
    · exact Heap.get?_none_of_le (Nat.le_trans hab (Nat.le_of_lt (Nat.lt_succ_of_lt hLs)))
    · exact Heap.get?_none_of_le (Nat.le_trans hab (Nat.le_of_lt hLs))
  · intro p hp hm
    have hq1 : p.1 < s.heap.objs.size := Heap.lt_size (N p hp).1
    simp only [List.mem_cons, List.not_mem_nil, or_false] at hm
    rcases hm with e | e
    · exact Nat.ne_of_lt (Nat.lt_succ_of_lt hq1) e
    · exact Nat.ne_of_lt hq1 e
  · rintro i v0 v1 C m₂ s₃ E' hin ⟨t, rfl, a, t', ha, rfl⟩ hn h1 h2 F₃ N₃
    exact helt i a t t' C m₂ s₃ E' ha hn h1 h2 F₃ N₃
  · intro D h'' tk ys F' N' ho hyl hG
    exact hfin D h'' tk ys F' N' ho (by rw [hyl, hlen]) hG

theorem pst_zip {elt : Expr} {x x₂ : Str} {scope : Scope} {cl : List (Str × Addr)} {Q : Value → Shared → Prop} {l1 l2 : Addr} {vs ws : List Value} {as bs : List Int} {news : Ledger} (G : Nat → Value → Prop) (hh : A.handled = none)
    (hl1 : s.heap.IsList l1 vs.toArray) (hl2 : s.heap.IsList l2 ws.toArray) (hi1 : IntsAre vs as) (hi2 : IntsAre ws bs) (hL1 : l1 ≠ L) (hL2 : l2 ≠ L) (hsz : as.length ≤ sizeLine) (F : Fr h₀ L s.heap m) (N : News h₀ L s.heap news)
    (helt : ∀ i a b t t' C m₂ (s₃ : Shared) (E' : Value → Shared → Prop), as[i]? = some a → bs[i]? = some b → s₃.heap.Ns C m₂ → m₂ x = some (.int a t) → m₂ x₂ = some (.int b t') → Fr h₀ L s₃.heap m → News h₀ L s₃.heap news →
      wpAny (model prog w) A (eval elt (compEnvC scope cl C env)) (fun y s₄ => G i y ∧ Keeps s₃ s₄) E' s₃)
    (hfin : ∀ D h' tk ys, Fr h₀ L h' m → News h₀ L h' ((D, lst ys) :: news) → (∀ p ∈ news, p.1 ≠ D) → ys.length = min as.length bs.length → (∀ j y, ys[j]? = some y → G j y) → Q (.ref D) { s with heap := h', toks := tk }) :
    wpAny (model prog w) A (call (.type "zip") [.ref l1, .ref l2]) (fun xv s₁ => wpAny (model prog w) A (pyIter xv) (PairSt prog w A h₀ L m env elt x x₂ scope cl Q) E s₁) E s := by
  have hlt1 : l1 < s.heap.objs.size := by obtain ⟨_, e, _⟩ := hl1; exact Heap.lt_size e
  have hlt2 : l2 < s.heap.objs.size := by obtain ⟨_, e, _⟩ := hl2; exact Heap.lt_size e
  have hLs : L < s.heap.objs.size := F.ns.lt
  have hab : h₀.objs.size ≤ L := F.above
  have hlen1 : vs.toArray.size = as.length := by simp [hi1.length]
  have hlen2 : ws.toArray.size = bs.length := by simp [hi2.length]
  have fresh : ∀ k, h₀.get? (s.heap.objs.size + k) = none := fun k => Heap.get?_none_of_le (Nat.le_trans hab (Nat.le_of_lt (Nat.lt_of_lt_of_le hLs (Nat.le_add_right _ k))))
  refine call_zip_2 hl1 hl2 fun h' hz hTI hTO hi1' hi2' hsz' hk => ?_
  refine wpAny_pyIter_zip hz ?_
  refine ⟨_, _, _, min vs.toArray.size ws.toArray.size, _, _, _, (fun i v0 v1 => ∃ a t b t', as[i]? = some a ∧ bs[i]? = some b ∧ v0 = .int a t ∧ v1 = .int b t'), news, G, rfl,
    WalksT.zip2 hh (s.heap.objs.size + 4) (s.heap.objs.size + 2) (s.heap.objs.size + 3) s.heap.objs.size (s.heap.objs.size + 1) l1 l2 (zipApart_new hlt1 hlt2) vs.toArray ws.toArray, ?_, by rw [hlen1, hlen2]; exact Nat.le_trans (Nat.min_le_left _ _) hsz, ⟨hz, hTI, ⟨_, _, hTO⟩, hi1', hi2', hl1.at fun o e => hk _ o e, hl2.at fun o e => hk _ o e⟩, ?_, F.keeps hk, N.grown hk, ?_, ?_, ?_, ?_, ?_⟩
  · rintro i vals ⟨x, y, hx, hy, rfl⟩
    obtain ⟨a, ha, t, rfl⟩ := hi1.areOf.get i x (by simpa using hx)
    obtain ⟨b, hb, t', rfl⟩ := hi2.areOf.get i y (by simpa using hy)
    exact ⟨_, _, rfl, a, t, b, t', ha, hb, rfl, rfl⟩
  · intro b hb
    show b < h'.objs.size
    rw [hsz']
    simp only [List.mem_cons, List.not_mem_nil, or_false] at hb
    have hlt1' : @LT.lt Nat _ l1 s.heap.objs.size := hlt1
    have hlt2' : @LT.lt Nat _ l2 s.heap.objs.size := hlt2
    rcases hb with rfl | rfl | rfl | rfl | rfl | rfl | rfl <;> (show @LT.lt Nat _ _ _) <;> omega
  · intro hm
    simp only [List.mem_cons, List.not_mem_nil, or_false] at hm
    have hLs' : @LT.lt Nat _ L s.heap.objs.size := hLs
    rcases hm with e | e | e | e | e | e | e
    · have e : @Eq Nat L (s.heap.objs.size + 4) := e
      omega
    · have e : @Eq Nat L (s.heap.objs.size + 2) := e
      omega
    · have e : @Eq Nat L (s.heap.objs.size + 3) := e
      omega
    · have e : @Eq Nat L s.heap.objs.size := e
      omega
    · have e : @Eq Nat L (s.heap.objs.size + 1) := e
      omega
    · exact hL1 e.symm
    · exact hL2 e.symm
  · intro b hb
    simp only [List.mem_cons, List.not_mem_nil, or_false] at hb
    rcases hb with rfl | rfl | rfl | rfl
    · exact fresh 4
    · exact fresh 3
    · exact fresh 0
    · exact fresh 1
  · intro p hp hm
    have hq1 : @LT.lt Nat _ p.1 s.heap.objs.size := Heap.lt_size (N p hp).1
    simp only [List.mem_cons, List.not_mem_nil, or_false] at hm
    rcases hm with e | e | e | e <;> have e : @Eq Nat p.1 _ := e <;> omega
  · rintro i v0 v1 C m₂ s₃ E' hin ⟨a, t, b, t', ha, hb, rfl, rfl⟩ hn h1 h2 F₃ N₃
    exact helt i a b t t' C m₂ s₃ E' ha hb hn h1 h2 F₃ N₃
  · intro D h'' tk ys F' N' ho hyl hG
    exact hfin D h'' tk ys F' N' ho (by rw [hyl, hlen1, hlen2]) hG

theorem ints_by : ∀ {ys : List Value} {n : Nat} (g : Nat → Int), ys.length = n → (∀ j y, ys[j]? = some y → ∃ t, y = Value.int (g j) t) → IntsAre ys ((List.range n).map g)
  | [], n, g, h, _ => by subst h; exact .nil
  | y :: r, n, g, h, k => by
    subst h
    obtain ⟨t, rfl⟩ := k 0 y rfl
    rw [List.length_cons, List.range_succ_eq_map, List.map_cons, List.map_map]
    exact .cons _ _ (ints_by (fun j => g (j + 1)) rfl fun j y hy => k (j + 1) y (by simpa using hy))
end
end

theorem filled0 : PySem.Challenge.rw_sa0337_01 = PySem.Challenge.rw_sa0337_01 ∧ hd.heap_39 = hd.heap_39 := by
  w_top off
  k_fill
  exact ⟨rfl, rfl⟩

local macro_rules | `(tactic| k_all) => `(tactic| with_reducible assumption)

section
section
variable {w : World} {E : Value → Shared → Prop} {s : Shared} {p : Program} {loose : List Str} {mean : ExcName → Option Value} {mg mb : Str → Option Value} {dp un : Nat} {fr : Option (List Env)} {gd : Option (List Code)}

theorem c_normal {Q : Value → Shared → Prop} {la : Addr} {xs : List Int} (X : Frag.In (hd.heap_39 w.params) s.heap) (T : Top p loose mean mg mb s.heap) (hd : dp + 1 < recursionLimit)
    (ha : Ints s.heap la xs) (hlen : xs.length < 1000) (hret : RetInts s Q (strip xs)) :
    wpAny (model PG w) (Ar dp un fr gd) (call (.ref 46) [.ref la]) Q E s := by
  obtain ⟨va, hla, hia⟩ := ha
  refine' enter [("a", .ref la)] X T ?k6 ?k7 ?k8 ?k9 ?kB ?kP ?c2 ?c3 ?c4 ?c5 ?_
  (((case k6 => k_is); (case k7 => k_is); (case k8 => exact room0 (by assumption)); (case k9 => exact rfl); (case kB => exact locs rfl); (case kP => kst_all); (case c2 => exact rfl); (case c3 => exact rfl); (case c4 => exact rfl); (case c5 => decide); intro _ _ _ _ _ _ _ _; (try dsimp only)))
  (repeat' ((fail_if_success (with_reducible (first | refine sFor ?_ | refine sWhile ?_ | refine sIter ?_ | refine sEnum ?_ | refine sZip ?_ | refine sCall ?_ | refine sComp ?_ | refine sAComp ?_ | refine sCSrc ?_))); (first | (k_unfold; (try dsimp only)) | walk1 | (dsimp only; walk1) | (leave1; walk_say "STEP leave1"; try dsimp only))))
  rename Fr _ _ _ _ => F
  rename News _ _ _ _ => N
  refine' my_while (σ := Nat) (fun _ => []) (fun e => [rN "a" la, iN "end" (e : Int)]) (fun e => e ≤ xs.length ∧ ∀ i, e ≤ i → i < xs.length → xs[i]? = some 0) (fun e => e) xs.length F N ?_ ?_ ?_ PassesOwn.never
  · (repeat (first | exact Knows.nil | refine Knows.cons' ⟨0, by with_unfolding_all rfl⟩ ?_ | refine Knows.cons' ⟨_, by with_unfolding_all rfl⟩ ?_ | refine Knows.consI (by with_unfolding_all rfl) (by first | omega | (simp; done) | (simp; omega)) ?_))
  · exact ⟨Nat.le_refl _, fun i h1 h2 => by omega⟩
  · rintro e u ts h tk ⟨he, hz⟩ F1 N1
    clear F N
    dsimp only at F1 N1 he hz ⊢
    (repeat' ((fail_if_success (with_reducible (first | refine sFor ?_ | refine sWhile ?_ | refine sIter ?_ | refine sEnum ?_ | refine sZip ?_ | refine sCall ?_ | refine sComp ?_ | refine sAComp ?_ | refine sCSrc ?_))); (first | (k_unfold; (try dsimp only)) | walk1 | (dsimp only; walk1) | (leave1; walk_say "STEP leave1"; try dsimp only))))
    all_goals rename Fr _ _ _ _ => F
    all_goals rename News _ _ _ _ => N
    all_goals dsimp only
    · have h0 : 0 < (e : Int) := by assumption
      have h1 : xs.getD ((e : Int) - 1).toNat 0 = 0 := by assumption
      have e1 : ((e - 1 : Nat) : Int) = (e : Int) - 1 := by omega
      refine w_end' (e - 1) F N (fun _ h => nomatch h) (by rw [e1]; (repeat (first | exact Knows.nil | refine Knows.cons' ⟨0, by with_unfolding_all rfl⟩ ?_ | refine Knows.cons' ⟨_, by with_unfolding_all rfl⟩ ?_ | refine Knows.consI (by with_unfolding_all rfl) (by first | omega | (simp; done) | (simp; omega)) ?_))) ⟨by omega, fun i h2 h3 => ?_⟩ (by omega)
      by_cases hi : e ≤ i
      · exact hz i hi h3
      · have hi' : i = ((e : Int) - 1).toNat := by omega
        rw [List.getD_eq_getElem?_getD, ← hi'] at h1
        rw [List.getElem?_eq_getElem h3] at h1 ⊢
        exact congrArg some h1
    · have h0 : 0 < (e : Int) := by assumption
      have h1 : xs.getD ((e : Int) - 1).toNat 0 ≠ 0 := by assumption
      refine ret_ints hret F N (.head _) (by assumption) (strip_take he hz (.inr ?_)).symm
      have hi' : e - 1 = ((e : Int) - 1).toNat := (Int.toNat_sub e 1).symm
      rw [hi']; exact h1
    · have h0 : ¬ 0 < (e : Int) := by assumption
      exact ret_ints hret F N (.head _) (by assumption) (strip_take he hz (.inl (by omega))).symm

theorem c_limbs {Q : Value → Shared → Prop} {n W : Nat} {tn tw : Tok} (X : Frag.In (hd.heap_39 w.params) s.heap) (T : Top p loose mean mg mb s.heap) (hd : dp + 1 < recursionLimit)
    (hW : 1 ≤ W ∧ W ≤ 9) (hn : n < 2 ^ 60) (hret : RetInts s Q (limbs W n)) :
    wpAny (model PG w) (Ar dp un fr gd) (call (.ref 165) [.int (n : Int) tn, .int (W : Int) tw]) Q E s := by
  refine' enter [("number", .int (n : Int) tn), ("w", .int (W : Int) tw)] X T ?k6 ?k7 ?k8 ?k9 ?kB ?kP ?c2 ?c3 ?c4 ?c5 ?_
  (((case k6 => k_is); (case k7 => k_is); (case k8 => exact room0 (by assumption)); (case k9 => exact rfl); (case kB => exact locs rfl); (case kP => kst_all); (case c2 => exact rfl); (case c3 => exact rfl); (case c4 => exact rfl); (case c5 => decide); intro _ _ _ _ _ _ _ _; (try dsimp only)))
  (repeat' ((fail_if_success (with_reducible (first | refine sFor ?_ | refine sWhile ?_ | refine sIter ?_ | refine sEnum ?_ | refine sZip ?_ | refine sCall ?_ | refine sComp ?_ | refine sAComp ?_ | refine sCSrc ?_))); (first | (k_unfold; (try dsimp only)) | walk1 | (dsimp only; walk1) | (leave1; walk_say "STEP leave1"; try dsimp only))))
  rename Fr _ _ _ _ => F
  rename News _ _ _ _ => N
  rename_i lf _ _ _
  refine' my_while (σ := Nat × LI) (fun c => [(lf, listOf c.2.vs.toArray c.2.n)]) (fun c => [iN "number" (c.1 : Int), iN "w" (W : Int), rN "found" lf]) (fun c => IntsAre c.2.vs c.2.xs ∧ c.2.xs ++ limbs W c.1 = limbs W n) (fun c => c.1) (n, ⟨[], [], 0⟩) F N ?_ ?_ ?_ PassesOwn.never
  · (repeat (first | exact Knows.nil | refine Knows.cons' ⟨0, by with_unfolding_all rfl⟩ ?_ | refine Knows.cons' ⟨_, by with_unfolding_all rfl⟩ ?_ | refine Knows.consI (by with_unfolding_all rfl) (by first | omega | (simp; done) | (simp; omega)) ?_))
  · exact ⟨.nil, rfl⟩
  · rintro ⟨m, vs, xs, k⟩ u ts h tk ⟨hi, hl⟩ F1 N1
    clear F N
    dsimp only at F1 N1 hi hl ⊢
    have hlen : xs.length ≤ 60 := by
      have h1 := limbs_len hW.1 hn
      rw [← hl, List.length_append] at h1
      omega
    (repeat' ((fail_if_success (with_reducible (first | refine sFor ?_ | refine sWhile ?_ | refine sIter ?_ | refine sEnum ?_ | refine sZip ?_ | refine sCall ?_ | refine sComp ?_ | refine sAComp ?_ | refine sCSrc ?_))); (first | (k_unfold; (try dsimp only)) | walk1 | (dsimp only; walk1) | (leave1; walk_say "STEP leave1"; try dsimp only))))
    all_goals rename Fr _ _ _ _ => F
    all_goals rename News _ _ _ _ => N
    all_goals dsimp only
    · have h0 : 0 < (m : Int) := by assumption
      have e1 : (m : Int).fdiv (2 ^ ((W : Int)).toNat) = ((m / 2 ^ W : Nat) : Int) := by
        rw [fdiv_pow, Int.natCast_ediv, pow_nat]; rfl
      have e2 : (m : Int).fmod (2 ^ ((W : Int)).toNat) = ((m % 2 ^ W : Nat) : Int) := by
        rw [fmod_pow, Int.natCast_emod, pow_nat]; rfl
      simp only [List.push_toArray] at N
      rw [e2] at N
      rw [e1] at F
      refine w_end' (m / 2 ^ W, ⟨_, xs ++ [((m % 2 ^ W : Nat) : Int)], _⟩) F N (fun _ h => h) (by (repeat (first | exact Knows.nil | refine Knows.cons' ⟨0, by with_unfolding_all rfl⟩ ?_ | refine Knows.cons' ⟨_, by with_unfolding_all rfl⟩ ?_ | refine Knows.consI (by with_unfolding_all rfl) (by first | omega | (simp; done) | (simp; omega)) ?_))) ⟨hi.append (.cons _ _ .nil), ?_⟩ ?_
      · dsimp only
        rw [← hl, limbs_pos hW.1 (by omega : m ≠ 0), List.append_assoc]; rfl
      · exact Nat.div_lt_self (by omega) (Nat.one_lt_two_pow (by omega))
    · have h0 : ¬ 0 < (m : Int) := by assumption
      refine ret_ints hret F N (.head _) hi ?_
      have : m = 0 := by omega
      subst this
      rw [← hl, limbs_zero, List.append_nil]
end
end

section
section
variable {w : World} {E : Value → Shared → Prop} {s : Shared} {p : Program} {loose : List Str} {mean : ExcName → Option Value} {mg mb : Str → Option Value} {dp un : Nat} {fr : Option (List Env)} {gd : Option (List Code)}

/-- one turn of the inner loop of the school's product -/
theorem mul_turn {W i j : Nat} {fs : List Int} {c x y N0 Y : Int} (hi : i + j < fs.length) (hd : Dig W fs) (hc : 0 ≤ c ∧ c < 2 ^ W) (hx : 0 ≤ x ∧ x < 2 ^ W) (hy : 0 ≤ y ∧ y < 2 ^ W)
    (h : num W fs + 2 ^ (W * (i + j)) * c = N0 + 2 ^ (W * i) * x * Y) :
    let v := c + (fs.getD (i + j) 0 + x * y)
    0 ≤ v ∧ 0 ≤ v / 2 ^ W ∧ v / 2 ^ W < 2 ^ W ∧ Dig W (fs.set (i + j) (v % 2 ^ W)) ∧
      num W (fs.set (i + j) (v % 2 ^ W)) + 2 ^ (W * (i + (j + 1))) * (v / 2 ^ W) = N0 + 2 ^ (W * i) * x * (Y + 2 ^ (W * j) * y) := by
  intro v
  obtain ⟨f0, f1⟩ := hd.getD (i + j)
  have hp := pow_pos' W
  have hxy := Int.mul_nonneg hx.1 hy.1
  have hxy2 : x * y ≤ (2 ^ W - 1) * (2 ^ W - 1) := by
    refine Int.le_trans (Int.mul_le_mul_of_nonneg_right (by omega : x ≤ 2 ^ W - 1) hy.1) (Int.mul_le_mul_of_nonneg_left (by omega : y ≤ 2 ^ W - 1) (by omega))
  have hv0 : 0 ≤ v := by show 0 ≤ c + (fs.getD (i + j) 0 + x * y); omega
  have hv1 : v < 2 ^ W * 2 ^ W := by
    have e : ((2 : Int) ^ W - 1) * (2 ^ W - 1) = 2 ^ W * 2 ^ W - 2 * 2 ^ W + 1 := by grind
    show c + (fs.getD (i + j) 0 + x * y) < 2 ^ W * 2 ^ W
    omega
  have hm := Int.emod_nonneg v (Int.ne_of_gt hp)
  have hm2 := Int.emod_lt_of_pos v hp
  refine ⟨hv0, Int.ediv_nonneg hv0 (Int.le_of_lt hp), Int.ediv_lt_of_lt_mul hp hv1, hd.set _ hm hm2, ?_⟩
  rw [num_set W _ _ _ hi]
  have e1 : W * (i + (j + 1)) = W + W * (i + j) := by rw [← Nat.add_assoc, Nat.mul_succ, Nat.add_comm]
  have e2 : (2 : Int) ^ (W * (i + j)) = 2 ^ (W * i) * 2 ^ (W * j) := by rw [Nat.mul_add, Int.pow_add]
  have e3 := Int.emod_add_mul_ediv v (2 ^ W)
  rw [e1, Int.pow_add]
  have e4 : v = c + (fs.getD (i + j) 0 + x * y) := rfl
  generalize v % 2 ^ W = m at *
  generalize v / 2 ^ W = q at *
  generalize fs.getD (i + j) 0 = f at *
  generalize (2 : Int) ^ (W * (i + j)) = P at *
  generalize (2 : Int) ^ (W * i) = P1 at *
  generalize (2 : Int) ^ (W * j) = P2 at *
  generalize (2 : Int) ^ W = M at *
  clear hv0 hv1 hm hm2 hxy hxy2
  subst e2
  grind

theorem c_mul {Q : Value → Shared → Prop} {la lb : Addr} {A B W : Nat} {tw : Tok} (X : Frag.In (hd.heap_39 w.params) s.heap) (T : Top p loose mean mg mb s.heap) (hd : dp + 5 < recursionLimit)
    (hW : 1 ≤ W ∧ W ≤ 9) (ha : Ints s.heap la (limbs W A)) (hb : Ints s.heap lb (limbs W B)) (hA : A < 2 ^ 300) (hB : B < 2 ^ 300) (hret : RetInts s Q (limbs W (A * B))) :
    wpAny (model PG w) (Ar dp un fr gd) (call (.ref 151) [.ref la, .ref lb, .int (W : Int) tw]) Q E s := by
  obtain ⟨va, hla, hia⟩ := ha
  obtain ⟨vb, hlb, hib⟩ := hb
  have hxl := limbs_len hW.1 hA
  have hyl := limbs_len hW.1 hB
  have hxd := dig_limbs W A
  have hyd := dig_limbs W B
  have hxn := num_limbs hW.1 A
  have hyn := num_limbs hW.1 B
  generalize limbs W A = xs at *
  generalize limbs W B = ys at *
  have hM : (2 : Int) ^ W ≤ 512 := by
    rw [← pow_nat]
    exact Int.ofNat_le.mpr (Nat.pow_le_pow_right (by decide) hW.2 : 2 ^ W ≤ 2 ^ 9)
  have hM0 := pow_pos' W
  refine' enter [("a", .ref la), ("b", .ref lb), ("w", .int (W : Int) tw)] X T ?k6 ?k7 ?k8 ?k9 ?kB ?kP ?c2 ?c3 ?c4 ?c5 ?_
  (((case k6 => k_is); (case k7 => k_is); (case k8 => exact room0 (by assumption)); (case k9 => exact rfl); (case kB => exact locs rfl); (case kP => kst_all); (case c2 => exact rfl); (case c3 => exact rfl); (case c4 => exact rfl); (case c5 => decide); intro _ _ _ _ _ _ _ _; (try dsimp only)))
  (repeat' ((fail_if_success (with_reducible (first | refine sFor ?_ | refine sWhile ?_ | refine sIter ?_ | refine sEnum ?_ | refine sZip ?_ | refine sCall ?_ | refine sComp ?_ | refine sAComp ?_ | refine sCSrc ?_))); (first | (k_unfold; (try dsimp only)) | walk1 | (dsimp only; walk1) | (leave1; walk_say "STEP leave1"; try dsimp only))))
  rename Fr _ _ _ _ => F
  rename News _ _ _ _ => N
  rename_i lf _ hi0 n1 hs1 he1 _ hn1 _ _ _ _ _ _ _
  have hn1 : n1 = xs.length + ys.length := by have := hn1 (by omega); omega
  have hz0 : ∀ x ∈ (List.replicate ((xs.length : Int) + ys.length).toNat [(0 : Int)]).flatten, x = 0 := by
    intro x hx
    obtain ⟨l, hl, hx⟩ := List.mem_flatten.mp hx
    rw [List.eq_of_mem_replicate hl] at hx
    exact List.mem_singleton.mp hx
  refine For_pair3 s.heap rfl rfl rfl rfl ?_ (by intro _; rfl) PassesOwn.never
  (repeat' ((fail_if_success (with_reducible (first | refine sFor ?_ | refine sWhile ?_ | refine sIter ?_ | refine sEnum ?_ | refine sZip ?_ | refine sCall ?_ | refine sComp ?_ | refine sAComp ?_ | refine sCSrc ?_))); (first | (k_unfold; (try dsimp only)) | walk1 | (dsimp only; walk1) | (leave1; walk_say "STEP leave1"; try dsimp only))))
  refine l_enum (σ := LI) (fun c => [(lf, listOf c.vs.toArray c.n)]) (fun _ => [rN "a" la, rN "b" lb, iN "w" (W : Int), rN "found" lf, iN "mask" (2 ^ W - 1)])
    (fun i c => IntsAre c.vs c.xs ∧ c.xs.length = xs.length + ys.length ∧ Dig W c.xs ∧ num W c.xs = num W (xs.take i) * num W ys ∧ ∀ k, i + ys.length ≤ k → c.xs.getD k 0 = 0) ⟨_, (List.replicate ((xs.length : Int) + ys.length).toNat [(0 : Int)]).flatten, 0⟩ rfl hla hia F N (by intro q hq; rw [List.mem_singleton.mp hq]; exact .tail _ (.head _)) (fun _ => rfl) (by (repeat (first | exact Knows.nil | refine Knows.cons' ⟨0, by with_unfolding_all rfl⟩ ?_ | refine Knows.cons' ⟨_, by with_unfolding_all rfl⟩ ?_ | refine Knows.consI (by with_unfolding_all rfl) (by first | omega | (simp; done) | (simp; omega)) ?_))) ⟨hi0, by show List.length _ = _; rw [he1, hn1], ?_, ?_, ?_⟩ ?_ ?_
  · intro x hx; rw [hz0 x hx]; exact ⟨Int.le_refl _, hM0⟩
  · show num W _ = _
    rw [num_zeros hz0]; simp [num]
  · intro k _
    show List.getD _ k 0 = 0
    rw [List.getD_eq_getElem?_getD]
    cases e : (List.replicate ((xs.length : Int) + ys.length).toNat [(0 : Int)]).flatten[k]? with
    | none => rfl
    | some x => exact hz0 x (List.mem_of_getElem? e)
  · rintro i ⟨vs, fs, n⟩ x t t' u ts h tk own hx hoff ⟨hi, hl, hd1, hn, hz⟩ F1 N1
    obtain ⟨hx1, hx2⟩ := hxd x (List.mem_of_getElem? hx)
    have hix : i < xs.length := (List.getElem?_eq_some_iff.mp hx).1
    clear F N hz0 hi0
    try clear hn1
    try clear hs1
    try clear he1
    dsimp only at F1 N1 hi hl hd1 hn hz hoff ⊢
    (repeat' ((fail_if_success (with_reducible (first | refine sFor ?_ | refine sWhile ?_ | refine sIter ?_ | refine sEnum ?_ | refine sZip ?_ | refine sCall ?_ | refine sComp ?_ | refine sAComp ?_ | refine sCSrc ?_))); (first | (k_unfold; (try dsimp only)) | walk1 | (dsimp only; walk1) | (leave1; walk_say "STEP leave1"; try dsimp only))))
    rename Fr _ _ _ _ => F
    rename News _ _ _ _ => N
    refine For_pair3 s.heap rfl rfl rfl rfl ?_ (by intro _; rfl) PassesOwn.never
    (repeat' ((fail_if_success (with_reducible (first | refine sFor ?_ | refine sWhile ?_ | refine sIter ?_ | refine sEnum ?_ | refine sZip ?_ | refine sCall ?_ | refine sComp ?_ | refine sAComp ?_ | refine sCSrc ?_))); (first | (k_unfold; (try dsimp only)) | walk1 | (dsimp only; walk1) | (leave1; walk_say "STEP leave1"; try dsimp only))))
    refine l_enum (σ := LI × Int) (fun c => (lf, listOf c.1.vs.toArray c.1.n) :: own) (fun c => [rN "a" la, rN "b" lb, iN "w" (W : Int), rN "found" lf, iN "mask" (2 ^ W - 1), iN "at" (i : Int), iN "limb" x, iN "carry" c.2])
      (fun j c => IntsAre c.1.vs c.1.xs ∧ c.1.xs.length = xs.length + ys.length ∧ Dig W c.1.xs ∧ (0 ≤ c.2 ∧ c.2 < 2 ^ W) ∧ num W c.1.xs + 2 ^ (W * (i + j)) * c.2 = num W fs + 2 ^ (W * i) * x * num W (ys.take j) ∧ ∀ k, i + ys.length ≤ k → c.1.xs.getD k 0 = 0) ⟨⟨_, fs, n⟩, 0⟩ rfl hlb hib F N (by intro q hq; exact hq) (fun _ => rfl) (by (repeat (first | exact Knows.nil | refine Knows.cons' ⟨0, by with_unfolding_all rfl⟩ ?_ | refine Knows.cons' ⟨_, by with_unfolding_all rfl⟩ ?_ | refine Knows.consI (by with_unfolding_all rfl) (by first | omega | (simp; done) | (simp; omega)) ?_))) ⟨hi, hl, hd1, ⟨by show (0 : Int) ≤ 0; omega, hM0⟩, by simp [num], hz⟩ ?_ ?_
    · rintro j ⟨⟨vs2, fs2, n2⟩, cc⟩ y t2 t2' u2 ts2 h2 tk2 own2 hy hoff2 ⟨hi2, hl2, hd2, ⟨hc1, hc2⟩, hn2, hz2⟩ F2 N2
      obtain ⟨hy1, hy2⟩ := hyd y (List.mem_of_getElem? hy)
      have hjy : j < ys.length := (List.getElem?_eq_some_iff.mp hy).1
      clear F N F1 N1 hi hl hd1 hn hz
      dsimp only at F2 N2 hi2 hl2 hd2 hc1 hc2 hoff2 hn2 hz2 ⊢
      simp only [List.cons_append, List.nil_append] at N2
      have hof : ∀ p ∈ own ++ own2, p.1 ≠ lf := fun q hq => (List.mem_append.mp hq).elim (fun h => hoff q h lf (.head _)) (fun h => hoff2 q h lf (.head _))
      have hof2 : ∀ p ∈ own, ∀ q ∈ own2, p.1 ≠ q.1 := fun q hq q' hq' e => hoff2 q' hq' q.1 (.tail _ (List.mem_map.mpr ⟨q, hq, rfl⟩)) e.symm
      obtain ⟨m0, m1, m2, m3, m4⟩ := mul_turn (by omega) hd2 ⟨hc1, hc2⟩ ⟨hx1, hx2⟩ ⟨hy1, hy2⟩ hn2
      have eij : ((i : Int) + (j : Int)).toNat = i + j := rfl
      have e1 : Builtin.bitAnd (cc + (fs2.getD ((i : Int) + j).toNat 0 + x * y)) (2 ^ W - 1) = (cc + (fs2.getD (i + j) 0 + x * y)) % 2 ^ W := by rw [eij]; exact and_mask m0 W
      have e2 : (cc + (fs2.getD ((i : Int) + j).toNat 0 + x * y)).fdiv (2 ^ ((W : Int)).toNat) = (cc + (fs2.getD (i + j) 0 + x * y)) / 2 ^ W := by rw [eij]; exact fdiv_pow W
      (repeat' ((fail_if_success (with_reducible (first | refine sFor ?_ | refine sWhile ?_ | refine sIter ?_ | refine sEnum ?_ | refine sZip ?_ | refine sCall ?_ | refine sComp ?_ | refine sAComp ?_ | refine sCSrc ?_))); (first | (k_unfold; (try dsimp only)) | walk1 | (dsimp only; walk1) | (leave1; walk_say "STEP leave1"; try dsimp only))))
      rename Fr _ _ _ _ => F
      rename News _ _ _ _ => N
      rename IntsAre (List.set _ _ _) _ => hI
      dsimp only
      rw [e2] at F
      rw [e1, eij] at N hI
      refine t_end (⟨⟨_, _, n2⟩, _⟩ : LI × Int) F N ?_ ?_ ?_ (by (repeat (first | exact Knows.nil | refine Knows.cons' ⟨0, by with_unfolding_all rfl⟩ ?_ | refine Knows.cons' ⟨_, by with_unfolding_all rfl⟩ ?_ | refine Knows.consI (by with_unfolding_all rfl) (by first | omega | (simp; done) | (simp; omega)) ?_))) ⟨hI, by show List.length (List.set _ _ _) = _; rw [List.length_set]; exact hl2, m3, ⟨m1, m2⟩, ?_, ?_⟩
      · intro q hq
        rcases List.mem_cons.mp hq with rfl | hq
        · exact .head _
        · exact .tail _ (List.mem_append.mpr (.inl hq))
      · intro q hq
        exact .tail _ (List.mem_append.mpr (.inr hq))
      · intro q hq q' hq'
        rcases List.mem_cons.mp hq with rfl | hq
        · exact fun e => hof q' (List.mem_append.mpr (.inr hq')) e.symm
        · exact hof2 q hq q' hq'
      · dsimp only
        rw [num_take_succ hy]
        exact m4
      · intro k hk
        dsimp only
        rw [List.getD_eq_getElem?_getD, List.getElem?_set_ne (by omega), ← List.getD_eq_getElem?_getD]
        exact hz2 k hk
    · rintro ⟨⟨vs2, fs2, n2⟩, cc⟩ u2 ts2 h2 tk2 ⟨hi2, hl2, hd2, ⟨hc1, hc2⟩, hn2, hz2⟩ F2 N2
      clear F N F1 N1
      dsimp only at F2 N2 hi2 hl2 hd2 hc1 hc2 hn2 hz2 ⊢
      have hof : ∀ p ∈ own, p.1 ≠ lf := fun q hq => hoff q hq lf (.head _)
      have eij : ((i : Int) + (ys.length : Int)).toNat = i + ys.length := rfl
      (repeat' ((fail_if_success (with_reducible (first | refine sFor ?_ | refine sWhile ?_ | refine sIter ?_ | refine sEnum ?_ | refine sZip ?_ | refine sCall ?_ | refine sComp ?_ | refine sAComp ?_ | refine sCSrc ?_))); (first | (k_unfold; (try dsimp only)) | walk1 | (dsimp only; walk1) | (leave1; walk_say "STEP leave1"; try dsimp only))))
      rename Fr _ _ _ _ => F
      rename News _ _ _ _ => N
      rename IntsAre (List.set _ _ _) _ => hI
      dsimp only
      rw [eij] at N hI
      refine t_end (⟨_, _, n2⟩ : LI) F N ?_ ?_ ?_ (by (repeat (first | exact Knows.nil | refine Knows.cons' ⟨0, by with_unfolding_all rfl⟩ ?_ | refine Knows.cons' ⟨_, by with_unfolding_all rfl⟩ ?_ | refine Knows.consI (by with_unfolding_all rfl) (by first | omega | (simp; done) | (simp; omega)) ?_))) ⟨hI, by show List.length (List.set _ _ _) = _; rw [List.length_set]; exact hl2, hd2.set _ hc1 hc2, ?_, ?_⟩
      · intro q hq
        rw [List.mem_singleton.mp hq]; exact .head _
      · intro q hq
        exact .tail _ hq
      · intro q hq q' hq'
        rw [List.mem_singleton.mp hq]
        exact fun e => hof q' hq' e.symm
      · dsimp only
        rw [num_take_succ hx, num_set _ _ _ _ (by omega), hz2 _ (Nat.le_refl _)]
        rw [List.take_length, hn] at hn2
        grind
      · intro k hk
        dsimp only
        rw [List.getD_eq_getElem?_getD, List.getElem?_set_ne (by omega), ← List.getD_eq_getElem?_getD]
        exact hz2 k (by omega)
  · rintro ⟨vs, fs, n⟩ u ts h tk ⟨hi, hl, hd1, hn, hz⟩ F1 N1
    clear F N hz0 hi0
    try clear hn1
    try clear hs1
    try clear he1
    dsimp only at F1 N1 hi hl hd1 hn hz ⊢
    (repeat' ((fail_if_success (with_reducible (first | refine sFor ?_ | refine sWhile ?_ | refine sIter ?_ | refine sEnum ?_ | refine sZip ?_ | refine sCall ?_ | refine sComp ?_ | refine sAComp ?_ | refine sCSrc ?_))); (first | (k_unfold; (try dsimp only)) | walk1 | (dsimp only; walk1) | (leave1; walk_say "STEP leave1"; try dsimp only))))
    rw [List.take_length, hxn, hyn] at hn
    refine c_normal (dp := dp + 1) (X.keeps F1.keep) (T.keeps F1.keep) (room hd rfl) (ints_of N1 (.head _) hi) (by omega) ?_
    rw [strip_limbs hW.1 hd1 (N := A * B) (by rw [hn]; simp)]
    intro h' tk' a vs' n' hst hfr hg hI
    obtain ⟨F, N, _⟩ := after_call F1 N1 hst hfr hg
    exact ret_ints (s := s) hret F N (.head _) hI rfl
end
end

section
section
variable {w : World} {E : Value → Shared → Prop} {s : Shared} {p : Program} {loose : List Str} {mean : ExcName → Option Value} {mg mb : Str → Option Value} {dp un : Nat} {fr : Option (List Env)} {gd : Option (List Code)}

set_option maxHeartbeats 4000000 in
theorem c_add {Q : Value → Shared → Prop} {la lb : Addr} {A B W : Nat} {tw : Tok} (X : Frag.In (hd.heap_39 w.params) s.heap) (T : Top p loose mean mg mb s.heap) (hd : dp + 5 < recursionLimit)
    (hW : 1 ≤ W ∧ W ≤ 9) (ha : Ints s.heap la (limbs W A)) (hb : Ints s.heap lb (limbs W B)) (hA : A < 2 ^ 300) (hB : B < 2 ^ 300) (hret : RetInts s Q (limbs W (A + B))) :
    wpAny (model PG w) (Ar dp un fr gd) (call (.ref 60) [.ref la, .ref lb, .int (W : Int) tw]) Q E s := by
  obtain ⟨va, hla, hia⟩ := ha
  obtain ⟨vb, hlb, hib⟩ := hb
  have hxl := limbs_len hW.1 hA
  have hyl := limbs_len hW.1 hB
  have hM : (2 : Int) ^ W ≤ 512 := by
    rw [← pow_nat]
    exact Int.ofNat_le.mpr (Nat.pow_le_pow_right (by decide) hW.2 : 2 ^ W ≤ 2 ^ 9)
  have hM0 := pow_pos' W
  refine' enter [("a", .ref la), ("b", .ref lb), ("w", .int (W : Int) tw)] X T ?k6 ?k7 ?k8 ?k9 ?kB ?kP ?c2 ?c3 ?c4 ?c5 ?_
  (((case k6 => k_is); (case k7 => k_is); (case k8 => exact room0 (by assumption)); (case k9 => exact rfl); (case kB => exact locs rfl); (case kP => kst_all); (case c2 => exact rfl); (case c3 => exact rfl); (case c4 => exact rfl); (case c5 => decide); intro _ _ _ _ _ _ _ _; (try dsimp only)))
  refine' cut_path ?walk ?pf
  case walk =>
    intro key
    (repeat' ((fail_if_success (with_reducible (first | refine sFor ?_ | refine sWhile ?_ | refine sIter ?_ | refine sEnum ?_ | refine sZip ?_ | refine sCall ?_ | refine sComp ?_ | refine sAComp ?_ | refine sCSrc ?_))); (first | (k_unfold; (try dsimp only)) | walk1 | (dsimp only; walk1) | (leave1; walk_say "STEP leave1"; try dsimp only))))
    all_goals
      rename Fr _ _ _ _ => F
      rename News _ _ _ _ => N
      rename_i lf _ l1a _ _ l1b _ _ _ h1
      clear l1a l1b
      first
        | (have HR := hret
           obtain ⟨ts0, F2⟩ := fr_known F (ps := [rN "a" la, rN "b" lb, iN "w" (W : Int), rN "found" lf, iN "mask" (2 ^ W - 1), iN "carry" 0]) (by (repeat (first | exact Knows.nil | refine Knows.cons' ⟨0, by with_unfolding_all rfl⟩ ?_ | refine Knows.cons' ⟨_, by with_unfolding_all rfl⟩ ?_ | refine Knows.consI (by with_unfolding_all rfl) (by first | omega | (simp; done) | (simp; omega)) ?_)); done)
           have P : ((limbs W B).length ≤ (limbs W A).length ∧ (limbs W A).length ≤ 300 ∧ (limbs W B).length ≤ 300) ∧ s.heap.IsList la va.toArray ∧ s.heap.IsList lb vb.toArray ∧ IntsAre va (limbs W A) ∧ IntsAre vb (limbs W B) ∧ RetInts s Q (limbs W (A + B)) ∧
               News _ _ h1 [(lf, listOf #[] 0)] ∧ ∃ u ts, Fr _ _ h1 (KB u [rN "a" la, rN "b" lb, iN "w" (W : Int), rN "found" lf, iN "mask" (2 ^ W - 1), iN "carry" 0] ts) :=
             ⟨⟨by omega, hxl, hyl⟩, hla, hlb, hia, hib, HR, fun q hq => N q (by rw [List.mem_singleton] at hq; subst hq; exact .tail _ (.head _)), _, _, F2⟩
           clear F N F2 ts0
           revert P
           generalize la = la'
           generalize lb = lb'
           generalize va = va'
           generalize vb = vb'
           generalize A = A'
           generalize B = B')
        | (have HR : RetInts s Q (limbs W (B + A)) := Nat.add_comm A B ▸ hret
           obtain ⟨ts0, F2⟩ := fr_known F (ps := [rN "a" lb, rN "b" la, iN "w" (W : Int), rN "found" lf, iN "mask" (2 ^ W - 1), iN "carry" 0]) (by (repeat (first | exact Knows.nil | refine Knows.cons' ⟨0, by with_unfolding_all rfl⟩ ?_ | refine Knows.cons' ⟨_, by with_unfolding_all rfl⟩ ?_ | refine Knows.consI (by with_unfolding_all rfl) (by first | omega | (simp; done) | (simp; omega)) ?_)); done)
           have P : ((limbs W A).length ≤ (limbs W B).length ∧ (limbs W B).length ≤ 300 ∧ (limbs W A).length ≤ 300) ∧ s.heap.IsList lb vb.toArray ∧ s.heap.IsList la va.toArray ∧ IntsAre vb (limbs W B) ∧ IntsAre va (limbs W A) ∧ RetInts s Q (limbs W (B + A)) ∧
               News _ _ h1 [(lf, listOf #[] 0)] ∧ ∃ u ts, Fr _ _ h1 (KB u [rN "a" lb, rN "b" la, iN "w" (W : Int), rN "found" lf, iN "mask" (2 ^ W - 1), iN "carry" 0] ts) :=
             ⟨⟨by omega, hyl, hxl⟩, hlb, hla, hib, hia, HR, fun q hq => N q (by rw [List.mem_singleton] at hq; subst hq; exact .tail _ (.head _)), _, _, F2⟩
           clear F N F2 ts0
           revert P
           generalize lb = la'
           generalize la = lb'
           generalize vb = va'
           generalize va = vb'
           generalize B = A'
           generalize A = B')
      clear HR
      revert B'; revert A'; revert vb'; revert va'; revert lb'; revert la'; revert lf; revert h1; revert tk
      exact key.get
  case pf =>
    clear hla hlb hia hib hA hB hxl hyl hret
    intro tk h1 lf la' lb' va' vb' A' B' P
    obtain ⟨⟨hle, hxl, hyl⟩, Ha, Hb, Ia, Ib, hret, N, u0, ts0, F⟩ := P
    have hxd := dig_limbs W A'
    have hyd := dig_limbs W B'
    have hxn := num_limbs hW.1 A'
    have hyn := num_limbs hW.1 B'
    have hx0 := @limbs_len_pos W A' hW.1
    generalize limbs W A' = xs at *
    generalize limbs W B' = ys at *
    refine For_invV s.heap rfl rfl ?_ (by intro _; rfl) PassesOwn.never
    (repeat' ((fail_if_success (with_reducible (first | refine sFor ?_ | refine sWhile ?_ | refine sIter ?_ | refine sEnum ?_ | refine sZip ?_ | refine sCall ?_ | refine sComp ?_ | refine sAComp ?_ | refine sCSrc ?_))); (first | (k_unfold; (try dsimp only)) | walk1 | (dsimp only; walk1) | (leave1; walk_say "STEP leave1"; try dsimp only))))
    rename IsRange _ _ _ _ _ _ _ _ => hR
    rename Fr _ _ _ _ => F1
    rename News _ _ _ _ => N1
    refine l_range1 (σ := LI × Int) (fun c => [(lf, listOf c.1.vs.toArray c.1.n)]) (fun c => [rN "a" la', rN "b" lb', iN "w" (W : Int), rN "found" lf, iN "mask" (2 ^ W - 1), iN "carry" c.2])
      (fun i c => IntsAre c.1.vs c.1.xs ∧ c.1.xs.length = i ∧ Dig W c.1.xs ∧ (0 ≤ c.2 ∧ c.2 ≤ 1) ∧ num W c.1.xs + 2 ^ (W * i) * c.2 = num W (xs.take i) + num W (ys.take i)) ⟨⟨[], [], 0⟩, 0⟩ rfl hR (by omega) F1 N1 (by intro q hq; rw [List.mem_singleton.mp hq]; exact .head _) (by (repeat (first | exact Knows.nil | refine Knows.cons' ⟨0, by with_unfolding_all rfl⟩ ?_ | refine Knows.cons' ⟨_, by with_unfolding_all rfl⟩ ?_ | refine Knows.consI (by with_unfolding_all rfl) (by first | omega | (simp; done) | (simp; omega)) ?_))) ⟨.nil, rfl, .nil, ⟨Int.le_refl _, by show (0 : Int) ≤ 1; omega⟩, by simp [num]⟩ ?_ ?_
    · rintro i ⟨⟨vs, fs, n⟩, c⟩ t u ts h tk own hi hoff ⟨hI, hl, hd1, ⟨hc0, hc1⟩, hn⟩ F2 N2
      clear F1 N1
      dsimp only at F2 N2 hI hl hd1 hc0 hc1 hn hoff ⊢
      rw [Int.zero_add] at F2
      simp only [List.cons_append, List.nil_append] at N2
      have hof : ∀ p ∈ own, p.1 ≠ lf := fun q hq => hoff q hq lf (.head _)
      have hix : i < xs.length := by omega
      have hiy : i < ys.length := by omega
      obtain ⟨hx1, hx2⟩ := hxd.getD i
      obtain ⟨hy1, hy2⟩ := hyd.getD i
      have hlen : fs.length < 1000 := by omega
      (repeat' ((fail_if_success (with_reducible (first | refine sFor ?_ | refine sWhile ?_ | refine sIter ?_ | refine sEnum ?_ | refine sZip ?_ | refine sCall ?_ | refine sComp ?_ | refine sAComp ?_ | refine sCSrc ?_))); (first | (k_unfold; (try dsimp only)) | walk1 | (dsimp only; walk1) | (leave1; walk_say "STEP leave1"; try dsimp only))))
      rename Fr _ _ _ _ => F
      rename News _ _ _ _ => N
      dsimp only
      have e0 : c + (xs.getD ((i : Int)).toNat 0 + ys.getD ((i : Int)).toNat 0) = c + (xs.getD i 0 + ys.getD i 0) := rfl
      rw [e0, fdiv_pow] at F
      rw [e0, and_mask (by omega)] at N
      simp only [List.push_toArray] at N
      obtain ⟨p1, p2⟩ := push_turn (d := xs.getD i 0 + ys.getD i 0) hl hd1 hn
      refine t_end1 (⟨⟨_, _, n + 1⟩, _⟩ : LI × Int) rfl F N hof (by (repeat (first | exact Knows.nil | refine Knows.cons' ⟨0, by with_unfolding_all rfl⟩ ?_ | refine Knows.cons' ⟨_, by with_unfolding_all rfl⟩ ?_ | refine Knows.consI (by with_unfolding_all rfl) (by first | omega | (simp; done) | (simp; omega)) ?_))) ⟨hI.append (.cons _ _ .nil), by simp [hl], p1, ?_, ?_⟩
      · have hv : c + (xs.getD i 0 + ys.getD i 0) < 2 * 2 ^ W := by omega
        have h1 := Int.ediv_lt_of_lt_mul hM0 hv
        have h2 := Int.ediv_nonneg (a := c + (xs.getD i 0 + ys.getD i 0)) (b := 2 ^ W) (by omega) (by omega)
        exact ⟨h2, by show (c + (xs.getD i 0 + ys.getD i 0)) / 2 ^ W ≤ 1; omega⟩
      · rw [num_take_succ (getD_get hix), num_take_succ (getD_get hiy)]
        refine p2.trans ?_
        grind
    · rintro ⟨⟨vs, fs, n⟩, c⟩ u ts h tk ⟨hI, hl, hd1, ⟨hc0, hc1⟩, hn⟩ F2 N2
      clear F1 N1 hR
      dsimp only at F2 N2 hI hl hd1 hc0 hc1 hn ⊢
      have hy' : (((ys.length : Nat) : Int) - 0).toNat = ys.length := Int.toNat_sub ys.length 0
      rw [hy'] at hl hn
      rw [List.take_length] at hn
      (repeat' ((fail_if_success (with_reducible (first | refine sFor ?_ | refine sWhile ?_ | refine sIter ?_ | refine sEnum ?_ | refine sZip ?_ | refine sCall ?_ | refine sComp ?_ | refine sAComp ?_ | refine sCSrc ?_))); (first | (k_unfold; (try dsimp only)) | walk1 | (dsimp only; walk1) | (leave1; walk_say "STEP leave1"; try dsimp only))))
      refine For_invV s.heap rfl rfl ?_ (by intro _; rfl) PassesOwn.never
      (repeat' ((fail_if_success (with_reducible (first | refine sFor ?_ | refine sWhile ?_ | refine sIter ?_ | refine sEnum ?_ | refine sZip ?_ | refine sCall ?_ | refine sComp ?_ | refine sAComp ?_ | refine sCSrc ?_))); (first | (k_unfold; (try dsimp only)) | walk1 | (dsimp only; walk1) | (leave1; walk_say "STEP leave1"; try dsimp only))))
      rename IsRange _ _ _ _ _ _ _ _ => hR
      rename Fr _ _ _ _ => F1
      rename News _ _ _ _ => N1
      refine l_range1 (σ := LI × Int) (fun c => [(lf, listOf c.1.vs.toArray c.1.n)]) (fun c => [rN "a" la', rN "b" lb', iN "w" (W : Int), rN "found" lf, iN "mask" (2 ^ W - 1), iN "carry" c.2])
        (fun i c => IntsAre c.1.vs c.1.xs ∧ c.1.xs.length = ys.length + i ∧ Dig W c.1.xs ∧ (0 ≤ c.2 ∧ c.2 ≤ 1) ∧ num W c.1.xs + 2 ^ (W * (ys.length + i)) * c.2 = num W (xs.take (ys.length + i)) + num W ys) ⟨⟨_, fs, n⟩, c⟩ rfl hR (by omega) F1 N1 (fun q hq => hq) (by (repeat (first | exact Knows.nil | refine Knows.cons' ⟨0, by with_unfolding_all rfl⟩ ?_ | refine Knows.cons' ⟨_, by with_unfolding_all rfl⟩ ?_ | refine Knows.consI (by with_unfolding_all rfl) (by first | omega | (simp; done) | (simp; omega)) ?_))) ⟨hI, hl, hd1, ⟨hc0, hc1⟩, hn⟩ ?_ ?_
      · clear hI hl hd1 hc0 hc1 hn hy'
        rintro i ⟨⟨vs, fs, n⟩, c⟩ t u ts h tk own hi hoff ⟨hI, hl, hd1, ⟨hc0, hc1⟩, hn⟩ F2 N2
        clear F1 N1
        dsimp only at F2 N2 hI hl hd1 hc0 hc1 hn hoff ⊢
        simp only [List.cons_append, List.nil_append] at N2
        have hof : ∀ p ∈ own, p.1 ≠ lf := fun q hq => hoff q hq lf (.head _)
        have hix : ys.length + i < xs.length := by omega
        obtain ⟨hx1, hx2⟩ := hxd.getD (ys.length + i)
        have hlen : fs.length < 1000 := by omega
        (repeat' ((fail_if_success (with_reducible (first | refine sFor ?_ | refine sWhile ?_ | refine sIter ?_ | refine sEnum ?_ | refine sZip ?_ | refine sCall ?_ | refine sComp ?_ | refine sAComp ?_ | refine sCSrc ?_))); (first | (k_unfold; (try dsimp only)) | walk1 | (dsimp only; walk1) | (leave1; walk_say "STEP leave1"; try dsimp only))))
        rename Fr _ _ _ _ => F
        rename News _ _ _ _ => N
        dsimp only
        have e0 : c + xs.getD (((ys.length : Nat) : Int) + i).toNat 0 = c + xs.getD (ys.length + i) 0 := rfl
        rw [e0, fdiv_pow] at F
        rw [e0, and_mask (by omega)] at N
        simp only [List.push_toArray] at N
        obtain ⟨p1, p2⟩ := push_turn (d := xs.getD (ys.length + i) 0) hl hd1 hn
        refine t_end1 (⟨⟨_, _, n + 1⟩, _⟩ : LI × Int) rfl F N hof (by (repeat (first | exact Knows.nil | refine Knows.cons' ⟨0, by with_unfolding_all rfl⟩ ?_ | refine Knows.cons' ⟨_, by with_unfolding_all rfl⟩ ?_ | refine Knows.consI (by with_unfolding_all rfl) (by first | omega | (simp; done) | (simp; omega)) ?_))) ⟨hI.append (.cons _ _ .nil), by simp [hl]; omega, p1, ?_, ?_⟩
        · have hv : c + xs.getD (ys.length + i) 0 < 2 * 2 ^ W := by omega
          have h1 := Int.ediv_lt_of_lt_mul hM0 hv
          have h2 := Int.ediv_nonneg (a := c + xs.getD (ys.length + i) 0) (b := 2 ^ W) (by omega) (by omega)
          exact ⟨h2, by show (c + xs.getD (ys.length + i) 0) / 2 ^ W ≤ 1; omega⟩
        · rw [← Nat.add_assoc, num_take_succ (getD_get hix)]
          refine p2.trans ?_
          grind
      · clear hI hl hd1 hc0 hc1 hn hy'
        rintro ⟨⟨vs, fs, n⟩, c⟩ u ts h tk ⟨hI, hl, hd1, ⟨hc0, hc1⟩, hn⟩ F2 N2
        clear F1 N1 hR
        dsimp only at F2 N2 hI hl hd1 hc0 hc1 hn ⊢
        have hy' : ys.length + (((xs.length : Nat) : Int) - ((ys.length : Nat) : Int)).toNat = xs.length := by rw [Int.toNat_sub]; exact Nat.add_sub_cancel' hle
        rw [hy'] at hl hn
        rw [List.take_length, hxn, hyn] at hn
        have hlen : fs.length < 1000 := by omega
        have hge : xs ≠ [] → (2 : Int) ^ (W * (xs.length - 1)) ≤ ((A' + B' : Nat) : Int) := fun h0 => by
          have := hx0 h0; rw [Int.natCast_add]; omega
        (repeat' ((fail_if_success (with_reducible (first | refine sFor ?_ | refine sWhile ?_ | refine sIter ?_ | refine sEnum ?_ | refine sZip ?_ | refine sCall ?_ | refine sComp ?_ | refine sAComp ?_ | refine sCSrc ?_))); (first | (k_unfold; (try dsimp only)) | walk1 | (dsimp only; walk1) | (leave1; walk_say "STEP leave1"; try dsimp only))))
        all_goals rename Fr _ _ _ _ => F
        all_goals rename News _ _ _ _ => N
        all_goals dsimp only
        · have h0 : 0 < c := by assumption
          have hc : c = 1 := by omega
          subst hc
          simp only [List.push_toArray] at N
          have e1 : num W (fs ++ [1]) = ((A' + B' : Nat) : Int) := by
            rw [num_append, num_one, hl, hn]; simp
          have hp := pow_pos' (W * xs.length)
          refine ret_ints (s := s) hret F N (.head _) (hI.append (.cons _ _ .nil)) (limbs_of hW.1 (hd1.append (.cons (by decide) ?_ .nil)) e1 fun _ => ?_)
          · exact_mod_cast Nat.one_lt_two_pow (by omega : W ≠ 0)
          · rw [List.length_append, List.length_singleton, Nat.add_sub_cancel, hl]
            have := num_nonneg hd1
            rw [Int.natCast_add]; omega
        · have h0 : ¬ 0 < c := by assumption
          have hc : c = 0 := by omega
          subst hc
          refine ret_ints (s := s) hret F N (.head _) hI (limbs_of hW.1 hd1 ?_ fun h1 => ?_)
          · rw [Int.natCast_add]; simpa using hn
          · rw [hl]
            refine hge fun h2 => h1 ?_
            subst h2
            exact List.eq_nil_of_length_eq_zero hl
end
end

section
section
variable {w : World} {E : Value → Shared → Prop} {s : Shared} {p : Program} {loose : List Str} {mean : ExcName → Option Value} {mg mb : Str → Option Value} {dp un : Nat} {fr : Option (List Env)} {gd : Option (List Code)}

set_option maxHeartbeats 4000000 in
theorem c_shl {Q : Value → Shared → Prop} {la : Addr} {A W k : Nat} {tk tw : Tok} (X : Frag.In (hd.heap_39 w.params) s.heap) (T : Top p loose mean mg mb s.heap) (hd : dp + 5 < recursionLimit)
    (hW : 1 ≤ W ∧ W ≤ 9) (ha : Ints s.heap la (limbs W A)) (hA : A < 2 ^ 300) (hk : k < 100) (hret : RetInts s Q (limbs W (A * 2 ^ k))) :
    wpAny (model PG w) (Ar dp un fr gd) (call (.ref 67) [.ref la, .int (k : Int) tk, .int (W : Int) tw]) Q E s := by
  obtain ⟨va, hla, hia⟩ := ha
  have hxl := limbs_len hW.1 hA
  have hxd := dig_limbs W A
  have hxn := num_limbs hW.1 A
  have hx0 := @limbs_len_pos W A hW.1
  have hM : (2 : Int) ^ W ≤ 512 := by
    rw [← pow_nat]
    exact Int.ofNat_le.mpr (Nat.pow_le_pow_right (by decide) hW.2 : 2 ^ W ≤ 2 ^ 9)
  have hM0 := pow_pos' W
  have hnil : limbs W A = [] → A = 0 := (limbs_eq_nil hW.1).mp
  generalize limbs W A = xs at *
  have hf : (k : Int).fmod W = ((k % W : Nat) : Int) := by rw [Int.fmod_eq_emod_of_nonneg _ (by omega)]; rfl
  have hf1 : k % W < W := Nat.mod_lt _ (by omega)
  have hq : (k : Int).fdiv W = ((k / W : Nat) : Int) := by rw [Int.fdiv_eq_ediv_of_nonneg _ (by omega)]; rfl
  have hq1 : k / W ≤ k := Nat.div_le_self _ _
  have hkW := Nat.div_add_mod k W
  refine' enter [("a", .ref la), ("n", .int (k : Int) tk), ("w", .int (W : Int) tw)] X T ?k6 ?k7 ?k8 ?k9 ?kB ?kP ?c2 ?c3 ?c4 ?c5 ?_
  (((case k6 => k_is); (case k7 => k_is); (case k8 => exact room0 (by assumption)); (case k9 => exact rfl); (case kB => exact locs rfl); (case kP => kst_all); (case c2 => exact rfl); (case c3 => exact rfl); (case c4 => exact rfl); (case c5 => decide); intro _ _ _ _ _ _ _ _; (try dsimp only)))
  (repeat' ((fail_if_success (with_reducible (first | refine sFor ?_ | refine sWhile ?_ | refine sIter ?_ | refine sEnum ?_ | refine sZip ?_ | refine sCall ?_ | refine sComp ?_ | refine sAComp ?_ | refine sCSrc ?_))); (first | (k_unfold; (try dsimp only)) | walk1 | (dsimp only; walk1) | (leave1; walk_say "STEP leave1"; try dsimp only))))
  · rename Fr _ _ _ _ => F
    rename News _ _ _ _ => N
    have h0 : (xs.length : Int) = 0 := by assumption
    have h1 : xs = [] := List.eq_nil_of_length_eq_zero (by omega)
    rw [hnil h1, Nat.zero_mul, limbs_zero] at hret
    exact ret_ints (s := s) hret F N (.head _) .nil rfl
  · rename Fr _ _ _ _ => F
    rename News _ _ _ _ => N
    simp only [hq, hf] at F N ⊢
    have hne : (xs.length : Int) ≠ 0 := by assumption
    generalize hqq : k / W = q at *
    generalize hrr : k % W = r at *
    have hrM : (2 : Int) ^ r ≤ 2 ^ W := by
      rw [← pow_nat, ← pow_nat]
      exact Int.ofNat_le.mpr (Nat.pow_le_pow_right (by decide) (Nat.le_of_lt hf1))
    have hr0 := pow_pos' r
    (repeat' ((fail_if_success (with_reducible (first | refine sFor ?_ | refine sWhile ?_ | refine sIter ?_ | refine sEnum ?_ | refine sZip ?_ | refine sCall ?_ | refine sComp ?_ | refine sAComp ?_ | refine sCSrc ?_))); (first | (k_unfold; (try dsimp only)) | walk1 | (dsimp only; walk1) | (leave1; walk_say "STEP leave1"; try dsimp only))))
    rename Fr _ _ _ _ => F
    rename News _ _ _ _ => N
    rename_i lf _ hi0 n1 hs1 he1 _ hn1 _ _ _ _ _ _ _ _
    have hn1 : n1 = q := by have := hn1 (by omega); omega
    have hz0 : ∀ x ∈ (List.replicate ((q : Int)).toNat [(0 : Int)]).flatten, x = 0 := by
      intro x hx
      obtain ⟨l, hl, hx⟩ := List.mem_flatten.mp hx
      rw [List.eq_of_mem_replicate hl] at hx
      exact List.mem_singleton.mp hx
    refine For_invV s.heap rfl rfl ?_ (by intro _; rfl) PassesOwn.never
    (repeat' ((fail_if_success (with_reducible (first | refine sFor ?_ | refine sWhile ?_ | refine sIter ?_ | refine sEnum ?_ | refine sZip ?_ | refine sCall ?_ | refine sComp ?_ | refine sAComp ?_ | refine sCSrc ?_))); (first | (k_unfold; (try dsimp only)) | walk1 | (dsimp only; walk1) | (leave1; walk_say "STEP leave1"; try dsimp only))))
    refine l_ints0 (σ := LI × Int) (fun c => [(lf, listOf c.1.vs.toArray c.1.n)]) (fun c => [rN "a" la, iN "w" (W : Int), iN "few" (r : Int), rN "found" lf, iN "mask" (2 ^ W - 1), iN "carry" c.2])
      (fun i c => IntsAre c.1.vs c.1.xs ∧ c.1.xs.length = q + i ∧ Dig W c.1.xs ∧ (0 ≤ c.2 ∧ c.2 < 2 ^ r) ∧ num W c.1.xs + 2 ^ (W * (q + i)) * c.2 = 2 ^ (W * q) * 2 ^ r * num W (xs.take i)) ⟨⟨_, (List.replicate ((q : Int)).toNat [(0 : Int)]).flatten, 0⟩, 0⟩ rfl hla hia F N (by intro q hq; rw [List.mem_singleton.mp hq]; exact .tail _ (.head _)) (by (repeat (first | exact Knows.nil | refine Knows.cons' ⟨0, by with_unfolding_all rfl⟩ ?_ | refine Knows.cons' ⟨_, by with_unfolding_all rfl⟩ ?_ | refine Knows.consI (by with_unfolding_all rfl) (by first | omega | (simp; done) | (simp; omega)) ?_))) ⟨hi0, by show List.length _ = _; rw [he1, hn1]; rfl, ?_, ⟨Int.le_refl _, hr0⟩, ?_⟩ ?_ ?_
    · intro x hx; rw [hz0 x hx]; exact ⟨Int.le_refl _, hM0⟩
    · show num W _ + _ = _
      rw [num_zeros hz0]; simp [num]
    · rintro i ⟨⟨vs, fs, n⟩, c⟩ x t u ts h tk own hx hoff ⟨hI, hl, hd1, ⟨hc0, hc1⟩, hn⟩ F2 N2
      clear F N hz0 hi0
      try clear hn1
      try clear hq
      try clear hf
      try clear hs1
      try clear he1
      dsimp only at F2 N2 hI hl hd1 hc0 hc1 hn hoff ⊢
      simp only [List.cons_append, List.nil_append] at N2
      have hof : ∀ p ∈ own, p.1 ≠ lf := fun q hq => hoff q hq lf (.head _)
      obtain ⟨hx1, hx2⟩ := hxd x (List.mem_of_getElem? hx)
      have hix : i < xs.length := (List.getElem?_eq_some_iff.mp hx).1
      have hlen : fs.length < 1000 := by omega
      have hxr := Int.mul_nonneg hx1 (Int.le_of_lt hr0)
      (repeat' ((fail_if_success (with_reducible (first | refine sFor ?_ | refine sWhile ?_ | refine sIter ?_ | refine sEnum ?_ | refine sZip ?_ | refine sCall ?_ | refine sComp ?_ | refine sAComp ?_ | refine sCSrc ?_))); (first | (k_unfold; (try dsimp only)) | walk1 | (dsimp only; walk1) | (leave1; walk_say "STEP leave1"; try dsimp only))))
      rename Fr _ _ _ _ => F
      rename News _ _ _ _ => N
      dsimp only
      have e0 : Builtin.bitOr c (x * 2 ^ ((r : Int)).toNat) = c + x * 2 ^ r := or_parts hc0 hc1 hx1
      rw [e0, fdiv_pow] at F
      rw [e0, and_mask (by omega)] at N
      simp only [List.push_toArray] at N
      obtain ⟨p1, p2⟩ := push_turn (d := x * 2 ^ r) hl hd1 hn
      refine t_end1 (⟨⟨_, _, n + 1⟩, _⟩ : LI × Int) rfl F N hof (by (repeat (first | exact Knows.nil | refine Knows.cons' ⟨0, by with_unfolding_all rfl⟩ ?_ | refine Knows.cons' ⟨_, by with_unfolding_all rfl⟩ ?_ | refine Knows.consI (by with_unfolding_all rfl) (by first | omega | (simp; done) | (simp; omega)) ?_))) ⟨hI.append (.cons _ _ .nil), by simp [hl]; omega, p1, ⟨Int.ediv_nonneg (by omega) (Int.le_of_lt hM0), ?_⟩, ?_⟩
      · refine Int.ediv_lt_of_lt_mul hM0 ?_
        have h3 := Int.mul_le_mul_of_nonneg_right (show x + 1 ≤ 2 ^ W by omega) (Int.le_of_lt hr0)
        rw [Int.add_mul, Int.mul_comm (2 ^ W)] at h3
        omega
      · rw [num_take_succ hx]
        refine p2.trans ?_
        have e2 : (2 : Int) ^ (W * (q + i)) = 2 ^ (W * q) * 2 ^ (W * i) := by rw [Nat.mul_add, Int.pow_add]
        rw [e2]
        grind
    · rintro ⟨⟨vs, fs, n⟩, c⟩ u ts h tk ⟨hI, hl, hd1, ⟨hc0, hc1⟩, hn⟩ F2 N2
      clear F N hz0 hi0
      try clear hn1
      try clear hq
      try clear hf
      try clear hs1
      try clear he1
      dsimp only at F2 N2 hI hl hd1 hc0 hc1 hn ⊢
      rw [List.take_length, hxn] at hn
      have hlen : fs.length < 1000 := by omega
      have hN : (2 : Int) ^ (W * q) * 2 ^ r * A = ((A * 2 ^ k : Nat) : Int) := by
        rw [← Int.pow_add, hkW, Int.natCast_mul, pow_nat, Int.mul_comm]
      rw [hN] at hn
      (repeat' ((fail_if_success (with_reducible (first | refine sFor ?_ | refine sWhile ?_ | refine sIter ?_ | refine sEnum ?_ | refine sZip ?_ | refine sCall ?_ | refine sComp ?_ | refine sAComp ?_ | refine sCSrc ?_))); (first | (k_unfold; (try dsimp only)) | walk1 | (dsimp only; walk1) | (leave1; walk_say "STEP leave1"; try dsimp only))))
      all_goals rename Fr _ _ _ _ => F
      all_goals rename News _ _ _ _ => N
      all_goals dsimp only
      · have h0 : 0 < c := by assumption
        simp only [List.push_toArray] at N
        have e1 : num W (fs ++ [c]) = ((A * 2 ^ k : Nat) : Int) := by
          rw [num_append, num_one, hl]; exact hn
        have hp := pow_pos' (W * (q + xs.length))
        refine ret_ints (s := s) hret F N (.head _) (hI.append (.cons _ _ .nil)) (limbs_of hW.1 (hd1.append (.cons hc0 (by omega) .nil)) e1 fun _ => ?_)
        rw [List.length_append, List.length_singleton, Nat.add_sub_cancel, hl]
        have h4 := num_nonneg hd1
        have h5 := Int.mul_le_mul_of_nonneg_left (show 1 ≤ c by omega) (Int.le_of_lt hp)
        omega
      · have h0 : ¬ 0 < c := by assumption
        have hc : c = 0 := by omega
        subst hc
        rw [Int.mul_zero, Int.add_zero] at hn
        refine ret_ints (s := s) hret F N (.head _) hI (limbs_of hW.1 hd1 hn fun h1 => ?_)
        have h2 : xs ≠ [] := fun h2 => hne (by rw [h2]; rfl)
        have h3 := hx0 h2
        have h4 := Int.mul_le_mul_of_nonneg_right h3 (Int.le_of_lt (pow_pos' k))
        rw [← Int.pow_add] at h4
        have h5 : W * (fs.length - 1) ≤ W * (xs.length - 1) + k := by
          rw [hl]
          have h6 : q + xs.length - 1 = q + (xs.length - 1) := Nat.add_sub_assoc (by omega) q
          rw [h6, Nat.mul_add]; omega
        have h7 : (2 : Int) ^ (W * (fs.length - 1)) ≤ 2 ^ (W * (xs.length - 1) + k) := by
          rw [← pow_nat, ← pow_nat]
          exact Int.ofNat_le.mpr (Nat.pow_le_pow_right (by decide) h5)
        rw [Int.natCast_mul, pow_nat]
        exact Int.le_trans h7 h4
end
end

section
section
variable {w : World} {E : Value → Shared → Prop} {s : Shared} {p : Program} {loose : List Str} {mean : ExcName → Option Value} {mg mb : Str → Option Value} {dp un : Nat} {fr : Option (List Env)} {gd : Option (List Code)}

/-- the low part of a number, by its limbs -/
theorem low_num {W A k q r : Nat} {xs : List Int} (hd : Dig W xs) (hn : num W xs = A) (hq : q < xs.length) (hk : W * q + r = k) (hr : r ≤ W) :
    num W (xs.take q) + 2 ^ (W * q) * (xs.getD q 0 % 2 ^ r) = ((A % 2 ^ k : Nat) : Int) := by
  have e1 : xs = xs.take q ++ xs.getD q 0 :: xs.drop (q + 1) := by
    have h1 := List.take_append_drop (q + 1) xs
    rw [List.take_add_one, getD_get hq] at h1
    simpa using h1.symm
  have e2 : num W xs = num W (xs.take q) + 2 ^ (W * q) * (xs.getD q 0 + 2 ^ W * num W (xs.drop (q + 1))) := by
    conv => lhs; rw [e1]
    rw [num_append, List.length_take, Nat.min_eq_left (Nat.le_of_lt hq), num_cons]
  have l0 := num_nonneg (hd.take q)
  have l1 := num_lt (hd.take q)
  rw [List.length_take, Nat.min_eq_left (Nat.le_of_lt hq)] at l1
  have hr0 := pow_pos' r
  have hq0 := pow_pos' (W * q)
  have hm1 := Int.emod_nonneg (xs.getD q 0) (Int.ne_of_gt hr0)
  have hm2 := Int.emod_lt_of_pos (xs.getD q 0) hr0
  have e3 := Int.emod_add_mul_ediv (xs.getD q 0) (2 ^ r)
  have e4 : (2 : Int) ^ W = 2 ^ r * 2 ^ (W - r) := by rw [← Int.pow_add, Nat.add_sub_cancel' hr]
  rw [Int.natCast_emod, pow_nat, ← hn, e2, ← hk, Int.pow_add]
  generalize num W (xs.take q) = a at *
  generalize xs.getD q 0 = x at *
  generalize num W (xs.drop (q + 1)) = y at *
  generalize (2 : Int) ^ (W * q) = P at *
  rw [e4]
  generalize (2 : Int) ^ (W - r) = R at *
  generalize (2 : Int) ^ r = S at *
  have h7 := Int.mul_le_mul_of_nonneg_left (show x % S + 1 ≤ S by omega) (Int.le_of_lt hq0)
  rw [Int.mul_add] at h7
  have h8 := Int.mul_nonneg (Int.le_of_lt hq0) hm1
  have e5 : a + P * (x + S * R * y) = a + P * (x % S) + P * S * (x / S + R * y) := by
    conv => lhs; rw [← e3]
    grind
  rw [e5, Int.add_mul_emod_self_left]
  clear e5 e3
  generalize x % S = m at *
  rw [Int.emod_eq_of_lt (by omega) (by omega)]

set_option maxHeartbeats 4000000 in
theorem c_low {Q : Value → Shared → Prop} {la : Addr} {A W k : Nat} {tk tw : Tok} (X : Frag.In (hd.heap_39 w.params) s.heap) (T : Top p loose mean mg mb s.heap) (hd : dp + 5 < recursionLimit)
    (hW : 1 ≤ W ∧ W ≤ 9) (ha : Ints s.heap la (limbs W A)) (hA : A < 2 ^ 300) (hk : k < 100) (hret : RetInts s Q (limbs W (A % 2 ^ k))) :
    wpAny (model PG w) (Ar dp un fr gd) (call (.ref 81) [.ref la, .int (k : Int) tk, .int (W : Int) tw]) Q E s := by
  obtain ⟨va, hla, hia⟩ := ha
  have hxl := limbs_len hW.1 hA
  have hxd := dig_limbs W A
  have hxn := num_limbs hW.1 A
  have hM : (2 : Int) ^ W ≤ 512 := by
    rw [← pow_nat]
    exact Int.ofNat_le.mpr (Nat.pow_le_pow_right (by decide) hW.2 : 2 ^ W ≤ 2 ^ 9)
  have hM0 := pow_pos' W
  generalize hxs : limbs W A = xs at *
  have hf : (k : Int).fmod W = ((k % W : Nat) : Int) := by rw [Int.fmod_eq_emod_of_nonneg _ (by omega)]; rfl
  have hf1 : k % W < W := Nat.mod_lt _ (by omega)
  have hq : (k : Int).fdiv W = ((k / W : Nat) : Int) := by rw [Int.fdiv_eq_ediv_of_nonneg _ (by omega)]; rfl
  have hq1 : k / W ≤ k := Nat.div_le_self _ _
  have hkW := Nat.div_add_mod k W
  refine' enter [("a", .ref la), ("n", .int (k : Int) tk), ("w", .int (W : Int) tw)] X T ?k6 ?k7 ?k8 ?k9 ?kB ?kP ?c2 ?c3 ?c4 ?c5 ?_
  (((case k6 => k_is); (case k7 => k_is); (case k8 => exact room0 (by assumption)); (case k9 => exact rfl); (case kB => exact locs rfl); (case kP => kst_all); (case c2 => exact rfl); (case c3 => exact rfl); (case c4 => exact rfl); (case c5 => decide); intro _ _ _ _ _ _ _ _; (try dsimp only)))
  (repeat' ((fail_if_success (with_reducible (first | refine sFor ?_ | refine sWhile ?_ | refine sIter ?_ | refine sEnum ?_ | refine sZip ?_ | refine sCall ?_ | refine sComp ?_ | refine sAComp ?_ | refine sCSrc ?_))); (first | (k_unfold; (try dsimp only)) | walk1 | (dsimp only; walk1) | (leave1; walk_say "STEP leave1"; try dsimp only))))
  · rename Fr _ _ _ _ => F
    rename News _ _ _ _ => N
    have h0 : (xs.length : Int) ≤ (k : Int).fdiv W := by assumption
    rw [hq] at h0
    dsimp only
    refine ret_ints (s := s) hret F N (.head _) (by assumption) ?_
    have h1 := @limbs_lt W A hW.1
    rw [hxs, ← pow_nat] at h1
    have h2 : A < 2 ^ (W * xs.length) := Int.ofNat_lt.mp h1
    have h3 : W * xs.length ≤ k := by
      have : W * xs.length ≤ W * (k / W) := Nat.mul_le_mul_left _ (by omega)
      omega
    rw [Nat.mod_eq_of_lt (Nat.lt_of_lt_of_le h2 (Nat.pow_le_pow_right (by decide) h3)), hxs]
  · have h9 : (k : Int).fdiv W < 0 := by assumption
    rw [hq] at h9
    exact absurd h9 (Int.not_lt.mpr (Int.natCast_nonneg _))
  · rename Fr _ _ _ _ => F
    rename News _ _ _ _ => N
    have h0 : ¬ (xs.length : Int) ≤ (k : Int).fdiv W := by assumption
    rename IntsAre _ (_ ++ _) => hI
    rw [hq] at h0 hI
    rw [hf] at hI
    simp only [Int.toNat_natCast, Int.one_mul] at hI
    obtain ⟨hx1, hx2⟩ := hxd.getD (k / W)
    rw [and_mask hx1] at hI
    have hr0 := pow_pos' (k % W)
    have hrM : (2 : Int) ^ (k % W) ≤ 2 ^ W := by
      rw [← pow_nat, ← pow_nat]
      exact Int.ofNat_le.mpr (Nat.pow_le_pow_right (by decide) (Nat.le_of_lt hf1))
    have hlt : k / W < xs.length := by omega
    have hm1 := Int.emod_nonneg (xs.getD (k / W) 0) (Int.ne_of_gt hr0)
    have hm2 := Int.emod_lt_of_pos (xs.getD (k / W) 0) hr0
    refine c_normal (dp := dp + 1) (X.keeps F.keep) (T.keeps F.keep) (room hd rfl) (ints_of N (.head _) hI) (by simp; omega) ?_
    have hdig : Dig W (xs.take (k / W) ++ [xs.getD (k / W) 0 % 2 ^ (k % W)]) := (hxd.take _).append (.cons hm1 (by omega) .nil)
    rw [strip_limbs hW.1 hdig (N := A % 2 ^ k) ?_]
    · intro h' tk' a vs' n' hst hfr hg hI
      obtain ⟨F, N, _⟩ := after_call F N hst hfr hg
      exact ret_ints (s := s) hret F N (.head _) hI rfl
    · rw [num_append, num_one, List.length_take, Nat.min_eq_left (Nat.le_of_lt hlt)]
      exact low_num hxd hxn hlt hkW (Nat.le_of_lt hf1)
end
end

section
section
variable {w : World} {E : Value → Shared → Prop} {s : Shared} {p : Program} {loose : List Str} {mean : ExcName → Option Value} {mg mb : Str → Option Value} {dp un : Nat} {fr : Option (List Env)} {gd : Option (List Code)}

/-- a limb of the shifted row -/
def shd (W r : Nat) (xs : List Int) (j : Nat) : Int := (xs.getD j 0 / 2 ^ r + xs.getD (j + 1) 0 * 2 ^ (W - r)) % 2 ^ W
def shrL (W r : Nat) : List Int → List Int
  | [] => []
  | x :: t => ((x / 2 ^ r + t.getD 0 0 * 2 ^ (W - r)) % 2 ^ W) :: shrL W r t
theorem shd_range (W r : Nat) : ∀ xs : List Int, (List.range xs.length).map (shd W r xs) = shrL W r xs
  | [] => rfl
  | x :: t => by
    rw [List.length_cons, List.range_succ_eq_map, List.map_cons, List.map_map]
    unfold shrL
    rw [← shd_range W r t]
    congr 1
theorem shd_drop (W r q : Nat) (xs : List Int) (j : Nat) : shd W r (xs.drop q) j = shd W r xs (q + j) := by
  unfold shd
  simp only [List.getD_eq_getElem?_getD, List.getElem?_drop, Nat.add_assoc]
theorem num_head {W : Nat} (t : List Int) : ∃ R', num W t = t.getD 0 0 + 2 ^ W * R' := by
  cases t with
  | nil => exact ⟨0, by simp [num]⟩
  | cons y u => exact ⟨num W u, rfl⟩
theorem shrL_num {W r : Nat} (hr : r ≤ W) : ∀ {xs : List Int}, Dig W xs → Dig W (shrL W r xs) ∧ num W (shrL W r xs) = num W xs / 2 ^ r
  | [], _ => ⟨.nil, by simp [shrL, num]⟩
  | x :: t, hd => by
    obtain ⟨ih1, ih2⟩ := shrL_num hr hd.tail
    obtain ⟨x0, x1⟩ := hd.head
    obtain ⟨R', hR'⟩ := num_head (W := W) t
    have hS := pow_pos' r
    have hU := pow_pos' (W - r)
    have hM := pow_pos' W
    have eM : (2 : Int) ^ W = 2 ^ r * 2 ^ (W - r) := by rw [← Int.pow_add, Nat.add_sub_cancel' hr]
    unfold shrL
    refine ⟨.cons (Int.emod_nonneg _ (Int.ne_of_gt hM)) (Int.emod_lt_of_pos _ hM) ih1, ?_⟩
    rw [num_cons, num_cons, ih2]
    generalize t.getD 0 0 = y at *
    generalize num W t = R at *
    generalize (2 : Int) ^ W = M at *
    generalize (2 : Int) ^ r = S at *
    generalize (2 : Int) ^ (W - r) = U at *
    have e1 := Int.emod_add_mul_ediv R S
    have p1 := Int.emod_nonneg R (Int.ne_of_gt hS)
    have p2 := Int.emod_lt_of_pos R hS
    have e3 : (x + M * R) / S = x / S + U * R := by
      rw [eM, Int.mul_assoc, Int.add_mul_ediv_left _ _ (Int.ne_of_gt hS)]
    have q1 := Int.ediv_nonneg x0 (Int.le_of_lt hS)
    have q2 : x / S < U := by
      refine Int.ediv_lt_of_lt_mul hS ?_
      rw [Int.mul_comm, ← eM]; exact x1
    rw [e3]
    generalize R % S = ρ at *
    generalize R / S = d at *
    generalize x / S = z at *
    have e2 : z + y * U = (z + ρ * U) + M * (d - U * R') := by
      have : y = S * (d - U * R') + ρ := by rw [eM] at hR'; grind
      rw [this, eM]; grind
    have h1 := Int.mul_nonneg p1 (Int.le_of_lt hU)
    have h2 := Int.mul_le_mul_of_nonneg_right (show ρ + 1 ≤ S by omega) (Int.le_of_lt hU)
    rw [Int.add_mul, ← eM] at h2
    rw [e2, Int.add_mul_emod_self_left, Int.emod_eq_of_lt (by omega) (by omega), ← e1, eM]
    grind
theorem num_split {W : Nat} (q : Nat) (xs : List Int) : num W xs = num W (xs.take q) + 2 ^ (W * q) * num W (xs.drop q) := by
  by_cases h : q ≤ xs.length
  · conv => lhs; rw [← List.take_append_drop q xs]
    rw [num_append, List.length_take, Nat.min_eq_left h]
  · rw [List.take_of_length_le (by omega), List.drop_of_length_le (by omega)]
    simp [num]
theorem num_drop {W : Nat} (q : Nat) {xs : List Int} (hd : Dig W xs) : num W (xs.drop q) = num W xs / 2 ^ (W * q) := by
  have l0 := num_nonneg (hd.take q)
  have l1 := num_lt (hd.take q)
  have l2 : num W (xs.take q) < 2 ^ (W * q) := by
    refine Int.lt_of_lt_of_le l1 ?_
    rw [← pow_nat, ← pow_nat]
    refine Int.ofNat_le.mpr (Nat.pow_le_pow_right (by decide) (Nat.mul_le_mul_left _ ?_))
    rw [List.length_take]; exact Nat.min_le_left _ _
  rw [num_split q xs, Int.add_mul_ediv_left _ _ (Int.ne_of_gt (pow_pos' _)), Int.ediv_eq_zero_of_lt l0 l2, Int.zero_add]
theorem shr_all {W A k q r n : Nat} {xs : List Int} (hd : Dig W xs) (hn : num W xs = A) (hk : W * q + r = k) (hr : r ≤ W) (hl : n = xs.length - q) :
    Dig W ((List.range n).map fun j => shd W r xs (q + j)) ∧ num W ((List.range n).map fun j => shd W r xs (q + j)) = ((A / 2 ^ k : Nat) : Int) := by
  have e : ((List.range n).map fun j => shd W r xs (q + j)) = shrL W r (xs.drop q) := by
    rw [← shd_range, List.length_drop, hl]
    exact List.map_congr_left fun j _ => (shd_drop W r q xs j).symm
  have hd' : Dig W (xs.drop q) := fun y hy => hd y (List.mem_of_mem_drop hy)
  obtain ⟨h1, h2⟩ := shrL_num hr hd'
  rw [e]
  refine ⟨h1, ?_⟩
  rw [h2, num_drop q hd, hn, ← hk, Int.natCast_ediv, pow_nat, Int.pow_add, Int.ediv_ediv_of_nonneg (Int.le_of_lt (pow_pos' _))]

set_option maxHeartbeats 4000000 in
theorem c_shr {Q : Value → Shared → Prop} {la : Addr} {A W k : Nat} {tk tw : Tok} (X : Frag.In (hd.heap_39 w.params) s.heap) (T : Top p loose mean mg mb s.heap) (hd : dp + 5 < recursionLimit)
    (hW : 1 ≤ W ∧ W ≤ 9) (ha : Ints s.heap la (limbs W A)) (hA : A < 2 ^ 300) (hk : k < 100) (hret : RetInts s Q (limbs W (A / 2 ^ k))) :
    wpAny (model PG w) (Ar dp un fr gd) (call (.ref 74) [.ref la, .int (k : Int) tk, .int (W : Int) tw]) Q E s := by
  obtain ⟨va, hla, hia⟩ := ha
  have hxl := limbs_len hW.1 hA
  have hxd := dig_limbs W A
  have hxn := num_limbs hW.1 A
  have hM : (2 : Int) ^ W ≤ 512 := by
    rw [← pow_nat]
    exact Int.ofNat_le.mpr (Nat.pow_le_pow_right (by decide) hW.2 : 2 ^ W ≤ 2 ^ 9)
  have hM0 := pow_pos' W
  generalize hxs : limbs W A = xs at *
  have hf : (k : Int).fmod W = ((k % W : Nat) : Int) := by rw [Int.fmod_eq_emod_of_nonneg _ (by omega)]; rfl
  have hf1 : k % W < W := Nat.mod_lt _ (by omega)
  have hq : (k : Int).fdiv W = ((k / W : Nat) : Int) := by rw [Int.fdiv_eq_ediv_of_nonneg _ (by omega)]; rfl
  have hq1 : k / W ≤ k := Nat.div_le_self _ _
  have hkW := Nat.div_add_mod k W
  refine' enter [("a", .ref la), ("n", .int (k : Int) tk), ("w", .int (W : Int) tw)] X T ?k6 ?k7 ?k8 ?k9 ?kB ?kP ?c2 ?c3 ?c4 ?c5 ?_
  (((case k6 => k_is); (case k7 => k_is); (case k8 => exact room0 (by assumption)); (case k9 => exact rfl); (case kB => exact locs rfl); (case kP => kst_all); (case c2 => exact rfl); (case c3 => exact rfl); (case c4 => exact rfl); (case c5 => decide); intro _ _ _ _ _ _ _ _; (try dsimp only)))
  (repeat' ((fail_if_success (with_reducible (first | refine sFor ?_ | refine sWhile ?_ | refine sIter ?_ | refine sEnum ?_ | refine sZip ?_ | refine sCall ?_ | refine sComp ?_ | refine sAComp ?_ | refine sCSrc ?_))); (first | (k_unfold; (try dsimp only)) | walk1 | (dsimp only; walk1) | (leave1; walk_say "STEP leave1"; try dsimp only))))
  rename Fr _ _ _ _ => F
  rename News _ _ _ _ => N
  rename_i lf _ _ _ _ _ _ _ _
  simp only [hq, hf] at F
  generalize hqq : k / W = q at *
  generalize hrr : k % W = r at *
  have hrM : (2 : Int) ^ r ≤ 2 ^ W := by
    rw [← pow_nat, ← pow_nat]
    exact Int.ofNat_le.mpr (Nat.pow_le_pow_right (by decide) (Nat.le_of_lt hf1))
  have hr0 := pow_pos' r
  refine For_invV s.heap rfl rfl ?_ (by intro _; rfl) PassesOwn.never
  (repeat' ((fail_if_success (with_reducible (first | refine sFor ?_ | refine sWhile ?_ | refine sIter ?_ | refine sEnum ?_ | refine sZip ?_ | refine sCall ?_ | refine sComp ?_ | refine sAComp ?_ | refine sCSrc ?_))); (first | (k_unfold; (try dsimp only)) | walk1 | (dsimp only; walk1) | (leave1; walk_say "STEP leave1"; try dsimp only))))
  rename IsRange _ _ _ _ _ _ _ _ => hR
  rename Fr _ _ _ _ => F
  rename News _ _ _ _ => N
  refine l_range1 (σ := LI) (fun c => [(lf, listOf c.vs.toArray c.n)]) (fun _ => [rN "a" la, iN "w" (W : Int), iN "few" (r : Int), rN "found" lf, iN "mask" (2 ^ W - 1)])
    (fun i c => IntsAre c.vs c.xs ∧ c.xs = (List.range i).map fun j => shd W r xs (q + j)) ⟨[], [], 0⟩ rfl hR (by omega) F N (by intro q hq; rw [List.mem_singleton.mp hq]; exact .tail _ (.head _)) (by (repeat (first | exact Knows.nil | refine Knows.cons' ⟨0, by with_unfolding_all rfl⟩ ?_ | refine Knows.cons' ⟨_, by with_unfolding_all rfl⟩ ?_ | refine Knows.consI (by with_unfolding_all rfl) (by first | omega | (simp; done) | (simp; omega)) ?_))) ⟨.nil, rfl⟩ ?_ ?_
  · rintro i ⟨vs, fs, n⟩ t u ts h tk own hi hoff ⟨hI, hl⟩ F2 N2
    clear F N hR
    try clear hq
    try clear hf
    dsimp only at F2 N2 hI hl hoff ⊢
    simp only [List.cons_append, List.nil_append] at N2
    have hof : ∀ p ∈ own, p.1 ≠ lf := fun q hq => hoff q hq lf (.head _)
    have hix : q + i < xs.length := by omega
    obtain ⟨hx1, hx2⟩ := hxd.getD (q + i)
    obtain ⟨hy1, hy2⟩ := hxd.getD (q + i + 1)
    have hx3 : 0 ≤ xs.getD ((q : Int) + (i : Int)).toNat 0 ∧ xs.getD ((q : Int) + (i : Int)).toNat 0 < 2 ^ W := ⟨hx1, hx2⟩
    have hy3 : 0 ≤ xs.getD ((q : Int) + (i : Int) + 1).toNat 0 ∧ xs.getD ((q : Int) + (i : Int) + 1).toNat 0 < 2 ^ W := ⟨hy1, hy2⟩
    have hlen : fs.length < 1000 := by rw [hl]; simp; omega
    have hWr : ((W : Int) - (r : Int)).toNat = W - r := Int.toNat_sub W r
    have d0 := Int.ediv_nonneg hx1 (Int.le_of_lt hr0)
    have d1 : xs.getD (q + i) 0 / 2 ^ r < 2 ^ (W - r) := by
      refine Int.ediv_lt_of_lt_mul hr0 ?_
      rw [← Int.pow_add, Nat.sub_add_cancel (Nat.le_of_lt hf1)]; exact hx2
    have d2 := Int.mul_nonneg hy1 (Int.le_of_lt (pow_pos' (W - r)))
    have e0 : Builtin.bitAnd (Builtin.bitOr ((xs.getD (q + i) 0).fdiv (2 ^ r)) (xs.getD (q + i + 1) 0 * 2 ^ (W - r))) (2 ^ W - 1) = shd W r xs (q + i) := by
      rw [fdiv_pow, or_parts d0 d1 hy1, and_mask (by omega)]; rfl
    (repeat' ((fail_if_success (with_reducible (first | refine sFor ?_ | refine sWhile ?_ | refine sIter ?_ | refine sEnum ?_ | refine sZip ?_ | refine sCall ?_ | refine sComp ?_ | refine sAComp ?_ | refine sCSrc ?_))); (first | (k_unfold; (try dsimp only)) | walk1 | (dsimp only; walk1) | (leave1; walk_say "STEP leave1"; try dsimp only))))
    all_goals rename Fr _ _ _ _ => F
    all_goals rename News _ _ _ _ => N
    all_goals (try dsimp only)
    all_goals rw [hWr] at N
    · have e1 : Builtin.bitAnd (Builtin.bitOr ((xs.getD ((q : Int) + (i : Int)).toNat 0).fdiv (2 ^ ((r : Int)).toNat)) (xs.getD ((q : Int) + (i : Int) + 1).toNat 0 * 2 ^ (W - r))) (2 ^ W - 1) = shd W r xs (q + i) := e0
      rw [e1] at N
      simp only [List.push_toArray] at N
      refine t_end1 (⟨_, _, n + 1⟩ : LI) rfl F N hof (by (repeat (first | exact Knows.nil | refine Knows.cons' ⟨0, by with_unfolding_all rfl⟩ ?_ | refine Knows.cons' ⟨_, by with_unfolding_all rfl⟩ ?_ | refine Knows.consI (by with_unfolding_all rfl) (by first | omega | (simp; done) | (simp; omega)) ?_))) ⟨hI.append (.cons _ _ .nil), ?_⟩
      dsimp only
      rw [hl, List.range_succ, List.map_append]; rfl
    · have h0 : ¬ (q : Int) + (i : Int) + 1 < xs.length := by assumption
      have hz : xs.getD (q + i + 1) 0 = 0 := by
        rw [List.getD_eq_getElem?_getD, List.getElem?_eq_none (by omega)]; rfl
      rw [hz] at e0
      have e1 : Builtin.bitAnd (Builtin.bitOr ((xs.getD ((q : Int) + (i : Int)).toNat 0).fdiv (2 ^ ((r : Int)).toNat)) (0 * 2 ^ (W - r))) (2 ^ W - 1) = shd W r xs (q + i) := e0
      rw [e1] at N
      simp only [List.push_toArray] at N
      refine t_end1 (⟨_, _, n + 1⟩ : LI) rfl F N hof (by (repeat (first | exact Knows.nil | refine Knows.cons' ⟨0, by with_unfolding_all rfl⟩ ?_ | refine Knows.cons' ⟨_, by with_unfolding_all rfl⟩ ?_ | refine Knows.consI (by with_unfolding_all rfl) (by first | omega | (simp; done) | (simp; omega)) ?_))) ⟨hI.append (.cons _ _ .nil), ?_⟩
      dsimp only
      rw [hl, List.range_succ, List.map_append]; rfl
  · rintro ⟨vs, fs, n⟩ u ts h tk ⟨hI, hl⟩ F2 N2
    clear F N hR
    try clear hq
    try clear hf
    dsimp only at F2 N2 hI hl ⊢
    (repeat' ((fail_if_success (with_reducible (first | refine sFor ?_ | refine sWhile ?_ | refine sIter ?_ | refine sEnum ?_ | refine sZip ?_ | refine sCall ?_ | refine sComp ?_ | refine sAComp ?_ | refine sCSrc ?_))); (first | (k_unfold; (try dsimp only)) | walk1 | (dsimp only; walk1) | (leave1; walk_say "STEP leave1"; try dsimp only))))
    have hlen : fs.length < 1000 := by rw [hl]; simp; omega
    obtain ⟨g1, g2⟩ := shr_all hxd hxn hkW (Nat.le_of_lt hf1) (n := (((xs.length : Nat) : Int) - ((q : Nat) : Int)).toNat) (Int.toNat_sub xs.length q)
    rw [← hl] at g1 g2
    refine c_normal (dp := dp + 1) (X.keeps F2.keep) (T.keeps F2.keep) (room hd rfl) (ints_of N2 (.head _) hI) hlen ?_
    rw [strip_limbs hW.1 g1 g2]
    intro h' tk' a vs' n' hst hfr hg hI
    obtain ⟨F, N, _⟩ := after_call F2 N2 hst hfr hg
    exact ret_ints (s := s) hret F N (.head _) hI rfl
end
end

section
section
variable {w : World} {E : Value → Shared → Prop} {s : Shared} {p : Program} {loose : List Str} {mean : ExcName → Option Value} {mg mb : Str → Option Value} {dp un : Nat} {fr : Option (List Env)} {gd : Option (List Code)}

set_option maxHeartbeats 4000000 in
theorem c_natof {Q : Value → Shared → Prop} {n W : Nat} {tn tw : Tok} (X : Frag.In (hd.heap_39 w.params) s.heap) (T : Top p loose mean mg mb s.heap) (hd : dp + 1 < recursionLimit)
    (hW : 1 ≤ W ∧ W ≤ 9) (hn : n < 2 ^ 60) (hret : RetInts s Q (limbs W n)) :
    wpAny (model PG w) (Ar dp un fr gd) (call (.ref 53) [.int (n : Int) tn, .int (W : Int) tw]) Q E s := by
  refine' enter [("number", .int (n : Int) tn), ("w", .int (W : Int) tw)] X T ?k6 ?k7 ?k8 ?k9 ?kB ?kP ?c2 ?c3 ?c4 ?c5 ?_
  (((case k6 => k_is); (case k7 => k_is); (case k8 => exact room0 (by assumption)); (case k9 => exact rfl); (case kB => exact locs rfl); (case kP => kst_all); (case c2 => exact rfl); (case c3 => exact rfl); (case c4 => exact rfl); (case c5 => decide); intro _ _ _ _ _ _ _ _; (try dsimp only)))
  (repeat' ((fail_if_success (with_reducible (first | refine sFor ?_ | refine sWhile ?_ | refine sIter ?_ | refine sEnum ?_ | refine sZip ?_ | refine sCall ?_ | refine sComp ?_ | refine sAComp ?_ | refine sCSrc ?_))); (first | (k_unfold; (try dsimp only)) | walk1 | (dsimp only; walk1) | (leave1; walk_say "STEP leave1"; try dsimp only))))
  rename Fr _ _ _ _ => F
  rename News _ _ _ _ => N
  rename_i lf _ _ _ _ _ _ _ _
  refine' my_while (σ := Nat × LI) (fun c => [(lf, listOf c.2.vs.toArray c.2.n)]) (fun c => [iN "number" (c.1 : Int), iN "w" (W : Int), rN "found" lf, iN "mask" (2 ^ W - 1)]) (fun c => IntsAre c.2.vs c.2.xs ∧ c.2.xs ++ limbs W c.1 = limbs W n ∧ c.1 ≤ n) (fun c => c.1) (n, ⟨[], [], 0⟩) F (kst_newsOf N (by intro q hq; rw [List.mem_singleton.mp hq]; exact .tail _ (.head _))) ?_ ?_ ?_ PassesOwn.never
  · (repeat (first | exact Knows.nil | refine Knows.cons' ⟨0, by with_unfolding_all rfl⟩ ?_ | refine Knows.cons' ⟨_, by with_unfolding_all rfl⟩ ?_ | refine Knows.consI (by with_unfolding_all rfl) (by first | omega | (simp; done) | (simp; omega)) ?_))
  · exact ⟨.nil, rfl, Nat.le_refl _⟩
  · rintro ⟨m, vs, xs, k⟩ u ts h tk ⟨hi, hl, hmn⟩ F1 N1
    clear F N
    dsimp only at F1 N1 hi hl hmn ⊢
    have hlen : xs.length ≤ 60 := by
      have h1 := limbs_len hW.1 hn
      rw [← hl, List.length_append] at h1
      omega
    (repeat' ((fail_if_success (with_reducible (first | refine sFor ?_ | refine sWhile ?_ | refine sIter ?_ | refine sEnum ?_ | refine sZip ?_ | refine sCall ?_ | refine sComp ?_ | refine sAComp ?_ | refine sCSrc ?_))); (first | (k_unfold; (try dsimp only)) | walk1 | (dsimp only; walk1) | (leave1; walk_say "STEP leave1"; try dsimp only))))
    all_goals rename Fr _ _ _ _ => F
    all_goals rename News _ _ _ _ => N
    all_goals (try dsimp only)
    · have h0 : 0 < (m : Int) := by assumption
      have e1 : (m : Int).fdiv (2 ^ ((W : Int)).toNat) = ((m / 2 ^ W : Nat) : Int) := by
        rw [fdiv_pow, Int.natCast_ediv, pow_nat]; rfl
      have e2 : Builtin.bitAnd (m : Int) (2 ^ W - 1) = ((m % 2 ^ W : Nat) : Int) := by
        rw [and_mask (by omega), Int.natCast_emod, pow_nat]
      simp only [List.push_toArray] at N
      rw [e2] at N
      rw [e1] at F
      refine w_end' (m / 2 ^ W, ⟨_, xs ++ [((m % 2 ^ W : Nat) : Int)], _⟩) F N (fun _ h => h) (by (repeat (first | exact Knows.nil | refine Knows.cons' ⟨0, by with_unfolding_all rfl⟩ ?_ | refine Knows.cons' ⟨_, by with_unfolding_all rfl⟩ ?_ | refine Knows.consI (by with_unfolding_all rfl) (by first | omega | (simp; done) | (simp; omega)) ?_))) ⟨hi.append (.cons _ _ .nil), ?_, Nat.le_trans (Nat.div_le_self _ _) hmn⟩ ?_
      · dsimp only
        rw [← hl, limbs_pos hW.1 (by omega : m ≠ 0), List.append_assoc]; rfl
      · exact Nat.div_lt_self (by omega) (Nat.one_lt_two_pow (by omega))
    · have h0 : ¬ 0 < (m : Int) := by assumption
      refine ret_ints hret F N (.head _) hi ?_
      have : m = 0 := by omega
      subst this
      rw [← hl, limbs_zero, List.append_nil]

/-- a list of ints whose place turns -/
structure AL where
  a : Addr
  vs : List Value
  n : Nat

theorem bits_facts : ∀ n : Nat, n < 10 → Builtin.Range.small ((Builtin.Int.intBits (n : Int) : Int) - 1) (-1) (-1) = true ∧ Builtin.Range.rangeSize ((Builtin.Int.intBits (n : Int) : Int) - 1) (-1) (-1) = (Builtin.Int.intBits (n : Int) : Int) ∧
    Builtin.Int.intBits (n : Int) ≤ 4 ∧ n / 2 ^ Builtin.Int.intBits (n : Int) = 0 := by decide +kernel
theorem pow_bound {A k : Nat} (hA : A ≤ 5000) (hk : k ≤ 20) : A ^ k < 2 ^ 300 :=
  Nat.lt_of_le_of_lt (Nat.le_trans (Nat.pow_le_pow_left hA k) (Nat.pow_le_pow_right (by decide) hk)) (by decide +kernel)

set_option maxHeartbeats 4000000 in
theorem c_power {Q : Value → Shared → Prop} {la : Addr} {A W n : Nat} {tn tw : Tok} (X : Frag.In (hd.heap_39 w.params) s.heap) (T : Top p loose mean mg mb s.heap) (hd : dp + 10 < recursionLimit)
    (hW : 1 ≤ W ∧ W ≤ 9) (ha : Ints s.heap la (limbs W A)) (hA : A ≤ 5000) (hn : n ≤ 9) (hret : RetInts s Q (limbs W (A ^ n))) :
    wpAny (model PG w) (Ar dp un fr gd) (call (.ref 88) [.ref la, .int (n : Int) tn, .int (W : Int) tw, .ref 151]) Q E s := by
  refine' enter [("a", .ref la), ("n", .int (n : Int) tn), ("w", .int (W : Int) tw), ("mul", .ref 151)] X T ?k6 ?k7 ?k8 ?k9 ?kB ?kP ?c2 ?c3 ?c4 ?c5 ?_
  (((case k6 => k_is); (case k7 => k_is); (case k8 => exact room0 (by assumption)); (case k9 => exact rfl); (case kB => exact locs rfl); (case kP => kst_all); (case c2 => exact rfl); (case c3 => exact rfl); (case c4 => exact rfl); (case c5 => decide); intro _ _ _ _ _ _ _ _; (try dsimp only)))
  (repeat' ((fail_if_success (with_reducible (first | refine sFor ?_ | refine sWhile ?_ | refine sIter ?_ | refine sEnum ?_ | refine sZip ?_ | refine sCall ?_ | refine sComp ?_ | refine sAComp ?_ | refine sCSrc ?_))); (first | (k_unfold; (try dsimp only)) | walk1 | (dsimp only; walk1) | (leave1; walk_say "STEP leave1"; try dsimp only))))
  rename Fr _ _ _ _ => F
  rename News _ _ _ _ => N
  refine For_invV s.heap rfl rfl ?_ (by intro _; rfl) PassesOwn.never
  (repeat' ((fail_if_success (with_reducible (first | refine sFor ?_ | refine sWhile ?_ | refine sIter ?_ | refine sEnum ?_ | refine sZip ?_ | refine sCall ?_ | refine sComp ?_ | refine sAComp ?_ | refine sCSrc ?_))); (first | (k_unfold; (try dsimp only)) | walk1 | (dsimp only; walk1) | (leave1; walk_say "STEP leave1"; try dsimp only))))
  rename IsRange _ _ _ _ _ _ _ _ => hR
  rename Fr _ _ _ _ => F
  rename News _ _ _ _ => N
  obtain ⟨k1, k2, k3, k4⟩ := bits_facts n (by omega)
  generalize Builtin.Int.intBits (n : Int) = bl at *
  refine l_range (n := bl) (σ := AL) (fun c => [(c.a, listOf c.vs.toArray c.n)]) (fun c => [rN "a" la, iN "n" (n : Int), iN "w" (W : Int), rN "mul" 151, rN "found" c.a])
    (fun i c => IntsAre c.vs (limbs W (A ^ (n / 2 ^ (bl - i))))) ⟨_, _, _⟩ rfl hR k1 k2 F N (by (repeat (first | exact Knows.nil | refine Knows.cons' ⟨0, by with_unfolding_all rfl⟩ ?_ | refine Knows.cons' ⟨_, by with_unfolding_all rfl⟩ ?_ | refine Knows.consI (by with_unfolding_all rfl) (by first | omega | (simp; done) | (simp; omega)) ?_))) ?_ ?_ ?_
  · show IntsAre _ (limbs W (A ^ (n / 2 ^ (bl - 0))))
    rw [Nat.sub_zero, k4, Nat.pow_zero]
    have e1 : limbs W 1 = [1] := by
      rw [limbs_pos hW.1 (by decide), Nat.mod_eq_of_lt (Nat.one_lt_two_pow (by omega)), Nat.div_eq_of_lt (Nat.one_lt_two_pow (by omega)), limbs_zero]; rfl
    rw [e1]
    exact .cons _ _ .nil
  · rintro i ⟨lf, vs, e⟩ t u ts h tk own hi hoff hI F2 N2
    clear F N hR
    have hsp : (bl : Int) - 1 + (i : Int) * -1 = ((bl - 1 - i : Nat) : Int) := by omega
    rw [hsp] at F2
    have hsp' : bl - i = (bl - 1 - i) + 1 := by omega
    have hsp2 : bl - (i + 1) = bl - 1 - i := by omega
    dsimp only at F2 N2 hI hoff ⊢
    rw [hsp'] at hI
    have hsl : bl - 1 - i ≤ 3 := by omega
    generalize bl - 1 - i = sp at *
    simp only [List.cons_append, List.nil_append] at N2
    have hdd : n / 2 ^ (sp + 1) = n / 2 ^ sp / 2 := by rw [Nat.pow_succ, Nat.div_div_eq_div_mul]
    rw [hdd] at hI
    have hb1 : n / 2 ^ sp ≤ 9 := Nat.le_trans (Nat.div_le_self _ _) hn
    generalize hm : n / 2 ^ sp = m at *
    (repeat' ((fail_if_success (with_reducible (first | refine sFor ?_ | refine sWhile ?_ | refine sIter ?_ | refine sEnum ?_ | refine sZip ?_ | refine sCall ?_ | refine sComp ?_ | refine sAComp ?_ | refine sCSrc ?_))); (first | (k_unfold; (try dsimp only)) | walk1 | (dsimp only; walk1) | (leave1; walk_say "STEP leave1"; try dsimp only))))
    rename Fr _ _ _ _ => F
    rename News _ _ _ _ => N
    refine c_mul (dp := dp + 1) (A := A ^ (m / 2)) (B := A ^ (m / 2)) (X.keeps F.keep) (T.keeps F.keep) (room hd rfl) hW (ints_of N (.head _) hI) (ints_of N (.head _) hI) (pow_bound hA (by omega)) (pow_bound hA (by omega)) ?_
    intro h1 tk1 a1 vs1 n1 hst1 hfr1 hg1 hI1
    obtain ⟨F1, N1, hne1⟩ := after_call F N hst1 hfr1 hg1
    clear F N
    rw [← Nat.pow_add] at hI1
    dsimp only
    (repeat' ((fail_if_success (with_reducible (first | refine sFor ?_ | refine sWhile ?_ | refine sIter ?_ | refine sEnum ?_ | refine sZip ?_ | refine sCall ?_ | refine sComp ?_ | refine sAComp ?_ | refine sCSrc ?_))); (first | (k_unfold; (try dsimp only)) | walk1 | (dsimp only; walk1) | (leave1; walk_say "STEP leave1"; try dsimp only))))
    all_goals rename Fr _ _ _ _ => F
    all_goals rename News _ _ _ _ => N
    · have hb : Builtin.bitAnd ((n : Int).fdiv (2 ^ ((sp : Int)).toNat)) 1 = 1 := by assumption
      have hodd : m % 2 = 1 := by
        have e1 : (n : Int).fdiv (2 ^ ((sp : Int)).toNat) = ((m : Nat) : Int) := by
          rw [fdiv_pow, ← hm, Int.natCast_ediv, pow_nat]; rfl
        rw [e1, bitAnd_m1] at hb
        omega
      refine c_mul (dp := dp + 1) (A := A ^ (m / 2 + m / 2)) (B := A) (X.keeps F.keep) (T.keeps F.keep) (room hd rfl) hW (ints_of N (.head _) hI1) (ints_keep F.keep ha) (pow_bound hA (by omega)) (Nat.lt_of_le_of_lt hA (by decide +kernel)) ?_
      intro h2 tk2 a2 vs2 n2 hst2 hfr2 hg2 hI2
      obtain ⟨F2, N2, hne2⟩ := after_call F N hst2 hfr2 hg2
      clear F N F1 N1
      rw [← Nat.pow_succ] at hI2
      dsimp only
      (repeat' ((fail_if_success (with_reducible (first | refine sFor ?_ | refine sWhile ?_ | refine sIter ?_ | refine sEnum ?_ | refine sZip ?_ | refine sCall ?_ | refine sComp ?_ | refine sAComp ?_ | refine sCSrc ?_))); (first | (k_unfold; (try dsimp only)) | walk1 | (dsimp only; walk1) | (leave1; walk_say "STEP leave1"; try dsimp only))))
      rename Fr _ _ _ _ => F
      rename News _ _ _ _ => N
      dsimp only
      refine t_end1 (⟨a2, vs2, n2⟩ : AL) rfl F (kst_newsOf N ?_) (fun q hq => hne2 q (.tail _ (.tail _ hq))) (by (repeat (first | exact Knows.nil | refine Knows.cons' ⟨0, by with_unfolding_all rfl⟩ ?_ | refine Knows.cons' ⟨_, by with_unfolding_all rfl⟩ ?_ | refine Knows.consI (by with_unfolding_all rfl) (by first | omega | (simp; done) | (simp; omega)) ?_))) ?_
      · intro q hq
        rcases List.mem_cons.mp hq with rfl | hq
        · exact .head _
        · exact .tail _ (.tail _ (.tail _ hq))
      · have e2 : (m / 2 + m / 2).succ = m := by omega
        rw [e2] at hI2
        dsimp only
        rw [hsp2, hm]
        exact hI2
    · have hb : Builtin.bitAnd ((n : Int).fdiv (2 ^ ((sp : Int)).toNat)) 1 ≠ 1 := by assumption
      have hev : m % 2 = 0 := by
        have e1 : (n : Int).fdiv (2 ^ ((sp : Int)).toNat) = ((m : Nat) : Int) := by
          rw [fdiv_pow, ← hm, Int.natCast_ediv, pow_nat]; rfl
        rw [e1, bitAnd_m1] at hb
        omega
      refine t_end1 (⟨a1, vs1, n1⟩ : AL) rfl F (kst_newsOf N ?_) (fun q hq => hne1 q (.tail _ hq)) (by (repeat (first | exact Knows.nil | refine Knows.cons' ⟨0, by with_unfolding_all rfl⟩ ?_ | refine Knows.cons' ⟨_, by with_unfolding_all rfl⟩ ?_ | refine Knows.consI (by with_unfolding_all rfl) (by first | omega | (simp; done) | (simp; omega)) ?_))) ?_
      · intro q hq
        rcases List.mem_cons.mp hq with rfl | hq
        · exact .head _
        · exact .tail _ (.tail _ hq)
      · have e2 : m / 2 + m / 2 = m := by omega
        rw [e2] at hI1
        dsimp only
        rw [hsp2, hm]
        exact hI1
  · rintro ⟨lf, vs, e⟩ u ts h tk hI F2 N2
    clear F N hR
    dsimp only at F2 N2 hI ⊢
    rw [Nat.sub_self, Nat.pow_zero, Nat.div_one] at hI
    (repeat' ((fail_if_success (with_reducible (first | refine sFor ?_ | refine sWhile ?_ | refine sIter ?_ | refine sEnum ?_ | refine sZip ?_ | refine sCall ?_ | refine sComp ?_ | refine sAComp ?_ | refine sCSrc ?_))); (first | (k_unfold; (try dsimp only)) | walk1 | (dsimp only; walk1) | (leave1; walk_say "STEP leave1"; try dsimp only))))
    exact ret_ints (s := s) hret F2 N2 (.head _) hI rfl
end
end

section
section
variable {w : World} {E : Value → Shared → Prop} {s : Shared} {p : Program} {loose : List Str} {mean : ExcName → Option Value} {mg mb : Str → Option Value} {dp un : Nat} {fr : Option (List Env)} {gd : Option (List Code)}

def RetInt (s : Shared) (Q : Value → Shared → Prop) (v : Int) : Prop :=
  ∀ h' tk' t, s.heap.StaysIn h' → Q (.int v t) { s with heap := h', toks := tk' }

/-- Legendre's sum, with fuel -/
def leg (q : Nat) : Nat → Nat → Nat
  | 0, _ => 0
  | f + 1, n => if n = 0 then 0 else n / q + leg q f (n / q)
theorem leg_fuel {q : Nat} (hq : 2 ≤ q) : ∀ (f n g : Nat), n ≤ f → n ≤ g → leg q f n = leg q g n
  | 0, n, g, h1, h2 => by
    have : n = 0 := by omega
    subst this
    cases g <;> simp [leg]
  | f + 1, n, 0, h1, h2 => by
    have : n = 0 := by omega
    subst this
    simp [leg]
  | f + 1, n, g + 1, h1, h2 => by
    unfold leg
    by_cases h : n = 0
    · simp [h]
    · have h3 : n / q < n := Nat.div_lt_self (by omega) hq
      rw [if_neg h, if_neg h, leg_fuel hq f (n / q) g (by omega) (by omega)]
theorem leg_step {q n : Nat} (hq : 2 ≤ q) (h : n ≠ 0) : leg q n n = n / q + leg q (n / q) (n / q) := by
  obtain ⟨k, rfl⟩ : ∃ k, n = k + 1 := ⟨n - 1, by omega⟩
  conv => lhs; unfold leg
  have h3 : (k + 1) / q < k + 1 := Nat.div_lt_self (by omega) hq
  rw [if_neg h, leg_fuel hq k ((k + 1) / q) ((k + 1) / q) (by omega) (Nat.le_refl _)]

set_option maxHeartbeats 4000000 in
theorem c_fact {Q : Value → Shared → Prop} {q n : Nat} {tn tq : Tok} (X : Frag.In (hd.heap_39 w.params) s.heap) (T : Top p loose mean mg mb s.heap) (hd : dp + 10 < recursionLimit)
    (hq : 2 ≤ q ∧ q ≤ 100) (hn : n ≤ 100) (hret : RetInt s Q (leg q n n : Nat)) :
    wpAny (model PG w) (Ar dp un fr gd) (call (.ref 123) [.int (n : Int) tn, .int (q : Int) tq]) Q E s := by
  refine' enter [("n", .int (n : Int) tn), ("prime", .int (q : Int) tq)] X T ?k6 ?k7 ?k8 ?k9 ?kB ?kP ?c2 ?c3 ?c4 ?c5 ?_
  (((case k6 => k_is); (case k7 => k_is); (case k8 => exact room0 (by assumption)); (case k9 => exact rfl); (case kB => exact locs rfl); (case kP => kst_all); (case c2 => exact rfl); (case c3 => exact rfl); (case c4 => exact rfl); (case c5 => decide); intro _ _ _ _ _ _ _ _; (try dsimp only)))
  (repeat' ((fail_if_success (with_reducible (first | refine sFor ?_ | refine sWhile ?_ | refine sIter ?_ | refine sEnum ?_ | refine sZip ?_ | refine sCall ?_ | refine sComp ?_ | refine sAComp ?_ | refine sCSrc ?_))); (first | (k_unfold; (try dsimp only)) | walk1 | (dsimp only; walk1) | (leave1; walk_say "STEP leave1"; try dsimp only))))
  rename Fr _ _ _ _ => F
  rename News _ _ _ _ => N
  refine' my_while (σ := Nat × Nat) (fun _ => []) (fun c => [iN "n" (c.1 : Int), iN "prime" (q : Int), iN "found" (c.2 : Int)]) (fun c => c.1 ≤ 100 ∧ c.2 + leg q c.1 c.1 = leg q n n) (fun c => c.1) (n, 0) F N ?_ ?_ ?_ PassesOwn.never
  · (repeat (first | exact Knows.nil | refine Knows.cons' ⟨0, by with_unfolding_all rfl⟩ ?_ | refine Knows.cons' ⟨_, by with_unfolding_all rfl⟩ ?_ | refine Knows.consI (by with_unfolding_all rfl) (by first | omega | (simp; done) | (simp; omega)) ?_))
  · exact ⟨hn, Nat.zero_add _⟩
  · rintro ⟨m, f⟩ u ts h tk ⟨hm, hl⟩ F1 N1
    clear F N
    dsimp only at F1 N1 hm hl ⊢
    (repeat' ((fail_if_success (with_reducible (first | refine sFor ?_ | refine sWhile ?_ | refine sIter ?_ | refine sEnum ?_ | refine sZip ?_ | refine sCall ?_ | refine sComp ?_ | refine sAComp ?_ | refine sCSrc ?_))); (first | (k_unfold; (try dsimp only)) | walk1 | (dsimp only; walk1) | (leave1; walk_say "STEP leave1"; try dsimp only))))
    all_goals rename Fr _ _ _ _ => F
    all_goals rename News _ _ _ _ => N
    all_goals (try dsimp only)
    · have h0 : 0 < (m : Int) := by assumption
      have e1 : (m : Int).fdiv q = ((m / q : Nat) : Int) := by rw [Int.fdiv_eq_ediv_of_nonneg _ (by omega)]; rfl
      rw [e1, ← Int.natCast_add] at F
      rw [leg_step hq.1 (by omega : m ≠ 0)] at hl
      refine w_end' (m / q, f + m / q) F N (fun _ h => h) (by (repeat (first | exact Knows.nil | refine Knows.cons' ⟨0, by with_unfolding_all rfl⟩ ?_ | refine Knows.cons' ⟨_, by with_unfolding_all rfl⟩ ?_ | refine Knows.consI (by with_unfolding_all rfl) (by first | omega | (simp; done) | (simp; omega)) ?_))) ⟨Nat.le_trans (Nat.div_le_self _ _) hm, by dsimp only; omega⟩ (Nat.div_lt_self (by omega) hq.1)
    · have h0 : ¬ 0 < (m : Int) := by assumption
      have : m = 0 := by omega
      subst this
      have e : f = leg q n n := by simpa [leg] using hl
      subst e
      exact hret _ _ _ F.keep

def cnt (n one : Nat) : Nat := (Builtin.Range.rangeSize ((one : Int) * one) ((n : Int) + 1) one).toNat
def sinn (one k : Nat) (bs : List Bool) : List Bool := (List.range k).foldl (fun b t => b.set (one * one + t * one) false) bs
def sstep (n : Nat) (c : List Bool × List Int) (i : Nat) : List Bool × List Int :=
  if c.1.getD (2 + i) false then (sinn (2 + i) (cnt n (2 + i)) c.1, c.2 ++ [((2 + i : Nat) : Int)]) else c
def sieveS (n : Nat) : List Int := ((List.range (n - 1)).foldl (sstep n) ((List.replicate (n + 1) [true]).flatten, [])).2
theorem sinn_len (one : Nat) : ∀ (k : Nat) (bs : List Bool), (sinn one k bs).length = bs.length := by
  intro k bs
  unfold sinn
  generalize List.range k = l
  induction l generalizing bs with
  | nil => rfl
  | cons t r ih => rw [List.foldl_cons, ih, List.length_set]
theorem sinn_succ (one k : Nat) (bs : List Bool) : sinn one (k + 1) bs = (sinn one k bs).set (one * one + k * one) false := by
  unfold sinn
  rw [List.range_succ, List.foldl_append]; rfl
theorem small_facts : ∀ n : Nat, n < 10 → ∀ one : Nat, one < 10 → Builtin.Range.small ((one : Int) * one) ((n : Int) + 1) one = true ∧ cnt n one ≤ 10 ∧ (∀ i, i < 10 → i < cnt n one → one * one + i * one < n + 1) := by decide +kernel
structure SV where
  bv : List Value
  bs : List Bool
  bn : Nat
  vs : List Value
  xs : List Int
  n : Nat

local macro_rules | `(tactic| walk_at "binaryOp Mult ref int") => `(tactic| (refine kbo_mul (by k_asm) (by k_asm) (by is_list) (LSm.BoolsAre.cons true .nil) (by omega) (by omega) (by simp; omega) ?_; (intro D' h' F' N' l1 i1 n1 s1 e1 e2 e3 e4); (try k_lt l1)))
set_option maxHeartbeats 4000000 in
theorem c_sieve {Q : Value → Shared → Prop} {n : Nat} {tn : Tok} (X : Frag.In (hd.heap_39 w.params) s.heap) (T : Top p loose mean mg mb s.heap) (hd : dp + 10 < recursionLimit)
    (hn : n ≤ 9) (hret : RetInts s Q (sieveS n)) :
    wpAny (model PG w) (Ar dp un fr gd) (call (.ref 95) [.int (n : Int) tn]) Q E s := by
  refine' enter [("n", .int (n : Int) tn)] X T ?k6 ?k7 ?k8 ?k9 ?kB ?kP ?c2 ?c3 ?c4 ?c5 ?_
  (((case k6 => k_is); (case k7 => k_is); (case k8 => exact room0 (by assumption)); (case k9 => exact rfl); (case kB => exact locs rfl); (case kP => kst_all); (case c2 => exact rfl); (case c3 => exact rfl); (case c4 => exact rfl); (case c5 => decide); intro _ _ _ _ _ _ _ _; (try dsimp only)))
  (repeat' ((fail_if_success (with_reducible (first | refine sFor ?_ | refine sWhile ?_ | refine sIter ?_ | refine sEnum ?_ | refine sZip ?_ | refine sCall ?_ | refine sComp ?_ | refine sAComp ?_ | refine sCSrc ?_))); (first | (k_unfold; (try dsimp only)) | walk1 | (dsimp only; walk1) | (leave1; walk_say "STEP leave1"; try dsimp only))))
  rename Fr _ _ _ _ => F
  rename News _ _ _ _ => N
  rename_i lb _ hb0 n1 hs1 he1 _ he3 he4 _ _ _ lf _ hlt _
  clear he4
  have hbf : lb < lf := hlt.1
  have hn1 : n1 = n + 1 := by have := he3 (by omega); simp at this; omega
  refine For_invV s.heap rfl rfl ?_ (by intro _; rfl) PassesOwn.never
  (repeat' ((fail_if_success (with_reducible (first | refine sFor ?_ | refine sWhile ?_ | refine sIter ?_ | refine sEnum ?_ | refine sZip ?_ | refine sCall ?_ | refine sComp ?_ | refine sAComp ?_ | refine sCSrc ?_))); (first | (k_unfold; (try dsimp only)) | walk1 | (dsimp only; walk1) | (leave1; walk_say "STEP leave1"; try dsimp only))))
  rename IsRange _ _ _ _ _ _ _ _ => hR
  rename Fr _ _ _ _ => F
  rename News _ _ _ _ => N
  refine l_range1 (σ := SV) (fun c => [(lb, listOf c.bv.toArray c.bn), (lf, listOf c.vs.toArray c.n)]) (fun c => [iN "n" (n : Int), rN "is_left" lb, rN "found" lf])
    (fun i c => LSm.BoolsAre c.bv c.bs ∧ IntsAre c.vs c.xs ∧ c.bs.length = n + 1 ∧ c.xs.length ≤ i ∧ (c.bs, c.xs) = (List.range i).foldl (sstep n) ((List.replicate (n + 1) [true]).flatten, [])) ⟨_, (List.replicate (n + 1) [true]).flatten, 0, [], [], 0⟩ rfl hR (by omega) F N ?_ (by (repeat (first | exact Knows.nil | refine Knows.cons' ⟨0, by with_unfolding_all rfl⟩ ?_ | refine Knows.cons' ⟨_, by with_unfolding_all rfl⟩ ?_ | refine Knows.consI (by with_unfolding_all rfl) (by first | omega | (simp; done) | (simp; omega)) ?_))) ⟨hb0, .nil, he1.trans hn1, Nat.le_refl _, rfl⟩ ?_ ?_
  · intro q hq
    rcases List.mem_cons.mp hq with rfl | hq
    · exact .tail _ (.head _)
    · rw [List.mem_singleton.mp hq]; exact .head _
  · rintro i ⟨bv, bs, bn, vs, xs, e⟩ t u ts h tk own hi hoff ⟨hb, hI, hbl, hxl, hst⟩ F2 N2
    clear F N hR hb0
    try clear hn1
    try clear hs1
    try clear he1
    try clear he3
    try clear he4
    dsimp only at F2 N2 hb hI hbl hxl hst hoff ⊢
    simp only [List.cons_append, List.nil_append] at N2
    have hofb : ∀ p ∈ own, p.1 ≠ lb := fun q hq => hoff q hq lb (.head _)
    have hoff' : ∀ p ∈ own, p.1 ≠ lf := fun q hq => hoff q hq lf (.tail _ (.head _))
    have h2i : (2 : Int) + (i : Int) = ((2 + i : Nat) : Int) := by omega
    rw [h2i] at F2
    have hone : 2 + i ≤ n := by omega
    generalize hon : 2 + i = one at *
    have hone2 : 2 ≤ one := by omega
    have hlen : xs.length < 1000 := by omega
    (repeat' ((fail_if_success (with_reducible (first | refine sFor ?_ | refine sWhile ?_ | refine sIter ?_ | refine sEnum ?_ | refine sZip ?_ | refine sCall ?_ | refine sComp ?_ | refine sAComp ?_ | refine sCSrc ?_))); (first | (k_unfold; (try dsimp only)) | walk1 | (dsimp only; walk1) | (leave1; walk_say "STEP leave1"; try dsimp only))))
    all_goals rename Fr _ _ _ _ => F
    all_goals rename News _ _ _ _ => N
    · obtain ⟨q1, q2, q3⟩ := small_facts n (by omega) one (by omega)
      refine For_invV s.heap rfl rfl ?_ (by intro _; rfl) PassesOwn.never
      (repeat' ((fail_if_success (with_reducible (first | refine sFor ?_ | refine sWhile ?_ | refine sIter ?_ | refine sEnum ?_ | refine sZip ?_ | refine sCall ?_ | refine sComp ?_ | refine sAComp ?_ | refine sCSrc ?_))); (first | (k_unfold; (try dsimp only)) | walk1 | (dsimp only; walk1) | (leave1; walk_say "STEP leave1"; try dsimp only))))
      rename IsRange _ _ _ _ _ _ _ _ => hR
      rename Fr _ _ _ _ => F
      rename News _ _ _ _ => N
      simp only [List.push_toArray] at N
      have hT' : bs.getD ((one : Int)).toNat false = true := by with_reducible assumption
      have hT : bs.getD one false = true := hT'
      refine l_range (n := cnt n one) (σ := List Value × List Bool × Nat) (fun c => (lb, listOf c.1.toArray c.2.2) :: (lf, listOf (vs ++ [Value.int (one : Int) t]).toArray (e + 1)) :: own) (fun c => [iN "n" (n : Int), rN "is_left" lb, rN "found" lf])
        (fun j c => LSm.BoolsAre c.1 c.2.1 ∧ c.2.1 = sinn one j bs) ⟨bv, bs, bn⟩ rfl hR q1 (rangeSize_toNat _ _ _) F N (by (repeat (first | exact Knows.nil | refine Knows.cons' ⟨0, by with_unfolding_all rfl⟩ ?_ | refine Knows.cons' ⟨_, by with_unfolding_all rfl⟩ ?_ | refine Knows.consI (by with_unfolding_all rfl) (by first | omega | (simp; done) | (simp; omega)) ?_))) ⟨hb, rfl⟩ ?_ ?_
      · rintro j ⟨bv2, bs2, bn2⟩ t2 u2 ts2 h2 tk2 own2 hj hoff2 ⟨hb2, hst2⟩ F3 N3
        clear F N hR
        dsimp only at F3 N3 hb2 hst2 hoff2 ⊢
        have hidx := q3 j (by omega) hj
        have hcast : (one : Int) * one + (j : Int) * one = ((one * one + j * one : Nat) : Int) := by simp
        rw [hcast] at F3
        clear q1 q2 q3
        have hbl2 : bs2.length = n + 1 := by rw [hst2, sinn_len]; exact hbl
        have hset := sinn_succ one j bs
        rw [← hst2] at hset
        generalize one * one + j * one = ix at *
        simp only [List.cons_append, List.nil_append] at N3
        have hof2 : ∀ p ∈ own ++ own2, p.1 ≠ lb := fun q hq => (List.mem_append.mp hq).elim (hofb q) (fun h => hoff2 q h lb (.head _))
        (repeat' ((fail_if_success (with_reducible (first | refine sFor ?_ | refine sWhile ?_ | refine sIter ?_ | refine sEnum ?_ | refine sZip ?_ | refine sCall ?_ | refine sComp ?_ | refine sAComp ?_ | refine sCSrc ?_))); (first | (k_unfold; (try dsimp only)) | walk1 | (dsimp only; walk1) | (leave1; walk_say "STEP leave1"; try dsimp only))))
        rename Fr _ _ _ _ => F
        rename News _ _ _ _ => N
        rename LSm.BoolsAre _ (List.set _ _ _) => hB
        dsimp only
        refine t_end (⟨_, _, bn2⟩ : List Value × List Bool × Nat) F N ?_ ?_ ?_ (by (repeat (first | exact Knows.nil | refine Knows.cons' ⟨0, by with_unfolding_all rfl⟩ ?_ | refine Knows.cons' ⟨_, by with_unfolding_all rfl⟩ ?_ | refine Knows.consI (by with_unfolding_all rfl) (by first | omega | (simp; done) | (simp; omega)) ?_))) ⟨hB, hset.symm⟩
        · intro q hq
          rcases List.mem_cons.mp hq with rfl | hq
          · exact .head _
          · rcases List.mem_cons.mp hq with rfl | hq
            · exact .tail _ (.head _)
            · exact .tail _ (.tail _ (List.mem_append.mpr (.inl hq)))
        · intro q hq
          exact .tail _ (.tail _ (List.mem_append.mpr (.inr hq)))
        · intro q hq q' hq' he
          refine hoff2 q' hq' q.1 ?_ he.symm
          rcases List.mem_cons.mp hq with rfl | hq
          · exact .head _
          · exact .tail _ (List.mem_map_of_mem hq)
      · rintro ⟨bv2, bs2, bn2⟩ u2 ts2 h2 tk2 ⟨hb2, hst2⟩ F3 N3
        clear F N hR q1 q2 q3
        dsimp only at F3 N3 hb2 hst2 ⊢
        (repeat' ((fail_if_success (with_reducible (first | refine sFor ?_ | refine sWhile ?_ | refine sIter ?_ | refine sEnum ?_ | refine sZip ?_ | refine sCall ?_ | refine sComp ?_ | refine sAComp ?_ | refine sCSrc ?_))); (first | (k_unfold; (try dsimp only)) | walk1 | (dsimp only; walk1) | (leave1; walk_say "STEP leave1"; try dsimp only))))
        rename Fr _ _ _ _ => F
        rename News _ _ _ _ => N
        try dsimp only
        refine t_end (⟨bv2, bs2, bn2, vs ++ [Value.int (one : Int) t], xs ++ [(one : Int)], e + 1⟩ : SV) F N ?_ ?_ ?_ (by (repeat (first | exact Knows.nil | refine Knows.cons' ⟨0, by with_unfolding_all rfl⟩ ?_ | refine Knows.cons' ⟨_, by with_unfolding_all rfl⟩ ?_ | refine Knows.consI (by with_unfolding_all rfl) (by first | omega | (simp; done) | (simp; omega)) ?_))) ⟨hb2, hI.append (.cons _ _ .nil), by rw [hst2, sinn_len]; exact hbl, by simp; omega, ?_⟩
        · intro q hq
          rcases List.mem_cons.mp hq with rfl | hq
          · exact .head _
          · rw [List.mem_singleton.mp hq]; exact .tail _ (.head _)
        · intro q hq
          exact .tail _ (.tail _ hq)
        · intro q hq q' hq' he
          rcases List.mem_cons.mp hq with rfl | hq
          · exact hofb q' hq' he.symm
          · rw [List.mem_singleton.mp hq] at he; exact hoff' q' hq' he.symm
        · rw [List.range_succ, List.foldl_append, ← hst]
          simp only [List.foldl_cons, List.foldl_nil, sstep, hon, hT, if_true]
          rw [hst2]
    · have hF : bs.getD one false = false := by
        have h9 : bs.getD ((one : Int)).toNat false = false := by with_reducible assumption
        exact h9
      try dsimp only
      refine t_end (⟨bv, bs, bn, vs, xs, e⟩ : SV) F N ?_ ?_ ?_ (by (repeat (first | exact Knows.nil | refine Knows.cons' ⟨0, by with_unfolding_all rfl⟩ ?_ | refine Knows.cons' ⟨_, by with_unfolding_all rfl⟩ ?_ | refine Knows.consI (by with_unfolding_all rfl) (by first | omega | (simp; done) | (simp; omega)) ?_))) ⟨hb, hI, hbl, by show xs.length ≤ i + 1; omega, ?_⟩
      · intro q hq
        rcases List.mem_cons.mp hq with rfl | hq
        · exact .head _
        · rw [List.mem_singleton.mp hq]; exact .tail _ (.head _)
      · intro q hq
        exact .tail _ (.tail _ hq)
      · intro q hq q' hq' he
        rcases List.mem_cons.mp hq with rfl | hq
        · exact hofb q' hq' he.symm
        · rw [List.mem_singleton.mp hq] at he; exact hoff' q' hq' he.symm
      · rw [List.range_succ, List.foldl_append, ← hst]
        simp only [List.foldl_cons, List.foldl_nil, sstep, hon, hF, Bool.false_eq_true, if_false]
  · rintro ⟨bv, bs, bn, vs, xs, e⟩ u ts h tk ⟨hb, hI, hbl, hxl, hst⟩ F2 N2
    clear F N hR hb0
    try clear hn1
    try clear hs1
    try clear he1
    try clear he3
    try clear he4
    dsimp only at F2 N2 hb hI hbl hxl hst ⊢
    have e1 : ((n : Int) + 1 - 2).toNat = n - 1 := Int.toNat_sub (n + 1) 2
    rw [e1] at hst
    (repeat' ((fail_if_success (with_reducible (first | refine sFor ?_ | refine sWhile ?_ | refine sIter ?_ | refine sEnum ?_ | refine sZip ?_ | refine sCall ?_ | refine sComp ?_ | refine sAComp ?_ | refine sCSrc ?_))); (first | (k_unfold; (try dsimp only)) | walk1 | (dsimp only; walk1) | (leave1; walk_say "STEP leave1"; try dsimp only))))
    refine ret_ints (s := s) hret F2 N2 (.tail _ (.head _)) hI ?_
    unfold sieveS
    rw [← hst]
end
end

section
section
variable {w : World} {E : Value → Shared → Prop} {s : Shared} {p : Program} {loose : List Str} {mean : ExcName → Option Value} {mg mb : Str → Option Value} {dp un : Nat} {fr : Option (List Env)} {gd : Option (List Code)}

structure PC where
  m : Nat
  i : Nat
  j : Nat
  f : AL
  q : AL
set_option maxHeartbeats 4000000 in
theorem c_poc {Q : Value → Shared → Prop} {A W n : Nat} {ta tn tw : Tok} (X : Frag.In (hd.heap_39 w.params) s.heap) (T : Top p loose mean mg mb s.heap) (hd : dp + 10 < recursionLimit)
    (hW : 1 ≤ W ∧ W ≤ 9) (hA : A ≤ 100) (hn : n ≤ 20) (hret : RetInts s Q (limbs W (A ^ n))) :
    wpAny (model PG w) (Ar dp un fr gd) (call (.ref 109) [.int (A : Int) ta, .int (n : Int) tn, .int (W : Int) tw, .ref 151]) Q E s := by
  refine' enter [("base", .int (A : Int) ta), ("many", .int (n : Int) tn), ("w", .int (W : Int) tw), ("mul", .ref 151)] X T ?k6 ?k7 ?k8 ?k9 ?kB ?kP ?c2 ?c3 ?c4 ?c5 ?_
  (((case k6 => k_is); (case k7 => k_is); (case k8 => exact room0 (by assumption)); (case k9 => exact rfl); (case kB => exact locs rfl); (case kP => kst_all); (case c2 => exact rfl); (case c3 => exact rfl); (case c4 => exact rfl); (case c5 => decide); intro _ _ _ _ _ _ _ _; (try dsimp only)))
  (repeat' ((fail_if_success (with_reducible (first | refine sFor ?_ | refine sWhile ?_ | refine sIter ?_ | refine sEnum ?_ | refine sZip ?_ | refine sCall ?_ | refine sComp ?_ | refine sAComp ?_ | refine sCSrc ?_))); (first | (k_unfold; (try dsimp only)) | walk1 | (dsimp only; walk1) | (leave1; walk_say "STEP leave1"; try dsimp only))))
  rename Fr _ _ _ _ => F
  rename News _ _ _ _ => N
  rename_i tk0 _ _ lf _ _
  refine c_natof (dp := dp + 1) (X.keeps F.keep) (T.keeps F.keep) (room hd rfl) hW (Nat.lt_of_le_of_lt hA (by decide)) ?_
  intro h1 tk1 a1 vs1 n1 hst1 hfr1 hg1 hI1
  obtain ⟨F1, N1, hne1⟩ := after_call F N hst1 hfr1 hg1
  clear F N
  dsimp only
  (repeat' ((fail_if_success (with_reducible (first | refine sFor ?_ | refine sWhile ?_ | refine sIter ?_ | refine sEnum ?_ | refine sZip ?_ | refine sCall ?_ | refine sComp ?_ | refine sAComp ?_ | refine sCSrc ?_))); (first | (k_unfold; (try dsimp only)) | walk1 | (dsimp only; walk1) | (leave1; walk_say "STEP leave1"; try dsimp only))))
  rename Fr _ _ _ _ => F
  rename News _ _ _ _ => N
  have e1 : limbs W 1 = [1] := by
    rw [limbs_pos hW.1 (by decide), Nat.mod_eq_of_lt (Nat.one_lt_two_pow (by omega)), Nat.div_eq_of_lt (Nat.one_lt_two_pow (by omega)), limbs_zero]; rfl
  refine my_while (σ := PC) (fun c => [(c.f.a, listOf c.f.vs.toArray c.f.n), (c.q.a, listOf c.q.vs.toArray c.q.n)]) (fun c => [iN "many" (c.m : Int), iN "w" (W : Int), rN "mul" 151, rN "found" c.f.a, rN "square" c.q.a])
    (fun c => IntsAre c.f.vs (limbs W (A ^ c.i)) ∧ IntsAre c.q.vs (limbs W (A ^ c.j)) ∧ c.i + c.j * c.m = n ∧ c.j ≤ 20) (fun c => c.m) ⟨n, 0, 1, ⟨lf, [Value.int 1 tk0], 0⟩, ⟨a1, vs1, n1⟩⟩ F (kst_newsOf N ?_) (by (repeat (first | exact Knows.nil | refine Knows.cons' ⟨0, by with_unfolding_all rfl⟩ ?_ | refine Knows.cons' ⟨_, by with_unfolding_all rfl⟩ ?_ | refine Knows.consI (by with_unfolding_all rfl) (by first | omega | (simp; done) | (simp; omega)) ?_))) ⟨?_, by show IntsAre _ (limbs W (A ^ 1)); rw [Nat.pow_one]; exact hI1, by show 0 + 1 * n = n; omega, by show 1 ≤ 20; omega⟩ ?_ PassesOwn.never
  · intro q hq
    rcases List.mem_cons.mp hq with rfl | hq
    · exact .tail _ (.tail _ (.head _))
    · rw [List.mem_singleton.mp hq]; exact .tail _ (.head _)
  · show IntsAre _ (limbs W (A ^ 0))
    rw [Nat.pow_zero, e1]
    exact .cons _ _ .nil
  · rintro ⟨m, i, j, ⟨af, vf, nf⟩, ⟨aq, vq, nq⟩⟩ u ts h tk ⟨hf, hq, hij, hj⟩ F2 N2
    clear F N
    dsimp only at F2 N2 hf hq hij hj ⊢
    (repeat' ((fail_if_success (with_reducible (first | refine sFor ?_ | refine sWhile ?_ | refine sIter ?_ | refine sEnum ?_ | refine sZip ?_ | refine sCall ?_ | refine sComp ?_ | refine sAComp ?_ | refine sCSrc ?_))); (first | (k_unfold; (try dsimp only)) | walk1 | (dsimp only; walk1) | (leave1; walk_say "STEP leave1"; try dsimp only))))
    all_goals rename Fr _ _ _ _ => F
    all_goals rename News _ _ _ _ => N
    · have h0 : 0 < (m : Int) := by assumption
      have h1 : (m : Int).fmod 2 = 1 := by assumption
      have hm2 : m % 2 = 1 := by rw [Int.fmod_eq_emod_of_nonneg _ (by decide)] at h1; omega
      have hjm : j ≤ j * m := Nat.le_mul_of_pos_right _ (by omega)
      have hdv : (m : Int).fdiv 2 = ((m / 2 : Nat) : Int) := by rw [Int.fdiv_eq_ediv_of_nonneg _ (by decide)]; rfl
      have hmm : j * m = 2 * (j * (m / 2)) + j := by
        have e : m = 2 * (m / 2) + 1 := by omega
        conv => lhs; rw [e]
        rw [Nat.mul_add, Nat.mul_one, Nat.mul_left_comm]
      refine c_mul (dp := dp + 1) (A := A ^ i) (B := A ^ j) (X.keeps F.keep) (T.keeps F.keep) (room hd rfl) hW (ints_of N (.head _) hf) (ints_of N (.tail _ (.head _)) hq) (pow_bound (by omega) (by omega)) (pow_bound (by omega) (by omega)) ?_
      intro h1 tk1 a1 vs1 n1 hst1 hfr1 hg1 hI1
      obtain ⟨F3, N3, hne3⟩ := after_call F N hst1 hfr1 hg1
      clear F N
      rw [← Nat.pow_add] at hI1
      dsimp only
      (repeat' ((fail_if_success (with_reducible (first | refine sFor ?_ | refine sWhile ?_ | refine sIter ?_ | refine sEnum ?_ | refine sZip ?_ | refine sCall ?_ | refine sComp ?_ | refine sAComp ?_ | refine sCSrc ?_))); (first | (k_unfold; (try dsimp only)) | walk1 | (dsimp only; walk1) | (leave1; walk_say "STEP leave1"; try dsimp only))))
      all_goals rename Fr _ _ _ _ => F
      all_goals rename News _ _ _ _ => N
      · have h9 : 0 < (m : Int).fdiv 2 := by assumption
        rw [hdv] at h9 F
        have hjj : j ≤ j * (m / 2) := Nat.le_mul_of_pos_right _ (by omega)
        refine c_mul (dp := dp + 1) (A := A ^ j) (B := A ^ j) (X.keeps F.keep) (T.keeps F.keep) (room hd rfl) hW (ints_of N (.tail _ (.tail _ (.head _))) hq) (ints_of N (.tail _ (.tail _ (.head _))) hq) (pow_bound (by omega) (by omega)) (pow_bound (by omega) (by omega)) ?_
        intro h2 tk2 a2 vs2 n2 hst2 hfr2 hg2 hI2
        obtain ⟨F4, N4, hne4⟩ := after_call F N hst2 hfr2 hg2
        clear F N
        rw [← Nat.pow_add] at hI2
        dsimp only
        (repeat' ((fail_if_success (with_reducible (first | refine sFor ?_ | refine sWhile ?_ | refine sIter ?_ | refine sEnum ?_ | refine sZip ?_ | refine sCall ?_ | refine sComp ?_ | refine sAComp ?_ | refine sCSrc ?_))); (first | (k_unfold; (try dsimp only)) | walk1 | (dsimp only; walk1) | (leave1; walk_say "STEP leave1"; try dsimp only))))
        rename Fr _ _ _ _ => F
        rename News _ _ _ _ => N
        try dsimp only
        refine w_end' (⟨m / 2, i + j, j + j, ⟨a1, vs1, n1⟩, ⟨a2, vs2, n2⟩⟩ : PC) F N ?_ (by (repeat (first | exact Knows.nil | refine Knows.cons' ⟨0, by with_unfolding_all rfl⟩ ?_ | refine Knows.cons' ⟨_, by with_unfolding_all rfl⟩ ?_ | refine Knows.consI (by with_unfolding_all rfl) (by first | omega | (simp; done) | (simp; omega)) ?_))) ⟨hI1, hI2, by dsimp only; rw [Nat.add_mul]; omega, by dsimp only; omega⟩ (Nat.div_lt_self (by omega) (by decide))
        intro q hq
        rcases List.mem_cons.mp hq with rfl | hq
        · exact .tail _ (.head _)
        · rw [List.mem_singleton.mp hq]; exact .head _
      · have h9 : ¬ 0 < (m : Int).fdiv 2 := by assumption
        rw [hdv] at h9 F
        have hz : m / 2 = 0 := by omega
        rw [hz] at hmm
        try dsimp only
        refine w_end' (⟨m / 2, i + j, j, ⟨a1, vs1, n1⟩, ⟨aq, vq, nq⟩⟩ : PC) F N ?_ (by (repeat (first | exact Knows.nil | refine Knows.cons' ⟨0, by with_unfolding_all rfl⟩ ?_ | refine Knows.cons' ⟨_, by with_unfolding_all rfl⟩ ?_ | refine Knows.consI (by with_unfolding_all rfl) (by first | omega | (simp; done) | (simp; omega)) ?_))) ⟨hI1, hq, by dsimp only; rw [hz]; omega, hj⟩ (Nat.div_lt_self (by omega) (by decide))
        intro q hq
        rcases List.mem_cons.mp hq with rfl | hq
        · exact .head _
        · rw [List.mem_singleton.mp hq]; exact .tail _ (.tail _ (.head _))
    · have h0 : 0 < (m : Int) := by assumption
      have h1 : (m : Int).fmod 2 ≠ 1 := by assumption
      have hm2 : m % 2 = 0 := by rw [Int.fmod_eq_emod_of_nonneg _ (by decide)] at h1; omega
      have hdv : (m : Int).fdiv 2 = ((m / 2 : Nat) : Int) := by rw [Int.fdiv_eq_ediv_of_nonneg _ (by decide)]; rfl
      have hjm : j ≤ j * m := Nat.le_mul_of_pos_right _ (by omega)
      have hmm : j * m = (j + j) * (m / 2) := by
        have e : m = 2 * (m / 2) := by omega
        conv => lhs; rw [e]
        rw [Nat.mul_left_comm, Nat.add_mul]; omega
      have hjj : j + j ≤ (j + j) * (m / 2) := Nat.le_mul_of_pos_right _ (by omega)
      rw [hdv] at F
      refine c_mul (dp := dp + 1) (A := A ^ j) (B := A ^ j) (X.keeps F.keep) (T.keeps F.keep) (room hd rfl) hW (ints_of N (.tail _ (.head _)) hq) (ints_of N (.tail _ (.head _)) hq) (pow_bound (by omega) (by omega)) (pow_bound (by omega) (by omega)) ?_
      intro h1 tk1 a1 vs1 n1 hst1 hfr1 hg1 hI1
      obtain ⟨F3, N3, hne3⟩ := after_call F N hst1 hfr1 hg1
      clear F N
      rw [← Nat.pow_add] at hI1
      dsimp only
      (repeat' ((fail_if_success (with_reducible (first | refine sFor ?_ | refine sWhile ?_ | refine sIter ?_ | refine sEnum ?_ | refine sZip ?_ | refine sCall ?_ | refine sComp ?_ | refine sAComp ?_ | refine sCSrc ?_))); (first | (k_unfold; (try dsimp only)) | walk1 | (dsimp only; walk1) | (leave1; walk_say "STEP leave1"; try dsimp only))))
      rename Fr _ _ _ _ => F
      rename News _ _ _ _ => N
      try dsimp only
      refine w_end' (⟨m / 2, i, j + j, ⟨af, vf, nf⟩, ⟨a1, vs1, n1⟩⟩ : PC) F N ?_ (by (repeat (first | exact Knows.nil | refine Knows.cons' ⟨0, by with_unfolding_all rfl⟩ ?_ | refine Knows.cons' ⟨_, by with_unfolding_all rfl⟩ ?_ | refine Knows.consI (by with_unfolding_all rfl) (by first | omega | (simp; done) | (simp; omega)) ?_))) ⟨hf, hI1, by dsimp only; omega, by dsimp only; omega⟩ (Nat.div_lt_self (by omega) (by decide))
      intro q hq
      rcases List.mem_cons.mp hq with rfl | hq
      · exact .tail _ (.head _)
      · rw [List.mem_singleton.mp hq]; exact .head _
    · have h0 : ¬ 0 < (m : Int) := by assumption
      have hm0 : m = 0 := by omega
      subst hm0
      have hin : i = n := by simpa using hij
      subst hin
      exact ret_ints (s := s) hret F N (.head _) hf rfl
end
end

section
section
variable {w : World} {E : Value → Shared → Prop} {s : Shared} {p : Program} {loose : List Str} {mean : ExcName → Option Value} {mg mb : Str → Option Value} {dp un : Nat} {fr : Option (List Env)} {gd : Option (List Code)}
open PyProof.Rows.LCg

theorem num_sum (W : Nat) : ∀ xs : List Int, ((List.range xs.length).map fun j => xs.getD j 0 * 2 ^ (W * j)).sum = num W xs
  | [] => rfl
  | x :: t => by
    rw [List.length_cons, List.range_succ_eq_map, List.map_cons, List.map_map, List.sum_cons, num_cons, ← num_sum W t]
    have e : ((List.range t.length).map ((fun j => (x :: t).getD j 0 * 2 ^ (W * j)) ∘ Nat.succ)).sum = 2 ^ W * ((List.range t.length).map fun j => t.getD j 0 * 2 ^ (W * j)).sum := by
      generalize List.range t.length = l
      induction l with
      | nil => simp
      | cons k r ih =>
        rw [List.map_cons, List.map_cons, List.sum_cons, List.sum_cons, ih]
        simp only [Function.comp, List.getD_cons_succ, Nat.succ_eq_add_one]
        rw [pow_mul_succ]
        grind
    rw [e]
    simp

set_option maxHeartbeats 1000000 in
theorem c_number {Q : Value → Shared → Prop} {la : Addr} {A W : Nat} {tw : Tok} (X : Frag.In (hd.heap_39 w.params) s.heap) (T : Top p loose mean mg mb s.heap) (hd : dp + 10 < recursionLimit)
    (hW : 1 ≤ W ∧ W ≤ 9) (ha : Ints s.heap la (limbs W A)) (hA : A < 2 ^ 200) (hret : RetInt s Q A) :
    wpAny (model PG w) (Ar dp un fr gd) (call (.ref 170) [.ref la, .int (W : Int) tw]) Q E s := by
  obtain ⟨va, hla, hia⟩ := ha
  have hxl := limbs_len hW.1 hA
  have hxd := dig_limbs W A
  have hxn := num_limbs hW.1 A
  generalize hxs : limbs W A = xs at *
  have hM : (2 : Int) ^ W ≤ 512 := by
    rw [← pow_nat]
    exact Int.ofNat_le.mpr (Nat.pow_le_pow_right (by decide) hW.2 : 2 ^ W ≤ 2 ^ 9)
  refine' enterC [("row", .ref la)] X T ?k6 ?k7 ?k8 ?k9 ?kB ?kD ?kP ?c2 ?c3 ?c4 ?_
  (((case k6 => k_is); (case k7 => k_is); (case k8 => exact room0 (by assumption)); (case k9 => exact rfl); (case kB => exact rfl); (case kD => decide +kernel); (case kP => (intro _; kst_all)); (case c2 => exact rfl); (case c3 => exact rfl); (case c4 => exact rfl)))
  intro L' u' h' tk' cells F N Y T' X'
  k_cells Y
  (try dsimp only)
  rename Obj.data _ = _ => d1
  rename_i oc
  have d1' : oc.data = Data.cell (some (.int (W : Int) tw)) := d1
  clear d1
  iterate 6 walk1
  refine ListComp_T F rfl (by with_unfolding_all rfl) (by decide) (by rfl) (by decide) (by rfl) (by rfl) (by decide) ?_ (by intro _; rfl)
  (repeat' ((fail_if_success (with_reducible (first | refine sFor ?_ | refine sWhile ?_ | refine sIter ?_ | refine sEnum ?_ | refine sZip ?_ | refine sCall ?_ | refine sComp ?_ | refine sAComp ?_ | refine sCSrc ?_))); (first | (k_unfold; (try dsimp only)) | walk1 | (dsimp only; walk1) | (leave1; walk_say "STEP leave1"; try dsimp only))))
  have hlL : la ≠ L' := by
    obtain ⟨ol, hol, _⟩ := id hla
    exact Nat.ne_of_lt (Nat.lt_of_lt_of_le (Heap.lt_size hol) F.above)
  refine pst_enum (fun i y => ∃ t, y = Value.int (xs.getD i 0 * 2 ^ (W * i)) t) rfl (hla.at fun o e => F.keep _ o e) hia hlL (Nat.le_trans hxl (by decide +kernel)) F N ?_ ?_
  · intro i a t t' C m₂ s₃ E' hai hn h1 h2 F₃ N₃
    have hil : i < xs.length := (List.getElem?_eq_some_iff.mp hai).1
    have haD : xs.getD i 0 = a := by
      have := getD_get hil
      rw [hai] at this
      exact (Option.some.inj this).symm
    obtain ⟨a0, a1⟩ := hxd a (List.mem_of_getElem? hai)
    have hWi : (W : Int) * (i : Int) = ((W * i : Nat) : Int) := by simp
    have hWi2 : W * i ≤ 9 * 200 := Nat.mul_le_mul hW.2 (by omega)
    have hb : 0 ≤ (W : Int) * (i : Int) ∧ (W : Int) * (i : Int) ≤ 1800 := by rw [hWi]; omega
    walk1
    refine wpAny_Name (wpAny_loadName_local rfl rfl hn h2 ?_) (by decide)
    walk1
    walk1
    walk1
    refine kcf_cell N₃ (by rfl) (.head _) d1' ?_
    refine wpAny_Name (wpAny_loadName_local rfl rfl hn h1 ?_) (by decide)
    walk1
    walk1
    walk1
    refine ⟨?_, _, _, rfl, fun _ _ e => e⟩
    rw [haD, hWi]
    exact ⟨_, rfl⟩
  · intro D h2 tk2 ys F2 N2 ho hyl hG
    have hI := ints_by (fun i => xs.getD i 0 * 2 ^ (W * i)) hyl hG
    (repeat' ((fail_if_success (with_reducible (first | refine sFor ?_ | refine sWhile ?_ | refine sIter ?_ | refine sEnum ?_ | refine sZip ?_ | refine sCall ?_ | refine sComp ?_ | refine sAComp ?_ | refine sCSrc ?_))); (first | (k_unfold; (try dsimp only)) | walk1 | (dsimp only; walk1) | (leave1; walk_say "STEP leave1"; try dsimp only))))
    rename Fr _ _ _ _ => F9
    rw [num_sum, hxn]
    exact hret _ _ _ F9.keep
end
end

section
section
variable {w : World} {E : Value → Shared → Prop} {s : Shared} {p : Program} {loose : List Str} {mean : ExcName → Option Value} {mg mb : Str → Option Value} {dp un : Nat} {fr : Option (List Env)} {gd : Option (List Code)}
open PyProof.Rows.LCg

def pascal : Nat → List Int
  | 0 => [1]
  | n + 1 => [1] ++ (List.range (min (pascal n).length ((pascal n).drop 1).length)).map (fun j => (pascal n).getD j 0 + ((pascal n).drop 1).getD j 0) ++ [1]
theorem pascal_len : ∀ n, (pascal n).length = n + 1
  | 0 => rfl
  | n + 1 => by
    have := pascal_len n
    unfold pascal
    simp [this]

set_option maxHeartbeats 1000000 in
theorem c_pascal {Q : Value → Shared → Prop} {n : Nat} {tn : Tok} (X : Frag.In (hd.heap_39 w.params) s.heap) (T : Top p loose mean mg mb s.heap) (hd : dp + 10 < recursionLimit)
    (hn : n ≤ 20) (hret : RetInts s Q (pascal n)) :
    wpAny (model PG w) (Ar dp un fr gd) (call (.ref 175) [.int (n : Int) tn]) Q E s := by
  refine' enter [("n", .int (n : Int) tn)] X T ?k6 ?k7 ?k8 ?k9 ?kB ?kP ?c2 ?c3 ?c4 ?c5 ?_
  (((case k6 => k_is); (case k7 => k_is); (case k8 => exact room0 (by assumption)); (case k9 => exact rfl); (case kB => exact locs rfl); (case kP => kst_all); (case c2 => exact rfl); (case c3 => exact rfl); (case c4 => exact rfl); (case c5 => decide); intro _ _ _ _ _ _ _ _; (try dsimp only)))
  (repeat' ((fail_if_success (with_reducible (first | refine sFor ?_ | refine sWhile ?_ | refine sIter ?_ | refine sEnum ?_ | refine sZip ?_ | refine sCall ?_ | refine sComp ?_ | refine sAComp ?_ | refine sCSrc ?_))); (first | (k_unfold; (try dsimp only)) | walk1 | (dsimp only; walk1) | (leave1; walk_say "STEP leave1"; try dsimp only))))
  rename Fr _ _ _ _ => F
  rename News _ _ _ _ => N
  rename_i tk0 _ _ lf _ _ _
  refine For_invV s.heap rfl rfl ?_ (by intro _; rfl) PassesOwn.never
  (repeat' ((fail_if_success (with_reducible (first | refine sFor ?_ | refine sWhile ?_ | refine sIter ?_ | refine sEnum ?_ | refine sZip ?_ | refine sCall ?_ | refine sComp ?_ | refine sAComp ?_ | refine sCSrc ?_))); (first | (k_unfold; (try dsimp only)) | walk1 | (dsimp only; walk1) | (leave1; walk_say "STEP leave1"; try dsimp only))))
  rename IsRange _ _ _ _ _ _ _ _ => hR
  rename Fr _ _ _ _ => F
  rename News _ _ _ _ => N
  refine l_range1 (σ := AL) (fun c => [(c.a, listOf c.vs.toArray c.n)]) (fun c => [rN "row" c.a])
    (fun i c => IntsAre c.vs (pascal i)) ⟨lf, [Value.int 1 tk0], 0⟩ rfl hR (by omega) F N (fun q hq => hq) (by (repeat (first | exact Knows.nil | refine Knows.cons' ⟨0, by with_unfolding_all rfl⟩ ?_ | refine Knows.cons' ⟨_, by with_unfolding_all rfl⟩ ?_ | refine Knows.consI (by with_unfolding_all rfl) (by first | omega | (simp; done) | (simp; omega)) ?_))) (.cons _ _ .nil) ?_ ?_
  · rintro i ⟨lf, vs, e⟩ t u ts h tk own hi hoff hI F2 N2
    clear F N hR
    dsimp only at F2 N2 hI hoff ⊢
    simp only [List.cons_append, List.nil_append] at N2
    have hpl := pascal_len i
    generalize hxs : pascal i = xs at *
    (repeat' ((fail_if_success (with_reducible (first | refine sFor ?_ | refine sWhile ?_ | refine sIter ?_ | refine sEnum ?_ | refine sZip ?_ | refine sCall ?_ | refine sComp ?_ | refine sAComp ?_ | refine sCSrc ?_))); (first | (k_unfold; (try dsimp only)) | walk1 | (dsimp only; walk1) | (leave1; walk_say "STEP leave1"; try dsimp only))))
    rename Fr _ _ _ _ => F
    rename News _ _ _ _ => N
    refine ListComp_T F (cl := []) rfl (by with_unfolding_all rfl) (by decide) (by rfl) (by decide) (by rfl) (by rfl) (by decide) ?_ (by intro _; rfl)
    (repeat' ((fail_if_success (with_reducible (first | refine sFor ?_ | refine sWhile ?_ | refine sIter ?_ | refine sEnum ?_ | refine sZip ?_ | refine sCall ?_ | refine sComp ?_ | refine sAComp ?_ | refine sCSrc ?_))); (first | (k_unfold; (try dsimp only)) | walk1 | (dsimp only; walk1) | (leave1; walk_say "STEP leave1"; try dsimp only))))
    rename Fr _ _ _ _ => F
    rename News _ _ _ _ => N
    rename IntsAre _ (List.drop _ _) => hD
    generalize hyl' : List.drop _ xs = zs at *
    refine pst_zip (fun j y => ∃ t, y = Value.int (xs.getD j 0 + zs.getD j 0) t) rfl ⟨_, (N _ (.tail _ (.tail _ (.head _)))).1, rfl, _, rfl⟩ ⟨_, (N _ (.head _)).1, rfl, _, rfl⟩ hI hD (N _ (.tail _ (.tail _ (.head _)))).2.1 (N _ (.head _)).2.1 (Nat.le_trans (Nat.le_of_eq hpl) (Nat.le_trans (by omega : i + 1 ≤ 21) (by decide +kernel))) F N ?_ ?_
    · intro j a b t1 t2 C m₂ s₃ E' haj hbj hn h1 h2 F₃ N₃
      have haD : xs.getD j 0 = a := by
        have := getD_get (List.getElem?_eq_some_iff.mp haj).1
        rw [haj] at this
        exact (Option.some.inj this).symm
      have hbD : zs.getD j 0 = b := by
        have := getD_get (List.getElem?_eq_some_iff.mp hbj).1
        rw [hbj] at this
        exact (Option.some.inj this).symm
      walk1
      refine wpAny_Name (wpAny_loadName_local rfl rfl hn h1 ?_) (by decide)
      refine wpAny_Name (wpAny_loadName_local rfl rfl hn h2 ?_) (by decide)
      walk1
      refine ⟨?_, _, _, rfl, fun _ _ e => e⟩
      rw [haD, hbD]
      exact ⟨_, rfl⟩
    · intro D h2 tk2 ys F2 N2 ho hyl hG
      have hI2 := ints_by (fun j => xs.getD j 0 + zs.getD j 0) hyl hG
      have hlen : ys.length < 1000 := by rw [hyl]; omega
      (repeat' ((fail_if_success (with_reducible (first | refine sFor ?_ | refine sWhile ?_ | refine sIter ?_ | refine sEnum ?_ | refine sZip ?_ | refine sCall ?_ | refine sComp ?_ | refine sAComp ?_ | refine sCSrc ?_))); (first | (k_unfold; (try dsimp only)) | walk1 | (dsimp only; walk1) | (leave1; walk_say "STEP leave1"; try dsimp only))))
      rename_i N7 l7 h8 F8 N8 h9 F9 N9
      have hI9 : ∀ ttA, IntsAre ([Value.int 1 ttA] ++ ys ++ [Value.int 1 tk2]) (pascal (i + 1)) := by
        intro ttA
        unfold pascal
        rw [hxs, hyl']
        exact (IntsAre.append (IntsAre.append (.cons _ _ .nil) hI2) (.cons _ _ .nil))
      refine t_end (⟨_, _, _⟩ : AL) F9 N9 (fun q hq => by rw [List.mem_singleton.mp hq]; exact .head _) ?_ ?_ (by (repeat (first | exact Knows.nil | refine Knows.cons' ⟨0, by with_unfolding_all rfl⟩ ?_ | refine Knows.cons' ⟨_, by with_unfolding_all rfl⟩ ?_ | refine Knows.consI (by with_unfolding_all rfl) (by first | omega | (simp; done) | (simp; omega)) ?_))) (hI9 _)
      · intro q hq
        exact .tail _ (.tail _ (.tail _ (.tail _ (.tail _ (.tail _ (.tail _ hq))))))
      · intro q hq q' hq' e
        rw [List.mem_singleton.mp hq] at e
        exact absurd (Heap.lt_size (N7 q' (.tail _ (.tail _ (.tail _ (.tail _ (.tail _ (.tail _ hq'))))))).1) (by rw [← e]; exact Nat.lt_irrefl _)
  · rintro ⟨lf, vs, e⟩ u ts h tk hI F2 N2
    clear F N hR
    dsimp only at F2 N2 hI ⊢
    have e1 : ((n : Int) - 0).toNat = n := Int.toNat_sub n 0
    rw [e1] at hI
    (repeat' ((fail_if_success (with_reducible (first | refine sFor ?_ | refine sWhile ?_ | refine sIter ?_ | refine sEnum ?_ | refine sZip ?_ | refine sCall ?_ | refine sComp ?_ | refine sAComp ?_ | refine sCSrc ?_))); (first | (k_unfold; (try dsimp only)) | walk1 | (dsimp only; walk1) | (leave1; walk_say "STEP leave1"; try dsimp only))))
    exact ret_ints (s := s) hret F2 N2 (.head _) hI rfl
end
end

section
section
variable {w : World} {E : Value → Shared → Prop} {s : Shared} {p : Program} {loose : List Str} {mean : ExcName → Option Value} {mg mb : Str → Option Value} {dp un : Nat} {fr : Option (List Env)} {gd : Option (List Code)}
open PyProof.Rows.LCg

theorem tup_keep {h h' : Heap} {a : Addr} {l : Array Value} (hst : h.StaysIn h') (hi : IsTup h a l) : IsTup h' a l := hi.keeps hst

/-- a pair of a plain number and how often it stands -/
def PairV (h : Heap) (v : Value) (q : Nat × Nat) : Prop := ∃ a t1 t2, v = .ref a ∧ IsTup h a [Value.int (q.1 : Int) t1, Value.int (q.2 : Int) t2].toArray ∧ q.1 ≤ 9 ∧ q.2 ≤ 20
theorem PairV.keep {h h' : Heap} {v : Value} {q : Nat × Nat} (hst : h.StaysIn h') (hi : PairV h v q) : PairV h' v q := by
  obtain ⟨a, t1, t2, e, h1, h2⟩ := hi
  exact ⟨a, t1, t2, e, tup_keep hst h1, h2⟩

theorem pk2a {x y : Value} : slicePick #[x, y] none (some (((#[x, y] : Array Value).size : Int).fdiv 2)) none = #[x] := by
  rw [kmk_pick_nat (a := 0) (b := 1) _ (by show sliceBounds none (some (((2:Nat):Int).fdiv 2)) none 2 = _; decide)]; rfl
theorem pk2b {x y : Value} : slicePick #[x, y] (some (((#[x, y] : Array Value).size : Int).fdiv 2)) none none = #[y] := by
  rw [kmk_pick_nat (a := 1) (b := 2) _ (by show sliceBounds (some (((2:Nat):Int).fdiv 2)) none none 2 = _; decide)]; rfl
theorem pk3a {x y z : Value} : slicePick #[x, y, z] none (some (((#[x, y, z] : Array Value).size : Int).fdiv 2)) none = #[x] := by
  rw [kmk_pick_nat (a := 0) (b := 1) _ (by show sliceBounds none (some (((3:Nat):Int).fdiv 2)) none 3 = _; decide)]; rfl
theorem pk3b {x y z : Value} : slicePick #[x, y, z] (some (((#[x, y, z] : Array Value).size : Int).fdiv 2)) none none = #[y, z] := by
  rw [kmk_pick_nat (a := 1) (b := 3) _ (by show sliceBounds (some (((3:Nat):Int).fdiv 2)) none none 3 = _; decide)]; rfl
theorem pk4a {x y z u : Value} : slicePick #[x, y, z, u] none (some (((#[x, y, z, u] : Array Value).size : Int).fdiv 2)) none = #[x, y] := by
  rw [kmk_pick_nat (a := 0) (b := 2) _ (by show sliceBounds none (some (((4:Nat):Int).fdiv 2)) none 4 = _; decide)]; rfl
theorem pk4b {x y z u : Value} : slicePick #[x, y, z, u] (some (((#[x, y, z, u] : Array Value).size : Int).fdiv 2)) none none = #[z, u] := by
  rw [kmk_pick_nat (a := 2) (b := 4) _ (by show sliceBounds (some (((4:Nat):Int).fdiv 2)) none none 4 = _; decide)]; rfl
theorem lst_pick {h h₀ : Heap} {L a : Addr} {xs ys : Array Value} {news : Ledger} (N : News h₀ L h ((a, listOf xs 0) :: news)) (e : xs = ys) : h.IsList a ys := e ▸ ⟨_, (N _ (.head _)).1, rfl, _, rfl⟩

theorem c_pop0 {Q : Value → Shared → Prop} {l : Addr} {W : Nat} {tw : Tok} (X : Frag.In (hd.heap_39 w.params) s.heap) (T : Top p loose mean mg mb s.heap) (hd : dp + 20 < recursionLimit)
    (hW : 1 ≤ W ∧ W ≤ 9) (hl : s.heap.IsList l [].toArray) (hret : RetInts s Q [1]) :
    wpAny (model PG w) (Ar dp un fr gd) (call (.ref 116) [.ref l, .int (W : Int) tw, .ref 151]) Q E s := by
  refine' enter [("pairs", .ref l), ("w", .int (W : Int) tw), ("mul", .ref 151)] X T ?k6 ?k7 ?k8 ?k9 ?kB ?kP ?c2 ?c3 ?c4 ?c5 ?_
  (((case k6 => k_is); (case k7 => k_is); (case k8 => exact room0 (by assumption)); (case k9 => exact rfl); (case kB => exact locs rfl); (case kP => kst_all); (case c2 => exact rfl); (case c3 => exact rfl); (case c4 => exact rfl); (case c5 => decide); intro _ _ _ _ _ _ _ _; (try dsimp only)))
  (repeat' ((fail_if_success (with_reducible (first | refine sFor ?_ | refine sWhile ?_ | refine sIter ?_ | refine sEnum ?_ | refine sZip ?_ | refine sCall ?_ | refine sComp ?_ | refine sAComp ?_ | refine sCSrc ?_))); (first | (k_unfold; (try dsimp only)) | walk1 | (dsimp only; walk1) | (leave1; walk_say "STEP leave1"; try dsimp only))))
  rename Fr _ _ _ _ => F
  rename News _ _ _ _ => N
  exact ret_ints (s := s) hret F N (.head _) (.cons _ _ .nil) rfl

theorem c_pop1 {Q : Value → Shared → Prop} {l : Addr} {v : Value} {q : Nat × Nat} {W : Nat} {tw : Tok} (X : Frag.In (hd.heap_39 w.params) s.heap) (T : Top p loose mean mg mb s.heap) (hd : dp + 20 < recursionLimit)
    (hW : 1 ≤ W ∧ W ≤ 9) (hl : s.heap.IsList l [v].toArray) (ha : PairV s.heap v q) (hret : RetInts s Q (limbs W (q.1 ^ q.2))) :
    wpAny (model PG w) (Ar dp un fr gd) (call (.ref 116) [.ref l, .int (W : Int) tw, .ref 151]) Q E s := by
  obtain ⟨P, e⟩ := q
  obtain ⟨a, t1, t2, rfl, ha, hP, he⟩ := ha
  dsimp only at ha hP he hret
  refine' enter [("pairs", .ref l), ("w", .int (W : Int) tw), ("mul", .ref 151)] X T ?k6 ?k7 ?k8 ?k9 ?kB ?kP ?c2 ?c3 ?c4 ?c5 ?_
  (((case k6 => k_is); (case k7 => k_is); (case k8 => exact room0 (by assumption)); (case k9 => exact rfl); (case kB => exact locs rfl); (case kP => kst_all); (case c2 => exact rfl); (case c3 => exact rfl); (case c4 => exact rfl); (case c5 => decide); intro _ _ _ _ _ _ _ _; (try dsimp only)))
  (repeat' ((fail_if_success (with_reducible (first | refine sFor ?_ | refine sWhile ?_ | refine sIter ?_ | refine sEnum ?_ | refine sZip ?_ | refine sCall ?_ | refine sComp ?_ | refine sAComp ?_ | refine sCSrc ?_))); (first | (k_unfold; (try dsimp only)) | walk1 | (dsimp only; walk1) | (leave1; walk_say "STEP leave1"; try dsimp only))))
  · exact absurd (by assumption : ((Array.size _ : Nat) : Int) = 0) (by simp)
  · rename Fr _ _ _ _ => F
    rename News _ _ _ _ => N
    refine c_poc (dp := dp + 1) (X.keeps F.keep) (T.keeps F.keep) (room hd rfl) hW (by omega) he ?_
    intro h1 tk1 a1 vs1 n1 hst1 hfr1 hg1 hI1
    obtain ⟨F1, N1, hne1⟩ := after_call F N hst1 hfr1 hg1
    exact ret_ints (s := s) hret F1 N1 (.head _) hI1 rfl
  · exact absurd (by simp : ((Array.size #[Value.ref a] : Nat) : Int) = 1) (by assumption)

theorem pb1 {h : Heap} {v : Value} {q : Nat × Nat} (hp : PairV h v q) : q.1 ^ q.2 < 2 ^ 300 := by
  obtain ⟨_, _, _, _, _, h1, h2⟩ := hp
  exact pow_bound (Nat.le_trans h1 (by decide)) h2
/-- two halves and their product, whatever is known of the halves -/
def HalfOk (w : World) (W : Nat) (tw : Tok) (dp : Nat) (h : Heap) (xs : Array Value) (A : Nat) : Prop :=
  ∀ {Q' E' : Value → Shared → Prop} {s' : Shared} {l' : Addr} {un' : Nat} {fr' : Option (List Env)} {gd' : Option (List Code)}, h.StaysIn s'.heap → s'.heap.IsList l' xs → RetInts s' Q' (limbs W A) →
    wpAny (model PG w) (Ar dp un' fr' gd') (call (.ref 116) [.ref l', .int (W : Int) tw, .ref 151]) Q' E' s'

set_option maxHeartbeats 1000000 in
theorem c_popn {Q : Value → Shared → Prop} {l : Addr} {vs : List Value} {A B W : Nat} {tw : Tok} (X : Frag.In (hd.heap_39 w.params) s.heap) (T : Top p loose mean mg mb s.heap) (hd : dp + 20 < recursionLimit)
    (hW : 1 ≤ W ∧ W ≤ 9) (hl : s.heap.IsList l vs.toArray) (h2 : 2 ≤ vs.length) (h4 : vs.length < 1000)
    (H1 : HalfOk w W tw (dp + 1) s.heap (slicePick vs.toArray none (some ((vs.toArray.size : Int).fdiv 2)) none) A)
    (H2 : HalfOk w W tw (dp + 1) s.heap (slicePick vs.toArray (some ((vs.toArray.size : Int).fdiv 2)) none none) B)
    (hA : A < 2 ^ 300) (hB : B < 2 ^ 300) (hret : RetInts s Q (limbs W (A * B))) :
    wpAny (model PG w) (Ar dp un fr gd) (call (.ref 116) [.ref l, .int (W : Int) tw, .ref 151]) Q E s := by
  refine' enter [("pairs", .ref l), ("w", .int (W : Int) tw), ("mul", .ref 151)] X T ?k6 ?k7 ?k8 ?k9 ?kB ?kP ?c2 ?c3 ?c4 ?c5 ?_
  (((case k6 => k_is); (case k7 => k_is); (case k8 => exact room0 (by assumption)); (case k9 => exact rfl); (case kB => exact locs rfl); (case kP => kst_all); (case c2 => exact rfl); (case c3 => exact rfl); (case c4 => exact rfl); (case c5 => decide); intro _ _ _ _ _ _ _ _; (try dsimp only)))
  have h5 : vs.toArray.size = vs.length := List.size_toArray
  have h6 : vs.toArray.size < 1000 := by omega
  (repeat' ((fail_if_success (with_reducible (first | refine sFor ?_ | refine sWhile ?_ | refine sIter ?_ | refine sEnum ?_ | refine sZip ?_ | refine sCall ?_ | refine sComp ?_ | refine sAComp ?_ | refine sCSrc ?_))); (first | (k_unfold; (try dsimp only)) | walk1 | (dsimp only; walk1) | (leave1; walk_say "STEP leave1"; try dsimp only))))
  · exact absurd (by assumption : ((Array.size _ : Nat) : Int) = 0) (by omega)
  rename Fr _ _ _ _ => F
  rename News _ _ _ _ => N
  refine H1 F.keep (lst_pick N rfl) ?_
  intro h1 tk1 a1 vs1 n1 hst1 hfr1 hg1 hI1
  obtain ⟨F1, N1, hne1⟩ := after_call F N hst1 hfr1 hg1
  clear F N
  dsimp only
  (repeat' ((fail_if_success (with_reducible (first | refine sFor ?_ | refine sWhile ?_ | refine sIter ?_ | refine sEnum ?_ | refine sZip ?_ | refine sCall ?_ | refine sComp ?_ | refine sAComp ?_ | refine sCSrc ?_))); (first | (k_unfold; (try dsimp only)) | walk1 | (dsimp only; walk1) | (leave1; walk_say "STEP leave1"; try dsimp only))))
  · exact absurd (by assumption : ((vs.toArray.size : Nat) : Int).fdiv 2 < 0) (Int.not_lt.mpr (Int.fdiv_nonneg (Int.natCast_nonneg _) (by decide)))
  rename Fr _ _ _ _ => F
  rename News _ _ _ _ => N
  refine H2 F.keep (lst_pick N rfl) ?_
  intro h2 tk2 a2 vs2 n2 hst2 hfr2 hg2 hI2
  obtain ⟨F2, N2, hne2⟩ := after_call F N hst2 hfr2 hg2
  clear F N
  dsimp only
  (repeat' ((fail_if_success (with_reducible (first | refine sFor ?_ | refine sWhile ?_ | refine sIter ?_ | refine sEnum ?_ | refine sZip ?_ | refine sCall ?_ | refine sComp ?_ | refine sAComp ?_ | refine sCSrc ?_))); (first | (k_unfold; (try dsimp only)) | walk1 | (dsimp only; walk1) | (leave1; walk_say "STEP leave1"; try dsimp only))))
  rename Fr _ _ _ _ => F
  rename News _ _ _ _ => N
  refine c_mul (dp := dp + 1) (A := A) (B := B) (X.keeps F.keep) (T.keeps F.keep) (room hd rfl) hW (ints_of N (.tail _ (.tail _ (.head _))) hI1) (ints_of N (.head _) hI2) hA hB ?_
  intro h1 tk1 a1 vs1 n1 hst1 hfr1 hg1 hI1
  obtain ⟨F1, N1, hne1⟩ := after_call F N hst1 hfr1 hg1
  exact ret_ints (s := s) hret F1 N1 (.head _) hI1 rfl

theorem c_pop2 {Q : Value → Shared → Prop} {l : Addr} {v1 v2 : Value} {q1 q2 : Nat × Nat} {W : Nat} {tw : Tok} (X : Frag.In (hd.heap_39 w.params) s.heap) (T : Top p loose mean mg mb s.heap) (hd : dp + 22 < recursionLimit)
    (hW : 1 ≤ W ∧ W ≤ 9) (hl : s.heap.IsList l [v1, v2].toArray) (ha1 : PairV s.heap v1 q1) (ha2 : PairV s.heap v2 q2)
    (hb : q1.1 ^ q1.2 < 2 ^ 300) (hb2 : q2.1 ^ q2.2 < 2 ^ 300) (hret : RetInts s Q (limbs W (q1.1 ^ q1.2 * q2.1 ^ q2.2))) :
    wpAny (model PG w) (Ar dp un fr gd) (call (.ref 116) [.ref l, .int (W : Int) tw, .ref 151]) Q E s :=
  c_popn X T (by omega) hW hl (by simp) (by simp)
    (fun hst hl' hr => c_pop1 (X.keeps hst) (T.keeps hst) (room hd rfl) hW (pk2a ▸ hl') (ha1.keep hst) hr)
    (fun hst hl' hr => c_pop1 (X.keeps hst) (T.keeps hst) (room hd rfl) hW (pk2b ▸ hl') (ha2.keep hst) hr) hb hb2 hret

theorem c_pop3 {Q : Value → Shared → Prop} {l : Addr} {v1 v2 v3 : Value} {q1 q2 q3 : Nat × Nat} {W : Nat} {tw : Tok} (X : Frag.In (hd.heap_39 w.params) s.heap) (T : Top p loose mean mg mb s.heap) (hd : dp + 23 < recursionLimit)
    (hW : 1 ≤ W ∧ W ≤ 9) (hl : s.heap.IsList l [v1, v2, v3].toArray) (ha1 : PairV s.heap v1 q1) (ha2 : PairV s.heap v2 q2) (ha3 : PairV s.heap v3 q3)
    (hb : q1.1 ^ q1.2 < 2 ^ 300) (hb2 : (q2.1 ^ q2.2 * q3.1 ^ q3.2) < 2 ^ 300) (hret : RetInts s Q (limbs W (q1.1 ^ q1.2 * (q2.1 ^ q2.2 * q3.1 ^ q3.2)))) :
    wpAny (model PG w) (Ar dp un fr gd) (call (.ref 116) [.ref l, .int (W : Int) tw, .ref 151]) Q E s :=
  c_popn X T (by omega) hW hl (by simp) (by simp)
    (fun hst hl' hr => c_pop1 (X.keeps hst) (T.keeps hst) (room hd rfl) hW (pk3a ▸ hl') (ha1.keep hst) hr)
    (fun hst hl' hr => c_pop2 (X.keeps hst) (T.keeps hst) (room hd rfl) hW (pk3b ▸ hl') (ha2.keep hst) (ha3.keep hst) (pb1 ha2) (pb1 ha3) hr) hb hb2 hret

theorem c_pop4 {Q : Value → Shared → Prop} {l : Addr} {v1 v2 v3 v4 : Value} {q1 q2 q3 q4 : Nat × Nat} {W : Nat} {tw : Tok} (X : Frag.In (hd.heap_39 w.params) s.heap) (T : Top p loose mean mg mb s.heap) (hd : dp + 24 < recursionLimit)
    (hW : 1 ≤ W ∧ W ≤ 9) (hl : s.heap.IsList l [v1, v2, v3, v4].toArray) (ha1 : PairV s.heap v1 q1) (ha2 : PairV s.heap v2 q2) (ha3 : PairV s.heap v3 q3) (ha4 : PairV s.heap v4 q4)
    (hb : (q1.1 ^ q1.2 * q2.1 ^ q2.2) < 2 ^ 300) (hb2 : (q3.1 ^ q3.2 * q4.1 ^ q4.2) < 2 ^ 300) (hret : RetInts s Q (limbs W ((q1.1 ^ q1.2 * q2.1 ^ q2.2) * (q3.1 ^ q3.2 * q4.1 ^ q4.2)))) :
    wpAny (model PG w) (Ar dp un fr gd) (call (.ref 116) [.ref l, .int (W : Int) tw, .ref 151]) Q E s :=
  c_popn X T (by omega) hW hl (by simp) (by simp)
    (fun hst hl' hr => c_pop2 (X.keeps hst) (T.keeps hst) (room hd rfl) hW (pk4a ▸ hl') (ha1.keep hst) (ha2.keep hst) (pb1 ha1) (pb1 ha2) hr)
    (fun hst hl' hr => c_pop2 (X.keeps hst) (T.keeps hst) (room hd rfl) hW (pk4b ▸ hl') (ha3.keep hst) (ha4.keep hst) (pb1 ha3) (pb1 ha4) hr) hb hb2 hret

end
end

section
section
variable {w : World} {E : Value → Shared → Prop} {s : Shared} {p : Program} {loose : List Str} {mean : ExcName → Option Value} {mg mb : Str → Option Value} {dp un : Nat} {fr : Option (List Env)} {gd : Option (List Code)}
open PyProof.Rows.LCg

inductive Both {β : Type} (R : Value → β → Prop) : List Value → List β → Prop where
  | nil : Both R [] []
  | cons {v vs q qs} : R v q → Both R vs qs → Both R (v :: vs) (q :: qs)
theorem Both.imp {β : Type} {R R' : Value → β → Prop} (h : ∀ v q, R v q → R' v q) : ∀ {vs qs}, Both R vs qs → Both R' vs qs
  | _, _, .nil => .nil
  | _, _, .cons a b => .cons (h _ _ a) (b.imp h)
theorem Both.snoc {β : Type} {R : Value → β → Prop} {v : Value} {q : β} (hv : R v q) : ∀ {vs qs}, Both R vs qs → Both R (vs ++ [v]) (qs ++ [q])
  | _, _, .nil => .cons hv .nil
  | _, _, .cons a b => .cons a (b.snoc hv)
theorem Both.length {β : Type} {R : Value → β → Prop} : ∀ {vs qs}, Both R vs qs → vs.length = qs.length
  | _, _, .nil => rfl
  | _, _, .cons _ b => congrArg (· + 1) b.length
def prodp (pe : List (Nat × Nat)) : Nat := pe.foldr (fun q a => q.1 ^ q.2 * a) 1

theorem pb2 {h : Heap} {v : Value} {q : Nat × Nat} (hp : PairV h v q) : q.1 ^ q.2 < 2 ^ 100 := by
  obtain ⟨_, _, _, _, _, h1, h2⟩ := hp
  have a1 : q.1 ^ q.2 ≤ 9 ^ q.2 := Nat.pow_le_pow_left h1 _
  have a2 : 9 ^ q.2 ≤ 9 ^ 20 := Nat.pow_le_pow_right (by decide) h2
  exact Nat.lt_of_le_of_lt (Nat.le_trans a1 a2) (by decide)
theorem mul_lt {a b : Nat} (ha : a < 2 ^ 100) (hb : b < 2 ^ 100) : a * b < 2 ^ 300 :=
  Nat.lt_of_le_of_lt (Nat.mul_le_mul (Nat.le_of_lt ha) (Nat.le_of_lt hb)) (by decide)

theorem c_pop {Q : Value → Shared → Prop} {l : Addr} {vs : List Value} {pe : List (Nat × Nat)} {W : Nat} {tw : Tok} (X : Frag.In (hd.heap_39 w.params) s.heap) (T : Top p loose mean mg mb s.heap) (hd : dp + 25 < recursionLimit)
    (hW : 1 ≤ W ∧ W ≤ 9) (hl : s.heap.IsList l vs.toArray) (hp : Both (PairV s.heap) vs pe) (hlen : pe.length ≤ 4) (hret : RetInts s Q (limbs W (prodp pe))) :
    wpAny (model PG w) (Ar dp un fr gd) (call (.ref 116) [.ref l, .int (W : Int) tw, .ref 151]) Q E s := by
  have e1 : limbs W 1 = [1] := by
    rw [limbs_pos hW.1 (by decide), Nat.mod_eq_of_lt (Nat.one_lt_two_pow (by omega)), Nat.div_eq_of_lt (Nat.one_lt_two_pow (by omega)), limbs_zero]; rfl
  cases hp with
  | nil =>
    refine c_pop0 X T (by omega) hW hl ?_
    rw [← e1]; exact hret
  | cons h1 hp =>
    rename_i v1 vs q1 pe
    cases hp with
    | nil =>
      refine c_pop1 X T (by omega) hW hl h1 ?_
      have e : prodp [q1] = q1.1 ^ q1.2 := by simp [prodp]
      rw [← e]; exact hret
    | cons h2 hp =>
      rename_i v2 vs q2 pe
      cases hp with
      | nil =>
        refine c_pop2 X T (by omega) hW hl h1 h2 (pb1 h1) (pb1 h2) ?_
        have e : prodp [q1, q2] = q1.1 ^ q1.2 * q2.1 ^ q2.2 := by simp [prodp]
        rw [← e]; exact hret
      | cons h3 hp =>
        rename_i v3 vs q3 pe
        cases hp with
        | nil =>
          refine c_pop3 X T (by omega) hW hl h1 h2 h3 (pb1 h1) (mul_lt (pb2 h2) (pb2 h3)) ?_
          have e : prodp [q1, q2, q3] = q1.1 ^ q1.2 * (q2.1 ^ q2.2 * q3.1 ^ q3.2) := by simp [prodp]
          rw [← e]; exact hret
        | cons h4 hp =>
          rename_i v4 vs q4 pe
          cases hp with
          | nil =>
            refine c_pop4 X T (by omega) hW hl h1 h2 h3 h4 (mul_lt (pb2 h1) (pb2 h2)) (mul_lt (pb2 h3) (pb2 h4)) ?_
            have e : prodp [q1, q2, q3, q4] = (q1.1 ^ q1.2 * q2.1 ^ q2.2) * (q3.1 ^ q3.2 * q4.1 ^ q4.2) := by simp [prodp, Nat.mul_assoc]
            rw [← e]; exact hret
          | cons _ _ => simp at hlen

theorem c_need {Q : Value → Shared → Prop} {n : Nat} {tn : Tok} (X : Frag.In (hd.heap_39 w.params) s.heap) (T : Top p loose mean mg mb s.heap) (hd : dp + 10 < recursionLimit)
    (hret : ∀ h' tk', s.heap.StaysIn h' → Q .none { s with heap := h', toks := tk' }) :
    wpAny (model PG w) (Ar dp un fr gd) (call (.ref 102) [.int (n : Int) tn]) Q E s := by
  refine' enter [("n", .int (n : Int) tn)] X T ?k6 ?k7 ?k8 ?k9 ?kB ?kP ?c2 ?c3 ?c4 ?c5 ?_
  (((case k6 => k_is); (case k7 => k_is); (case k8 => exact room0 (by assumption)); (case k9 => exact rfl); (case kB => exact locs rfl); (case kP => kst_all); (case c2 => exact rfl); (case c3 => exact rfl); (case c4 => exact rfl); (case c5 => decide); intro _ _ _ _ _ _ _ _; (try dsimp only)))
  (repeat' ((fail_if_success (with_reducible (first | refine sFor ?_ | refine sWhile ?_ | refine sIter ?_ | refine sEnum ?_ | refine sZip ?_ | refine sCall ?_ | refine sComp ?_ | refine sAComp ?_ | refine sCSrc ?_))); (first | (k_unfold; (try dsimp only)) | walk1 | (dsimp only; walk1) | (leave1; walk_say "STEP leave1"; try dsimp only))))
  rename Fr _ _ _ _ => F
  exact hret _ _ F.keep

def expo (n k q : Nat) : Int := (leg q n n : Int) - (leg q k k : Int) - (leg q (n - k) (n - k) : Int)
def bstep (n k : Nat) (pe : List (Nat × Nat)) (q : Int) : List (Nat × Nat) := if 0 < expo n k q.toNat then pe ++ [(q.toNat, (expo n k q.toNat).toNat)] else pe
def binPairs (n k : Nat) : List (Nat × Nat) := (sieveS n).foldl (bstep n k) []
theorem sv_facts : ∀ n : Nat, n < 10 → (sieveS n).length ≤ 4 ∧ ∀ q ∈ sieveS n, 2 ≤ q ∧ q ≤ 9 := by decide +kernel
theorem ex_facts : ∀ n : Nat, n < 10 → ∀ k, k < 10 → ∀ q : Nat, q < 10 → 2 ≤ q → expo n k q ≤ 20 := by decide +kernel
theorem bp_len : ∀ n : Nat, n < 10 → ∀ k, k < 10 → (binPairs n k).length ≤ 4 := by decide +kernel

theorem allLt_mem {d : Nat} : ∀ {l : Ledger}, AllLt d l → ∀ p ∈ l, @LT.lt Nat _ p.1 d
  | [], _, _, h => nomatch h
  | _ :: _, h, p, hp => by
    rcases List.mem_cons.mp hp with rfl | hp
    · exact h.1
    · exact allLt_mem h.2 p hp
structure BS where
  a : Addr
  vs : List Value
  n : Nat
  rest : Ledger
def TupIn (rest : Ledger) (v : Value) (q : Nat × Nat) : Prop := ∃ a t1 t2 o n, v = .ref a ∧ (a, o) ∈ rest ∧ o.cls = .type "tuple" ∧ o.data = .seq [Value.int (q.1 : Int) t1, Value.int (q.2 : Int) t2].toArray n ∧ q.1 ≤ 9 ∧ q.2 ≤ 20

set_option maxHeartbeats 4000000 in
theorem c_binomial {Q : Value → Shared → Prop} {n k W : Nat} {tn tk0 tw : Tok} (X : Frag.In (hd.heap_39 w.params) s.heap) (T : Top p loose mean mg mb s.heap) (hd : dp + 30 < recursionLimit)
    (hW : 1 ≤ W ∧ W ≤ 9) (hn : n ≤ 9) (hk : k ≤ 10) (hret : RetInts s Q (if n < k then [] else limbs W (prodp (binPairs n k)))) :
    wpAny (model PG w) (Ar dp un fr gd) (call (.ref 130) [.int (n : Int) tn, .int (k : Int) tk0, .int (W : Int) tw, .ref 151]) Q E s := by
  refine' enter [("n", .int (n : Int) tn), ("k", .int (k : Int) tk0), ("w", .int (W : Int) tw), ("mul", .ref 151)] X T ?k6 ?k7 ?k8 ?k9 ?kB ?kP ?c2 ?c3 ?c4 ?c5 ?_
  (((case k6 => k_is); (case k7 => k_is); (case k8 => exact room0 (by assumption)); (case k9 => exact rfl); (case kB => exact locs rfl); (case kP => kst_all); (case c2 => exact rfl); (case c3 => exact rfl); (case c4 => exact rfl); (case c5 => decide); intro _ _ _ _ _ _ _ _; (try dsimp only)))
  (repeat' ((fail_if_success (with_reducible (first | refine sFor ?_ | refine sWhile ?_ | refine sIter ?_ | refine sEnum ?_ | refine sZip ?_ | refine sCall ?_ | refine sComp ?_ | refine sAComp ?_ | refine sCSrc ?_))); (first | (k_unfold; (try dsimp only)) | walk1 | (dsimp only; walk1) | (leave1; walk_say "STEP leave1"; try dsimp only))))
  rename Fr _ _ _ _ => F
  rename News _ _ _ _ => N
  refine c_need (dp := dp + 1) (X.keeps F.keep) (T.keeps F.keep) (room hd rfl) ?_
  intro h1 tk1 hst1
  have F1 := F.keeps hst1
  have N1 := N.grown hst1
  clear F N
  dsimp only
  (repeat' ((fail_if_success (with_reducible (first | refine sFor ?_ | refine sWhile ?_ | refine sIter ?_ | refine sEnum ?_ | refine sZip ?_ | refine sCall ?_ | refine sComp ?_ | refine sAComp ?_ | refine sCSrc ?_))); (first | (k_unfold; (try dsimp only)) | walk1 | (dsimp only; walk1) | (leave1; walk_say "STEP leave1"; try dsimp only))))
  rename Fr _ _ _ _ => F
  rename News _ _ _ _ => N
  refine c_need (dp := dp + 1) (X.keeps F.keep) (T.keeps F.keep) (room hd rfl) ?_
  intro h1 tk1 hst1
  have F1 := F.keeps hst1
  have N1 := N.grown hst1
  clear F N
  dsimp only
  (repeat' ((fail_if_success (with_reducible (first | refine sFor ?_ | refine sWhile ?_ | refine sIter ?_ | refine sEnum ?_ | refine sZip ?_ | refine sCall ?_ | refine sComp ?_ | refine sAComp ?_ | refine sCSrc ?_))); (first | (k_unfold; (try dsimp only)) | walk1 | (dsimp only; walk1) | (leave1; walk_say "STEP leave1"; try dsimp only))))
  all_goals rename Fr _ _ _ _ => F
  all_goals rename News _ _ _ _ => N
  · have h9 : (n : Int) < (k : Int) := by assumption
    rw [if_pos (by omega)] at hret
    exact ret_ints (s := s) hret F N (.head _) .nil rfl
  · have h9 : ¬ (n : Int) < (k : Int) := by assumption
    have hkn : k ≤ n := by omega
    rw [if_neg (by omega)] at hret
    refine For_invV s.heap rfl rfl ?_ (by intro _; rfl) PassesOwn.never
    (repeat' ((fail_if_success (with_reducible (first | refine sFor ?_ | refine sWhile ?_ | refine sIter ?_ | refine sEnum ?_ | refine sZip ?_ | refine sCall ?_ | refine sComp ?_ | refine sAComp ?_ | refine sCSrc ?_))); (first | (k_unfold; (try dsimp only)) | walk1 | (dsimp only; walk1) | (leave1; walk_say "STEP leave1"; try dsimp only))))
    rename Fr _ _ _ _ => F
    rename News _ _ _ _ => N
    rename_i lp _ _ _
    refine c_sieve (dp := dp + 1) (X.keeps F.keep) (T.keeps F.keep) (room hd rfl) hn ?_
    intro h1 tk1 a1 vs1 n1 hst1 hfr1 hg1 hI1
    obtain ⟨F1, N1, hne1⟩ := after_call F N hst1 hfr1 hg1
    clear F N
    dsimp only
    have hlp1 : lp ≠ a1 := hne1 _ (.head _)
    refine l_list (σ := BS) (l := a1) (vs := vs1) (fun c => (c.a, listOf c.vs.toArray c.n) :: c.rest) (fun c => [iN "n" (n : Int), iN "k" (k : Int), iN "w" (W : Int), rN "mul" 151, rN "pairs" c.a])
      (fun i c => c.a = lp ∧ (∀ q ∈ c.rest, q.1 ≠ lp) ∧ Both (TupIn c.rest) c.vs (((sieveS n).take i).foldl (bstep n k) []) ∧ c.vs.length ≤ i) ⟨lp, [], 0, []⟩ rfl ⟨_, (N1 _ (.head _)).1, rfl, _, rfl⟩ (N1 _ (.head _)).2.1 F1 (kst_newsOf N1 (fun q hq => .tail _ hq)) (fun q hq => by rw [List.mem_singleton.mp hq]; exact hlp1) (by (repeat (first | exact Knows.nil | refine Knows.cons' ⟨0, by with_unfolding_all rfl⟩ ?_ | refine Knows.cons' ⟨_, by with_unfolding_all rfl⟩ ?_ | refine Knows.consI (by with_unfolding_all rfl) (by first | omega | (simp; done) | (simp; omega)) ?_))) ⟨rfl, (fun _ h => nomatch h), .nil, Nat.le_refl _⟩ ?_ ?_
    · rintro i ⟨la, vs, e, rest⟩ v u ts h tk own hv hoff ⟨hla, hra, hB, hvl⟩ F2 N2
      dsimp only at F2 N2 hla hra hB hvl hoff ⊢
      subst hla
      clear F1 N1
      obtain ⟨q, hq, t, rfl⟩ := (areInts' hI1).get i v hv
      obtain ⟨hq2, hq9⟩ := (sv_facts n (by omega)).2 q (List.mem_of_getElem? hq)
      obtain ⟨q, rfl⟩ : ∃ q' : Nat, q = (q' : Int) := ⟨q.toNat, by omega⟩
      simp only [List.cons_append] at N2
      (repeat' ((fail_if_success (with_reducible (first | refine sFor ?_ | refine sWhile ?_ | refine sIter ?_ | refine sEnum ?_ | refine sZip ?_ | refine sCall ?_ | refine sComp ?_ | refine sAComp ?_ | refine sCSrc ?_))); (first | (k_unfold; (try dsimp only)) | walk1 | (dsimp only; walk1) | (leave1; walk_say "STEP leave1"; try dsimp only))))
      rename Fr _ _ _ _ => F
      rename News _ _ _ _ => N
      refine c_fact (dp := dp + 1) (X.keeps F.keep) (T.keeps F.keep) (room hd rfl) ⟨by omega, by omega⟩ (by omega) ?_
      intro h1 tk1 t1 hst1
      have F1 := F.keeps hst1
      have N1 := N.grown hst1
      clear F N
      dsimp only
      (repeat' ((fail_if_success (with_reducible (first | refine sFor ?_ | refine sWhile ?_ | refine sIter ?_ | refine sEnum ?_ | refine sZip ?_ | refine sCall ?_ | refine sComp ?_ | refine sAComp ?_ | refine sCSrc ?_))); (first | (k_unfold; (try dsimp only)) | walk1 | (dsimp only; walk1) | (leave1; walk_say "STEP leave1"; try dsimp only))))
      rename Fr _ _ _ _ => F
      rename News _ _ _ _ => N
      refine c_fact (dp := dp + 1) (X.keeps F.keep) (T.keeps F.keep) (room hd rfl) ⟨by omega, by omega⟩ (by omega) ?_
      intro h1 tk1 t1 hst1
      have F1 := F.keeps hst1
      have N1 := N.grown hst1
      clear F N
      dsimp only
      (repeat' ((fail_if_success (with_reducible (first | refine sFor ?_ | refine sWhile ?_ | refine sIter ?_ | refine sEnum ?_ | refine sZip ?_ | refine sCall ?_ | refine sComp ?_ | refine sAComp ?_ | refine sCSrc ?_))); (first | (k_unfold; (try dsimp only)) | walk1 | (dsimp only; walk1) | (leave1; walk_say "STEP leave1"; try dsimp only))))
      rename Fr _ _ _ _ => F
      rename News _ _ _ _ => N
      have e8 : (n : Int) - (k : Int) = ((n - k : Nat) : Int) := by omega
      rw [e8]
      refine c_fact (dp := dp + 1) (X.keeps F.keep) (T.keeps F.keep) (room hd rfl) ⟨by omega, by omega⟩ (by omega) ?_
      intro h1 tk1 t1 hst1
      have F1 := F.keeps hst1
      have N1 := N.grown hst1
      clear F N
      dsimp only
      have hlen : vs.length < 1000 := by
        have := (List.getElem?_eq_some_iff.mp hv).1
        rw [hI1.length] at this
        have := (sv_facts n (by omega)).1
        omega
      have hro : ∀ p ∈ rest ++ own, p.1 ≠ la := fun p hp => (List.mem_append.mp hp).elim (hra p) fun hp => hoff p hp la (.head _)
      have hxs : ((sieveS n).take (i + 1)) = (sieveS n).take i ++ [(q : Int)] := by rw [List.take_add_one, hq]; rfl
      (repeat' ((fail_if_success (with_reducible (first | refine sFor ?_ | refine sWhile ?_ | refine sIter ?_ | refine sEnum ?_ | refine sZip ?_ | refine sCall ?_ | refine sComp ?_ | refine sAComp ?_ | refine sCSrc ?_))); (first | (k_unfold; (try dsimp only)) | walk1 | (dsimp only; walk1) | (leave1; walk_say "STEP leave1"; try dsimp only))))
      all_goals rename Fr _ _ _ _ => F
      all_goals rename News _ _ _ _ => N
      · have hpos : 0 < expo n k q := by assumption
        have hle := ex_facts n (by omega) k (by omega) q (by omega) (by omega)
        rename_i Dt _ hlt _
        have hallt := allLt_mem hlt.2
        obtain ⟨m, hm⟩ : ∃ m : Nat, expo n k q = (m : Int) := ⟨(expo n k q).toNat, by omega⟩
        have hm2 : (leg q n n : Int) - (leg q k k : Int) - (leg q (n - k) (n - k) : Int) = (m : Int) := hm
        rw [hm2] at F N
        rw [List.push_toArray] at N
        refine t_end (⟨la, vs ++ [.ref Dt], e + 1, (Dt, ({ cls := .type "tuple", data := .seq #[Value.int (q : Int) t, Value.int (m : Int) tk1] } : Obj)) :: rest⟩ : BS) F N (fun p hp => ?_) (fun p hp => ?_) ?_ (by (repeat (first | exact Knows.nil | refine Knows.cons' ⟨0, by with_unfolding_all rfl⟩ ?_ | refine Knows.cons' ⟨_, by with_unfolding_all rfl⟩ ?_ | refine Knows.consI (by with_unfolding_all rfl) (by first | omega | (simp; done) | (simp; omega)) ?_))) ⟨rfl, ?_, ?_, ?_⟩
        · rcases List.mem_cons.mp hp with rfl | hp
          · exact .tail _ (.head _)
          · rcases List.mem_cons.mp hp with rfl | hp
            · exact .head _
            · exact .tail _ (.tail _ (List.mem_append.mpr (.inl hp)))
        · exact .tail _ (.tail _ (List.mem_append.mpr (.inr hp)))
        · intro p hp p' hp' e
          rcases List.mem_cons.mp hp with rfl | hp
          · exact hoff p' hp' _ (.head _) e.symm
          · rcases List.mem_cons.mp hp with rfl | hp
            · exact Nat.ne_of_lt (hallt p' (List.mem_append.mpr (.inr hp'))) e.symm
            · exact hoff p' hp' p.1 (.tail _ (List.mem_map.mpr ⟨p, hp, rfl⟩)) e.symm
        · intro p hp
          rcases List.mem_cons.mp hp with rfl | hp
          · exact Ne.symm (Nat.ne_of_lt hlt.1)
          · exact hra p hp
        · dsimp only
          rw [hxs, List.foldl_append]
          show Both _ _ (bstep n k _ q)
          unfold bstep
          rw [if_pos (by simpa using hpos)]
          refine Both.snoc ⟨Dt, t, tk1, _, 0, rfl, .head _, rfl, ?_, ?_, ?_⟩ (hB.imp ?_)
          · rintro v q ⟨a, t1, t2, o, n0, hv, hm, hr⟩
            exact ⟨a, t1, t2, o, n0, hv, .tail _ hm, hr⟩
          · rw [Int.toNat_natCast, hm, Int.toNat_natCast]
          · dsimp only
            omega
          · dsimp only
            rw [Int.toNat_natCast]
            omega
        · dsimp only
          rw [List.length_append, List.length_singleton]
          omega
      · have hpos : ¬ 0 < expo n k q := by assumption
        refine t_end (⟨la, vs, e, rest⟩ : BS) F N (fun p hp => ?_) (fun p hp => ?_) ?_ (by (repeat (first | exact Knows.nil | refine Knows.cons' ⟨0, by with_unfolding_all rfl⟩ ?_ | refine Knows.cons' ⟨_, by with_unfolding_all rfl⟩ ?_ | refine Knows.consI (by with_unfolding_all rfl) (by first | omega | (simp; done) | (simp; omega)) ?_))) ⟨rfl, hra, ?_, Nat.le_succ_of_le hvl⟩
        · exact List.mem_append.mpr (.inl hp)
        · exact .tail _ (List.mem_append.mpr (.inr hp))
        · intro p hp p' hp' e
          exact hoff p' hp' p.1 (List.mem_map.mpr ⟨p, hp, rfl⟩) e.symm
        · dsimp only
          rw [hxs, List.foldl_append]
          show Both _ _ (bstep n k _ q)
          unfold bstep
          rw [if_neg (by simpa using hpos)]
          exact hB
    · rintro ⟨la, vs, e, rest⟩ u ts h tk ⟨hla, hra, hB, hvl⟩ F2 N2
      dsimp only at F2 N2 hla hra hB hvl ⊢
      clear F1 N1
      rw [hI1.length, List.take_length] at hB
      (repeat' ((fail_if_success (with_reducible (first | refine sFor ?_ | refine sWhile ?_ | refine sIter ?_ | refine sEnum ?_ | refine sZip ?_ | refine sCall ?_ | refine sComp ?_ | refine sAComp ?_ | refine sCSrc ?_))); (first | (k_unfold; (try dsimp only)) | walk1 | (dsimp only; walk1) | (leave1; walk_say "STEP leave1"; try dsimp only))))
      rename Fr _ _ _ _ => F
      refine c_pop (dp := dp + 1) (pe := binPairs n k) (X.keeps F.keep) (T.keeps F.keep) (room hd rfl) hW ⟨_, (N2 _ (.head _)).1, rfl, _, rfl⟩ (hB.imp ?_) (bp_len n (by omega) k (by omega)) ?_
      · rintro v q ⟨a, t1, t2, o, n0, rfl, hm, hc, hd, h1, h2⟩
        exact ⟨a, t1, t2, rfl, ⟨o, (N2 _ (.tail _ hm)).1, hc, _, hd⟩, h1, h2⟩
      · intro h1 tk1 a1 vs1 n1 hst1 hfr1 hg1 hI1
        obtain ⟨F1, N1, hne1⟩ := after_call F N2 hst1 hfr1 hg1
        exact ret_ints (s := s) hret F1 N1 (.head _) hI1 rfl
end
end

section
section
variable {w : World} {E : Value → Shared → Prop} {s : Shared} {p : Program} {loose : List Str} {mean : ExcName → Option Value} {mg mb : Str → Option Value} {dp un : Nat} {fr : Option (List Env)} {gd : Option (List Code)}
open PyProof.Rows.LCg

/-- a row, as the ledger bears it -/
def RowIn (rest : Ledger) (v : Value) (xs : List Int) : Prop := ∃ a vs n, v = .ref a ∧ (a, ({ cls := .type "list", data := .seq (List.toArray vs) n } : Obj)) ∈ rest ∧ IntsAre vs xs
theorem RowIn.mono {r r' : Ledger} {v : Value} {xs : List Int} (h : ∀ p ∈ r, p ∈ r') : RowIn r v xs → RowIn r' v xs := fun ⟨a, vs, n, e, hm, hi⟩ => ⟨a, vs, n, e, h _ hm, hi⟩
/-- a call that hands back a new list of new lists of ints -/
def RetRows (s : Shared) (Q : Value → Shared → Prop) (rows : List (List Int)) : Prop :=
  ∀ h' tk' a vs n rest, s.heap.StaysIn h' → (∀ p ∈ (a, ({ cls := .type "list", data := .seq (List.toArray vs) n } : Obj)) :: rest, s.heap.get? p.1 = none ∧ h'.get? p.1 = some p.2) → Both (RowIn rest) vs rows → Q (.ref a) { s with heap := h', toks := tk' }

structure IPS where
  vs : List Value
  n : Nat
  rest : Ledger
  cur : Addr
def CurIn (la : Addr) (x0 : List Int) (rest : Ledger) (cur : Addr) (xs : List Int) : Prop := (cur = la ∧ xs = x0) ∨ ∃ vs n, (cur, ({ cls := .type "list", data := .seq (List.toArray vs) n } : Obj)) ∈ rest ∧ IntsAre vs xs

theorem cur_ints {h₀ h : Heap} {L : Addr} {m : Str → Option Value} {news rest : Ledger} {la cur : Addr} {x0 xs : List Int} (hc : CurIn la x0 rest cur xs) (F : Fr h₀ L h m) (N : News h₀ L h news) (hr : ∀ q ∈ rest, q ∈ news) (ha : Ints h₀ la x0) : Ints h cur xs := by
  rcases hc with ⟨rfl, rfl⟩ | ⟨vs9, n9, hm, hi9⟩
  · exact ints_keep F.keep ha
  · exact ints_of N (hr _ hm) hi9
def piecesOf (W A size n : Nat) : List (List Int) := (List.range n).map fun i => limbs W (A / 2 ^ (size * i) % 2 ^ size)

set_option maxHeartbeats 4000000 in
theorem c_pieces {Q : Value → Shared → Prop} {la : Addr} {A W size n : Nat} {ts tn tw : Tok} (X : Frag.In (hd.heap_39 w.params) s.heap) (T : Top p loose mean mg mb s.heap) (hd : dp + 10 < recursionLimit)
    (hW : 1 ≤ W ∧ W ≤ 9) (ha : Ints s.heap la (limbs W A)) (hA : A < 2 ^ 300) (hs : size < 100) (hn : n ≤ 20) (hret : RetRows s Q (piecesOf W A size n)) :
    wpAny (model PG w) (Ar dp un fr gd) (call (.ref 137) [.ref la, .int (size : Int) ts, .int (n : Int) tn, .int (W : Int) tw]) Q E s := by
  refine' enter [("a", .ref la), ("size", .int (size : Int) ts), ("pieces", .int (n : Int) tn), ("w", .int (W : Int) tw)] X T ?k6 ?k7 ?k8 ?k9 ?kB ?kP ?c2 ?c3 ?c4 ?c5 ?_
  (((case k6 => k_is); (case k7 => k_is); (case k8 => exact room0 (by assumption)); (case k9 => exact rfl); (case kB => exact locs rfl); (case kP => kst_all); (case c2 => exact rfl); (case c3 => exact rfl); (case c4 => exact rfl); (case c5 => decide); intro _ _ _ _ _ _ _ _; (try dsimp only)))
  (repeat' ((fail_if_success (with_reducible (first | refine sFor ?_ | refine sWhile ?_ | refine sIter ?_ | refine sEnum ?_ | refine sZip ?_ | refine sCall ?_ | refine sComp ?_ | refine sAComp ?_ | refine sCSrc ?_))); (first | (k_unfold; (try dsimp only)) | walk1 | (dsimp only; walk1) | (leave1; walk_say "STEP leave1"; try dsimp only))))
  rename Fr _ _ _ _ => F
  rename News _ _ _ _ => N
  rename_i lf _ _ _
  refine For_invV s.heap rfl rfl ?_ (by intro _; rfl) PassesOwn.never
  (repeat' ((fail_if_success (with_reducible (first | refine sFor ?_ | refine sWhile ?_ | refine sIter ?_ | refine sEnum ?_ | refine sZip ?_ | refine sCall ?_ | refine sComp ?_ | refine sAComp ?_ | refine sCSrc ?_))); (first | (k_unfold; (try dsimp only)) | walk1 | (dsimp only; walk1) | (leave1; walk_say "STEP leave1"; try dsimp only))))
  rename IsRange _ _ _ _ _ _ _ _ => hR
  rename Fr _ _ _ _ => F
  rename News _ _ _ _ => N
  refine l_range1 (σ := IPS) (fun c => (lf, listOf c.vs.toArray c.n) :: c.rest) (fun c => [rN "a" c.cur, iN "size" (size : Int), iN "w" (W : Int), rN "found" lf])
    (fun i c => (∀ q ∈ c.rest, q.1 ≠ lf) ∧ c.vs.length = i ∧ CurIn la (limbs W A) c.rest c.cur (limbs W (A / 2 ^ (size * i))) ∧ Both (RowIn c.rest) c.vs (piecesOf W A size i)) ⟨[], 0, [], la⟩ rfl hR (by omega) F N (fun q hq => hq) (by (repeat (first | exact Knows.nil | refine Knows.cons' ⟨0, by with_unfolding_all rfl⟩ ?_ | refine Knows.cons' ⟨_, by with_unfolding_all rfl⟩ ?_ | refine Knows.consI (by with_unfolding_all rfl) (by first | omega | (simp; done) | (simp; omega)) ?_)))
    ⟨(fun _ h => nomatch h), rfl, .inl ⟨rfl, by rw [Nat.mul_zero, Nat.pow_zero, Nat.div_one]⟩, .nil⟩ ?_ ?_
  · rintro i ⟨vs, e, rest, cur⟩ t u ts h tk own hi hoff ⟨hra, hvl, hc, hB⟩ F2 N2
    clear F N hR
    dsimp only at F2 N2 hi hra hvl hc hB hoff ⊢
    simp only [List.cons_append] at N2
    have hro : ∀ p ∈ rest ++ own, p.1 ≠ lf := fun p hp => (List.mem_append.mp hp).elim (hra p) fun hp => hoff p hp lf (.head _)
    have hlen : vs.length < 1000 := by omega
    (repeat' ((fail_if_success (with_reducible (first | refine sFor ?_ | refine sWhile ?_ | refine sIter ?_ | refine sEnum ?_ | refine sZip ?_ | refine sCall ?_ | refine sComp ?_ | refine sAComp ?_ | refine sCSrc ?_))); (first | (k_unfold; (try dsimp only)) | walk1 | (dsimp only; walk1) | (leave1; walk_say "STEP leave1"; try dsimp only))))
    rename Fr _ _ _ _ => F
    rename News _ _ _ _ => N
    refine c_low (dp := dp + 1) (A := A / 2 ^ (size * i)) (X.keeps F.keep) (T.keeps F.keep) (room hd rfl) hW (cur_ints hc F N (fun q hq => .tail _ (List.mem_append.mpr (.inl hq))) ha) (Nat.lt_of_le_of_lt (Nat.div_le_self _ _) hA) hs ?_
    intro h1 tk1 a1 vs1 n1 hst1 hfr1 hg1 hI1
    obtain ⟨F1, N1, hne1⟩ := after_call F N hst1 hfr1 hg1
    clear F N
    have hlf1 : @Ne Nat lf a1 := hne1 _ (.head _)
    have hlf2 : @Ne Nat a1 lf := fun e => hlf1 e.symm
    dsimp only
    (repeat' ((fail_if_success (with_reducible (first | refine sFor ?_ | refine sWhile ?_ | refine sIter ?_ | refine sEnum ?_ | refine sZip ?_ | refine sCall ?_ | refine sComp ?_ | refine sAComp ?_ | refine sCSrc ?_))); (first | (k_unfold; (try dsimp only)) | walk1 | (dsimp only; walk1) | (leave1; walk_say "STEP leave1"; try dsimp only))))
    rename Fr _ _ _ _ => F
    rename News _ _ _ _ => N
    have hN : ∀ q ∈ rest ++ own, q.1 ≠ a1 := fun q hq => hne1 q (.tail _ hq)
    refine c_shr (dp := dp + 1) (A := A / 2 ^ (size * i)) (X.keeps F.keep) (T.keeps F.keep) (room hd rfl) hW (cur_ints hc F N (fun q hq => .tail _ (.tail _ (List.mem_append.mpr (.inl hq)))) ha) (Nat.lt_of_le_of_lt (Nat.div_le_self _ _) hA) hs ?_
    intro h2 tk2 a2 vs2 n2 hst2 hfr2 hg2 hI3
    obtain ⟨F3, N3, hne3⟩ := after_call F N hst2 hfr2 hg2
    clear F N
    dsimp only
    (repeat' ((fail_if_success (with_reducible (first | refine sFor ?_ | refine sWhile ?_ | refine sIter ?_ | refine sEnum ?_ | refine sZip ?_ | refine sCall ?_ | refine sComp ?_ | refine sAComp ?_ | refine sCSrc ?_))); (first | (k_unfold; (try dsimp only)) | walk1 | (dsimp only; walk1) | (leave1; walk_say "STEP leave1"; try dsimp only))))
    rename Fr _ _ _ _ => F
    rename News _ _ _ _ => N
    rw [List.push_toArray] at N
    refine t_end (⟨vs ++ [.ref a1], e + 1, (a2, ({ cls := .type "list", data := .seq vs2.toArray n2 } : Obj)) :: (a1, ({ cls := .type "list", data := .seq vs1.toArray n1 } : Obj)) :: rest, a2⟩ : IPS) F N (fun p hp => ?_) (fun p hp => ?_) ?_ (by (repeat (first | exact Knows.nil | refine Knows.cons' ⟨0, by with_unfolding_all rfl⟩ ?_ | refine Knows.cons' ⟨_, by with_unfolding_all rfl⟩ ?_ | refine Knows.consI (by with_unfolding_all rfl) (by first | omega | (simp; done) | (simp; omega)) ?_))) ⟨?_, ?_, .inr ⟨_, _, .head _, ?_⟩, ?_⟩
    · rcases List.mem_cons.mp hp with rfl | hp
      · exact .tail _ (.tail _ (.head _))
      · rcases List.mem_cons.mp hp with rfl | hp
        · exact .head _
        · rcases List.mem_cons.mp hp with rfl | hp
          · exact .tail _ (.head _)
          · exact .tail _ (.tail _ (.tail _ (List.mem_append.mpr (.inl hp))))
    · exact .tail _ (.tail _ (.tail _ (List.mem_append.mpr (.inr hp))))
    · intro p hp p' hp' e
      rcases List.mem_cons.mp hp with rfl | hp
      · exact hoff p' hp' _ (.head _) e.symm
      · rcases List.mem_cons.mp hp with rfl | hp
        · exact hne3 p' (.tail _ (.tail _ (List.mem_append.mpr (.inr hp')))) e.symm
        · rcases List.mem_cons.mp hp with rfl | hp
          · exact hN p' (List.mem_append.mpr (.inr hp')) e.symm
          · exact hoff p' hp' p.1 (.tail _ (List.mem_map.mpr ⟨p, hp, rfl⟩)) e.symm
    · intro p hp
      rcases List.mem_cons.mp hp with rfl | hp
      · exact Ne.symm (hne3 _ (.tail _ (.head _)))
      · rcases List.mem_cons.mp hp with rfl | hp
        · exact hlf2
        · exact hra p hp
    · dsimp only
      rw [List.length_append, List.length_singleton, hvl]
    · rw [Nat.div_div_eq_div_mul, ← Nat.pow_add] at hI3
      exact hI3
    · dsimp only
      unfold piecesOf at hB ⊢
      rw [List.range_succ, List.map_append]
      exact Both.snoc ⟨a1, vs1, n1, rfl, .tail _ (.head _), hI1⟩ (hB.imp fun v xs hr => hr.mono fun q hq => .tail _ (.tail _ hq))
  · rintro ⟨vs, e, rest, cur⟩ u ts h tk ⟨hra, hvl, hc, hB⟩ F2 N2
    clear F N hR
    dsimp only at F2 N2 hra hvl hc hB ⊢
    (repeat' ((fail_if_success (with_reducible (first | refine sFor ?_ | refine sWhile ?_ | refine sIter ?_ | refine sEnum ?_ | refine sZip ?_ | refine sCall ?_ | refine sComp ?_ | refine sAComp ?_ | refine sCSrc ?_))); (first | (k_unfold; (try dsimp only)) | walk1 | (dsimp only; walk1) | (leave1; walk_say "STEP leave1"; try dsimp only))))
    have e1 : ((n : Int) - 0).toNat = n := Int.toNat_sub n 0
    rw [e1] at hB
    exact hret _ _ _ vs e rest F2.keep (fun p hp => ⟨(N2 p hp).2.2, (N2 p hp).1⟩) hB
end
end

section
section
variable {w : World} {E : Value → Shared → Prop} {s : Shared} {p : Program} {loose : List Str} {mean : ExcName → Option Value} {mg mb : Str → Option Value} {dp un : Nat} {fr : Option (List Env)} {gd : Option (List Code)}
open PyProof.Rows.LCg

/-- a row that stands -/
def RowAt (h : Heap) (v : Value) (xs : List Int) : Prop := ∃ b, v = .ref b ∧ Ints h b xs
theorem Both.get {β : Type} {R : Value → β → Prop} : ∀ {vs : List Value} {qs : List β}, Both R vs qs → ∀ (i : Nat) (v : Value), vs[i]? = some v → ∃ q, qs[i]? = some q ∧ R v q
  | _, _, .nil, i, v, h => by simp at h
  | _, _, .cons hr hb, 0, v, h => by simp at h; subst h; exact ⟨_, rfl, hr⟩
  | _, _, .cons hr hb, i + 1, v, h => by simpa using hb.get i v (by simpa using h)
def putN (size : Nat) : List Nat → Nat
  | [] => 0
  | N :: r => putN size r * 2 ^ size + N

def PutOk (size : Nat) (Ns : List Nat) : Prop := Ns.length ≤ 20 ∧ (∀ N ∈ Ns, N < 2 ^ 200) ∧ ∀ i, putN size (Ns.drop i) < 2 ^ 200

set_option maxHeartbeats 4000000 in
theorem c_put {Q : Value → Shared → Prop} {l : Addr} {vs : List Value} {Ns : List Nat} {W size : Nat} {ts tw : Tok} (X : Frag.In (hd.heap_39 w.params) s.heap) (T : Top p loose mean mg mb s.heap) (hd : dp + 10 < recursionLimit)
    (hW : 1 ≤ W ∧ W ≤ 9) (hl : s.heap.IsList l vs.toArray) (hR : Both (RowAt s.heap) vs (Ns.map (limbs W))) (hs : size < 100) (hO : PutOk size Ns) (hret : RetInts s Q (limbs W (putN size Ns))) :
    wpAny (model PG w) (Ar dp un fr gd) (call (.ref 144) [.ref l, .int (size : Int) ts, .int (W : Int) tw]) Q E s := by
  refine' enter [("row", .ref l), ("size", .int (size : Int) ts), ("w", .int (W : Int) tw)] X T ?k6 ?k7 ?k8 ?k9 ?kB ?kP ?c2 ?c3 ?c4 ?c5 ?_
  (((case k6 => k_is); (case k7 => k_is); (case k8 => exact room0 (by assumption)); (case k9 => exact rfl); (case kB => exact locs rfl); (case kP => kst_all); (case c2 => exact rfl); (case c3 => exact rfl); (case c4 => exact rfl); (case c5 => decide); intro _ _ _ _ _ _ _ _; (try dsimp only)))
  (repeat' ((fail_if_success (with_reducible (first | refine sFor ?_ | refine sWhile ?_ | refine sIter ?_ | refine sEnum ?_ | refine sZip ?_ | refine sCall ?_ | refine sComp ?_ | refine sAComp ?_ | refine sCSrc ?_))); (first | (k_unfold; (try dsimp only)) | walk1 | (dsimp only; walk1) | (leave1; walk_say "STEP leave1"; try dsimp only))))
  rename Fr _ _ _ _ => F
  rename News _ _ _ _ => N
  rename_i lf _ _ _
  refine For_invV s.heap rfl rfl ?_ (by intro _; rfl) PassesOwn.never
  iterate 9 walk1
  rename Fr _ _ _ _ => F
  rename News _ _ _ _ => N
  have hvl : vs.length = Ns.length := by rw [hR.length, List.length_map]
  refine krv_lit F N (Fr.lst F hl) (IsPart.int _ _) rfl ?_ (by with_unfolding_all rfl) (by intro _; with_unfolding_all rfl) (by rw [List.size_toArray, hvl]; exact Nat.le_trans hO.1 (by decide +kernel))
  intro D h1 F1 N1 hne1
  clear F N
  dsimp only at F1 N1 ⊢
  have hlD : @LT.lt Nat _ lf D := hne1 _ (.head _)
  refine l_list (σ := AL) (l := D) (vs := vs.reverse) (fun c => [(c.a, listOf c.vs.toArray c.n)]) (fun c => [iN "size" (size : Int), iN "w" (W : Int), rN "found" c.a])
    (fun i c => IntsAre c.vs (limbs W (putN size (Ns.drop (Ns.length - i))))) ⟨lf, [], 0⟩ rfl ⟨_, (N1 _ (.head _)).1, rfl, _, rfl⟩ (N1 _ (.head _)).2.1 F1 (kst_newsOf N1 (fun q hq => .tail _ hq)) (fun q hq => by rw [List.mem_singleton.mp hq]; exact Nat.ne_of_lt hlD) (by (repeat (first | exact Knows.nil | refine Knows.cons' ⟨0, by with_unfolding_all rfl⟩ ?_ | refine Knows.cons' ⟨_, by with_unfolding_all rfl⟩ ?_ | refine Knows.consI (by with_unfolding_all rfl) (by first | omega | (simp; done) | (simp; omega)) ?_))) ?_ ?_ ?_
  · rw [Nat.sub_zero, List.drop_length]
    show IntsAre [] (limbs W 0)
    rw [limbs_zero]
    exact .nil
  · rintro i ⟨la, va, e⟩ v u ts h tk own hv hoff hI F2 N2
    clear F1 N1 hne1
    dsimp only at F2 N2 hI hoff ⊢
    simp only [List.cons_append, List.nil_append] at N2
    have hil : i < Ns.length := by
      have := (List.getElem?_eq_some_iff.mp hv).1
      rw [List.length_reverse, hvl] at this
      exact this
    rw [List.getElem?_reverse (by omega), hvl] at hv
    obtain ⟨k, hk⟩ : ∃ k, k = Ns.length - 1 - i := ⟨_, rfl⟩
    have hk1 : Ns.length - i = k + 1 := by omega
    have hk2 : Ns.length - (i + 1) = k := by omega
    rw [← hk] at hv
    rw [hk1] at hI
    obtain ⟨xs, hx, b, rfl, hb⟩ := hR.get k v hv
    rw [List.getElem?_map] at hx
    obtain ⟨Nk, hNk, rfl⟩ := Option.map_eq_some_iff.mp hx
    have hdr : putN size (Ns.drop k) = putN size (Ns.drop (k + 1)) * 2 ^ size + Nk := by
      obtain ⟨hkl, rfl⟩ := List.getElem?_eq_some_iff.mp hNk
      rw [List.drop_eq_getElem_cons hkl]
      rfl
    have hP1 := hO.2.2 (k + 1)
    have hP0 := hO.2.2 k
    have hNk2 := hO.2.1 Nk (List.mem_of_getElem? hNk)
    have hJ : ∀ c : AL, IntsAre c.vs (limbs W (putN size (Ns.drop k))) → IntsAre c.vs (limbs W (putN size (Ns.drop (Ns.length - (i + 1))))) := by
      intro c hc
      rw [hk2]
      exact hc
    rw [hdr] at hJ hP0
    clear hk2 hk hk1 hdr
    generalize putN size (Ns.drop (k + 1)) = A at *
    have hP2 : A * 2 ^ size < 2 ^ 300 := Nat.lt_of_le_of_lt (Nat.le_add_right _ Nk) (Nat.lt_trans hP0 (by decide))
    have hP3 : A < 2 ^ 300 := Nat.lt_trans hP1 (by decide)
    have hP4 : Nk < 2 ^ 300 := Nat.lt_trans hNk2 (by decide)
    (repeat' ((fail_if_success (with_reducible (first | refine sFor ?_ | refine sWhile ?_ | refine sIter ?_ | refine sEnum ?_ | refine sZip ?_ | refine sCall ?_ | refine sComp ?_ | refine sAComp ?_ | refine sCSrc ?_))); (first | (k_unfold; (try dsimp only)) | walk1 | (dsimp only; walk1) | (leave1; walk_say "STEP leave1"; try dsimp only))))
    rename Fr _ _ _ _ => F
    rename News _ _ _ _ => N
    refine c_shl (dp := dp + 1) (A := A) (X.keeps F.keep) (T.keeps F.keep) (room hd rfl) hW (ints_of N (.head _) hI) hP3 hs ?_
    intro h1 tk1 a1 vs1 n1 hst1 hfr1 hg1 hI1
    obtain ⟨F1, N1, hne1⟩ := after_call F N hst1 hfr1 hg1
    clear F N
    dsimp only
    (repeat' ((fail_if_success (with_reducible (first | refine sFor ?_ | refine sWhile ?_ | refine sIter ?_ | refine sEnum ?_ | refine sZip ?_ | refine sCall ?_ | refine sComp ?_ | refine sAComp ?_ | refine sCSrc ?_))); (first | (k_unfold; (try dsimp only)) | walk1 | (dsimp only; walk1) | (leave1; walk_say "STEP leave1"; try dsimp only))))
    rename Fr _ _ _ _ => F
    rename News _ _ _ _ => N
    refine c_add (dp := dp + 1) (A := A * 2 ^ size) (B := Nk) (X.keeps F.keep) (T.keeps F.keep) (room hd rfl) hW (ints_of N (.head _) hI1) (ints_keep F.keep hb) hP2 hP4 ?_
    intro h2 tk2 a2 vs2 n2 hst2 hfr2 hg2 hI2
    obtain ⟨F2, N2, hne2⟩ := after_call F N hst2 hfr2 hg2
    clear F N
    dsimp only
    (repeat' ((fail_if_success (with_reducible (first | refine sFor ?_ | refine sWhile ?_ | refine sIter ?_ | refine sEnum ?_ | refine sZip ?_ | refine sCall ?_ | refine sComp ?_ | refine sAComp ?_ | refine sCSrc ?_))); (first | (k_unfold; (try dsimp only)) | walk1 | (dsimp only; walk1) | (leave1; walk_say "STEP leave1"; try dsimp only))))
    rename Fr _ _ _ _ => F
    rename News _ _ _ _ => N
    refine t_end1 (⟨a2, vs2, n2⟩ : AL) rfl F (kst_newsOf N ?_) ?_ (by (repeat (first | exact Knows.nil | refine Knows.cons' ⟨0, by with_unfolding_all rfl⟩ ?_ | refine Knows.cons' ⟨_, by with_unfolding_all rfl⟩ ?_ | refine Knows.consI (by with_unfolding_all rfl) (by first | omega | (simp; done) | (simp; omega)) ?_))) (hJ ⟨a2, vs2, n2⟩ hI2)
    · intro q hq
      rcases List.mem_cons.mp hq with rfl | hq
      · exact .head _
      · exact .tail _ (.tail _ (.tail _ hq))
    · intro q hq
      exact hne2 q (.tail _ (.tail _ hq))
  · rintro ⟨la, va, e⟩ u ts h tk hI F2 N2
    clear F1 N1 hne1
    dsimp only at F2 N2 hI ⊢
    rw [List.length_reverse, hvl, Nat.sub_self, List.drop_zero] at hI
    (repeat' ((fail_if_success (with_reducible (first | refine sFor ?_ | refine sWhile ?_ | refine sIter ?_ | refine sEnum ?_ | refine sZip ?_ | refine sCall ?_ | refine sComp ?_ | refine sAComp ?_ | refine sCSrc ?_))); (first | (k_unfold; (try dsimp only)) | walk1 | (dsimp only; walk1) | (leave1; walk_say "STEP leave1"; try dsimp only))))
    exact ret_ints (s := s) hret F2 N2 (.head _) hI rfl
end
end

section
section
variable {w : World} {E : Value → Shared → Prop} {s : Shared} {p : Program} {loose : List Str} {mean : ExcName → Option Value} {mg mb : Str → Option Value} {dp un : Nat} {fr : Option (List Env)} {gd : Option (List Code)}

/-- a def entered from a frame whose new objects it may write to -/
theorem enterN {Q : Value → Shared → Prop} {K : Frag} {h₀ : Heap} {L₀ : Addr} {m : Str → Option Value} {news : List (Addr × Obj)} {name qual : Str} {params : Arguments} {body : List Stmt} {scope : Scope} {dV kV doc pm cdv ct oc : Value} {an od : Option Addr} {osl : Array (Option Value)} {f : Addr} {args : List Value} {binds : List (Str × Value)} (ps : List (Str × Value))
    (X : K.In h₀) (T : Top p loose mean mg mb h₀) (F : Fr h₀ L₀ s.heap m) (N : News h₀ L₀ s.heap news)
    (ho : K.lookup f = some ⟨oc, od, .func (fnOf name qual params body scope dV kV doc pm an cdv ct), osl⟩) (hcd : codeIn K cdv qual = true) (hroom : dp < recursionLimit)
    (hbind : bindArgs (fnOf name qual params body scope dV kV doc pm an cdv ct) ⟨args, []⟩ = pure binds) (hloc : ∀ y ∈ binds, scope.names.lookup y.1 = some .local)
    (hps : ∀ p ∈ ps, binds.reverse.lookup p.1 = some p.2)
    (hco : scope.isCoroutine = false) (hgen : scope.isGenerator = false) (hk : scope.kind = .function) (hcell : ∀ x ∈ scope.names, x.2 ≠ .cell)
    (h : ∀ L u h₁ tk g, Fr g L h₁ (kstB u ps) → News g L h₁ news → Top p loose mean mg mb g → K.In g →
      (∀ {h' L2 m' news'}, Fr g L2 h' m' → News g L2 h' news' → Fr h₀ L₀ h' m ∧ News h₀ L₀ h' news') →
      wpAny (model PG w) ((Ar dp un fr gd).deeper (envOf qual scope L f cdv)) (execs body (envOf qual scope L f cdv))
        (fun fl s' => Q (match fl with | .ret v => v | _ => .none) s') (fun _ _ => False)
        { s with heap := h₁, toks := tk }) :
    wpAny (model PG w) (Ar dp un fr gd) (call (.ref f) args) Q E s := by
  refine wpAny_call (codeAny_call_def (fd := fnOf name qual params body scope dV kV doc pm an cdv ct) (body := body) (binds := binds) hroom ((X.keeps F.keep) _ _ ho) rfl (T.keeps F.keep).nolimit (codeRec_of (X.keeps F.keep) hcd) rfl (.of_eq hbind) hcell hloc (fun h₁ hns hk₁ => ?_) hco hgen hk)
  have st : h₀.StaysIn (hideAll s.heap (news.map (·.1))) := fun b o e => hideAll_get _ (F.keep b o e) fun q => by
    obtain ⟨c, hc, rfl⟩ := List.mem_map.mp q
    rw [(N c hc).2.2] at e; cases e
  obtain ⟨oL, es, ep, hL, hLd, hLk, hLf⟩ := F.ns
  have hLg : (hideAll s.heap (news.map (·.1))).get? L₀ = some oL := hideAll_get _ hL fun q => by
    obtain ⟨c, hc, e⟩ := List.mem_map.mp q
    exact (N c hc).2.1 e
  have F1 : Fr (hideAll s.heap (news.map (·.1))) s.heap.objs.size h₁ (fun x => binds.reverse.lookup x) := ⟨hns, fun b o e => hk₁ b o (of_hideAll _ e), Nat.le_of_eq (hideAll_size _ _)⟩
  have e : kstB (fun x => binds.reverse.lookup x) ps = fun x => binds.reverse.lookup x := by funext y; exact kstB_eq hps fun _ => rfl
  refine wpAny_mono (h _ _ _ _ _ (by rw [e]; exact F1) (fun c hc => ⟨hk₁ _ _ (N c hc).1, Nat.ne_of_lt (Heap.lt_size (N c hc).1), hideAll_none _ (List.mem_map_of_mem hc)⟩) (T.keeps st) (X.keeps st) fun {h' L2 m' news'} F' N' => ?_) (fun _ _ x => x) fun _ _ x => x.elim
  refine ⟨⟨⟨oL, es, ep, F'.keep _ _ hLg, hLd, hLk, hLf⟩, fun b o e => F'.keep b o (st b o e), F.above⟩, fun c hc => ⟨(N' c hc).1, fun q => ?_, ?_⟩⟩
  · have := (N' c hc).2.2
    rw [q, hLg] at this; cases this
  · cases q : h₀.get? c.1 with
    | none => rfl
    | some o => have := (N' c hc).2.2; rw [st _ _ q] at this; cases this

set_option maxHeartbeats 1000000 in
theorem c_sip {Q : Value → Shared → Prop} {h₀ : Heap} {L₀ J D c1 c2 : Addr} {o1 o2 : Obj} {m : Str → Option Value} {ys : List Value} {zs : List Int} {i many : Int} {t tm : Tok} {k : Nat}
    (X : Frag.In (hd.heap_39 w.params) h₀) (T : Top p loose mean mg mb h₀) (F₀ : Fr h₀ L₀ s.heap m) (N₀ : News h₀ L₀ s.heap [(J, listOf #[.int i t, .ref D] k), (D, LCg.lst ys), (c2, o2), (c1, o1)]) (hd : dp + 5 < recursionLimit)
    (hne : @LT.lt Nat _ D J ∧ @LT.lt Nat _ c2 J ∧ @LT.lt Nat _ c1 J) (hi : 0 ≤ i) (hz : IntsAre ys zs) (hm : 0 < many) (hlen : zs.length ≤ 6)
    (hret : ∀ h' tk' e t1 t2 k', Fr h₀ L₀ h' m → News h₀ L₀ h' [(J, listOf #[.int (i + 1) t1, .ref D] k'), (D, LCg.lst ys), (c2, o2), (c1, o1)] → Q (.int (Int.fmod e many) t2) { s with heap := h', toks := tk' }) :
    wpAny (model PG w) (Ar dp un fr gd) (call (.ref 158) [.ref J, .int many tm]) Q E s := by
  refine' enterN [("jug", .ref J), ("many", .int many tm)] X T F₀ N₀ ?k6 ?k7 ?k8 ?k9 ?kB ?kP ?c2 ?c3 ?c4 ?c5 ?_
  (case k6 => k_is)
  (case k7 => k_is)
  (case k8 => exact room0 hd)
  (case k9 => exact rfl)
  (case kB => exact locs rfl)
  (case kP => kst_all)
  (case c2 => exact rfl)
  (case c3 => exact rfl)
  (case c4 => exact rfl)
  (case c5 => decide)
  intro L' u' h' tk' g F' N' T' X' conv
  (try dsimp only)
  clear F₀ N₀ X T
  (repeat' ((fail_if_success (with_reducible (first | refine sFor ?_ | refine sWhile ?_ | refine sIter ?_ | refine sEnum ?_ | refine sZip ?_ | refine sCall ?_ | refine sComp ?_ | refine sAComp ?_ | refine sCSrc ?_))); (first | (k_unfold; (try dsimp only)) | walk1 | (dsimp only; walk1) | (leave1; walk_say "STEP leave1"; try dsimp only))))
  all_goals
    rename Fr _ _ _ _ => F
    rename News _ _ _ _ => N
    have FN := conv F N
    exact hret _ _ _ _ _ _ FN.1 FN.2
end
end

theorem after_rows {h₀ h h' : Heap} {L : Addr} {m : Str → Option Value} {news l : Ledger} (F : Fr h₀ L h m) (N : News h₀ L h news) (hst : h.StaysIn h') (hm : ∀ p ∈ l, h.get? p.1 = none ∧ h'.get? p.1 = some p.2) :
    Fr h₀ L h' m ∧ News h₀ L h' (l ++ news) ∧ ∀ p ∈ l, ∀ q ∈ news, q.1 ≠ p.1 := by
  refine ⟨F.keeps hst, fun p hp => ?_, fun p hp q hq e => by have h1 := (N q hq).1; rw [e, (hm p hp).1] at h1; cases h1⟩
  rcases List.mem_append.mp hp with hp | hp
  · obtain ⟨hfr, hg⟩ := hm p hp
    refine ⟨hg, ?_, ?_⟩
    · obtain ⟨o', _, _, h2, _⟩ := F.ns
      intro (e : p.1 = L)
      rw [← e, hfr] at h2; cases h2
    · cases e : h₀.get? p.1 with
      | none => rfl
      | some o' => rw [F.keep p.1 o' e] at hfr; cases hfr
  · exact N.grown hst p hp
theorem both_size {β : Type} {R : Value → β → Prop} {vs : List Value} {qs : List β} (h : Both R vs qs) (hq : qs.length ≤ 20) : vs.toArray.size ≤ sizeLine := by
  rw [List.size_toArray, h.length]
  exact Nat.le_trans hq (by decide +kernel)
theorem pieces_get {W A size n i : Nat} {xs : List Int} (h : (piecesOf W A size n)[i]? = some xs) : xs = limbs W (A / 2 ^ (size * i) % 2 ^ size) := by
  unfold piecesOf at h
  rw [List.getElem?_map] at h
  obtain ⟨j, hj, rfl⟩ := Option.map_eq_some_iff.mp h
  obtain ⟨hl, rfl⟩ := List.getElem?_eq_some_iff.mp hj
  simp
theorem pieces_len {W A size n : Nat} : (piecesOf W A size n).length = n := by simp [piecesOf]
theorem draw_n {o : Obj} {e : Int} {t : Tok} (_d : o.data = .cell (some (.int (Int.fmod e 10) t))) : ∃ n : Nat, Int.fmod e 10 = (n : Int) ∧ n ≤ 9 := by
  have h1 := Int.fmod_nonneg_of_pos e (b := 10) (by decide)
  have h2 := Int.fmod_lt_of_pos e (b := 10) (by decide)
  exact ⟨(Int.fmod e 10).toNat, by omega, by omega⟩
theorem draw_w {o : Obj} {e : Int} {t : Tok} (_d : o.data = .cell (some (.int (6 + Int.fmod e 4) t))) : ∃ W : Nat, 6 + Int.fmod e 4 = (W : Int) ∧ 6 ≤ W ∧ W ≤ 9 := by
  have h1 := Int.fmod_nonneg_of_pos e (b := 4) (by decide)
  have h2 := Int.fmod_lt_of_pos e (b := 4) (by decide)
  exact ⟨(6 + Int.fmod e 4).toNat, by omega, by omega, by omega⟩
theorem draw_s {h₀ h : Heap} {L : Addr} {x : Str} {r : Str → Option Value} {a e : Int} {t : Tok} (_F : Fr h₀ L h (fun y => if y = x then some (.int (a + 1 + Int.fmod e 3) t) else r y)) (n : Nat) (ha : a = (n : Int)) :
    ∃ size : Nat, a + 1 + Int.fmod e 3 = (size : Int) ∧ n + 1 ≤ size ∧ size ≤ n + 3 := by
  have h1 := Int.fmod_nonneg_of_pos e (b := 3) (by decide)
  have h2 := Int.fmod_lt_of_pos e (b := 3) (by decide)
  exact ⟨(a + 1 + Int.fmod e 3).toNat, by omega, by omega, by omega⟩
theorem fr_known' {h₀ h : Heap} {L : Addr} {m : Str → Option Value} {ps : List Nm} (F : Fr h₀ L h m) (hk : Knows m ps) : ∃ u ts, Fr h₀ L h (KB u ps ts) :=
  let ⟨ts, F'⟩ := fr_known F hk; ⟨m, ts, F'⟩
theorem two_pow_nat (k : Nat) : (2 : Int) ^ k = ((2 ^ k : Nat) : Int) := (pow_nat k).symm
theorem News.tail1 {h₀ h : Heap} {L : Addr} {q : Addr × Obj} {r : Ledger} (N : News h₀ L h (q :: r)) : News h₀ L h r := fun p hp => N p (.tail _ hp)
theorem re_fr {K : Frag} {h₀ h₁ h : Heap} {L : Addr} {m : Str → Option Value} (_X : K.In h₁) (e : h₀ = h₁) (F : Fr h₀ L h m) : Fr h₁ L h m := e ▸ F
theorem re_news {K : Frag} {h₀ h₁ h : Heap} {L : Addr} {news : Ledger} (_X : K.In h₁) (e : h₀ = h₁) (N : News h₀ L h news) : News h₁ L h news := e ▸ N
section
open PySem.Spec PyProof.Rows.LCg PyProof.Rows.LCp
variable {prog : Program} {w : World} {A : Around} {E : Value → Shared → Prop} {s : Shared} {h₀ : Heap} {L : Addr} {m : Str → Option Value} {env : Env}
theorem comp_inv {elt : Expr} {x : Str} {scope : Scope} {cl : List (Str × Addr)} {S : Ledger → Prop} {P : Nat → Value → Prop} {Fin : List Value → Ledger → Prop} {n : Nat} (J : Nat → List Value → Ledger → Prop)
    (turn : ∀ i v I oI C oC D m₂ h tk (E' : Value → Shared → Prop) ys news, i < n → P i v → J i ys news → NsObj oC m₂ → m₂ x = some v → Fr h₀ L h m → News h₀ L h ((I, oI) :: (C, oC) :: (D, lst ys) :: news) → Off3 I C D news → ((@Ne Nat I C) ∧ (@Ne Nat I D) ∧ (@Ne Nat C D)) →
      wpAny (model prog w) A (eval elt (compEnvC scope cl C env)) (CompEnd h₀ L m { s with heap := h, toks := tk } I oI C oC D (lst ys) S (fun y news' => J (i + 1) (ys ++ [y]) news')) E' { s with heap := h, toks := tk })
    (fin : ∀ ys news, J n ys news → Fin ys news) : ∀ (k i : Nat) (ys : List Value) (news : Ledger), i + k = n → J i ys news → CompRest prog w A h₀ L m env elt x scope cl s S P Fin k i ys news
  | 0, i, ys, news, e, hj => by
    have : i = n := e
    subst this
    exact .zero (fin ys news hj)
  | k + 1, i, ys, news, e, hj => by
    refine .succ fun v I oI C oC D m₂ h tk E' hP hC hx F N o3 hne => ?_
    refine wpAny_mono (turn i v I oI C oC D m₂ h tk E' ys news (by omega) hP hj hC hx F N o3 hne) (fun y s₄ h₄ => ?_) fun _ _ e => e
    obtain ⟨h', tk', news', rfl, F', N', o', hS, hj'⟩ := h₄
    exact ⟨h', tk', news', rfl, F', N', o', hS, comp_inv J turn fin k (i + 1) (ys ++ [y]) news' (by omega) hj'⟩

theorem comp_quiet {elt : Expr} {x : Str} {scope : Scope} {cl : List (Str × Addr)} {S : Ledger → Prop} {P : Nat → Value → Prop} {Fin : List Value → Ledger → Prop} {n : Nat} {news : Ledger} (G : Nat → Value → Prop) (hS : S news)
    (helt : ∀ i v C oC m₂ h tk (E' : Value → Shared → Prop), i < n → P i v → NsObj oC m₂ → m₂ x = some v → Fr h₀ L h m → News h₀ L h ((C, oC) :: news) →
      wpAny (model prog w) A (eval elt (compEnvC scope cl C env)) (fun y s₄ => G i y ∧ Keeps { s with heap := h, toks := tk } s₄) E' { s with heap := h, toks := tk })
    (fin : ∀ ys, ys.length = n → (∀ j y, ys[j]? = some y → G j y) → Fin ys news) : CompRest prog w A h₀ L m env elt x scope cl s S P Fin n 0 [] news := by
  refine comp_inv (n := n) (fun i ys nw => nw = news ∧ ys.length = i ∧ ∀ j y, ys[j]? = some y → G j y) ?_ ?_ n 0 [] news (by omega) ⟨rfl, rfl, fun j y e => by simp at e⟩
  · rintro i v I oI C oC D m₂ h tk E' ys nw hi hP ⟨rfl, hyl, hG⟩ hC hx F N o3 hne
    refine wpAny_mono (helt i v C oC m₂ h tk E' hi hP hC hx F (fun p hp => N p (.tail _ ?_))) (fun y s₄ h₄ => ?_) fun _ _ e => e
    · rcases List.mem_cons.mp hp with rfl | hp
      · exact .head _
      · exact .tail _ (.tail _ hp)
    · obtain ⟨hGy, h', tk', rfl, hk⟩ := h₄
      refine ⟨h', tk', nw, rfl, F.keeps hk, N.grown hk, o3, hS, rfl, by simp [hyl], fun j u hj => ?_⟩
      rcases Nat.lt_trichotomy j ys.length with h | h | h
      · exact hG j u (by rwa [List.getElem?_append_left h] at hj)
      · subst h; simp at hj; subst hj; rw [hyl]; exact hGy
      · have hnone : (ys ++ [y])[j]? = none := List.getElem?_eq_none (by rw [List.length_append, List.length_singleton]; omega)
        rw [hnone] at hj; cases hj
  · rintro ys nw ⟨rfl, hyl, hG⟩
    exact fin ys hyl hG
end

theorem pieces_dec : ∀ n : Nat, n < 10 → ∀ d, d < 3 → (List.range (n + 1)).map (fun i => (((2 ^ (n + 1 + d) + 1) ^ n / 2 ^ ((n + 1 + d) * i) % 2 ^ (n + 1 + d) : Nat) : Int)) = pascal n := by decide +kernel
theorem pieces_eq {n size : Nat} (hn : n ≤ 9) (hs : n + 1 ≤ size ∧ size ≤ n + 3) : (List.range (n + 1)).map (fun i => (((2 ^ size + 1) ^ n / 2 ^ (size * i) % 2 ^ size : Nat) : Int)) = pascal n := by
  obtain ⟨d, rfl⟩ : ∃ d, size = n + 1 + d := ⟨size - (n + 1), by omega⟩
  exact pieces_dec n (by omega) d (by omega)
def binos (n : Nat) : List Nat := (List.range (n + 1)).map fun k => prodp (binPairs n k)
theorem binos_dec : ∀ n : Nat, n < 10 → (binos n).map (fun (k : Nat) => (k : Int)) = pascal n ∧ ∀ N ∈ binos n, N < 2 ^ 20 := by decide +kernel
theorem put_dec : ∀ n : Nat, n < 10 → ∀ d, d < 3 → putN (n + 1 + d) (binos n) = (2 ^ (n + 1 + d) + 1) ^ n ∧ ∀ i, i < 12 → putN (n + 1 + d) ((binos n).drop i) < 2 ^ 200 := by decide +kernel
theorem put_ok {n size : Nat} (hn : n ≤ 9) (hs : n + 1 ≤ size ∧ size ≤ n + 3) : putN size (binos n) = (2 ^ size + 1) ^ n ∧ PutOk size (binos n) := by
  obtain ⟨d, rfl⟩ : ∃ d, size = n + 1 + d := ⟨size - (n + 1), by omega⟩
  have h1 := put_dec n (by omega) d (by omega)
  have hl : (binos n).length = n + 1 := by simp [binos]
  refine ⟨h1.1, by omega, fun N hN => Nat.lt_trans ((binos_dec n (by omega)).2 N hN) (by decide), fun i => ?_⟩
  by_cases h : i < 12
  · exact h1.2 i h
  · rw [List.drop_eq_nil_of_le (by omega)]
    show 0 < 2 ^ 200
    exact Nat.two_pow_pos _
/-- the row with a minus by turns -/
def alt (n size : Nat) (xs : List Int) (k : Nat) : Int := ((List.range k).map fun (i : Nat) => (if (((n : Int) - (i : Int)).fmod 2) = 0 then xs.getD i 0 else 0 - xs.getD i 0) * 2 ^ (size * i)).sum
theorem alt_dec : ∀ n : Nat, n < 10 → ∀ d, d < 3 → alt n (n + 1 + d) (pascal n) (n + 1) = (((2 ^ (n + 1 + d) - 1) ^ n : Nat) : Int) := by decide +kernel
theorem alt_eq {n size : Nat} (hn : n ≤ 9) (hs : n + 1 ≤ size ∧ size ≤ n + 3) : alt n size (pascal n) (n + 1) = (((2 ^ size - 1) ^ n : Nat) : Int) := by
  obtain ⟨d, rfl⟩ : ∃ d, size = n + 1 + d := ⟨size - (n + 1), by omega⟩
  exact alt_dec n (by omega) d (by omega)
section
variable {prog : Program} {w : World} {A : Around} {E : Value → Shared → Prop} {s : Shared} {env : Env} {h₀ : Heap} {L : Addr} {Q : Flow → Shared → Prop} {body : List Stmt}
theorem enum_news {α : Type} {K : ItemKind α} {as : List α} {l : Addr} {vs : List Value} {m : Str → Option Value} {news : Ledger} {Q : Value → Shared → Prop} (hh : A.handled = none) (hls : s.heap.IsList l vs.toArray) (hlL : l ≠ L) (hoff : ∀ q ∈ news, q.1 ≠ l) (hi : AreOf K vs as)
    (F : Fr h₀ L s.heap m) (N : News h₀ L s.heap news)
    (h : ∀ h' e, Fr h₀ L h' m → News h₀ L h' news → PairSrcL prog w A E h₀ L K as (.ref e) { s with heap := h' } m news → Q (.ref e) { s with heap := h' }) :
    wpAny (model prog w) A (call (.type "enumerate") [.ref l]) Q E s := by
  obtain ⟨ol, hol, _⟩ := id hls
  have hl2 : l < s.heap.objs.size := Heap.lt_size hol
  have hLs : L < s.heap.objs.size := F.ns.lt
  have hab : h₀.objs.size ≤ L := F.above
  refine call_enumerate_list hls fun h' he hit hsz hk => ?_
  have F' : Fr h₀ L h' m := ⟨F.ns.keeps hk, fun b o e => hk b o (F.keep b o e), F.above⟩
  have N' : News h₀ L h' news := fun p hp => ⟨hk _ _ (N p hp).1, (N p hp).2⟩
  refine h h' _ F' N' fun env hL => ?_
  subst hL
  refine enumSrc (Draws.list (A := A.in1) hh s.heap.objs.size l (Nat.ne_of_lt hl2) vs.toArray) he ⟨hit, hls.at fun o e => hk l o e⟩ (Nat.succ_ne_self _) ?_ (by simp) ?_
    (Heap.get?_none_of_le (Nat.le_trans hab (Nat.le_of_lt (Nat.lt_succ_of_lt hLs)))) (Heap.get?_none_of_le (Nat.le_trans hab (Nat.le_of_lt hLs))) ?_ (by simp [hi.length]) (fun i x hx => hi.get i x (by simpa using hx)) F' N'
  · intro hm
    rcases List.mem_cons.mp hm with e | hm
    · exact Nat.succ_ne_self _ e
    · exact Nat.ne_of_gt (Nat.lt_succ_of_lt hl2) (List.mem_singleton.mp hm)
  · intro hm
    rcases List.mem_cons.mp hm with e | hm
    · exact Nat.ne_of_lt (Nat.lt_succ_of_lt hLs) e
    · rcases List.mem_cons.mp hm with e | hm
      · exact Nat.ne_of_lt hLs e
      · exact hlL (List.mem_singleton.mp hm).symm
  · intro b hb q hq e
    have hq1 : q.1 < s.heap.objs.size := Heap.lt_size (N q hq).1
    rcases List.mem_cons.mp hb with e1 | hb
    · exact Nat.ne_of_gt (Nat.lt_succ_of_lt hq1) (e1.symm.trans e)
    · rcases List.mem_cons.mp hb with e1 | hb
      · exact Nat.ne_of_gt hq1 (e1.symm.trans e)
      · exact hoff q hq (e.symm.trans (List.mem_singleton.mp hb))
theorem l_enumN {σ : Type} {as : List Int} {l : Addr} {vs : List Value} {xi xc : Str} {m₀ : Str → Option Value} {news₀ : Ledger} (Led : σ → Ledger) (ps : σ → List Nm) (P : Nat → σ → Prop) (c₀ : σ)
    (hh : A.handled = none) (hl : s.heap.IsList l vs.toArray) (hlL : l ≠ env.locals) (hoff : ∀ q ∈ Led c₀, q.1 ≠ l) (hi : IntsAre vs as)
    (F : Fr h₀ env.locals s.heap m₀) (N : News h₀ env.locals s.heap news₀) (hsub : ∀ p ∈ Led c₀, p ∈ news₀) (hadr : ∀ c, (Led c).map (·.1) = (Led c₀).map (·.1)) (hk : Knows m₀ (ps c₀)) (hp : P 0 c₀)
    (turn : ∀ (i : Nat) (d : σ) (a : Int) t t' (u : Str → Option Value) ts h tk own, as[i]? = some a → OwnOff own ((Led d).map (·.1)) → P i d →
      Fr h₀ env.locals h (fun y => if y = xc then some (.int a t') else if y = xi then some (.int (i : Nat) t) else KB u (ps d) ts y) → News h₀ env.locals h (Led d ++ own) →
      wpAny (model prog w) A (execs body env) (TPost h₀ env.locals (JS Led ps P (i + 1)) own { s with heap := h, toks := tk } Q) E { s with heap := h, toks := tk })
    (done : ∀ (d : σ) (u : Str → Option Value) ts h tk, P as.length d → Fr h₀ env.locals h (KB u (ps d) ts) → News h₀ env.locals h (Led d) → Q .next { s with heap := h, toks := tk }) :
    wpAny (model prog w) A (call (.type "enumerate") [.ref l]) (fun xv s₁ => wpAny (model prog w) A (pyIter xv) (fun it s₂ => PairAt3 prog w A h₀ env xi xc body Q E it s₂) E s₁) E s := by
  refine enum_news (K := ItemKind.int) (as := as) hh hl hlL hoff (areInts hi) F (kst_newsOf N hsub) fun h' e F' N' S => ?_
  exact l_pair (as := as) Led ps P c₀ rfl S hadr hk hp turn done
end
theorem rows_get {W n m i : Nat} {xs : List Int} (h : ((List.range m).map fun k => limbs W (prodp (binPairs n k)))[i]? = some xs) : xs = limbs W (prodp (binPairs n i)) ∧ i < m := by
  rw [List.getElem?_map] at h
  obtain ⟨j, hj, rfl⟩ := Option.map_eq_some_iff.mp h
  obtain ⟨hl, rfl⟩ := List.getElem?_eq_some_iff.mp hj
  simp at hl ⊢
  exact hl
theorem binos_lt {n i : Nat} (hn : n ≤ 9) (hi : i < n + 1) : prodp (binPairs n i) < 2 ^ 200 :=
  Nat.lt_trans ((binos_dec n (by omega)).2 _ (List.mem_map.mpr ⟨i, List.mem_range.mpr hi, rfl⟩)) (by decide)
theorem binos_eq {n : Nat} (hn : n ≤ 9) : (List.range (n + 1)).map (fun i => ((prodp (binPairs n i) : Nat) : Int)) = pascal n := by
  have h := (binos_dec n (by omega)).1
  rw [binos, List.map_map] at h
  exact h
theorem rows_binos (W n : Nat) : ((List.range (n + 1)).map fun k => limbs W (prodp (binPairs n k))) = (binos n).map (limbs W) := by
  rw [binos, List.map_map]; rfl
theorem pow_b200 {A n : Nat} (hA : A ≤ 5000) (hn : n ≤ 9) : A ^ n < 2 ^ 200 :=
  Nat.lt_of_le_of_lt (Nat.le_trans (Nat.pow_le_pow_left hA n) (Nat.pow_le_pow_right (by decide) hn)) (by decide : 5000 ^ 9 < 2 ^ 200)
theorem two_pow_pred (size : Nat) : (2 : Int) ^ (Int.toNat (size : Int)) - 1 = ((2 ^ size - 1 : Nat) : Int) := by
  rw [Int.toNat_natCast, two_pow_nat, Int.natCast_sub Nat.one_le_two_pow]; rfl
theorem two_pow_succ (size : Nat) : (2 : Int) ^ (Int.toNat (size : Int)) + 1 = ((2 ^ size + 1 : Nat) : Int) := by
  rw [Int.toNat_natCast, two_pow_nat]; rfl
theorem alt_succ {n size i : Nat} {xs : List Int} {a : Int} (h : xs[i]? = some a) : alt n size xs (i + 1) = alt n size xs i + (if (((n : Int) - (i : Int)).fmod 2) = 0 then a else 0 - a) * 2 ^ (size * i) := by
  have e : xs.getD i 0 = a := by rw [List.getD_eq_getElem?_getD, h]; rfl
  unfold alt
  rw [List.range_succ, List.map_append, List.sum_append, List.map_singleton, List.sum_singleton, e]
theorem pascal_bnd : ∀ n : Nat, n < 10 → ∀ a ∈ pascal n, 0 ≤ a ∧ a ≤ 200 := by decide +kernel

open PyProof.Rows.LCg
theorem News.drop3 {h₀ h : Heap} {L : Addr} {a b c : Addr × Obj} {r : List (Addr × Obj)} (N : News h₀ L h (a :: b :: c :: r)) : News h₀ L h (a :: b :: r) := fun q hq => by
  cases hq with
  | head => exact N _ (.head _)
  | tail _ h => cases h with
    | head => exact N _ (.tail _ (.head _))
    | tail _ h => exact N _ (.tail _ (.tail _ (.tail _ h)))
theorem map_take_len {f : Int → Int} {xs : List Int} : (List.map f (List.take 6 xs)).length ≤ 6 := by
  rw [List.length_map, List.length_take]; exact Nat.min_le_left _ _
set_option maxHeartbeats 8000000 in
theorem law_holds : PySem.Challenge.rw_sa0337_01.Holds := Mine.hd (by
  k_go0
  all_goals try k_fold
  rename Top _ _ _ _ _ _ => TT
  rename Frag.In _ _ => XX
  refine' cut_path ?walk ?pf
  case walk =>
    intro key
    (repeat' ((fail_if_success (with_reducible (first | refine s165 ?_ | refine s158 ?_))); (first | (k_unfold; (try dsimp only)) | walk1 | (dsimp only; walk1) | (leave1; walk_say "STEP leave1"; try dsimp only))))
    rename Fr _ _ _ _ => F
    rename News _ _ _ _ => N
    rename IntsAre _ (List.map _ (List.take _ _)) => hz
    have N0 := News.drop3 N
    refine c_sip (dp := _) XX TT F N0 (by decide) ⟨by omega, by omega, by omega⟩ (by decide) hz (by decide) map_take_len ?_
    clear F N N0
    intro h1 tk1 e1 t1 t2 k1 F1 N1
    dsimp only
    (repeat' ((fail_if_success (with_reducible (first | refine s165 ?_ | refine s158 ?_))); (first | (k_unfold; (try dsimp only)) | walk1 | (dsimp only; walk1) | (leave1; walk_say "STEP leave1"; try dsimp only))))
    rename News _ _ _ _ => N
    rename Fr _ _ _ _ => F
    refine c_sip (dp := _) XX TT F N (by decide) ⟨by omega, by omega, by omega⟩ (by decide) hz (by decide) map_take_len ?_
    clear F N
    intro h1 tk1 e1 t1 t2 k1 F1 N1
    dsimp only
    (repeat' ((fail_if_success (with_reducible (first | refine s165 ?_ | refine s158 ?_))); (first | (k_unfold; (try dsimp only)) | walk1 | (dsimp only; walk1) | (leave1; walk_say "STEP leave1"; try dsimp only))))
    rename News _ _ _ _ => N
    rename Fr _ _ _ _ => F
    refine c_sip (dp := _) XX TT F (News.tail1 N) (by decide) ⟨by omega, by omega, by omega⟩ (by decide) hz (by decide) map_take_len ?_
    clear F N
    intro h1 tk1 e1 t1 t2 k1 F1 N1
    dsimp only
    (repeat' ((fail_if_success (with_reducible (first | refine s165 ?_ | refine s158 ?_))); (first | (k_unfold; (try dsimp only)) | walk1 | (dsimp only; walk1) | (leave1; walk_say "STEP leave1"; try dsimp only))))
    rename Fr _ _ _ _ => F
    rename News _ _ _ _ => N
    rename Obj.data _ = Data.cell (some (Value.int (Int.fmod _ 10) _)) => d2
    rename Obj.data _ = Data.cell (some (Value.int (6 + Int.fmod _ 4) _)) => d1
    obtain ⟨n, en, hn⟩ := draw_n d2
    obtain ⟨W, eW, hW⟩ := draw_w d1
    obtain ⟨size, es, hs⟩ := draw_s F n en
    rw [es] at F
    rw [es]
    rw [eW] at d1
    rw [eW]
    rw [en] at d2
    have N1 := News.tail1 (News.tail1 N)
    have ep : (2 : Int) ^ (Int.toNat (size : Int)) + 1 = ((2 ^ size + 1 : Nat) : Int) := by rw [Int.toNat_natCast, two_pow_nat]; rfl
    rw [ep]
    have hp : 2 ^ size ≤ 2 ^ 12 := Nat.pow_le_pow_right (by decide) (by omega)
    refine c_limbs (dp := _) (XX.keeps F.keep) (TT.keeps F.keep) (by decide) ⟨by omega, hW.2⟩ (Nat.lt_of_le_of_lt (Nat.succ_le_succ hp) (by decide)) ?_
    intro h1 tk1 a1 vs1 n1 hst1 hfr1 hg1 hI1
    obtain ⟨F2, N2, hne2⟩ := after_call F N1 hst1 hfr1 hg1
    obtain ⟨u, ts, F3⟩ := fr_known' (ps := [iN "size" (size : Int)]) F2 (by (repeat (first | exact Knows.nil | refine Knows.cons' ⟨0, by with_unfolding_all rfl⟩ ?_ | refine Knows.cons' ⟨_, by with_unfolding_all rfl⟩ ?_ | refine Knows.consI (by with_unfolding_all rfl) (by first | omega | (simp; done) | (simp; omega)) ?_)))
    dsimp only
    clear hp ep es eW en F N N1 F2 hst1 hfr1 hg1 hne2
    have P : ∃ ow on tw tn, ow.data = Data.cell (some (.int (W : Int) tw)) ∧ on.data = Data.cell (some (.int (n : Int) tn)) ∧ News _ _ h1 [(a1, ({ cls := .type "list", data := .seq vs1.toArray n1 } : Obj)), (_, on), (_, ow)] := ⟨_, _, _, _, d1, d2, N2⟩
    have P2 : ∃ u ts, Fr _ _ h1 (KB u [iN "size" (size : Int)] ts) := ⟨u, ts, F3⟩
    clear d1 d2 N2 F3 u ts
    revert W n size h1 tk1 a1 vs1 n1
    exact key.get
  case pf =>
    w_top off
    intros
    rename_i n hn W hW size hs h1 tk1 a1 vs1 n1 hI1 P P2
    rename Shared => s1
    rename Top _ _ _ _ _ _ => TT
    rename Frag.In _ _ => XX
    obtain ⟨ow, on, tw, tn, d1, d2, N⟩ := P
    obtain ⟨u, ts, F⟩ := P2
    replace F := re_fr XX rfl F
    replace N := re_news XX rfl N
    try dsimp only
    (repeat' ((fail_if_success (with_reducible (first | refine sFor ?_ | refine sWhile ?_ | refine sIter ?_ | refine sEnum ?_ | refine sZip ?_ | refine sCall ?_ | refine sComp ?_ | refine sAComp ?_ | refine sCSrc ?_))); (first | (k_unfold; (try dsimp only)) | walk1 | (dsimp only; walk1) | (leave1; walk_say "STEP leave1"; try dsimp only))))
    rename Fr _ _ _ _ => F
    rename News _ _ _ _ => N
    refine c_pascal (XX.keeps F.keep) (TT.keeps F.keep) (by decide) (by omega) ?_
    intro h2 tk2 ap vp np hst hfr hg hIp
    obtain ⟨F1, N1, hneP⟩ := after_call F N hst hfr hg
    clear F N hst hfr hg
    try dsimp only
    (repeat' ((fail_if_success (with_reducible (first | refine sFor ?_ | refine sWhile ?_ | refine sIter ?_ | refine sEnum ?_ | refine sZip ?_ | refine sCall ?_ | refine sComp ?_ | refine sAComp ?_ | refine sCSrc ?_))); (first | (k_unfold; (try dsimp only)) | walk1 | (dsimp only; walk1) | (leave1; walk_say "STEP leave1"; try dsimp only))))
    rename Fr _ _ _ _ => F
    rename News _ _ _ _ => N
    have hp12 : 2 ^ size ≤ 2 ^ 12 := Nat.pow_le_pow_right (by decide) (by omega)
    have hp5 : Hid (2 ^ size + 1 ≤ 5000) := ⟨Nat.le_trans (Nat.succ_le_succ hp12) (by decide)⟩
    clear hp12
    refine c_power (A := 2 ^ size + 1) (XX.keeps F.keep) (TT.keeps F.keep) (by decide) ⟨by omega, hW.2⟩ (ints_of N (by k_mem) hI1) hp5.get hn ?_
    intro h3 tk3 af vf nf hst hfr hg hIf
    obtain ⟨F1, N1, hne⟩ := after_call F N hst hfr hg
    clear F N hst hfr hg
    try dsimp only
    (repeat' ((fail_if_success (with_reducible (first | refine sFor ?_ | refine sWhile ?_ | refine sIter ?_ | refine sEnum ?_ | refine sZip ?_ | refine sCall ?_ | refine sComp ?_ | refine sAComp ?_ | refine sCSrc ?_))); (first | (k_unfold; (try dsimp only)) | walk1 | (dsimp only; walk1) | (leave1; walk_say "STEP leave1"; try dsimp only))))
    rename Fr _ _ _ _ => F
    rename News _ _ _ _ => N
    have hA300 : Hid ((2 ^ size + 1) ^ n < 2 ^ 300) := ⟨pow_bound hp5.get (Nat.le_trans hn (by decide))⟩
    refine ListComp_U F (by with_unfolding_all rfl) (by decide) (by rfl) (by decide) (by rfl) ?_
    (repeat' ((fail_if_success (with_reducible (first | refine sFor ?_ | refine sWhile ?_ | refine sIter ?_ | refine sEnum ?_ | refine sZip ?_ | refine sCall ?_ | refine sComp ?_ | refine sAComp ?_ | refine sCSrc ?_))); (first | (k_unfold; (try dsimp only)) | walk1 | (dsimp only; walk1) | (leave1; walk_say "STEP leave1"; try dsimp only))))
    rename Fr _ _ _ _ => F
    rename News _ _ _ _ => N
    refine c_pieces (A := (2 ^ size + 1) ^ n) (n := n + 1) (XX.keeps F.keep) (TT.keeps F.keep) (by decide) ⟨by omega, hW.2⟩ (ints_of N (by k_mem) hIf) hA300.get (by omega) (by omega) ?_
    intro h4 tk4 al vl nl rest hst hm hB
    obtain ⟨F1, N1, hne1⟩ := after_rows F N hst hm
    clear F N hst hm
    refine CompSrc.ledger rfl F1 N1 (by k_mem) (both_size hB (by rw [pieces_len]; omega)) fun g => ?_
    have hBl : vl.toArray.size = n + 1 := by rw [List.size_toArray, hB.length, pieces_len]
    refine comp_quiet (fun i y => ∃ t, y = Value.int (((2 ^ size + 1) ^ n / 2 ^ (size * i) % 2 ^ size : Nat) : Int) t) (.inr ⟨_, List.Mem.head _, rfl, _, rfl⟩) ?_ ?_
    · intro i v C oC m₂ h tk E' hi hv hC hx F N
      obtain ⟨xs, hxs, b, ws, mm, rfl, hmem, hIr⟩ := hB.get i v (by simpa using hv)
      have hxe := pieces_get hxs
      subst hxe
      clear F1 N1
      try dsimp only
      iterate 7 walk1
      refine kcf_cell N (by rfl) (.tail _ (List.mem_append.mpr (.inr (by k_mem)))) d1 ?_
      (repeat' ((fail_if_success (with_reducible (first | refine sFor ?_ | refine sWhile ?_ | refine sIter ?_ | refine sEnum ?_ | refine sZip ?_ | refine sCall ?_ | refine sComp ?_ | refine sAComp ?_ | refine sCSrc ?_))); (first | (k_unfold; (try dsimp only)) | walk1 | (dsimp only; walk1) | (leave1; walk_say "STEP leave1"; try dsimp only))))
      rename Fr _ _ _ _ => F
      rename News _ _ _ _ => N
      refine c_number (A := (2 ^ size + 1) ^ n / 2 ^ (size * i) % 2 ^ size) (XX.keeps F.keep) (TT.keeps F.keep) (by decide) ⟨by omega, hW.2⟩ (ints_of N (.tail _ (List.mem_append.mpr (.inl (.tail _ hmem)))) hIr) (Nat.lt_of_lt_of_le (Nat.mod_lt _ (Nat.two_pow_pos _)) (Nat.pow_le_pow_right (by decide) (by omega : size ≤ 200))) ?_
      intro h9 tk9 t9 hst9
      exact ⟨⟨t9, rfl⟩, _, _, rfl, hst9⟩
    · intro ys hyl hG
      have hI := ints_by (fun i => (((2 ^ size + 1) ^ n / 2 ^ (size * i) % 2 ^ size : Nat) : Int)) (hyl.trans hBl) hG
      rw [pieces_eq hn hs] at hI
      clear F1 N1
      intro D h5 tk5 F N o1
      replace N := kst_newsOf (l' := [(D, lst ys), (af, ({ cls := .type "list", data := .seq (List.toArray vf) nf } : Obj)), (ap, ({ cls := .type "list", data := .seq (List.toArray vp) np } : Obj)), (a1, ({ cls := .type "list", data := .seq (List.toArray vs1) n1 } : Obj)), (_, on), (_, ow)]) N (fun q hq => by
        rcases List.mem_cons.mp hq with rfl | hq
        · exact .head _
        · refine .tail _ (List.mem_append.mpr (.inr ?_))
          rcases List.mem_cons.mp hq with rfl | hq
          · exact .head _
          · exact .tail _ (.tail _ hq))
      clear o1 hne1 hne hB hBl rest
      try dsimp only
      (repeat' ((fail_if_success (with_reducible (first | refine sFor ?_ | refine sWhile ?_ | refine sIter ?_ | refine sEnum ?_ | refine sZip ?_ | refine sCall ?_ | refine sComp ?_ | refine sAComp ?_ | refine sCSrc ?_))); (first | (k_unfold; (try dsimp only)) | walk1 | (dsimp only; walk1) | (leave1; walk_say "STEP leave1"; try dsimp only))))
      rename Fr _ _ _ _ => F
      rename News _ _ _ _ => N
      replace N := News.tail1 N
      try clear hI hyl hG ys
      refine Assign_ListComp_U F rfl (by with_unfolding_all rfl) (by with_unfolding_all rfl) (by decide) (by rfl) (by decide) (by rfl) (by rfl) (by rfl) ?_
      (repeat' ((fail_if_success (with_reducible (first | refine sFor ?_ | refine sWhile ?_ | refine sIter ?_ | refine sEnum ?_ | refine sZip ?_ | refine sCall ?_ | refine sComp ?_ | refine sAComp ?_ | refine sCSrc ?_))); (first | (k_unfold; (try dsimp only)) | walk1 | (dsimp only; walk1) | (leave1; walk_say "STEP leave1"; try dsimp only))))
      rename IsRange _ _ _ _ _ _ _ _ => hR
      rename Fr _ _ _ _ => F
      rename News _ _ _ _ => N
      refine CompSrc.range rfl F N hR (small_one (by decide) (by decide) (by omega) (by omega)) ((rangeSize_nat _ _).trans (by omega : _ = ((n + 1 : Nat) : Int))) (Nat.le_trans (by omega : n + 1 ≤ 20) (by decide +kernel)) fun g => ?_
      refine comp_inv (n := n + 1) (fun i ys nw => ∃ rest, nw = rest ++ [(af, ({ cls := .type "list", data := .seq (List.toArray vf) nf } : Obj)), (ap, ({ cls := .type "list", data := .seq (List.toArray vp) np } : Obj)), (a1, ({ cls := .type "list", data := .seq (List.toArray vs1) n1 } : Obj)), (_, on), (_, ow)] ∧ Both (RowIn rest) ys ((List.range i).map fun k => limbs W (prodp (binPairs n k)))) ?_ ?_ (n + 1) 0 [] _ (by omega) ⟨[], rfl, .nil⟩
      · rintro i v I oI C oC D m₂ h tk E' ys nw hi ⟨t, rfl⟩ ⟨rest, rfl, hB⟩ hC hx F N o3 hne
        have e0 : (0 : Int) + (i : Int) = (i : Int) := by omega
        rw [e0] at hx
        try dsimp only
        iterate 5 walk1
        refine kcf_cell N (by rfl) (.tail _ (.tail _ (.tail _ (List.mem_append.mpr (.inr (by k_mem)))))) d2 ?_
        iterate 3 walk1
        refine kcf_cell N (by rfl) (.tail _ (.tail _ (.tail _ (List.mem_append.mpr (.inr (by k_mem)))))) d1 ?_
        (repeat' ((fail_if_success (with_reducible (first | refine sFor ?_ | refine sWhile ?_ | refine sIter ?_ | refine sEnum ?_ | refine sZip ?_ | refine sCall ?_ | refine sComp ?_ | refine sAComp ?_ | refine sCSrc ?_))); (first | (k_unfold; (try dsimp only)) | walk1 | (dsimp only; walk1) | (leave1; walk_say "STEP leave1"; try dsimp only))))
        rename Fr _ _ _ _ => F
        refine c_binomial (n := n) (k := i) (XX.keeps F.keep) (TT.keeps F.keep) (by decide) ⟨by omega, hW.2⟩ hn (by omega) ?_
        intro h7 tk7 b7 vs7 n7 hst hfr hg hI7
        rw [if_neg (by omega)] at hI7
        obtain ⟨F7, N7, hne7⟩ := after_call F N hst hfr hg
        refine ⟨_, _, (b7, ({ cls := .type "list", data := .seq (List.toArray vs7) n7 } : Obj)) :: (rest ++ _), rfl, F7, kst_newsOf N7 ?_, ⟨⟨fun e => hne7 _ (.head _) e.symm, fun e => hne7 _ (.tail _ (.head _)) e.symm, fun e => hne7 _ (.tail _ (.tail _ (.head _))) e.symm⟩, o3⟩, trivial, _ :: rest, rfl, ?_⟩
        · intro q hq
          rcases List.mem_cons.mp hq with rfl | hq
          · exact .tail _ (.head _)
          · rcases List.mem_cons.mp hq with rfl | hq
            · exact .tail _ (.tail _ (.head _))
            · rcases List.mem_cons.mp hq with rfl | hq
              · exact .tail _ (.tail _ (.tail _ (.head _)))
              · rcases List.mem_cons.mp hq with rfl | hq
                · exact .head _
                · exact .tail _ (.tail _ (.tail _ (.tail _ hq)))
        · rw [List.range_succ, List.map_append]
          exact Both.snoc ⟨b7, vs7, n7, rfl, .head _, hI7⟩ (hB.imp fun v xs hr => hr.mono fun q hq => .tail _ hq)
      · rintro ys nw ⟨rest, rfl, hB⟩
        intro D h6 tk6 F N o1
        try dsimp only
        (repeat' ((fail_if_success (with_reducible (first | refine sFor ?_ | refine sWhile ?_ | refine sIter ?_ | refine sEnum ?_ | refine sZip ?_ | refine sCall ?_ | refine sComp ?_ | refine sAComp ?_ | refine sCSrc ?_))); (first | (k_unfold; (try dsimp only)) | walk1 | (dsimp only; walk1) | (leave1; walk_say "STEP leave1"; try dsimp only))))
        rename Fr _ _ _ _ => F
        rename News _ _ _ _ => N
        refine ListComp_U F (by with_unfolding_all rfl) (by decide) (by rfl) (by decide) (by rfl) ?_
        (repeat' ((fail_if_success (with_reducible (first | refine sFor ?_ | refine sWhile ?_ | refine sIter ?_ | refine sEnum ?_ | refine sZip ?_ | refine sCall ?_ | refine sComp ?_ | refine sAComp ?_ | refine sCSrc ?_))); (first | (k_unfold; (try dsimp only)) | walk1 | (dsimp only; walk1) | (leave1; walk_say "STEP leave1"; try dsimp only))))
        rename Fr _ _ _ _ => F
        have hyl : ys.length = n + 1 := hB.length.trans (by simp)
        refine CompSrc.ledger rfl F N (.head _) (both_size hB (by simp; omega)) fun g => ?_
        refine comp_quiet (fun i y => ∃ t, y = Value.int ((prodp (binPairs n i) : Nat) : Int) t) (.inr ⟨_, List.Mem.head _, rfl, _, rfl⟩) ?_ ?_
        · intro i v C oC m₂ h tk E' hi hv hC hx F N
          obtain ⟨xs, hxs, b, ws, mm, rfl, hmem, hIr⟩ := hB.get i v (by simpa using hv)
          obtain ⟨hxe, hin⟩ := rows_get hxs
          subst hxe
          try dsimp only
          iterate 7 walk1
          refine kcf_cell N (by rfl) (.tail _ (.tail _ (List.mem_append.mpr (.inr (by k_mem))))) d1 ?_
          (repeat' ((fail_if_success (with_reducible (first | refine sFor ?_ | refine sWhile ?_ | refine sIter ?_ | refine sEnum ?_ | refine sZip ?_ | refine sCall ?_ | refine sComp ?_ | refine sAComp ?_ | refine sCSrc ?_))); (first | (k_unfold; (try dsimp only)) | walk1 | (dsimp only; walk1) | (leave1; walk_say "STEP leave1"; try dsimp only))))
          rename Fr _ _ _ _ => F
          refine c_number (A := prodp (binPairs n i)) (XX.keeps F.keep) (TT.keeps F.keep) (by decide) ⟨by omega, hW.2⟩ (ints_of N (.tail _ (.tail _ (List.mem_append.mpr (.inl hmem)))) hIr) (binos_lt hn hin) ?_
          intro h9 tk9 t9 hst9
          exact ⟨⟨t9, rfl⟩, _, _, rfl, hst9⟩
        · intro zs hzl hG
          have hI := ints_by (fun i => ((prodp (binPairs n i) : Nat) : Int)) (hzl.trans (by rw [List.size_toArray, hyl])) hG
          rw [binos_eq hn] at hI
          intro D2 h8 tk8 F N o2
          replace N := kst_newsOf (l' := (D2, lst zs) :: (D, lst ys) :: (af, ({ cls := .type "list", data := .seq (List.toArray vf) nf } : Obj)) :: (ap, ({ cls := .type "list", data := .seq (List.toArray vp) np } : Obj)) :: (a1, ({ cls := .type "list", data := .seq (List.toArray vs1) n1 } : Obj)) :: (_, on) :: (_, ow) :: rest) N (fun q hq => by
            rcases List.mem_cons.mp hq with rfl | hq
            · exact .head _
            · rcases List.mem_cons.mp hq with rfl | hq
              · exact .tail _ (.head _)
              · refine .tail _ (.tail _ (List.mem_append.mpr ?_))
                rcases List.mem_cons.mp hq with rfl | hq
                · exact .inr (by k_mem)
                · rcases List.mem_cons.mp hq with rfl | hq
                  · exact .inr (by k_mem)
                  · rcases List.mem_cons.mp hq with rfl | hq
                    · exact .inr (by k_mem)
                    · rcases List.mem_cons.mp hq with rfl | hq
                      · exact .inr (by k_mem)
                      · rcases List.mem_cons.mp hq with rfl | hq
                        · exact .inr (by k_mem)
                        · exact .inl hq)
          clear o1 o2
          try dsimp only
          (repeat' ((fail_if_success (with_reducible (first | refine sFor ?_ | refine sWhile ?_ | refine sIter ?_ | refine sEnum ?_ | refine sZip ?_ | refine sCall ?_ | refine sComp ?_ | refine sAComp ?_ | refine sCSrc ?_))); (first | (k_unfold; (try dsimp only)) | walk1 | (dsimp only; walk1) | (leave1; walk_say "STEP leave1"; try dsimp only))))
          rename Fr _ _ _ _ => F
          rename News _ _ _ _ => N
          have hpo := put_ok hn hs
          refine c_put (vs := ys) (Ns := binos n) (XX.keeps F.keep) (TT.keeps F.keep) (by decide) ⟨by omega, hW.2⟩ ⟨_, (N _ (.tail _ (.head _))).1, rfl, _, rfl⟩ ?_ (by omega) hpo.2 ?_
          · rw [← rows_binos]
            refine hB.imp ?_
            rintro v xs ⟨b, ws, mm, rfl, hmem, hIr⟩
            exact ⟨b, rfl, ints_of N (.tail _ (.tail _ (.tail _ (.tail _ (.tail _ (.tail _ (.tail _ hmem))))))) hIr⟩
          rw [hpo.1]
          intro h9 tk9 aq vq nq hst hfr hg hIq
          obtain ⟨F1, N1, hne⟩ := after_call F N hst hfr hg
          replace N1 := kst_newsOf (l' := [(aq, ({ cls := .type "list", data := .seq (List.toArray vq) nq } : Obj)), (af, ({ cls := .type "list", data := .seq (List.toArray vf) nf } : Obj)), (ap, ({ cls := .type "list", data := .seq (List.toArray vp) np } : Obj)), (a1, ({ cls := .type "list", data := .seq (List.toArray vs1) n1 } : Obj)), (_, on), (_, ow)]) N1 (fun q hq => by
            rcases List.mem_cons.mp hq with rfl | hq
            · exact .head _
            · rcases List.mem_cons.mp hq with rfl | hq
              · k_mem
              · rcases List.mem_cons.mp hq with rfl | hq
                · k_mem
                · rcases List.mem_cons.mp hq with rfl | hq
                  · k_mem
                  · rcases List.mem_cons.mp hq with rfl | hq
                    · k_mem
                    · rw [List.mem_singleton.mp hq]
                      k_mem)
          clear F N hst hfr hg hne hpo
          try dsimp only
          (repeat' ((fail_if_success (with_reducible (first | refine sFor ?_ | refine sWhile ?_ | refine sIter ?_ | refine sEnum ?_ | refine sZip ?_ | refine sCall ?_ | refine sComp ?_ | refine sAComp ?_ | refine sCSrc ?_))); (first | (k_unfold; (try dsimp only)) | walk1 | (dsimp only; walk1) | (leave1; walk_say "STEP leave1"; try dsimp only))))
          rw [two_pow_pred]
          have hp6 : Hid (2 ^ size - 1 ≤ 5000) := ⟨Nat.le_trans (Nat.le_succ_of_le (Nat.sub_le _ _)) hp5.get⟩
          rename Fr _ _ _ _ => F
          rename News _ _ _ _ => N
          refine c_limbs (n := 2 ^ size - 1) (XX.keeps F.keep) (TT.keeps F.keep) (by decide) ⟨by omega, hW.2⟩ (Nat.lt_of_le_of_lt hp6.get (by decide)) ?_
          intro h11 tk11 a11x vs11x n11x hst hfr hg hI11
          obtain ⟨F1, N1, hne⟩ := after_call F N hst hfr hg
          clear F N hst hfr hg hne
          try dsimp only
          (repeat' ((fail_if_success (with_reducible (first | refine sFor ?_ | refine sWhile ?_ | refine sIter ?_ | refine sEnum ?_ | refine sZip ?_ | refine sCall ?_ | refine sComp ?_ | refine sAComp ?_ | refine sCSrc ?_))); (first | (k_unfold; (try dsimp only)) | walk1 | (dsimp only; walk1) | (leave1; walk_say "STEP leave1"; try dsimp only))))
          rename Fr _ _ _ _ => F
          rename News _ _ _ _ => N
          refine c_power (A := 2 ^ size - 1) (XX.keeps F.keep) (TT.keeps F.keep) (by decide) ⟨by omega, hW.2⟩ (ints_of N (by k_mem) hI11) hp6.get hn ?_
          intro h12 tk12 a12x vs12x n12x hst hfr hg hI12
          obtain ⟨F1, N1, hne⟩ := after_call F N hst hfr hg
          clear F N hst hfr hg hne
          try dsimp only
          (repeat' ((fail_if_success (with_reducible (first | refine sFor ?_ | refine sWhile ?_ | refine sIter ?_ | refine sEnum ?_ | refine sZip ?_ | refine sCall ?_ | refine sComp ?_ | refine sAComp ?_ | refine sCSrc ?_))); (first | (k_unfold; (try dsimp only)) | walk1 | (dsimp only; walk1) | (leave1; walk_say "STEP leave1"; try dsimp only))))
          rename Fr _ _ _ _ => F
          rename News _ _ _ _ => N
          refine c_number (A := (2 ^ size - 1) ^ n) (XX.keeps F.keep) (TT.keeps F.keep) (by decide) ⟨by omega, hW.2⟩ (ints_of N (by k_mem) hI12) (pow_b200 hp6.get hn) ?_
          intro h13 tk13 t13 hst
          have F1 := F.keeps hst
          have N1 := N.grown hst
          clear F N hst
          try dsimp only
          (repeat' ((fail_if_success (with_reducible (first | refine sFor ?_ | refine sWhile ?_ | refine sIter ?_ | refine sEnum ?_ | refine sZip ?_ | refine sCall ?_ | refine sComp ?_ | refine sAComp ?_ | refine sCSrc ?_))); (first | (k_unfold; (try dsimp only)) | walk1 | (dsimp only; walk1) | (leave1; walk_say "STEP leave1"; try dsimp only))))
          refine For_pair3 s1.heap rfl rfl rfl rfl ?_ (by intro _; rfl) (by passes_own)
          (repeat' ((fail_if_success (with_reducible (first | refine sFor ?_ | refine sWhile ?_ | refine sIter ?_ | refine sEnum ?_ | refine sZip ?_ | refine sCall ?_ | refine sComp ?_ | refine sAComp ?_ | refine sCSrc ?_))); (first | (k_unfold; (try dsimp only)) | walk1 | (dsimp only; walk1) | (leave1; walk_say "STEP leave1"; try dsimp only))))
          rename Fr _ _ _ _ => F
          rename News _ _ _ _ => N
          refine l_enumN (σ := Int) (l := ap) (vs := vp) (as := pascal n) (fun _ => [(a1, ({ cls := .type "list", data := .seq (List.toArray vs1) n1 } : Obj)), (_, on), (_, ow)]) (fun d => [iN "size" (size : Int), iN "lesser" (((2 ^ size - 1) ^ n : Nat) : Int), iN "turned" d, rN "base" a1]) (fun i d => d = alt n size (pascal n) i) 0 rfl ⟨_, (N (ap, _) (by k_mem)).1, rfl, _, rfl⟩ (N (ap, _) (by k_mem)).2.1 hneP hIp F N ?_ (fun _ => rfl) (by (repeat (first | exact Knows.nil | refine Knows.cons' ⟨0, by with_unfolding_all rfl⟩ ?_ | refine Knows.cons' ⟨_, by with_unfolding_all rfl⟩ ?_ | refine Knows.consI (by with_unfolding_all rfl) (by first | omega | (simp; done) | (simp; omega)) ?_))) (by rfl) ?_ ?_
          · intro q hq
            rcases List.mem_cons.mp hq with rfl | hq
            · k_mem
            · rcases List.mem_cons.mp hq with rfl | hq
              · k_mem
              · rw [List.mem_singleton.mp hq]
                k_mem
          · rintro i d a t t' u2 ts2 h tk own hai hoff hd F2 N2
            clear F N
            dsimp only at F2 N2 hoff hd ⊢
            simp only [List.cons_append, List.nil_append] at N2
            have hil : i < n + 1 := by
              have := (List.getElem?_eq_some_iff.mp hai).1
              rw [pascal_len] at this
              exact this
            have hex : (size : Int) * (i : Int) = ((size * i : Nat) : Int) := by simp
            have hex2 : size * i ≤ 12 * 9 := Nat.mul_le_mul (by omega) (by omega)
            have hex3 : 0 ≤ (size : Int) * (i : Int) ∧ (size : Int) * (i : Int) ≤ 200 := by rw [hex]; omega
            clear hex2
            have hab := pascal_bnd n (by omega) a (List.mem_of_getElem? hai)
            have hsucc := alt_succ (n := n) (size := size) hai
            rw [← hd] at hsucc
            clear hd
            (repeat' ((fail_if_success (with_reducible (first | refine sFor ?_ | refine sWhile ?_ | refine sIter ?_ | refine sEnum ?_ | refine sZip ?_ | refine sCall ?_ | refine sComp ?_ | refine sAComp ?_ | refine sCSrc ?_))); (first | (k_unfold; (try dsimp only)) | walk1 | (dsimp only; walk1) | (leave1; walk_say "STEP leave1"; try dsimp only))))
            all_goals rename Fr _ _ _ _ => F
            all_goals rename News _ _ _ _ => N
            · have h0 : ((n : Int) - (i : Int)).fmod 2 = 0 := by assumption
              rw [if_pos h0] at hsucc
              refine t_end (σ := Int) (d + a * 2 ^ ((size : Int) * (i : Int)).toNat) F N ?_ ?_ ?_ (by (repeat (first | exact Knows.nil | refine Knows.cons' ⟨0, by with_unfolding_all rfl⟩ ?_ | refine Knows.cons' ⟨_, by with_unfolding_all rfl⟩ ?_ | refine Knows.consI (by with_unfolding_all rfl) (by first | omega | (simp; done) | (simp; omega)) ?_))) ?_
              · intro q hq
                show q ∈ [_, _, _] ++ own
                exact List.mem_append.mpr (.inl hq)
              · intro q hq
                show q ∈ [_, _, _] ++ own
                exact List.mem_append.mpr (.inr hq)
              · intro q hq q' hq' e
                exact hoff q' hq' q.1 (List.mem_map.mpr ⟨q, hq, rfl⟩) e.symm
              · rw [hsucc, hex, Int.toNat_natCast]
            · have h0 : ¬ ((n : Int) - (i : Int)).fmod 2 = 0 := by assumption
              rw [if_neg h0] at hsucc
              refine t_end (σ := Int) (d + (0 - a) * 2 ^ ((size : Int) * (i : Int)).toNat) F N ?_ ?_ ?_ (by (repeat (first | exact Knows.nil | refine Knows.cons' ⟨0, by with_unfolding_all rfl⟩ ?_ | refine Knows.cons' ⟨_, by with_unfolding_all rfl⟩ ?_ | refine Knows.consI (by with_unfolding_all rfl) (by first | omega | (simp; done) | (simp; omega)) ?_))) ?_
              · intro q hq
                show q ∈ [_, _, _] ++ own
                exact List.mem_append.mpr (.inl hq)
              · intro q hq
                show q ∈ [_, _, _] ++ own
                exact List.mem_append.mpr (.inr hq)
              · intro q hq q' hq' e
                exact hoff q' hq' q.1 (List.mem_map.mpr ⟨q, hq, rfl⟩) e.symm
              · rw [hsucc, hex, Int.toNat_natCast]
          · rintro d u2 ts2 h tk hd F2 N2
            clear F N
            dsimp only at F2 N2 hd ⊢
            rw [pascal_len, alt_eq hn hs] at hd
            subst hd
            (repeat' ((fail_if_success (with_reducible (first | refine sFor ?_ | refine sWhile ?_ | refine sIter ?_ | refine sEnum ?_ | refine sZip ?_ | refine sCall ?_ | refine sComp ?_ | refine sAComp ?_ | refine sCSrc ?_))); (first | (k_unfold; (try dsimp only)) | walk1 | (dsimp only; walk1) | (leave1; walk_say "STEP leave1"; try dsimp only))))
            · rw [two_pow_succ]
              rename Fr _ _ _ _ => F
              rename News _ _ _ _ => N
              refine c_limbs (n := 2 ^ size + 1) (XX.keeps F.keep) (TT.keeps F.keep) (by decide) ⟨by omega, hW.2⟩ (Nat.lt_of_le_of_lt hp5.get (by decide)) ?_
              intro h21 tk21 a21 vs21 n21 hst hfr hg hI21
              obtain ⟨F1, N1, hne⟩ := after_call F N hst hfr hg
              clear F N hst hfr hg hne
              try dsimp only
              (repeat' ((fail_if_success (with_reducible (first | refine sFor ?_ | refine sWhile ?_ | refine sIter ?_ | refine sEnum ?_ | refine sZip ?_ | refine sCall ?_ | refine sComp ?_ | refine sAComp ?_ | refine sCSrc ?_))); (first | (k_unfold; (try dsimp only)) | walk1 | (dsimp only; walk1) | (leave1; walk_say "STEP leave1"; try dsimp only))))
              rename Fr _ _ _ _ => F
              rename News _ _ _ _ => N
              refine c_binomial (n := n) (k := n + 1) (XX.keeps F.keep) (TT.keeps F.keep) (by decide) ⟨by omega, hW.2⟩ hn (by omega) ?_
              rw [if_pos (by omega)]
              intro h22 tk22 a22 vs22 n22 hst hfr hg hI22
              obtain ⟨F1, N1, hne⟩ := after_call F N hst hfr hg
              clear F N hst hfr hg hne
              try dsimp only
              (repeat' ((fail_if_success (with_reducible (first | refine sFor ?_ | refine sWhile ?_ | refine sIter ?_ | refine sEnum ?_ | refine sZip ?_ | refine sCall ?_ | refine sComp ?_ | refine sAComp ?_ | refine sCSrc ?_))); (first | (k_unfold; (try dsimp only)) | walk1 | (dsimp only; walk1) | (leave1; walk_say "STEP leave1"; try dsimp only))))
              all_goals (k_end; wrow_close)
            · exact absurd rfl (by assumption)
  )

end Mine

set_option maxRecDepth 100000 in
set_option maxHeartbeats 8000000 in
theorem PySem.Challenge.cw_sa0337_01_holds : PySem.Challenge.rw_sa0337_01.Holds := by
  exact Mine.law_holds
