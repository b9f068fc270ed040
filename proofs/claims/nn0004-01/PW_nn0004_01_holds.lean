import PyProof.Rows.All
import Wide.All
import OpenK.AllK
import Wide.FinOn
import PySem.Challenge.RW_nn0004_01
set_option Elab.async false
section
open PySem PySem.W PyProof.Rows
set_option Elab.async false
namespace Mine
-- the written part of the heap (frag.heap_1), and the head hd by open_z's writing: together smaller than open_k's head
section
local macro_rules | `(tactic| o_head $_) => `(tactic| skip)
theorem frag : PySem.Challenge.rw_nn0004_01.row.Holds → PySem.Challenge.rw_nn0004_01.row.Holds := by
  intro h
  k_head
  exact h
end
section
local macro_rules | `(tactic| k_head) => `(tactic| z_head)
set_option maxRecDepth 100000 in
set_option maxHeartbeats 8000000 in
open_top hd for PySem.Challenge.rw_nn0004_01
end
set_option maxRecDepth 100000 in
theorem bridge : ∀ p : Params, ((frag.heap_1 p).map fun q => some q.2) = ((frag.heap_1 p).map fun q => q.1).map fun a => (hd.heap_182 p).lookup a := by
  intro p
  kernel_rfl
theorem look_bridge {K2 : Frag} {a : Addr} {o : Obj} : ∀ {K1 : Frag}, ((K1.map fun q => some q.2) = (K1.map fun q => q.1).map fun a => K2.lookup a) → K1.lookup a = some o → K2.lookup a = some o
  | [], _, h => by cases h
  | (b, p) :: r, e, h => by
    have e1 : some p = K2.lookup b := (List.cons.inj e).1
    rw [List.lookup_cons] at h
    by_cases q : (a == b) = true
    · rw [q] at h
      have hp : p = o := Option.some.inj h
      have hb : a = b := by simpa using q
      rw [hb, ← e1, hp]
    · have q' : (a == b) = false := by simpa using q
      rw [q'] at h
      exact look_bridge (List.cons.inj e).2 h
theorem in_of_bridge {p : Params} {h : Heap} (X : (hd.heap_182 p).In h) : (frag.heap_1 p).In h := fun a o e => X a o (look_bridge (bridge p) e)
end Mine

end
section
open PySem PySem.W PyProof.Rows PySem.Calls
set_option Elab.async false
set_option maxRecDepth 100000
namespace Mine
theorem freshM0 : True := by
  w_top off
  k_with_none
  exact trivial
abbrev mkA (dp : Nat) (fr : Option (List Env)) (gd : Option (List Code)) (un : Nat) : Around := { handled := none, depth := dp, frames := fr, guards := gd, units := un }
theorem kstB_lookup : ∀ l : List (Str × Value), kstB (fun _ => none) l = fun y => l.lookup y := by
  intro l
  induction l with
  | nil => rfl
  | cons q r ih =>
    funext y
    show (if y = q.1 then some q.2 else kstB (fun _ => none) r y) = _
    rw [ih, List.lookup_cons]
    by_cases h : y = q.1
    · rw [if_pos h]; subst h; simp
    · rw [if_neg h]
      have h' : (y == q.1) = false := by simpa using h
      rw [h']
theorem enter {prog : Program} {w : World} {K : Frag} {p : Program} {loose : List Str} {mean : ExcName → Option Value} {mg mb : Str → Option Value} {A : Around} {s : Shared}
    {name qual : Str} {params : Arguments} {body : List Stmt} {scope : Scope} {dV kV doc pm cdv ct oc : Value} {an od : Option Addr} {osl : Array (Option Value)} {f : Addr} {vals : List Value} (binds : List (Str × Value))
    {Q E : Value → Shared → Prop}
    (X : K.In s.heap) (T : Top p loose mean mg mb s.heap)
    (ho : K.lookup f = some ⟨oc, od, .func (fnOf name qual params body scope dV kV doc pm an cdv ct), osl⟩) (hcd : codeIn K cdv qual = true) (hroom : A.depth < recursionLimit)
    (hbind : BindsTo s (fnOf name qual params body scope dV kV doc pm an cdv ct) ⟨vals, []⟩ binds) (hloc : ∀ y ∈ binds, scope.names.lookup y.1 = some .local)
    (h : ∀ L' h₁ n, Fr s.heap L' h₁ (kstB (fun _ => none) binds.reverse) → News s.heap L' h₁ [] →
      wpAny (model prog w) (A.deeper (envOf qual scope L' f cdv)) (execs body (envOf qual scope L' f cdv))
        (fun fl s' => Q (match fl with | .ret v => v | _ => .none) s') (fun _ _ => False)
        { s with heap := h₁, toks := n })
    (hco : scope.isCoroutine = false) (hgen : scope.isGenerator = false) (hk : scope.kind = .function)
    (hcell : ∀ x ∈ scope.names, x.2 ≠ .cell) : wpAny (model prog w) A (call (.ref f) vals) Q E s := by
  refine wpAny_call (codeAny_call_def (fd := fnOf name qual params body scope dV kV doc pm an cdv ct) (body := body) (binds := binds) hroom (X _ _ ho) rfl T.nolimit (codeRec_of X hcd) rfl hbind hcell hloc (fun h₁ hns hk₁ => ?_) hco hgen hk)
  exact wpAny_mono (h _ h₁ _ ⟨kstB_lookup _ ▸ hns, hk₁, Nat.le_refl _⟩ News.nil) (fun _ _ x => x) (fun _ _ x => x.elim)
theorem news_head {h₀ h : Heap} {L D : Addr} {o : Obj} {news : List (Addr × Obj)} (N : News h₀ L h ((D, o) :: news)) : h.get? D = some o ∧ h₀.get? D = none := ⟨(N _ (.head _)).1, (N _ (.head _)).2.2⟩
theorem isNew {h₀ h : Heap} {L D : Addr} {o : Obj} {news : List (Addr × Obj)} (N : News h₀ L h news) (hm : (D, o) ∈ news) : h.get? D = some o ∧ h₀.get? D = none := ⟨(N _ hm).1, (N _ hm).2.2⟩
theorem ints_snoc {vs : List Value} {xs : List Int} {x : Int} {t : Tok} (h : IntsAre vs xs) : IntsAre (vs ++ [.int x t]) (xs ++ [x]) := by
  induction h with
  | nil => exact .cons _ _ .nil
  | cons n t _ ih => exact .cons n t ih
def AllNe (d : Addr) : List (Addr × Obj) → Prop
  | [] => True
  | p :: r => (@Ne Nat p.1 d) ∧ AllNe d r
theorem allNe_of {d : Addr} : ∀ {l : List (Addr × Obj)}, (∀ p ∈ l, p.1 ≠ d) → AllNe d l
  | [], _ => trivial
  | p :: _, h => ⟨h p (.head _), allNe_of fun q hq => h q (.tail _ hq)⟩
/-- behind a call that kept all and made the list D -/
theorem made {h₀ h h' : Heap} {L D : Addr} {m : Str → Option Value} {o : Obj} {news : List (Addr × Obj)} (F : Fr h₀ L h m) (N : News h₀ L h news) (st : h.StaysIn h') (hf : h.get? D = none) (ho : h'.get? D = some o) :
    Fr h₀ L h' m ∧ News h₀ L h' ((D, o) :: news) ∧ AllNe D news := by
  have hL : L ≠ D := fun e => by
    obtain ⟨oL, _, _, hL, _⟩ := F.ns
    rw [e, hf] at hL; cases hL
  refine ⟨⟨F.ns.keeps st, fun b o e => st b o (F.keep b o e), F.above⟩, fun p hp => ?_, allNe_of fun p hp e => ?_⟩
  · rcases List.mem_cons.mp hp with rfl | hp
    · refine ⟨ho, Ne.symm hL, ?_⟩
      cases q : h₀.get? D with
      | none => rfl
      | some o' => rw [F.keep _ _ q] at hf; cases hf
    · exact ⟨st _ _ (N p hp).1, (N p hp).2⟩
  · rw [← e, (N p hp).1] at hf; cases hf
theorem kept {h₀ h h' : Heap} {L : Addr} {m : Str → Option Value} {news : List (Addr × Obj)} (F : Fr h₀ L h m) (N : News h₀ L h news) (st : h.StaysIn h') : Fr h₀ L h' m ∧ News h₀ L h' news :=
  ⟨⟨F.ns.keeps st, fun b o e => st b o (F.keep b o e), F.above⟩, fun p hp => ⟨st _ _ (N p hp).1, (N p hp).2⟩⟩
/-- the result list of a frame that kept all -/
theorem isList_new {h₀ h : Heap} {L D : Addr} {ws : List Value} {n : Nat} {news : List (Addr × Obj)} (N : News h₀ L h news) (hm : (D, W.listOf ws.toArray n) ∈ news) : h.IsList D ws.toArray ∧ h₀.get? D = none :=
  ⟨⟨_, (N _ hm).1, rfl, n, rfl⟩, (N _ hm).2.2⟩
end Mine

end
section
set_option Elab.async false
namespace Mine
theorem freshP0 : True := by
  w_top off
  k_with_none
  exact trivial
/-! the plain arithmetic of rows: the least limb first, base B -/
def val (B : Int) : List Int → Int
  | [] => 0
  | x :: r => x + B * val B r
def Row (B : Int) (xs : List Int) : Prop := ∀ x ∈ xs, 0 ≤ x ∧ x < B
def Nz (xs : List Int) : Prop := xs.getLast? ≠ some 0
theorem div_lt {B n : Int} (hn : 0 < n) (hB : 2 ≤ B) : n / B < n := by
  refine Int.ediv_lt_of_lt_mul (by lia) ?_
  have := Int.mul_lt_mul_of_pos_left (show (1 : Int) < B by lia) hn
  lia
def rowUp (B : Int) : Nat → Int → List Int
  | 0, _ => []
  | k + 1, n => if 0 < n ∧ 2 ≤ B then n % B :: rowUp B k (n / B) else []
theorem rowUp_zero (B : Int) : ∀ k, rowUp B k 0 = []
  | 0 => rfl
  | _ + 1 => if_neg fun h => absurd h.1 (Int.lt_irrefl 0)
theorem rowUp_more {B : Int} (hB : 2 ≤ B) : ∀ (k j : Nat) (n : Int), 0 ≤ n → n.toNat ≤ k → n.toNat ≤ j → rowUp B k n = rowUp B j n
  | k, j, n, hn, hk, hj => by
    by_cases h0 : n = 0
    · rw [h0, rowUp_zero, rowUp_zero]
    · have h1 := div_lt (show 0 < n by lia) hB
      have h2 := Int.ediv_nonneg hn (show 0 ≤ B by lia)
      match k, j with
      | 0, _ => lia
      | _, 0 => lia
      | k + 1, j + 1 =>
        show (if 0 < n ∧ 2 ≤ B then n % B :: rowUp B k (n / B) else []) = if 0 < n ∧ 2 ≤ B then n % B :: rowUp B j (n / B) else []
        rw [rowUp_more hB k j (n / B) h2 (by lia) (by lia)]
theorem rowOf_ex : ∃ f : Int → Int → List Int, (∀ B, f B 0 = []) ∧ ∀ B n, 2 ≤ B → 0 < n → f B n = n % B :: f B (n / B) := by
  refine ⟨fun B n => rowUp B n.toNat n, fun B => rowUp_zero B _, fun B n hB hn => ?_⟩
  have h1 := div_lt hn hB
  have h2 := Int.ediv_nonneg (Int.le_of_lt hn) (show 0 ≤ B by lia)
  obtain ⟨k, hk⟩ : ∃ k, n.toNat = k + 1 := ⟨n.toNat - 1, by lia⟩
  show rowUp B n.toNat n = n % B :: rowUp B (n / B).toNat (n / B)
  rw [hk]
  show (if 0 < n ∧ 2 ≤ B then n % B :: rowUp B k (n / B) else []) = _
  rw [if_pos ⟨hn, hB⟩, rowUp_more hB k (n / B).toNat (n / B) h2 (by lia) (Nat.le_refl _)]
noncomputable def rowOf : Int → Int → List Int := Classical.choose rowOf_ex
theorem rowOf_zero (B : Int) : rowOf B 0 = [] := (Classical.choose_spec rowOf_ex).1 B
theorem rowOf_pos {B n : Int} (hB : 2 ≤ B) (hn : 0 < n) : rowOf B n = n % B :: rowOf B (n / B) := (Classical.choose_spec rowOf_ex).2 B n hB hn
theorem row_ind {B : Int} (hB : 2 ≤ B) {P : Int → Prop} (h0 : P 0) (hs : ∀ n, 0 < n → P (n / B) → P n) : ∀ n, 0 ≤ n → P n := by
  have all : ∀ k : Nat, ∀ n : Int, 0 ≤ n → n.toNat < k → P n := by
    intro k
    induction k with
    | zero => intro n _ h; lia
    | succ k ih =>
      intro n hn hk
      by_cases h : n = 0
      · rw [h]; exact h0
      · have h1 := div_lt (show 0 < n by lia) hB
        have h2 := Int.ediv_nonneg hn (show 0 ≤ B by lia)
        exact hs n (by lia) (ih _ h2 (by lia))
  exact fun n hn => all _ n hn (Nat.lt_succ_self _)
theorem rowOf_row {B n : Int} (hB : 2 ≤ B) (hn : 0 ≤ n) : Row B (rowOf B n) := by
  refine row_ind hB (P := fun n => Row B (rowOf B n)) ?_ ?_ n hn
  · rw [rowOf_zero]; intro x hx; cases hx
  · intro n hn ih
    rw [rowOf_pos hB hn]
    intro x hx
    rcases List.mem_cons.mp hx with rfl | hx
    · exact ⟨Int.emod_nonneg _ (by lia), Int.emod_lt_of_pos _ (by lia)⟩
    · exact ih x hx
theorem val_rowOf {B n : Int} (hB : 2 ≤ B) (hn : 0 ≤ n) : val B (rowOf B n) = n := by
  refine row_ind hB (P := fun n => val B (rowOf B n) = n) ?_ ?_ n hn
  · rw [rowOf_zero]; rfl
  · intro n hn ih
    rw [rowOf_pos hB hn, val, ih]
    exact Int.emod_add_mul_ediv n B
theorem rowOf_eq_nil {B n : Int} (hB : 2 ≤ B) (hn : 0 ≤ n) (h : rowOf B n = []) : n = 0 := by
  rw [← val_rowOf hB hn, h]; rfl
theorem nz_cons {x : Int} {xs : List Int} (h : xs ≠ []) : Nz (x :: xs) ↔ Nz xs := by
  cases xs with
  | nil => exact absurd rfl h
  | cons y r => unfold Nz; rw [List.getLast?_cons_cons]
theorem nz_nil : Nz [] := by unfold Nz; simp
theorem nz_one {x : Int} : Nz [x] ↔ x ≠ 0 := by unfold Nz; simp
theorem rowOf_nz {B n : Int} (hB : 2 ≤ B) (hn : 0 ≤ n) : Nz (rowOf B n) := by
  refine row_ind hB (P := fun n => Nz (rowOf B n)) ?_ ?_ n hn
  · rw [rowOf_zero]; exact nz_nil
  · intro n hn ih
    rw [rowOf_pos hB hn]
    by_cases e : rowOf B (n / B) = []
    · rw [e, nz_one]
      have h0 := rowOf_eq_nil hB (Int.ediv_nonneg (Int.le_of_lt hn) (by lia)) e
      have := Int.emod_add_mul_ediv n B
      rw [h0] at this
      lia
    · exact (nz_cons e).mpr ih
theorem row_tail {B x : Int} {xs : List Int} (h : Row B (x :: xs)) : Row B xs := fun y hy => h y (List.mem_cons_of_mem _ hy)
theorem row_head {B x : Int} {xs : List Int} (h : Row B (x :: xs)) : 0 ≤ x ∧ x < B := h x (List.mem_cons_self ..)
theorem val_nonneg {B : Int} (hB : 2 ≤ B) : ∀ {xs : List Int}, Row B xs → 0 ≤ val B xs
  | [], _ => Int.le_refl _
  | x :: r, h => by
    have h1 := val_nonneg hB (row_tail h)
    have h2 := row_head h
    have h3 := Int.mul_nonneg (show 0 ≤ B by lia) h1
    show 0 ≤ x + B * val B r
    lia
theorem val_pos {B : Int} (hB : 2 ≤ B) : ∀ {xs : List Int}, Row B xs → Nz xs → xs ≠ [] → 0 < val B xs
  | [x], h, hz, _ => by
    have h2 := row_head h
    have h3 := nz_one.mp hz
    show 0 < x + B * val B []
    simp only [val]
    lia
  | x :: y :: r, h, hz, _ => by
    have h1 := val_pos hB (row_tail h) ((nz_cons (by simp)).mp hz) (by simp)
    have h2 := row_head h
    have h3 := Int.mul_pos (show 0 < B by lia) h1
    show 0 < x + B * val B (y :: r)
    lia
theorem div_row {B x v : Int} (h1 : 0 ≤ x) (h2 : x < B) : (x + B * v) / B = v := by
  rw [Int.add_mul_ediv_left _ _ (by lia), Int.ediv_eq_zero_of_lt h1 h2]; lia
theorem mod_row {B x v : Int} (h1 : 0 ≤ x) (h2 : x < B) : (x + B * v) % B = x := by
  rw [Int.add_mul_emod_self_left, Int.emod_eq_of_lt h1 h2]
theorem rowOf_val {B : Int} (hB : 2 ≤ B) : ∀ {xs : List Int}, Row B xs → Nz xs → rowOf B (val B xs) = xs
  | [], _, _ => rowOf_zero B
  | x :: r, h, hz => by
    have hp := val_pos hB h hz (by simp)
    have h2 := row_head h
    rw [rowOf_pos hB hp]
    show (x + B * val B r) % B :: rowOf B ((x + B * val B r) / B) = _
    rw [div_row h2.1 h2.2, mod_row h2.1 h2.2, rowOf_val hB (row_tail h)]
    cases r with
    | nil => exact nz_nil
    | cons y r => exact (nz_cons (by simp)).mp hz
theorem val_append (B : Int) : ∀ xs ys : List Int, val B (xs ++ ys) = val B xs + B ^ xs.length * val B ys
  | [], ys => by simp [val]
  | x :: r, ys => by
    show x + B * val B (r ++ ys) = x + B * val B r + B ^ (r.length + 1) * val B ys
    rw [val_append B r ys, Int.pow_succ]
    grind
theorem pow_mono {B : Int} (hB : 2 ≤ B) {i j : Nat} (h : i ≤ j) : B ^ i ≤ B ^ j := by
  obtain ⟨k, rfl⟩ := Nat.le.dest h
  rw [Int.pow_add]
  have h1 : 0 < B ^ i := Int.pow_pos (by lia)
  have h2 : 0 < B ^ k := Int.pow_pos (by lia)
  have h3 := Int.mul_le_mul_of_nonneg_left (show 1 ≤ B ^ k by lia) (Int.le_of_lt h1)
  lia
theorem val_lt {B : Int} (hB : 2 ≤ B) : ∀ {xs : List Int}, Row B xs → val B xs < B ^ xs.length
  | [], _ => by simp [val]
  | x :: r, h => by
    have h1 := val_lt hB (row_tail h)
    have h2 := row_head h
    show x + B * val B r < B ^ (r.length + 1)
    rw [Int.pow_succ]
    have h3 : B * val B r ≤ B * (B ^ r.length - 1) := Int.mul_le_mul_of_nonneg_left (by lia) (by lia)
    have h4 : B * (B ^ r.length - 1) = B ^ r.length * B - B := by grind
    lia
theorem pow_pos' {B : Int} (hB : 2 ≤ B) (k : Nat) : 0 < B ^ k := Int.pow_pos (by lia)
theorem row_append {B : Int} {xs ys : List Int} : Row B (xs ++ ys) ↔ Row B xs ∧ Row B ys := by
  constructor
  · exact fun h => ⟨fun x hx => h x (List.mem_append_left _ hx), fun x hx => h x (List.mem_append_right _ hx)⟩
  · rintro ⟨h1, h2⟩ x hx
    rcases List.mem_append.mp hx with h | h
    · exact h1 x h
    · exact h2 x h
theorem row_take {B : Int} {xs : List Int} (h : Row B xs) (k : Nat) : Row B (xs.take k) := fun x hx => h x (List.mem_of_mem_take hx)
theorem row_drop {B : Int} {xs : List Int} (h : Row B xs) (k : Nat) : Row B (xs.drop k) := fun x hx => h x (List.mem_of_mem_drop hx)
theorem val_drop {B : Int} (hB : 2 ≤ B) : ∀ (k : Nat) {xs : List Int}, Row B xs → val B (xs.drop k) = val B xs / B ^ k
  | 0, xs, _ => by simp
  | k + 1, [], _ => by simp [val]
  | k + 1, x :: r, h => by
    have h2 := row_head h
    show val B (r.drop k) = (x + B * val B r) / B ^ (k + 1)
    rw [val_drop hB k (row_tail h), Int.pow_succ, Int.mul_comm (B ^ k) B, ← Int.ediv_ediv_of_nonneg (by lia), div_row h2.1 h2.2]
theorem val_take {B : Int} (hB : 2 ≤ B) (k : Nat) {xs : List Int} (h : Row B xs) : val B (xs.take k) = val B xs % B ^ k := by
  have e := val_append B (xs.take k) (xs.drop k)
  rw [List.take_append_drop, val_drop hB k h] at e
  by_cases hk : k ≤ xs.length
  · rw [List.length_take, Nat.min_eq_left hk] at e
    have := Int.emod_add_mul_ediv (val B xs) (B ^ k)
    lia
  · rw [List.take_of_length_le (by lia)]
    have h1 := val_lt hB h
    have h2 : B ^ xs.length ≤ B ^ k := pow_mono hB (by lia)
    exact (Int.emod_eq_of_lt (val_nonneg hB h) (by lia)).symm
theorem nz_drop {xs : List Int} (h : Nz xs) (k : Nat) : Nz (xs.drop k) := by
  unfold Nz at *
  rw [List.getLast?_drop]
  split
  · simp
  · exact h
theorem nz_append {xs ys : List Int} (hy : ys ≠ []) : Nz (xs ++ ys) ↔ Nz ys := by
  unfold Nz
  rw [List.getLast?_append]
  cases h : ys.getLast? with
  | none => exact absurd (List.getLast?_eq_none_iff.mp h) hy
  | some x => simp
/-- the row of a number's upper part -/
theorem rowOf_drop {B n : Int} (hB : 2 ≤ B) (hn : 0 ≤ n) (k : Nat) : (rowOf B n).drop k = rowOf B (n / B ^ k) := by
  have h := rowOf_row hB hn
  rw [← rowOf_val hB (row_drop h k) (nz_drop (rowOf_nz hB hn) k), val_drop hB k h, val_rowOf hB hn]
def norm (xs : List Int) : List Int := (xs.reverse.dropWhile (· == 0)).reverse
theorem norm_append_zero (xs : List Int) : norm (xs ++ [0]) = norm xs := by unfold norm; simp
theorem norm_of_nz {xs : List Int} (h : Nz xs) : norm xs = xs := by
  unfold norm
  unfold Nz at h
  rw [← List.head?_reverse] at h
  cases e : xs.reverse with
  | nil => simp [List.reverse_eq_nil_iff.mp e]
  | cons y r =>
    rw [e] at h
    simp only [List.head?_cons, ne_eq, Option.some.injEq] at h
    rw [List.dropWhile_cons]
    simp only [beq_iff_eq, h, if_false]
    rw [← e, List.reverse_reverse]
theorem norm_spec {B : Int} (hB : 2 ≤ B) {xs : List Int} (h : Row B xs) : norm xs = rowOf B (val B xs) := by
  have all : ∀ (k : Nat) (xs : List Int), xs.length = k → Row B xs → norm xs = rowOf B (val B xs) := by
    intro k
    induction k with
    | zero => intro xs hk _; rw [List.length_eq_zero_iff.mp hk]; simp [norm, val, rowOf_zero]
    | succ k ih =>
      intro xs hk h
      by_cases hz : Nz xs
      · rw [norm_of_nz hz, rowOf_val hB h hz]
      · unfold Nz at hz
        have hz' : xs.getLast? = some 0 := by
          cases hq : xs.getLast? with
          | none => rw [hq] at hz; simp at hz
          | some y => rw [hq] at hz; simp at hz; rw [hz]
        obtain ⟨ys, rfl⟩ := List.getLast?_eq_some_iff.mp hz'
        rw [norm_append_zero, ih ys (by simpa using hk) (row_append.mp h).1, val_append]
        simp [val]
  exact all _ xs rfl h
theorem norm_take {B n : Int} (hB : 2 ≤ B) (hn : 0 ≤ n) (k : Nat) : norm ((rowOf B n).take k) = rowOf B (n % B ^ k) := by
  have h := rowOf_row hB hn
  rw [norm_spec hB (row_take h k), val_take hB k h, val_rowOf hB hn]
/-- lengths -/
theorem len_le_iff {B n : Int} (hB : 2 ≤ B) (hn : 0 ≤ n) (k : Nat) : (rowOf B n).length ≤ k ↔ n < B ^ k := by
  constructor
  · intro h
    have h1 := val_lt hB (rowOf_row hB hn)
    rw [val_rowOf hB hn] at h1
    have h2 : B ^ (rowOf B n).length ≤ B ^ k := pow_mono hB h
    lia
  · intro h
    have e := rowOf_drop hB hn k
    rw [Int.ediv_eq_zero_of_lt hn h, rowOf_zero] at e
    exact List.drop_eq_nil_iff.mp e
theorem len_mono {B m n : Int} (hB : 2 ≤ B) (hm : 0 ≤ m) (h : m ≤ n) : (rowOf B m).length ≤ (rowOf B n).length := by
  rw [len_le_iff hB hm]
  have := (len_le_iff hB (Int.le_trans hm h) (rowOf B n).length).mp (Nat.le_refl _)
  lia
theorem lt_pow_len {B n : Int} (hB : 2 ≤ B) (hn : 0 ≤ n) : n < B ^ (rowOf B n).length := (len_le_iff hB hn _).mp (Nat.le_refl _)
theorem pow_len_le {B n : Int} (hB : 2 ≤ B) (hn : 0 < n) (k : Nat) (hk : k < (rowOf B n).length) : B ^ k ≤ n := by
  have := (not_congr (len_le_iff hB (Int.le_of_lt hn) k)).mp (by lia)
  lia
end Mine

end
section
set_option Elab.async false
namespace Mine
theorem freshP1 : True := by
  w_top off
  k_with_none
  exact trivial
theorem bitAnd_mask (x : Int) (k : Nat) : PySem.Builtin.bitAnd x (1 * 2 ^ k - 1) = x % 2 ^ k := by rw [Int.one_mul]; exact PySem.W.kbt_mask x k
theorem pos_of_len {B n : Int} (hn : 0 ≤ n) (h : 0 < (rowOf B n).length) : 0 < n := by
  rcases Int.lt_or_eq_of_le hn with q | q
  · exact q
  · rw [← q, rowOf_zero] at h; simp at h
theorem val_take_succ {B : Int} {xs : List Int} {k : Nat} (hk : k < xs.length) : val B (xs.take (k + 1)) = val B (xs.take k) + B ^ k * xs.getD k 0 := by
  rw [List.take_add_one, List.getElem?_eq_getElem hk, val_append]
  simp [val, List.length_take, Nat.min_eq_left (Nat.le_of_lt hk), hk]
theorem val_take_all {B : Int} {xs : List Int} {k : Nat} (hk : xs.length ≤ k) : val B (xs.take k) = val B xs := by rw [List.take_of_length_le hk]
theorem getD_row {B : Int} (hB : 2 ≤ B) {xs : List Int} (h : Row B xs) (k : Nat) : 0 ≤ xs.getD k 0 ∧ xs.getD k 0 < B := by
  by_cases hk : k < xs.length
  · have e : xs.getD k 0 = xs[k] := by simp [hk]
    rw [e]; exact h _ (List.getElem_mem hk)
  · rw [List.getD_eq_getElem?_getD, List.getElem?_eq_none (by lia)]; simp; lia
theorem nz_of_ge {B : Int} (hB : 2 ≤ B) {xs : List Int} (h : Row B xs) (hv : ∀ k, xs.length = k + 1 → B ^ k ≤ val B xs) : Nz xs := by
  unfold Nz
  intro e
  obtain ⟨ys, rfl⟩ := List.getLast?_eq_some_iff.mp e
  have h1 := hv ys.length (by simp)
  rw [val_append] at h1
  have h2 := val_lt hB (row_append.mp h).1
  simp [val] at h1
  lia
/-- an addition under way -/
structure AddInv (B : Int) (xs ys : List Int) (c : Int) (f : List Int) : Prop where
  row : Row B f
  lo : 0 ≤ c
  hi : c ≤ 1
  sum : val B f + B ^ f.length * c = val B (xs.take f.length) + val B (ys.take f.length)
theorem AddInv.start (B : Int) (xs ys : List Int) : AddInv B xs ys 0 [] := ⟨(by intro x h; cases h), by lia, by lia, by simp [val]⟩
theorem AddInv.comm {B : Int} {xs ys : List Int} {c : Int} {f : List Int} (h : AddInv B xs ys c f) : AddInv B ys xs c f := ⟨h.row, h.lo, h.hi, by rw [h.sum]; lia⟩
theorem AddInv.next {B : Int} (hB : 2 ≤ B) {xs ys : List Int} {c t x y : Int} {f : List Int} (h : AddInv B xs ys c f) (hx : 0 ≤ x ∧ x < B) (hy : 0 ≤ y ∧ y < B) (ht : t = c + (x + y))
    (ex : val B (xs.take (f.length + 1)) = val B (xs.take f.length) + B ^ f.length * x) (ey : val B (ys.take (f.length + 1)) = val B (ys.take f.length) + B ^ f.length * y) :
    AddInv B xs ys (t / B) (f ++ [t % B]) := by
  have h1 := h.lo
  have h2 := h.hi
  have m1 := Int.emod_nonneg t (show B ≠ 0 by lia)
  have m2 := Int.emod_lt_of_pos t (show 0 < B by lia)
  have m3 := Int.emod_add_mul_ediv t B
  refine ⟨row_append.mpr ⟨h.row, ?_⟩, Int.ediv_nonneg (by lia) (by lia), ?_, ?_⟩
  · intro z hz
    rw [List.mem_singleton.mp hz]
    exact ⟨m1, m2⟩
  · have : t / B < 2 := Int.ediv_lt_of_lt_mul (by lia) (by lia)
    lia
  · rw [val_append, List.length_append, List.length_singleton, ex, ey, Int.pow_succ]
    have hs := h.sum
    simp only [val]
    generalize B ^ f.length = P at *
    generalize t / B = q at *
    generalize t % B = r at *
    grind
theorem AddInv.both {B : Int} (hB : 2 ≤ B) {xs ys : List Int} (rx : Row B xs) (ry : Row B ys) {c t : Int} {f : List Int} {k : Nat} (h : AddInv B xs ys c f) (hk : f.length = k) (h1 : k < xs.length) (h2 : k < ys.length) (ht : t = c + (xs.getD k 0 + ys.getD k 0)) :
    AddInv B xs ys (t / B) (f ++ [t % B]) := by
  subst hk
  exact h.next hB (getD_row hB rx _) (getD_row hB ry _) ht (val_take_succ h1) (val_take_succ h2)
theorem AddInv.one {B : Int} (hB : 2 ≤ B) {xs ys : List Int} (rx : Row B xs) {c t : Int} {f : List Int} {k : Nat} (h : AddInv B xs ys c f) (hk : f.length = k) (h1 : k < xs.length) (h2 : ys.length ≤ k) (ht : t = c + xs.getD k 0) :
    AddInv B xs ys (t / B) (f ++ [t % B]) := by
  subst hk
  refine h.next hB (getD_row hB rx _) (y := 0) (by lia) (by lia) (val_take_succ h1) ?_
  rw [val_take_all h2, val_take_all (by lia)]
  simp
/-- the end of an addition -/
theorem add_end {B : Int} (hB : 2 ≤ B) {x y c : Int} (hx : 0 ≤ x) (hy : 0 ≤ y) {f : List Int} (h : AddInv B (rowOf B x) (rowOf B y) c f) (hl : f.length = max (rowOf B x).length (rowOf B y).length) :
    (c > 0 → rowOf B (x + y) = f ++ [c]) ∧ (¬ c > 0 → rowOf B (x + y) = f) := by
  have hs := h.sum
  rw [val_take_all (by lia), val_take_all (by lia), val_rowOf hB hx, val_rowOf hB hy] at hs
  have h1 := h.lo
  have h2 := h.hi
  constructor
  · intro hc
    obtain rfl : c = 1 := by lia
    have hv : val B (f ++ [1]) = x + y := by rw [val_append]; simp [val]; lia
    rw [← hv]
    exact rowOf_val hB (row_append.mpr ⟨h.row, fun z hz => by rw [List.mem_singleton.mp hz]; lia⟩) ((nz_append (by simp)).mpr (nz_one.mpr (by lia)))
  · intro hc
    obtain rfl : c = 0 := by lia
    have hv : val B f = x + y := by lia
    rw [← hv]
    refine rowOf_val hB h.row (nz_of_ge hB h.row fun k hk => ?_)
    rw [hv]
    rcases Nat.le_total (rowOf B x).length (rowOf B y).length with hle | hle
    · have hy' : 0 < y := pos_of_len (B := B) hy (by lia)
      have := pow_len_le hB hy' k (by lia)
      lia
    · have hx' : 0 < x := pos_of_len (B := B) hx (by lia)
      have := pow_len_le hB hx' k (by lia)
      lia
/-- compare -/
def cmpTop (xs ys : List Int) : Nat → Int
  | 0 => 0
  | k + 1 => if xs.getD k 0 ≠ ys.getD k 0 then (if xs.getD k 0 < ys.getD k 0 then -1 else 1) else cmpTop xs ys k
def cmpL (xs ys : List Int) : Int := if xs.length ≠ ys.length then (if xs.length < ys.length then -1 else 1) else cmpTop xs ys xs.length
theorem cmpTop_step {xs ys : List Int} {k i : Nat} (hk : k = i + 1) (e : xs.getD i 0 = ys.getD i 0) : cmpTop xs ys k = cmpTop xs ys i := by subst hk; simp only [cmpTop]; rw [if_neg (by simpa using e)]
theorem cmpTop_sign {B : Int} (hB : 2 ≤ B) {xs ys : List Int} (rx : Row B xs) (ry : Row B ys) : ∀ k, k ≤ xs.length → k ≤ ys.length → (cmpTop xs ys k < 0 ↔ val B (xs.take k) < val B (ys.take k))
  | 0, _, _ => by simp [cmpTop, val]
  | k + 1, h1, h2 => by
    have ih := cmpTop_sign hB rx ry k (by lia) (by lia)
    rw [val_take_succ (by lia), val_take_succ (by lia)]
    have l1 := val_lt hB (row_take rx k)
    have l2 := val_lt hB (row_take ry k)
    rw [List.length_take, Nat.min_eq_left (by lia)] at l1 l2
    have n1 := val_nonneg hB (row_take rx k)
    have n2 := val_nonneg hB (row_take ry k)
    have hp := pow_pos' hB k
    simp only [cmpTop]
    generalize hX : xs.getD k 0 = X at *
    generalize hY : ys.getD k 0 = Y at *
    generalize B ^ k = P at *
    by_cases e : X = Y
    · rw [if_neg (by simpa using e), ih, e]; lia
    · rw [if_pos (by simpa using e)]
      by_cases lt : X < Y
      · rw [if_pos lt]
        have : P * X + P ≤ P * Y := by
          have := Int.mul_le_mul_of_nonneg_left (show X + 1 ≤ Y by lia) (Int.le_of_lt hp)
          rw [Int.mul_add] at this; lia
        lia
      · rw [if_neg lt]
        have : P * Y + P ≤ P * X := by
          have := Int.mul_le_mul_of_nonneg_left (show Y + 1 ≤ X by lia) (Int.le_of_lt hp)
          rw [Int.mul_add] at this; lia
        lia
theorem cmp_spec {B : Int} (hB : 2 ≤ B) {x y : Int} (hx : 0 ≤ x) (hy : 0 ≤ y) : cmpL (rowOf B x) (rowOf B y) < 0 ↔ x < y := by
  unfold cmpL
  split
  · rename_i hne
    split
    · rename_i hlt
      have h1 := (len_le_iff hB hx _).mp (Nat.le_refl _)
      have hy' : 0 < y := pos_of_len (B := B) hy (by lia)
      have h2 := pow_len_le hB hy' _ hlt
      lia
    · rename_i hge
      have h1 := (len_le_iff hB hy _).mp (Nat.le_refl _)
      have hx' : 0 < x := pos_of_len (B := B) hx (by lia)
      have h2 := pow_len_le hB hx' (rowOf B y).length (by lia)
      lia
  · rename_i he
    rw [cmpTop_sign hB (rowOf_row hB hx) (rowOf_row hB hy) _ (Nat.le_refl _) (by lia), val_take_all (Nat.le_refl _), val_take_all (by lia), val_rowOf hB hx, val_rowOf hB hy]
/-- a subtraction under way: nothing is borrowed from what is not there -/
structure SubInv (B : Int) (xs ys : List Int) (b : Int) (f : List Int) : Prop where
  row : Row B f
  lo : 0 ≤ b
  hi : b ≤ 1
  sum : val B f = val B (xs.take f.length) - val B (ys.take f.length) + B ^ f.length * b
theorem SubInv.start (B : Int) (xs ys : List Int) : SubInv B xs ys 0 [] := ⟨(by intro x h; cases h), by lia, by lia, by simp [val]⟩
theorem SubInv.next {B : Int} (hB : 2 ≤ B) {xs ys : List Int} (rx : Row B xs) (ry : Row B ys) {b t y : Int} {f : List Int} {k : Nat} (h : SubInv B xs ys b f) (hk : f.length = k) (h1 : k < xs.length)
    (hy : y = if k < ys.length then ys.getD k 0 else 0) (ht : t = xs.getD k 0 - b - y) :
    SubInv B xs ys (if t < 0 then 1 else 0) (f ++ [if t < 0 then t + B else t]) := by
  subst hk
  have hx := getD_row hB rx f.length
  have hy0 := getD_row hB ry f.length
  have hyr : 0 ≤ y ∧ y < B := by rw [hy]; split <;> lia
  have ey : val B (ys.take (f.length + 1)) = val B (ys.take f.length) + B ^ f.length * y := by
    rw [hy]
    split
    · exact val_take_succ (by assumption)
    · rw [val_take_all (by lia), val_take_all (by lia)]; simp
  have b1 := h.lo
  have b2 := h.hi
  have hs := h.sum
  refine ⟨row_append.mpr ⟨h.row, ?_⟩, by split <;> lia, by split <;> lia, ?_⟩
  · intro z hz
    rw [List.mem_singleton.mp hz]
    split <;> lia
  · rw [val_append, List.length_append, List.length_singleton, val_take_succ h1, ey, Int.pow_succ, hs]
    simp only [val]
    generalize B ^ f.length = P at *
    generalize xs.getD f.length 0 = X at *
    split <;> (subst ht; grind)
theorem sub_end {B : Int} (hB : 2 ≤ B) {x y b : Int} (hy : 0 ≤ y) (hxy : y ≤ x) {f : List Int} (h : SubInv B (rowOf B x) (rowOf B y) b f) (hl : f.length = (rowOf B x).length) : norm f = rowOf B (x - y) := by
  have hx : 0 ≤ x := by lia
  have hs := h.sum
  have hm := len_mono hB hy hxy
  rw [val_take_all (by lia), val_take_all (by lia), val_rowOf hB hx, val_rowOf hB hy] at hs
  have h1 := h.lo
  have h2 := h.hi
  have hv := val_lt hB h.row
  have hb : b = 0 := by
    rcases Int.lt_or_eq_of_le h1 with q | q
    · obtain rfl : b = 1 := by lia
      lia
    · exact q.symm
  rw [norm_spec hB h.row, hs, hb]
  simp
end Mine

end
section
open PySem PySem.W PyProof.Rows PySem.Calls
set_option Elab.async false
set_option maxRecDepth 100000
namespace Mine
theorem freshM1 : True := by
  w_top off
  k_with_none
  exact trivial
abbrev Bw (wd : Int) : Int := 2 ^ wd.toNat
/-- a fact that omega does not see -/
structure Kept (P : Prop) : Prop where
  out : P
theorem Bw_ge {wd : Int} (h : 2 ≤ wd) : 2 ≤ Bw wd := by
  obtain ⟨k, hk⟩ := Nat.le.dest (show 1 ≤ wd.toNat by omega)
  rw [Bw, ← hk, Int.pow_add]
  have : (0 : Int) < 2 ^ k := Int.pow_pos (by decide)
  omega
theorem fdiv_pow (x : Int) (k : Nat) : x.fdiv (2 ^ k) = x / 2 ^ k := Int.fdiv_eq_ediv_of_nonneg _ (Int.le_of_lt (Int.pow_pos (by decide)))
theorem norm_found {xs : List Int} {k : Int} (h0 : k ≤ (xs.length : Int)) (h1 : min (xs.length : Int) 0 ≤ k)
    (hz : ∀ j : Int, k < j → j ≤ (xs.length : Int) → (if 0 < j then (if (xs.getD (j - 1).toNat 0 == 0) = true then true else false) else false) = true)
    (hs : (if 0 < k then (if (xs.getD (k - 1).toNat 0 == 0) = true then true else false) else false) = false) : norm xs = xs.take k.toNat := by
  have all : ∀ m : Nat, k.toNat + m ≤ xs.length → norm (xs.take (k.toNat + m)) = xs.take k.toNat := by
    intro m
    induction m with
    | zero =>
      intro hm
      refine norm_of_nz ?_
      by_cases hk : 0 < k
      · rw [if_pos hk] at hs
        unfold Nz
        have hlt : k.toNat - 1 < xs.length := by omega
        rw [Nat.add_zero, List.getLast?_eq_getElem?, List.length_take, Nat.min_eq_left (by omega), List.getElem?_take_of_lt (by omega), List.getElem?_eq_getElem hlt]
        have e : xs.getD (k - 1).toNat 0 = xs[k.toNat - 1] := by
          rw [show (k - 1).toNat = k.toNat - 1 by omega]; simp [hlt]
        rw [e] at hs
        intro q
        simp only [Option.some.injEq] at q
        rw [q] at hs
        simp at hs
      · rw [show k.toNat + 0 = 0 by omega]; simpa using nz_nil
    | succ m ih =>
      intro hm
      have h2 := hz ((k.toNat : Int) + m + 1) (by omega) (by omega)
      rw [if_pos (by omega)] at h2
      have hlt : k.toNat + m < xs.length := by omega
      have e : xs.getD ((k.toNat : Int) + m + 1 - 1).toNat 0 = xs[k.toNat + m] := by
        rw [show ((k.toNat : Int) + m + 1 - 1).toNat = k.toNat + m by omega]; simp [hlt]
      rw [e] at h2
      have e0 : xs[k.toNat + m] = 0 := by
        by_cases q : xs[k.toNat + m] = 0
        · exact q
        · simp [q] at h2
      rw [show k.toNat + (m + 1) = k.toNat + m + 1 by omega, List.take_add_one, List.getElem?_eq_getElem hlt, e0]
      show norm (xs.take (k.toNat + m) ++ [0]) = _
      rw [norm_append_zero]
      exact ih (by omega)
  have := all (xs.length - k.toNat) (by omega)
  rwa [show k.toNat + (xs.length - k.toNat) = xs.length by omega, List.take_length] at this
local macro_rules | `(tactic| walk_at "pyIter ref") => `(tactic| k_extra "pyIter ref")
section
variable (w : World) {p : Program} {loose : List Str} {mean : ExcName → Option Value} {mg mb : Str → Option Value} {dp : Nat} {fr : Option (List Env)} {gd : Option (List Code)} {un : Nat} {s : Shared} {Q E : Value → Shared → Prop}
set_option maxHeartbeats 8000000 in
theorem normal_t {a : Addr} {vs : List Value} {xs : List Int}
  (X : (frag.heap_1 w.params).In s.heap) (T : Top p loose mean mg mb s.heap) (hroom : dp < recursionLimit) 
  (hl : s.heap.IsList a vs.toArray) (hi : IntsAre vs xs) (hn : xs.length ≤ 100)
  (h : ∀ D h' tk' ws k, s.heap.StaysIn h' → s.heap.get? D = none → h'.get? D = some (W.listOf ws.toArray k) → IntsAre ws (norm xs) → Q (.ref D) {s with heap := h', toks := tk'}) :
  wpAny (model PySem.Challenge.rw_nn0004_01.row.prog w) (mkA dp fr gd un) (call (.ref 46) [.ref a]) Q E s := by
  revert X; k_fill; intro X
  (k_dflt (refine' enter [((Str.ofString "a"), .ref a)] (by assumption) (by assumption) ?k6 ?k7 (by dsimp only [mkA, Around.deeper]; omega) ?k9 ?kB ?_ ?c2 ?c3 ?c4 ?c5; (case k6 => k_is); (case k7 => k_is); (case k9 => exact BindsTo.of_eq rfl); (case c5 => decide); (case kB => exact locs rfl); (case c2 => exact rfl); (case c3 => exact rfl); (case c4 => exact rfl); k_whole; intro L' h' n F' N'); (try dsimp only); (try k_fold))
  k_steps
  rename_i hk0 hk1 hz hs _ D ws h1 F1 N1 hI1 _ _ _
  refine h _ _ _ _ _ F1.keep (news_head N1).2 (news_head N1).1 ?_
  rw [norm_found hk0 hk1 hz hs]
  exact hI1
set_option maxHeartbeats 8000000 in
theorem compare_t {a b : Addr} {vs us : List Value} {xs ys : List Int} 
  (X : (frag.heap_1 w.params).In s.heap) (T : Top p loose mean mg mb s.heap) (hroom : dp < recursionLimit) 
  (hl : s.heap.IsList a vs.toArray) (hi : IntsAre vs xs) (hn : xs.length ≤ 100)
  (hl2 : s.heap.IsList b us.toArray) (hi2 : IntsAre us ys) (hn2 : ys.length ≤ 100)
  (h : ∀ r h' tk' tk'', r = cmpL xs ys → s.heap.StaysIn h' → Q (.int r tk') {s with heap := h', toks := tk''}) :
  wpAny (model PySem.Challenge.rw_nn0004_01.row.prog w) (mkA dp fr gd un) (call (.ref 53) [.ref a, .ref b]) Q E s := by
  revert X; k_fill; intro X
  (k_dflt (refine' enter [((Str.ofString "a"), .ref a), ((Str.ofString "b"), .ref b)] (by assumption) (by assumption) ?k6 ?k7 (by dsimp only [mkA, Around.deeper]; omega) ?k9 ?kB ?_ ?c2 ?c3 ?c4 ?c5; (case k6 => k_is); (case k7 => k_is); (case k9 => exact BindsTo.of_eq rfl); (case c5 => decide); (case kB => exact locs rfl); (case c2 => exact rfl); (case c3 => exact rfl); (case c4 => exact rfl); k_whole; intro L' h' n F' N'); (try dsimp only); (try k_fold))
  k_with_none
  k_with "pyIter ref" => 
    (rename Fr _ _ _ _ => lF'); (rename News _ _ _ _ => lN'); (rename IsRange _ _ _ _ _ _ _ _ => rgX)
    have hlen : xs.length = ys.length := by omega
    with_unfolding_all refine' kst_rangeD (σ := Unit) (fun _ => []) (fun _ => []) (fun _ => True) [] (fun pre _ => cmpTop xs ys xs.length = cmpTop xs ys (xs.length - pre.length)) () (by rfl) rgX (small_down (by omega) (by omega) (by omega) (by omega)) (rangeSize_downNat _ _) lF' lN' trivial (by simp) (by simp) ?turn ?done
    case' turn =>
      intro _ pre k t u h1 tk1 own hk hlt off _ hP F1 N1
      have hq1 : Kept (xs.length - pre.length = k.toNat + 1) := ⟨by omega⟩
    case' done => intro _ u h1 tk1 _ hP F1 N1
    all_goals (try k_fold)
  k_steps
  · refine h _ _ _ _ ?_ (Fr.keep (by assumption))
    rw [cmpL, if_pos (by omega), if_pos (by omega)]
  · refine h _ _ _ _ ?_ (Fr.keep (by assumption))
    rw [cmpL, if_pos (by omega), if_neg (by omega)]
  · rename_i hP F1 N1
    refine h _ _ _ _ ?_ (Fr.keep F1)
    rw [cmpL, if_neg (by omega), hP, downKs_length, show xs.length - ((xs.length : Int) - 1 - -1).toNat = 0 by omega]; rfl
  · rename_i hne _ _ hlt'
    refine h _ _ _ _ ?_ (Fr.keep (by assumption))
    rw [cmpL, if_neg (by omega), hP, hq1.out, cmpTop, if_pos hne, if_pos hlt']
  · rename_i hne _ _ hlt'
    refine h _ _ _ _ ?_ (Fr.keep (by assumption))
    rw [cmpL, if_neg (by omega), hP, hq1.out, cmpTop, if_pos hne, if_neg hlt']
  · rename_i heq
    ((rename News _ _ _ _ => nE'); refine kst_end () (by assumption) nE' (by first | kst_in | kst_inAny) (by first | (intro p hp; kst_mem) | kst_anyIn) (by rfl) (by kst_facts) (by kst_all) (by first | (intro z h1 h2 h3; (try simp only [if_neg h1]); rfl) | kst_same) ?_)
    show cmpTop xs ys xs.length = cmpTop xs ys (xs.length - (pre ++ [k]).length)
    rw [hP]
    refine cmpTop_step ?_ ?_ 
    · rw [List.length_append, List.length_singleton]; omega
    · rw [List.length_append, List.length_singleton, ← Nat.sub_sub, hq1.out, Nat.add_sub_cancel]
      exact heq
end
end Mine

end
section
open PySem PySem.W PyProof.Rows PySem.Calls
set_option Elab.async false
set_option maxRecDepth 100000
namespace Mine
local macro_rules | `(tactic| walk_at "zz 0") => `(tactic| skip)
theorem freshM2 : True := by
  w_top off
  k_with_none
  exact trivial
theorem addS {B : Int} (hB : 2 ≤ B) {xs ys : List Int} (rx : Row B xs) (ry : Row B ys) {c : Int} {f : List Int} {k : Nat} {wd : Int} (hBw : B = Bw wd) (h : AddInv B xs ys c f) (hk : f.length = k) (h1 : k < xs.length) (h2 : k < ys.length) {x y : Int}
   (hx : x = xs.getD k 0) (hy : y = ys.getD k 0) : AddInv B xs ys ((c + (x + y)).fdiv (2 ^ wd.toNat)) (f ++ [Builtin.bitAnd (c + (x + y)) (1 * 2 ^ wd.toNat - 1)]) := by
  rw [bitAnd_mask, fdiv_pow]
  subst hBw
  exact h.both hB rx ry hk h1 h2 (by rw [hx, hy])
theorem addO {B : Int} (hB : 2 ≤ B) {xs ys : List Int} (rx : Row B xs) {c : Int} {f : List Int} {k : Nat} {wd : Int} (hBw : B = Bw wd) (h : AddInv B xs ys c f) (hk : f.length = k) (h1 : k < xs.length) (h2 : ys.length ≤ k) {x : Int}
   (hx : x = xs.getD k 0) : AddInv B xs ys ((c + x).fdiv (2 ^ wd.toNat)) (f ++ [Builtin.bitAnd (c + x) (1 * 2 ^ wd.toNat - 1)]) := by
  rw [bitAnd_mask, fdiv_pow]
  subst hBw
  exact h.one hB rx hk h1 h2 (by rw [hx])
theorem cut_two {M : Model} {A : Around} {E : Value → Shared → Prop} {Q : Flow → Shared → Prop} {s : Shared} {st : Stmt} {rest : List Stmt} {env : Env} (P : Shared → Prop)
    (h1 : wpAny M A (exec st env) (fun f s' => f = .next ∧ P s') E s) (h2 : ∀ s', P s' → wpAny M A (execs rest env) Q E s') : wpAny M A (execs (st :: rest) env) Q E s := by
  refine wpAny_execs_cons (wpAny_mono h1 (fun f s' h => ?_) fun _ _ x => x)
  obtain ⟨rfl, hp⟩ := h
  exact h2 s' hp
theorem fr_swap {g h : Heap} {L : Addr} {m' m₀ : Str → Option Value} {A B : Str} {v1 v2 : Value} (h1 : m' A = some v1) (h2 : m' B = some v2) (h3 : ∀ z, z ≠ A → z ≠ B → m' z = m₀ z) (F : Fr g L h m') : Fr g L h (fun y => if y = A then some v1 else if y = B then some v2 else m₀ y) := by
  have e : (fun y => if y = A then some v1 else if y = B then some v2 else m₀ y) = m' := by
    funext y
    by_cases hA : y = A
    · rw [if_pos hA, hA, h1]
    · by_cases hB : y = B
      · rw [if_neg hA, if_pos hB, hB, h2]
      · rw [if_neg hA, if_neg hB, h3 y hA hB]
  rw [e]; exact F
/-- what stands behind the swap: the longer row first -/
structure AddSw (g : Heap) (B : Int) (xs ys : List Int) (a1 b1 : Addr) (vs1 us1 : List Value) (xs1 ys1 : List Int) : Prop where
  la : g.IsList a1 vs1.toArray
  ia : IntsAre vs1 xs1
  lb : g.IsList b1 us1.toArray
  ib : IntsAre us1 ys1
  rx : Row B xs1
  ry : Row B ys1
  hx : xs1.length ≤ 100
  le : ys1.length ≤ xs1.length
  mx : max xs.length ys.length = xs1.length
  inv : ∀ c f, AddInv B xs1 ys1 c f → AddInv B xs ys c f
def AfterAdd (s : Shared) (L : Addr) (m₀ : Str → Option Value) (B : Int) (xs ys : List Int) (s' : Shared) : Prop :=
  ∃ (h1 : Heap) (tk1 : Nat) (a1 b1 : Addr) (vs1 us1 : List Value) (xs1 ys1 : List Int) (m1 : Str → Option Value), s' = {s with heap := h1, toks := tk1} ∧ Fr s.heap L h1 m1 ∧
      m1 (Str.ofString "a") = some (.ref a1) ∧ m1 (Str.ofString "b") = some (.ref b1) ∧ (∀ z, z ≠ (Str.ofString "a") → z ≠ (Str.ofString "b") → m1 z = m₀ z) ∧ AddSw s.heap B xs ys a1 b1 vs1 us1 xs1 ys1
theorem AfterAdd.intro {s : Shared} {h1 : Heap} {L : Addr} {m₀ m1 : Str → Option Value} {B : Int} {xs ys : List Int} {tk1 : Nat} {a1 b1 : Addr} {vs1 us1 : List Value} {xs1 ys1 : List Int}
    (F : Fr s.heap L h1 m1) (e1 : m1 (Str.ofString "a") = some (.ref a1)) (e2 : m1 (Str.ofString "b") = some (.ref b1)) (e3 : ∀ z, z ≠ (Str.ofString "a") → z ≠ (Str.ofString "b") → m1 z = m₀ z) (S : AddSw s.heap B xs ys a1 b1 vs1 us1 xs1 ys1) :
    AfterAdd s L m₀ B xs ys {s with heap := h1, toks := tk1} := ⟨h1, tk1, a1, b1, vs1, us1, xs1, ys1, m1, rfl, F, e1, e2, e3, S⟩
local macro_rules | `(tactic| walk_at "pyIter ref") => `(tactic| k_extra "pyIter ref")
section
variable (w : World) {p : Program} {loose : List Str} {mean : ExcName → Option Value} {mg mb : Str → Option Value} {dp : Nat} {fr : Option (List Env)} {gd : Option (List Code)} {un : Nat} {s : Shared} {Q E : Value → Shared → Prop}
set_option maxHeartbeats 8000000 in
theorem add_t {a b : Addr} {vs us : List Value} {xs ys : List Int} {wd : Int} {tw : Tok} {B : Int} (hBw : B = Bw wd)
  (X : (frag.heap_1 w.params).In s.heap) (T : Top p loose mean mg mb s.heap) (hroom : dp < recursionLimit) 
  (hl : s.heap.IsList a vs.toArray) (hi : IntsAre vs xs) (hn : xs.length ≤ 100)
  (hl2 : s.heap.IsList b us.toArray) (hi2 : IntsAre us ys) (hn2 : ys.length ≤ 100)
  (hw : 2 ≤ wd) (hw2 : wd ≤ 9) (rx : Row B xs) (ry : Row B ys)
  (h : ∀ D h' tk' ws zs k c f, s.heap.StaysIn h' → s.heap.get? D = none → h'.get? D = some (W.listOf ws.toArray k) → IntsAre ws zs → AddInv B xs ys c f → f.length = max xs.length ys.length → (c > 0 → zs = f ++ [c]) → (¬ c > 0 → zs = f) → Q (.ref D) {s with heap := h', toks := tk'}) :
  wpAny (model PySem.Challenge.rw_nn0004_01.row.prog w) (mkA dp fr gd un) (call (.ref 60) [.ref a, .ref b, .int wd tw]) Q E s := by
  have hB : 2 ≤ B := hBw ▸ Bw_ge hw
  revert X; k_fill; intro X
  (k_dflt (refine' enter [((Str.ofString "a"), .ref a), ((Str.ofString "b"), .ref b), ((Str.ofString "w"), .int wd tw)] (by assumption) (by assumption) ?k6 ?k7 (by dsimp only [mkA, Around.deeper]; omega) ?k9 ?kB ?_ ?c2 ?c3 ?c4 ?c5; (case k6 => k_is); (case k7 => k_is); (case k9 => exact BindsTo.of_eq rfl); (case c5 => decide); (case kB => exact locs rfl); (case c2 => exact rfl); (case c3 => exact rfl); (case c4 => exact rfl); k_whole; intro L' h' n F' N'); (try dsimp only); (try k_fold))
  k_with_none
  refine cut_two (AfterAdd s L' (fun y => if y = (Str.ofString "w") then some (.int wd tw) else none) B xs ys) ?_ ?_
  · k_steps
    · exact AfterAdd.intro (by assumption) (by rfl) (by rfl) (by intro z h1 h2; simp only [if_neg h1, if_neg h2]; simp only [kstB, List.reverse_cons, List.reverse_nil, List.nil_append, List.cons_append, if_neg h1, if_neg h2]) ⟨hl2, hi2, hl, hi, ry, rx, hn2, by omega, by omega, fun c f q => q.comm⟩
    · exact AfterAdd.intro (by assumption) (by rfl) (by rfl) (by intro z h1 h2; simp only [kstB, List.reverse_cons, List.reverse_nil, List.nil_append, List.cons_append, if_neg h1, if_neg h2]) ⟨hl, hi, hl2, hi2, rx, ry, hn, by omega, by omega, fun c f q => q⟩
  · clear hl hi hn hl2 hi2 hn2 rx ry F' N'
    rintro s' ⟨h1, tk1, a1, b1, vs1, us1, xs1, ys1, m1, rfl, F1, e1, e2, e3, ⟨la, ia, lb, ib, rx, ry, hx, hle, hmx, hinv⟩⟩
    have N1 : News s.heap L' h1 [] := News.nil
    replace F1 := fr_swap e1 e2 e3 F1
    clear e1 e2 e3
    k_with "pyIter ref" =>
      (rename IsRange _ _ _ _ _ _ _ _ => rgX)
      first
      | (have z : IsRange _ _ 0 _ 1 _ _ _ := rgX); clear z; k_state (fun pre carry found => found.length = pre.length ∧ AddInv B xs1 ys1 carry found) "carry" "found"
      | k_state (fun pre carry found => found.length = ys1.length + pre.length ∧ AddInv B xs1 ys1 carry found) "carry" "found"
    k_with "state" =>
      first
      | exact ⟨rfl, AddInv.start B xs1 ys1⟩
      | (refine ⟨by simp only [List.length_append, List.length_singleton]; omega, ?_⟩; first
         | exact addS hB rx ry hBw (by assumption) (by assumption) (by omega) (by omega) (by congr 1; omega) (by congr 1; omega)
         | exact addO hB rx hBw (by assumption) (by assumption) (by omega) (by omega) (by congr 1; omega))
      | (refine ⟨?_, by assumption⟩; simp only [rangeKs_length, List.length_nil] at *; omega)
    k_steps
    all_goals
      (rename News _ _ _ _ => nE); (rename Fr _ _ _ _ => fE); (rename AddInv _ _ _ _ _ => aE); (rename IntsAre _ _ => iE)
      (try simp only [List.push_toArray] at nE)
      refine' h _ _ _ _ _ _ _ _ fE.keep ?a ?b ?c (hinv _ _ aE) ?d ?e ?f
      case b => exact (isNew nE (by k_mem)).1
      case a => exact (isNew nE (by k_mem)).2
      case c => first | exact iE | exact ints_snoc iE
      case d => rw [hmx]; simp only [rangeKs_length] at *; omega
      case e => first | (intro _; rfl) | (intro _; omega)
      case f => first | (intro _; rfl) | (intro _; omega)
end
end Mine

end
section
open PySem PySem.W PyProof.Rows PySem.Calls
set_option Elab.async false
set_option maxRecDepth 100000
namespace Mine
local macro_rules | `(tactic| walk_at "zz 0") => `(tactic| skip)
theorem freshM3 : True := by
  w_top off
  k_with_none
  exact trivial
section
variable (w : World) {p : Program} {loose : List Str} {mean : ExcName → Option Value} {mg mb : Str → Option Value} {dp : Nat} {fr : Option (List Env)} {gd : Option (List Code)} {un : Nat} {s : Shared} {Q E : Value → Shared → Prop}
  {h₀ : Heap} {L : Addr} {m : Str → Option Value} {news : List (Addr × Obj)}
theorem call_normal {a : Addr} {vs : List Value} {xs : List Int} (F : Fr h₀ L s.heap m) (N : News h₀ L s.heap news) (X : (frag.heap_1 w.params).In h₀) (T : Top p loose mean mg mb h₀)
  (hl : s.heap.IsList a vs.toArray) (hi : IntsAre vs xs) (hroom : dp < recursionLimit) (hn : xs.length ≤ 100)
  (ret : ∀ D ws k h' tk', Fr h₀ L h' m → News h₀ L h' ((D, W.listOf ws.toArray k) :: news) → AllNe D news → IntsAre ws (norm xs) → Q (.ref D) {s with heap := h', toks := tk'}) :
  wpAny (model PySem.Challenge.rw_nn0004_01.row.prog w) (mkA dp fr gd un) (call (.ref 46) [.ref a]) Q E s :=
  normal_t w (X.keeps F.keep) (T.keeps F.keep) hroom hl hi hn fun D h' tk' ws k st hf ho hI => let ⟨F', N', l⟩ := made F N st hf ho; ret D ws k h' tk' F' N' l hI
theorem call_compare {a b : Addr} {vs us : List Value} {xs ys : List Int} (F : Fr h₀ L s.heap m) (N : News h₀ L s.heap news) (X : (frag.heap_1 w.params).In h₀) (T : Top p loose mean mg mb h₀)
  (hl : s.heap.IsList a vs.toArray) (hi : IntsAre vs xs)
  (hl2 : s.heap.IsList b us.toArray) (hi2 : IntsAre us ys) (hroom : dp < recursionLimit) (hn : xs.length ≤ 100) (hn2 : ys.length ≤ 100)
  (ret : ∀ r h' tk' tk'', r = cmpL xs ys → Fr h₀ L h' m → News h₀ L h' news → Q (.int r tk') {s with heap := h', toks := tk''}) :
  wpAny (model PySem.Challenge.rw_nn0004_01.row.prog w) (mkA dp fr gd un) (call (.ref 53) [.ref a, .ref b]) Q E s :=
  compare_t w (X.keeps F.keep) (T.keeps F.keep) hroom hl hi hn hl2 hi2 hn2 fun r h' tk' tk'' e st => let ⟨F', N'⟩ := kept F N st; ret r h' tk' tk'' e F' N'
end
local macro_rules | `(tactic| walk_at "pyIter ref") => `(tactic| k_extra "pyIter ref")
-- the calls by their contracts
local macro_rules | `(tactic| ktr_room) => `(tactic| k_extra "ktr_room")
theorem readyM31 : True := by
  k_with "ktr_room" => ((try dsimp only [mkA, Around.deeper]); first | omega | decide)
  exact trivial
local macro_rules | `(tactic| ktr_unf) => `(tactic| k_extra "ktr_unf")
theorem readyM32 : True := by
  k_with "ktr_unf" => first | omega | ((simp only [List.length_append, List.length_cons, List.length_nil, rangeKs_length] at *); omega)
  exact trivial
local macro_rules | `(tactic| walk_at "call ref") => `(tactic| k_extra "call ref")
theorem readyM33 : True := by
  k_with "call ref" => (k_here; (with_reducible show wpAny _ _ (call (Value.ref 46) [Value.ref _]) _ _ _); k_dflt (refine' call_normal _ ?F ?N ?X ?T ?l1 ?i1 ?room ?n1 ?_; (case F => k_asm); (case N => k_asm); (case X => k_asm); (case T => k_asm); (case l1 => is_list); (case i1 => assumption); (case room => ktr_room); (case n1 => ktr_unf); k_whole); intro D_q' ws_q' k_q' h_q' tk_q' F_q' N_q' l1_q i1_q; (simp only [AllNe, and_true] at l1_q); (try k_sweep))
  exact trivial
theorem readyM34 : True := by
  k_with "call ref" => (k_here; (with_reducible show wpAny _ _ (call (Value.ref 53) [Value.ref _, Value.ref _]) _ _ _); k_dflt (refine' call_compare _ ?F ?N ?X ?T ?l1 ?i1 ?l2 ?i2 ?room ?n1 ?n2 ?_; (case F => k_asm); (case N => k_asm); (case X => k_asm); (case T => k_asm); (case l1 => is_list); (case i1 => assumption); (case l2 => is_list); (case i2 => assumption); (case room => ktr_room); (case n1 => ktr_unf); (case n2 => ktr_unf); k_whole); intro r_q' h_q' tk_q' tk2_q' e_q' F_q' N_q'; (try k_sweep))
  exact trivial
theorem subS {B : Int} (hB : 2 ≤ B) {xs ys : List Int} (rx : Row B xs) (ry : Row B ys) {b : Int} {f : List Int} {k : Nat} {wd : Int} (hBw : B = Bw wd) (h : SubInv B xs ys b f) (hk : f.length = k) (h1 : k < xs.length) {x y : Int}
   (hx : x = xs.getD k 0) (hy : y = if k < ys.length then ys.getD k 0 else 0) :
   (x - b - y < 0 → SubInv B xs ys 1 (f ++ [x - b - y + 1 * 2 ^ wd.toNat])) ∧ (¬ x - b - y < 0 → SubInv B xs ys 0 (f ++ [x - b - y])) := by
  have q := h.next hB rx ry hk h1 (y := y) hy (t := x - b - y) (by rw [hx])
  rw [Int.one_mul]
  subst hBw
  constructor
  · intro hn; rw [if_pos hn, if_pos hn] at q; exact q
  · intro hn; rw [if_neg hn, if_neg hn] at q; exact q
section
variable (w : World) {p : Program} {loose : List Str} {mean : ExcName → Option Value} {mg mb : Str → Option Value} {dp : Nat} {fr : Option (List Env)} {gd : Option (List Code)} {un : Nat} {s : Shared} {Q E : Value → Shared → Prop}
set_option maxHeartbeats 8000000 in
theorem sub_t {a b : Addr} {vs us : List Value} {xs ys : List Int} {wd : Int} {tw : Tok} {B : Int} (hBw : B = Bw wd)
  (X : (frag.heap_1 w.params).In s.heap) (T : Top p loose mean mg mb s.heap) (hroom : dp + 1 < recursionLimit) 
  (hl : s.heap.IsList a vs.toArray) (hi : IntsAre vs xs) (hn : xs.length ≤ 100)
  (hl2 : s.heap.IsList b us.toArray) (hi2 : IntsAre us ys) (hn2 : ys.length ≤ 100)
  (hw : 2 ≤ wd) (hw2 : wd ≤ 9) (rx : Row B xs) (ry : Row B ys) (hge : ¬ cmpL xs ys < 0)
  (h : ∀ D h' tk' ws k b f, s.heap.StaysIn h' → s.heap.get? D = none → h'.get? D = some (W.listOf ws.toArray k) → IntsAre ws (norm f) → SubInv B xs ys b f → f.length = xs.length → Q (.ref D) {s with heap := h', toks := tk'}) :
  wpAny (model PySem.Challenge.rw_nn0004_01.row.prog w) (mkA dp fr gd un) (call (.ref 67) [.ref a, .ref b, .int wd tw]) Q E s := by
  have hB : 2 ≤ B := hBw ▸ Bw_ge hw
  revert X; k_fill; intro X
  (k_dflt (refine' enter [((Str.ofString "a"), .ref a), ((Str.ofString "b"), .ref b), ((Str.ofString "w"), .int wd tw)] (by assumption) (by assumption) ?k6 ?k7 (by dsimp only [mkA, Around.deeper]; omega) ?k9 ?kB ?_ ?c2 ?c3 ?c4 ?c5; (case k6 => k_is); (case k7 => k_is); (case k9 => exact BindsTo.of_eq rfl); (case c5 => decide); (case kB => exact locs rfl); (case c2 => exact rfl); (case c3 => exact rfl); (case c4 => exact rfl); k_whole; intro L' h' n F' N'); (try dsimp only); (try k_fold))
  k_with_none
  k_with "ktr_room" => ((try dsimp only [mkA, Around.deeper]); first | omega | decide)
  k_with "ktr_unf" => first | omega | ((simp only [List.length_append, List.length_cons, List.length_nil, rangeKs_length] at *); omega)
  k_with "call ref" => (k_here; (with_reducible show wpAny _ _ (call (Value.ref 46) [Value.ref _]) _ _ _); k_dflt (refine' call_normal _ ?F ?N ?X ?T ?l1 ?i1 ?room ?n1 ?_; (case F => k_asm); (case N => k_asm); (case X => k_asm); (case T => k_asm); (case l1 => is_list); (case i1 => assumption); (case room => ktr_room); (case n1 => ktr_unf); k_whole); intro D_q' ws_q' k_q' h_q' tk_q' F_q' N_q' l1_q i1_q; (simp only [AllNe, and_true] at l1_q); (try k_sweep))
  k_with "call ref" => (k_here; (with_reducible show wpAny _ _ (call (Value.ref 53) [Value.ref _, Value.ref _]) _ _ _); k_dflt (refine' call_compare _ ?F ?N ?X ?T ?l1 ?i1 ?l2 ?i2 ?room ?n1 ?n2 ?_; (case F => k_asm); (case N => k_asm); (case X => k_asm); (case T => k_asm); (case l1 => is_list); (case i1 => assumption); (case l2 => is_list); (case i2 => assumption); (case room => ktr_room); (case n1 => ktr_unf); (case n2 => ktr_unf); k_whole); intro r_q' h_q' tk_q' tk2_q' e_q' F_q' N_q'; (try k_sweep))
  k_with "pyIter ref" => k_state (fun pre borrow found => found.length = pre.length ∧ SubInv B xs ys borrow found) "borrow" "found"
  k_with "state" =>
    first
    | exact ⟨rfl, SubInv.start B xs ys⟩
    | (refine ⟨by simp only [List.length_append, List.length_singleton]; omega, ?_⟩; first
       | exact (subS hB rx ry hBw (by assumption) (by assumption) (by omega) (by congr 1; omega) (by rw [if_pos (by omega)]; congr 1; omega)).1 (by assumption)
       | exact (subS hB rx ry hBw (by assumption) (by assumption) (by omega) (by congr 1; omega) (by rw [if_pos (by omega)]; congr 1; omega)).2 (by assumption)
       | exact (subS hB rx ry hBw (by assumption) (by assumption) (by omega) (by congr 1; omega) (by rw [if_neg (by omega)])).1 (by assumption)
       | exact (subS hB rx ry hBw (by assumption) (by assumption) (by omega) (by congr 1; omega) (by rw [if_neg (by omega)])).2 (by assumption))
  k_steps
  (rename News _ _ _ _ => nE); (rename Fr _ _ _ _ => fE); (rename SubInv _ _ _ _ _ => aE); (rename IntsAre _ _ => iE)
  refine h _ _ _ _ _ _ _ fE.keep (news_head nE).2 (news_head nE).1 iE aE ?_
  simp only [rangeKs_length] at *; omega
end
end Mine

end
section
set_option Elab.async false
namespace Mine
theorem freshP2 : True := by
  w_top off
  k_with_none
  exact trivial
section
variable {B : Int} (hB : 2 ≤ B)
include hB
theorem len_add {x y : Int} (hx : 0 ≤ x) (hy : 0 ≤ y) : (rowOf B (x + y)).length ≤ max (rowOf B x).length (rowOf B y).length + 1 := by
  rw [len_le_iff hB (by lia)]
  have h1 := lt_pow_len hB hx
  have h2 := lt_pow_len hB hy
  have h3 := pow_mono hB (Nat.le_max_left (rowOf B x).length (rowOf B y).length)
  have h4 := pow_mono hB (Nat.le_max_right (rowOf B x).length (rowOf B y).length)
  rw [Int.pow_succ]
  generalize B ^ max (rowOf B x).length (rowOf B y).length = P at *
  have h5 : P * 2 ≤ P * B := Int.mul_le_mul_of_nonneg_left hB (by lia)
  lia
theorem len_mul {x y : Int} (hx : 0 ≤ x) (hy : 0 ≤ y) : (rowOf B (x * y)).length ≤ (rowOf B x).length + (rowOf B y).length := by
  rw [len_le_iff hB (Int.mul_nonneg hx hy), Int.pow_add]
  have h1 := lt_pow_len hB hx
  have h2 := lt_pow_len hB hy
  have p1 := pow_pos' hB (rowOf B x).length
  exact Int.lt_of_le_of_lt (Int.mul_le_mul_of_nonneg_right (Int.le_of_lt h1) hy) (Int.mul_lt_mul_of_pos_left h2 p1)
theorem len_mod {x : Int} (k : Nat) : (rowOf B (x % B ^ k)).length ≤ k := by
  have p := pow_pos' hB k
  rw [len_le_iff hB (Int.emod_nonneg _ (by lia))]
  exact Int.emod_lt_of_pos _ p
theorem len_div {x : Int} (hx : 0 ≤ x) (k : Nat) : (rowOf B (x / B ^ k)).length = (rowOf B x).length - k := by
  rw [← rowOf_drop hB hx k, List.length_drop]
theorem len_modle {x : Int} (hx : 0 ≤ x) (k : Nat) : (rowOf B (x % B ^ k)).length ≤ (rowOf B x).length := by
  have p := pow_pos' hB k
  have e := Int.emod_add_mul_ediv x (B ^ k)
  have h := Int.mul_nonneg (Int.le_of_lt p) (Int.ediv_nonneg hx (Int.le_of_lt p))
  exact len_mono hB (Int.emod_nonneg _ (by lia)) (by lia)
theorem len_shift {x y : Int} (hx : 0 ≤ x) (hy : 0 ≤ y) (k : Nat) : (rowOf B (x + y * B ^ k)).length ≤ max (rowOf B x).length ((rowOf B y).length + k) + 1 := by
  have p := pow_pos' hB k
  have h1 := len_add hB hx (Int.mul_nonneg hy (Int.le_of_lt p))
  have h2 : (rowOf B (y * B ^ k)).length ≤ (rowOf B y).length + k := by
    rw [len_le_iff hB (Int.mul_nonneg hy (Int.le_of_lt p)), Int.pow_add]
    exact Int.mul_lt_mul_of_pos_right (lt_pow_len hB hy) p
  lia
omit hB in
theorem val_zeros (k : Nat) : val B (List.replicate k 0) = 0 := by
  induction k with
  | zero => rfl
  | succ k ih => rw [List.replicate_succ, val, ih]; simp
/-- what is laid far above -/
theorem put_far {x y : Int} (hx : 0 ≤ x) (hy : 0 < y) {k : Nat} (hk : (rowOf B x).length ≤ k) : rowOf B x ++ List.replicate (k - (rowOf B x).length) 0 ++ rowOf B y = rowOf B (x + y * B ^ k) := by
  have e : val B (rowOf B x ++ List.replicate (k - (rowOf B x).length) 0 ++ rowOf B y) = x + y * B ^ k := by
    rw [val_append, val_append, val_zeros, val_rowOf hB hx, val_rowOf hB (Int.le_of_lt hy), List.length_append, List.length_replicate, show (rowOf B x).length + (k - (rowOf B x).length) = k by lia]
    rw [Int.mul_comm y]; lia
  rw [← e]
  refine (rowOf_val hB (row_append.mpr ⟨row_append.mpr ⟨rowOf_row hB hx, ?_⟩, rowOf_row hB (Int.le_of_lt hy)⟩) ?_).symm
  · intro z hz
    rw [(List.mem_replicate.mp hz).2]; lia
  · refine (nz_append ?_).mpr (rowOf_nz hB (Int.le_of_lt hy))
    intro h
    have := rowOf_eq_nil hB (Int.le_of_lt hy) h
    lia
/-- what is laid within -/
theorem put_in {x y : Int} (hx : 0 ≤ x) (hy : 0 < y) {k : Nat} (hk : k ≤ (rowOf B x).length) : (rowOf B x).take k ++ rowOf B (x / B ^ k + y) = rowOf B (x + y * B ^ k) := by
  have p := pow_pos' hB k
  have q := Int.ediv_nonneg hx (Int.le_of_lt p)
  have r := rowOf_row hB hx
  have e : val B ((rowOf B x).take k ++ rowOf B (x / B ^ k + y)) = x + y * B ^ k := by
    rw [val_append, val_take hB k r, val_rowOf hB hx, val_rowOf hB (by lia), List.length_take, Nat.min_eq_left hk, Int.mul_add]
    have := Int.emod_add_mul_ediv x (B ^ k)
    rw [Int.mul_comm y]; lia
  rw [← e]
  refine (rowOf_val hB (row_append.mpr ⟨row_take r k, rowOf_row hB (by lia)⟩) ?_).symm
  refine (nz_append ?_).mpr (rowOf_nz hB (by lia))
  intro h
  have := rowOf_eq_nil hB (show 0 ≤ x / B ^ k + y by lia) h
  lia
theorem norm_piece {x : Int} (hx : 0 ≤ x) (b e : Nat) : norm (((rowOf B x).drop b).take (min e (rowOf B x).length - b)) = rowOf B (x / B ^ b % B ^ (e - b)) := by
  have h1 : ((rowOf B x).drop b).take (min e (rowOf B x).length - b) = ((rowOf B x).drop b).take (e - b) := by
    by_cases h : e ≤ (rowOf B x).length
    · rw [Nat.min_eq_left h]
    · rw [List.take_of_length_le (by rw [List.length_drop]; lia), List.take_of_length_le (by rw [List.length_drop]; lia)]
  rw [h1, rowOf_drop hB hx, norm_take hB (Int.ediv_nonneg hx (Int.le_of_lt (pow_pos' hB b)))]
end
end Mine

end
section
open PySem PySem.W PyProof.Rows PySem.Calls
set_option Elab.async false
set_option maxRecDepth 100000
namespace Mine
theorem freshM4 : True := by
  w_top off
  k_with_none
  exact trivial
section
variable (w : World) {p : Program} {loose : List Str} {mean : ExcName → Option Value} {mg mb : Str → Option Value} {dp : Nat} {fr : Option (List Env)} {gd : Option (List Code)} {un : Nat} {s : Shared} {Q E : Value → Shared → Prop}
  {h₀ : Heap} {L : Addr} {m : Str → Option Value} {news : List (Addr × Obj)} {a b : Addr} {vs us : List Value} {xs ys : List Int} {x y wd : Int} {tw : Tok} {B : Int}
theorem call_compareR (F : Fr h₀ L s.heap m) (N : News h₀ L s.heap news) (X : (frag.heap_1 w.params).In h₀) (T : Top p loose mean mg mb h₀)
  (hl : s.heap.IsList a vs.toArray) (hi : IntsAre vs xs) (hl2 : s.heap.IsList b us.toArray) (hi2 : IntsAre us ys)
  (hroom : dp < recursionLimit) (hB : 2 ≤ B) (ex : xs = rowOf B x) (ey : ys = rowOf B y) (hx : 0 ≤ x) (hy : 0 ≤ y) (hn : xs.length ≤ 100) (hn2 : ys.length ≤ 100)
  (ret : ∀ r h' tk' tk'', (r < 0 ↔ x < y) → Fr h₀ L h' m → News h₀ L h' news → Q (.int r tk') {s with heap := h', toks := tk''}) :
  wpAny (model PySem.Challenge.rw_nn0004_01.row.prog w) (mkA dp fr gd un) (call (.ref 53) [.ref a, .ref b]) Q E s :=
  call_compare w F N X T hl hi hl2 hi2 hroom hn hn2 fun r h' tk' tk'' e F' N' => ret r h' tk' tk'' (by rw [e, ex, ey]; exact cmp_spec hB hx hy) F' N'
theorem call_addR (F : Fr h₀ L s.heap m) (N : News h₀ L s.heap news) (X : (frag.heap_1 w.params).In h₀) (T : Top p loose mean mg mb h₀)
  (hl : s.heap.IsList a vs.toArray) (hi : IntsAre vs xs) (hl2 : s.heap.IsList b us.toArray) (hi2 : IntsAre us ys)
  (hroom : dp < recursionLimit) (hBw : B = Bw wd) (hw : 2 ≤ wd) (hw2 : wd ≤ 9) (ex : xs = rowOf B x) (ey : ys = rowOf B y) (hx : 0 ≤ x) (hy : 0 ≤ y) (hn : xs.length ≤ 100) (hn2 : ys.length ≤ 100)
  (ret : ∀ D ws k h' tk' zs, Fr h₀ L h' m → News h₀ L h' ((D, W.listOf ws.toArray k) :: news) → AllNe D news → IntsAre ws zs → zs = rowOf B (x + y) → 0 ≤ x + y → zs.length ≤ max xs.length ys.length + 1 → Q (.ref D) {s with heap := h', toks := tk'}) :
  wpAny (model PySem.Challenge.rw_nn0004_01.row.prog w) (mkA dp fr gd un) (call (.ref 60) [.ref a, .ref b, .int wd tw]) Q E s := by
  have hB : 2 ≤ B := hBw ▸ Bw_ge hw
  subst ex ey
  refine add_t w hBw (X.keeps F.keep) (T.keeps F.keep) hroom hl hi hn hl2 hi2 hn2 hw hw2 (rowOf_row hB hx) (rowOf_row hB hy) fun D h' tk' ws zs k c f st hf ho hI hA hlen h1 h2 => ?_
  obtain ⟨F', N', l⟩ := made F N st hf ho
  have e := add_end hB hx hy hA hlen
  refine ret D ws k h' tk' _ F' N' l ?_ rfl (by omega) (len_add hB hx hy)
  by_cases hc : c > 0
  · rw [e.1 hc, ← h1 hc]; exact hI
  · rw [e.2 hc, ← h2 hc]; exact hI
theorem call_subR (F : Fr h₀ L s.heap m) (N : News h₀ L s.heap news) (X : (frag.heap_1 w.params).In h₀) (T : Top p loose mean mg mb h₀)
  (hl : s.heap.IsList a vs.toArray) (hi : IntsAre vs xs) (hl2 : s.heap.IsList b us.toArray) (hi2 : IntsAre us ys)
  (hroom : dp + 1 < recursionLimit) (hBw : B = Bw wd) (hw : 2 ≤ wd) (hw2 : wd ≤ 9) (ex : xs = rowOf B x) (ey : ys = rowOf B y) (hy : 0 ≤ y) (hxy : y ≤ x) (hn : xs.length ≤ 100) (hn2 : ys.length ≤ 100)
  (ret : ∀ D ws k h' tk' zs, Fr h₀ L h' m → News h₀ L h' ((D, W.listOf ws.toArray k) :: news) → AllNe D news → IntsAre ws zs → zs = rowOf B (x - y) → 0 ≤ x - y → zs.length ≤ xs.length → Q (.ref D) {s with heap := h', toks := tk'}) :
  wpAny (model PySem.Challenge.rw_nn0004_01.row.prog w) (mkA dp fr gd un) (call (.ref 67) [.ref a, .ref b, .int wd tw]) Q E s := by
  have hB : 2 ≤ B := hBw ▸ Bw_ge hw
  have hx : 0 ≤ x := by omega
  subst ex ey
  refine sub_t w hBw (X.keeps F.keep) (T.keeps F.keep) hroom hl hi hn hl2 hi2 hn2 hw hw2 (rowOf_row hB hx) (rowOf_row hB hy) (by rw [cmp_spec hB hx hy]; omega) fun D h' tk' ws k b f st hf ho hI hA hlen => ?_
  obtain ⟨F', N', l⟩ := made F N st hf ho
  exact ret D ws k h' tk' _ F' N' l (sub_end hB hy hxy hA hlen ▸ hI) rfl (by omega) (len_mono hB (by omega) (by omega))
end
local macro_rules | `(tactic| ktr_room) => `(tactic| k_extra "ktr_room")
theorem readyM41 : True := by
  k_with "ktr_room" => ((try dsimp only [mkA, Around.deeper]); first | omega | decide)
  exact trivial
local macro_rules | `(tactic| ktr_unf) => `(tactic| k_extra "ktr_unf")
theorem readyM42 : True := by
  k_with "ktr_unf" => first | omega | ((simp only [List.length_append, List.length_cons, List.length_nil, rangeKs_length] at *); omega)
  exact trivial
local macro_rules | `(tactic| ktr_rel) => `(tactic| k_extra "ktr_rel")
theorem readyM43 : True := by
  k_with "ktr_rel" => first | assumption | omega
  exact trivial
local macro_rules | `(tactic| walk_at "subscriptTail Name Slice ref ref") => `(tactic| k_extra "subscriptTail Name Slice ref ref")
theorem readyM44 : True := by
  k_with "subscriptTail Name Slice ref ref" => (k_here; (with_reducible show wpAny _ _ (subscriptTail _ (PySem.Expr.Slice (some _) (some _) none _) (Value.ref _) (Value.ref _)) _ _ _); k_dflt (refine' kmk_slice_ints ?F ?N ?l ?p ?q ?i ?m ?c ?_ ?s ?t ?z; (case F => k_asm); (case N => k_asm); (case l => kmk_list); (case p => kmk_part); (case q => kmk_part); (case i => l_ints); (case m => exact kmk_run (by l_ints) (by omega) (by omega)); (case c => kmk_len); (case s => with_unfolding_all rfl); (case t => kmk_pure); (case z => kmk_size)); intro D_q' ws_q' h_q' F_q' N_q' l1_q hI_q' hC_q' hL_q'; (try k_lt l1_q); (try k_sweep))
  exact trivial
theorem readyM45 : True := by
  k_with "subscriptTail Name Slice ref ref" => (k_here; (with_reducible show wpAny _ _ (subscriptTail _ (PySem.Expr.Slice (some _) none none _) (Value.ref _) (Value.ref _)) _ _ _); k_dflt (refine' kmk_slice_ints ?F ?N ?l ?p ?q ?i ?m ?c ?_ ?s ?t ?z; (case F => k_asm); (case N => k_asm); (case l => kmk_list); (case p => kmk_part); (case q => kmk_part); (case i => l_ints); (case m => exact kmk_from (by l_ints) (by omega)); (case c => kmk_len); (case s => with_unfolding_all rfl); (case t => kmk_pure); (case z => kmk_size)); intro D_q' ws_q' h_q' F_q' N_q' l1_q hI_q' hC_q' hL_q'; (try k_lt l1_q); (try k_sweep))
  exact trivial
theorem readyM46 : True := by
  k_with "subscriptTail Name Slice ref ref" => (k_here; (with_reducible show wpAny _ _ (subscriptTail _ (PySem.Expr.Slice none (some _) none _) (Value.ref _) (Value.ref _)) _ _ _); k_dflt (refine' kmk_slice_ints ?F ?N ?l ?p ?q ?i ?m ?c ?_ ?s ?t ?z; (case F => k_asm); (case N => k_asm); (case l => kmk_list); (case p => kmk_part); (case q => kmk_part); (case i => l_ints); (case m => exact kmk_upto (by l_ints) (by omega)); (case c => kmk_len); (case s => with_unfolding_all rfl); (case t => kmk_pure); (case z => kmk_size)); intro D_q' ws_q' h_q' F_q' N_q' l1_q hI_q' hC_q' hL_q'; (try k_lt l1_q); (try k_sweep))
  exact trivial
theorem readyM47 : True := by
  k_with "subscriptTail Name Slice ref ref" => (k_here; (with_reducible show wpAny _ _ (subscriptTail _ (PySem.Expr.Slice none none none _) (Value.ref _) (Value.ref _)) _ _ _); k_dflt (refine' kmk_slice_ints ?F ?N ?l ?p ?q ?i ?m ?c ?_ ?s ?t ?z; (case F => k_asm); (case N => k_asm); (case l => kmk_list); (case p => kmk_part); (case q => kmk_part); (case i => l_ints); (case m => exact kmk_all (by l_ints)); (case c => kmk_len); (case s => with_unfolding_all rfl); (case t => kmk_pure); (case z => kmk_size)); intro D_q' ws_q' h_q' F_q' N_q' l1_q hI_q' hC_q' hL_q'; (try k_lt l1_q); (try k_sweep))
  exact trivial
local macro_rules | `(tactic| walk_at "call ref") => `(tactic| k_extra "call ref")
theorem readyM48 : True := by
  k_with "call ref" => (k_here; (with_reducible show wpAny _ _ (call (Value.ref 46) [Value.ref _]) _ _ _); k_dflt (refine' call_normal _ ?F ?N ?X ?T ?l1 ?i1 ?room ?n1 ?_; (case F => k_asm); (case N => k_asm); (case X => k_asm); (case T => k_asm); (case l1 => is_list); (case i1 => assumption); (case room => ktr_room); (case n1 => ktr_unf); k_whole); intro D_q' ws_q' k_q' h_q' tk_q' F_q' N_q' l1_q i1_q; (simp only [AllNe, and_true] at l1_q); (try k_sweep))
  exact trivial
theorem readyM49 : True := by
  k_with "call ref" => (k_here; (with_reducible show wpAny _ _ (call (Value.ref 60) [Value.ref _, Value.ref _, Value.int _ _]) _ _ _); k_dflt (refine' call_addR _ ?F ?N ?X ?T ?l1 ?i1 ?l2 ?i2 ?room ?w0 ?w1 ?w2 ?e1 ?e2 ?p1 ?p2 ?n1 ?n2 ?_; (case F => k_asm); (case N => k_asm); (case X => k_asm); (case T => k_asm); (case l1 => is_list); (case i1 => assumption); (case l2 => is_list); (case i2 => assumption); (case room => ktr_room); (case w0 => assumption); (case w1 => assumption); (case w2 => assumption); (case e1 => assumption); (case e2 => assumption); (case p1 => ktr_rel); (case p2 => ktr_rel); (case n1 => ktr_unf); (case n2 => ktr_unf); k_whole); intro D_q' ws_q' k_q' h_q' tk_q' zs_q' F_q' N_q' l1_q i1_q e1_q g1_q g2_q; (simp only [AllNe, and_true] at l1_q); (try k_sweep))
  exact trivial
section
variable (w : World) {p : Program} {loose : List Str} {mean : ExcName → Option Value} {mg mb : Str → Option Value} {dp : Nat} {fr : Option (List Env)} {gd : Option (List Code)} {un : Nat} {s : Shared} {Q E : Value → Shared → Prop}
  {a b : Addr} {vs us : List Value} {xs ys : List Int} {x y wd : Int} {tw : Tok} {B : Int}
set_option maxHeartbeats 8000000 in
theorem add_at_t {sp : Int} {tsp : Tok} 
  (X : (frag.heap_1 w.params).In s.heap) (T : Top p loose mean mg mb s.heap) (hroom : dp + 1 < recursionLimit) 
  (hl : s.heap.IsList a vs.toArray) (hi : IntsAre vs xs) (ex : xs = rowOf B x) (hn : xs.length ≤ 90)
  (hl2 : s.heap.IsList b us.toArray) (hi2 : IntsAre us ys) (ey : ys = rowOf B y) (hn2 : ys.length ≤ 90)
  (hs0 : 0 ≤ sp) (hs : sp ≤ 90)
  (hBw : B = Bw wd) (hw : 2 ≤ wd) (hw2 : wd ≤ 9) (hx : 0 ≤ x) (hy : 0 ≤ y)
  (h : ∀ D h' tk' ws k, s.heap.StaysIn h' → s.heap.get? D = none → h'.get? D = some (W.listOf ws.toArray k) → IntsAre ws (rowOf B (x + y * B ^ sp.toNat)) → Q (.ref D) {s with heap := h', toks := tk'}) :
  wpAny (model PySem.Challenge.rw_nn0004_01.row.prog w) (mkA dp fr gd un) (call (.ref 74) [.ref a, .ref b, .int sp tsp, .int wd tw]) Q E s := by
  have hB : 2 ≤ B := hBw ▸ Bw_ge hw
  have hD : List.drop sp.toNat xs = rowOf B (x / B ^ sp.toNat) := by rw [ex, rowOf_drop hB hx]
  have g9 := Int.ediv_nonneg hx (Int.le_of_lt (pow_pos' hB sp.toNat))
  revert X; k_fill; intro X
  (k_dflt (refine' enter [((Str.ofString "a"), .ref a), ((Str.ofString "b"), .ref b), ((Str.ofString "spot"), .int sp tsp), ((Str.ofString "w"), .int wd tw)] (by assumption) (by assumption) ?k6 ?k7 (by dsimp only [mkA, Around.deeper]; omega) ?k9 ?kB ?_ ?c2 ?c3 ?c4 ?c5; (case k6 => k_is); (case k7 => k_is); (case k9 => exact BindsTo.of_eq rfl); (case c5 => decide); (case kB => exact locs rfl); (case c2 => exact rfl); (case c3 => exact rfl); (case c4 => exact rfl); k_whole; intro L' h' n F' N'); (try dsimp only); (try k_fold))
  k_with_none
  k_with "ktr_room" => ((try dsimp only [mkA, Around.deeper]); first | omega | decide)
  k_with "ktr_unf" => first | omega | ((simp only [List.length_append, List.length_cons, List.length_nil, rangeKs_length] at *); omega)
  k_with "ktr_rel" => first | assumption | omega
  k_with "subscriptTail Name Slice ref ref" => (k_here; (with_reducible show wpAny _ _ (subscriptTail _ (PySem.Expr.Slice (some _) (some _) none _) (Value.ref _) (Value.ref _)) _ _ _); k_dflt (refine' kmk_slice_ints ?F ?N ?l ?p ?q ?i ?m ?c ?_ ?s ?t ?z; (case F => k_asm); (case N => k_asm); (case l => kmk_list); (case p => kmk_part); (case q => kmk_part); (case i => l_ints); (case m => exact kmk_run (by l_ints) (by omega) (by omega)); (case c => kmk_len); (case s => with_unfolding_all rfl); (case t => kmk_pure); (case z => kmk_size)); intro D_q' ws_q' h_q' F_q' N_q' l1_q hI_q' hC_q' hL_q'; (try k_lt l1_q); (try k_sweep))
  k_with "subscriptTail Name Slice ref ref" => (k_here; (with_reducible show wpAny _ _ (subscriptTail _ (PySem.Expr.Slice (some _) none none _) (Value.ref _) (Value.ref _)) _ _ _); k_dflt (refine' kmk_slice_ints ?F ?N ?l ?p ?q ?i ?m ?c ?_ ?s ?t ?z; (case F => k_asm); (case N => k_asm); (case l => kmk_list); (case p => kmk_part); (case q => kmk_part); (case i => l_ints); (case m => exact kmk_from (by l_ints) (by omega)); (case c => kmk_len); (case s => with_unfolding_all rfl); (case t => kmk_pure); (case z => kmk_size)); intro D_q' ws_q' h_q' F_q' N_q' l1_q hI_q' hC_q' hL_q'; (try k_lt l1_q); (try k_sweep))
  k_with "subscriptTail Name Slice ref ref" => (k_here; (with_reducible show wpAny _ _ (subscriptTail _ (PySem.Expr.Slice none (some _) none _) (Value.ref _) (Value.ref _)) _ _ _); k_dflt (refine' kmk_slice_ints ?F ?N ?l ?p ?q ?i ?m ?c ?_ ?s ?t ?z; (case F => k_asm); (case N => k_asm); (case l => kmk_list); (case p => kmk_part); (case q => kmk_part); (case i => l_ints); (case m => exact kmk_upto (by l_ints) (by omega)); (case c => kmk_len); (case s => with_unfolding_all rfl); (case t => kmk_pure); (case z => kmk_size)); intro D_q' ws_q' h_q' F_q' N_q' l1_q hI_q' hC_q' hL_q'; (try k_lt l1_q); (try k_sweep))
  k_with "subscriptTail Name Slice ref ref" => (k_here; (with_reducible show wpAny _ _ (subscriptTail _ (PySem.Expr.Slice none none none _) (Value.ref _) (Value.ref _)) _ _ _); k_dflt (refine' kmk_slice_ints ?F ?N ?l ?p ?q ?i ?m ?c ?_ ?s ?t ?z; (case F => k_asm); (case N => k_asm); (case l => kmk_list); (case p => kmk_part); (case q => kmk_part); (case i => l_ints); (case m => exact kmk_all (by l_ints)); (case c => kmk_len); (case s => with_unfolding_all rfl); (case t => kmk_pure); (case z => kmk_size)); intro D_q' ws_q' h_q' F_q' N_q' l1_q hI_q' hC_q' hL_q'; (try k_lt l1_q); (try k_sweep))
  k_with "call ref" => (k_here; (with_reducible show wpAny _ _ (call (Value.ref 46) [Value.ref _]) _ _ _); k_dflt (refine' call_normal _ ?F ?N ?X ?T ?l1 ?i1 ?room ?n1 ?_; (case F => k_asm); (case N => k_asm); (case X => k_asm); (case T => k_asm); (case l1 => is_list); (case i1 => assumption); (case room => ktr_room); (case n1 => ktr_unf); k_whole); intro D_q' ws_q' k_q' h_q' tk_q' F_q' N_q' l1_q i1_q; (simp only [AllNe, and_true] at l1_q); (try k_sweep))
  k_with "call ref" => (k_here; (with_reducible show wpAny _ _ (call (Value.ref 60) [Value.ref _, Value.ref _, Value.int _ _]) _ _ _); k_dflt (refine' call_addR _ ?F ?N ?X ?T ?l1 ?i1 ?l2 ?i2 ?room ?w0 ?w1 ?w2 ?e1 ?e2 ?p1 ?p2 ?n1 ?n2 ?_; (case F => k_asm); (case N => k_asm); (case X => k_asm); (case T => k_asm); (case l1 => is_list); (case i1 => assumption); (case l2 => is_list); (case i2 => assumption); (case room => ktr_room); (case w0 => assumption); (case w1 => assumption); (case w2 => assumption); (case e1 => assumption); (case e2 => assumption); (case p1 => ktr_rel); (case p2 => ktr_rel); (case n1 => ktr_unf); (case n2 => ktr_unf); k_whole); intro D_q' ws_q' k_q' h_q' tk_q' zs_q' F_q' N_q' l1_q i1_q e1_q g1_q g2_q; (simp only [AllNe, and_true] at l1_q); (try k_sweep))
  k_steps
  all_goals ((rename News _ _ _ _ => nE); (rename Fr _ _ _ _ => fE); (rename IntsAre _ _ => iE))
  · refine h _ _ _ _ _ fE.keep (news_head nE).2 (news_head nE).1 ?_
    rw [rowOf_eq_nil hB hy (ey ▸ List.length_eq_zero_iff.mp (by omega)), Int.zero_mul, Int.add_zero, ← ex]
    exact iE
  · refine h _ _ _ _ _ fE.keep (news_head nE).2 (news_head nE).1 ?_
    have hy' : 0 < y := pos_of_len (B := B) hy (by rw [← ey]; omega)
    rw [List.flatten_replicate_singleton, show (sp - (xs.length : Int)).toNat = sp.toNat - xs.length by omega, ex, ey, put_far hB hx hy' (by rw [← ex]; omega)] at iE
    exact iE
  · refine h _ _ _ _ _ fE.keep (news_head nE).2 (news_head nE).1 ?_
    have hy' : 0 < y := pos_of_len (B := B) hy (by rw [← ey]; omega)
    (rename _ = rowOf B (x / B ^ sp.toNat + y) => eE)
    rw [eE, ex, put_in hB hx hy' (by rw [← ex]; omega)] at iE
    exact iE
end
end Mine

end
section
open PySem PySem.W PyProof.Rows PySem.Calls
set_option Elab.async false
set_option maxRecDepth 100000
namespace Mine
local macro_rules | `(tactic| walk_at "zz 0") => `(tactic| skip)
theorem freshM5 : True := by
  w_top off
  k_with_none
  exact trivial
abbrev tupO (vs : Array Value) : Obj := { cls := .type "tuple", data := .seq vs }
theorem news_two {h₀ h : Heap} {L : Addr} {q r : Addr × Obj} {news : List (Addr × Obj)} (N1 : News h₀ L h (q :: news)) (N2 : News h₀ L h (r :: news)) : News h₀ L h (q :: r :: news) := fun p hp => by
  rcases List.mem_cons.mp hp with rfl | hp
  · exact N1 _ (.head _)
  · exact N2 _ hp
theorem news_three {h₀ h : Heap} {L : Addr} {q r t : Addr × Obj} {news : List (Addr × Obj)} (N1 : News h₀ L h (q :: news)) (N2 : News h₀ L h (r :: news)) (N3 : News h₀ L h (t :: news)) : News h₀ L h (q :: r :: t :: news) := fun p hp => by
  rcases List.mem_cons.mp hp with rfl | hp
  · exact N1 _ (.head _)
  · exact news_two N2 N3 _ hp
section
variable (w : World) {p : Program} {loose : List Str} {mean : ExcName → Option Value} {mg mb : Str → Option Value} {dp : Nat} {fr : Option (List Env)} {gd : Option (List Code)} {un : Nat} {s : Shared} {Q E : Value → Shared → Prop}
  {h₀ : Heap} {L : Addr} {m : Str → Option Value} {news : List (Addr × Obj)} {a b : Addr} {vs us : List Value} {xs ys : List Int} {x y wd : Int} {tw : Tok} {B : Int}
theorem call_add_at {sp : Int} {tsp : Tok} (F : Fr h₀ L s.heap m) (N : News h₀ L s.heap news) (X : (frag.heap_1 w.params).In h₀) (T : Top p loose mean mg mb h₀)
  (hl : s.heap.IsList a vs.toArray) (hi : IntsAre vs xs) (hl2 : s.heap.IsList b us.toArray) (hi2 : IntsAre us ys)
  (hroom : dp + 1 < recursionLimit) (hBw : B = Bw wd) (hw : 2 ≤ wd) (hw2 : wd ≤ 9) (ex : xs = rowOf B x) (ey : ys = rowOf B y) (hx : 0 ≤ x) (hy : 0 ≤ y) (hn : xs.length ≤ 90) (hn2 : ys.length ≤ 90)
  (hs0 : 0 ≤ sp) (hs : sp ≤ 90)
  (ret : ∀ D ws k h' tk' zs, Fr h₀ L h' m → News h₀ L h' ((D, W.listOf ws.toArray k) :: news) → AllNe D news → IntsAre ws zs → zs = rowOf B (x + y * B ^ sp.toNat) → 0 ≤ x + y * B ^ sp.toNat → zs.length ≤ max xs.length (ys.length + sp.toNat) + 1 → Q (.ref D) {s with heap := h', toks := tk'}) :
  wpAny (model PySem.Challenge.rw_nn0004_01.row.prog w) (mkA dp fr gd un) (call (.ref 74) [.ref a, .ref b, .int sp tsp, .int wd tw]) Q E s := by
  have hB : 2 ≤ B := hBw ▸ Bw_ge hw
  refine add_at_t w (X.keeps F.keep) (T.keeps F.keep) hroom hl hi ex hn hl2 hi2 ey hn2 hs0 hs hBw hw hw2 hx hy fun D h' tk' ws k st hf ho hI => ?_
  obtain ⟨F', N', l⟩ := made F N st hf ho
  have := Int.mul_nonneg hy (Int.le_of_lt (pow_pos' hB sp.toNat))
  exact ret D ws k h' tk' _ F' N' l hI rfl (by omega) (by rw [ex, ey]; exact len_shift hB hx hy _)
end
local macro_rules | `(tactic| ktr_room) => `(tactic| k_extra "ktr_room")
theorem readyM51 : True := by
  k_with "ktr_room" => ((try dsimp only [mkA, Around.deeper]); first | omega | decide)
  exact trivial
local macro_rules | `(tactic| ktr_unf) => `(tactic| k_extra "ktr_unf")
theorem readyM52 : True := by
  k_with "ktr_unf" => first | omega | ((simp only [List.length_append, List.length_cons, List.length_nil, rangeKs_length] at *); omega)
  exact trivial
local macro_rules | `(tactic| ktr_rel) => `(tactic| k_extra "ktr_rel")
theorem readyM53 : True := by
  k_with "ktr_rel" => first | assumption | omega
  exact trivial
local macro_rules | `(tactic| walk_at "subscriptTail Name Slice ref ref") => `(tactic| k_extra "subscriptTail Name Slice ref ref")
theorem readyM54 : True := by
  k_with "subscriptTail Name Slice ref ref" => (k_here; (with_reducible show wpAny _ _ (subscriptTail _ (PySem.Expr.Slice (some _) (some _) none _) (Value.ref _) (Value.ref _)) _ _ _); k_dflt (refine' kmk_slice_ints ?F ?N ?l ?p ?q ?i ?m ?c ?_ ?s ?t ?z; (case F => k_asm); (case N => k_asm); (case l => kmk_list); (case p => kmk_part); (case q => kmk_part); (case i => l_ints); (case m => exact kmk_run (by l_ints) (by omega) (by omega)); (case c => kmk_len); (case s => with_unfolding_all rfl); (case t => kmk_pure); (case z => kmk_size)); intro D_q' ws_q' h_q' F_q' N_q' l1_q hI_q' hC_q' hL_q'; (try k_lt l1_q); (try k_sweep))
  exact trivial
theorem readyM55 : True := by
  k_with "subscriptTail Name Slice ref ref" => (k_here; (with_reducible show wpAny _ _ (subscriptTail _ (PySem.Expr.Slice (some _) none none _) (Value.ref _) (Value.ref _)) _ _ _); k_dflt (refine' kmk_slice_ints ?F ?N ?l ?p ?q ?i ?m ?c ?_ ?s ?t ?z; (case F => k_asm); (case N => k_asm); (case l => kmk_list); (case p => kmk_part); (case q => kmk_part); (case i => l_ints); (case m => exact kmk_from (by l_ints) (by omega)); (case c => kmk_len); (case s => with_unfolding_all rfl); (case t => kmk_pure); (case z => kmk_size)); intro D_q' ws_q' h_q' F_q' N_q' l1_q hI_q' hC_q' hL_q'; (try k_lt l1_q); (try k_sweep))
  exact trivial
theorem readyM56 : True := by
  k_with "subscriptTail Name Slice ref ref" => (k_here; (with_reducible show wpAny _ _ (subscriptTail _ (PySem.Expr.Slice none (some _) none _) (Value.ref _) (Value.ref _)) _ _ _); k_dflt (refine' kmk_slice_ints ?F ?N ?l ?p ?q ?i ?m ?c ?_ ?s ?t ?z; (case F => k_asm); (case N => k_asm); (case l => kmk_list); (case p => kmk_part); (case q => kmk_part); (case i => l_ints); (case m => exact kmk_upto (by l_ints) (by omega)); (case c => kmk_len); (case s => with_unfolding_all rfl); (case t => kmk_pure); (case z => kmk_size)); intro D_q' ws_q' h_q' F_q' N_q' l1_q hI_q' hC_q' hL_q'; (try k_lt l1_q); (try k_sweep))
  exact trivial
theorem readyM57 : True := by
  k_with "subscriptTail Name Slice ref ref" => (k_here; (with_reducible show wpAny _ _ (subscriptTail _ (PySem.Expr.Slice none none none _) (Value.ref _) (Value.ref _)) _ _ _); k_dflt (refine' kmk_slice_ints ?F ?N ?l ?p ?q ?i ?m ?c ?_ ?s ?t ?z; (case F => k_asm); (case N => k_asm); (case l => kmk_list); (case p => kmk_part); (case q => kmk_part); (case i => l_ints); (case m => exact kmk_all (by l_ints)); (case c => kmk_len); (case s => with_unfolding_all rfl); (case t => kmk_pure); (case z => kmk_size)); intro D_q' ws_q' h_q' F_q' N_q' l1_q hI_q' hC_q' hL_q'; (try k_lt l1_q); (try k_sweep))
  exact trivial
local macro_rules | `(tactic| walk_at "call ref") => `(tactic| k_extra "call ref")
theorem readyM58 : True := by
  k_with "call ref" => (k_here; (with_reducible show wpAny _ _ (call (Value.ref 46) [Value.ref _]) _ _ _); k_dflt (refine' call_normal _ ?F ?N ?X ?T ?l1 ?i1 ?room ?n1 ?_; (case F => k_asm); (case N => k_asm); (case X => k_asm); (case T => k_asm); (case l1 => is_list); (case i1 => assumption); (case room => ktr_room); (case n1 => ktr_unf); k_whole); intro D_q' ws_q' k_q' h_q' tk_q' F_q' N_q' l1_q i1_q; (simp only [AllNe, and_true] at l1_q); (try k_sweep))
  exact trivial
theorem readyM59 : True := by
  k_with "call ref" => (k_here; (with_reducible show wpAny _ _ (call (Value.ref 60) [Value.ref _, Value.ref _, Value.int _ _]) _ _ _); k_dflt (refine' call_addR _ ?F ?N ?X ?T ?l1 ?i1 ?l2 ?i2 ?room ?w0 ?w1 ?w2 ?e1 ?e2 ?p1 ?p2 ?n1 ?n2 ?_; (case F => k_asm); (case N => k_asm); (case X => k_asm); (case T => k_asm); (case l1 => is_list); (case i1 => assumption); (case l2 => is_list); (case i2 => assumption); (case room => ktr_room); (case w0 => assumption); (case w1 => assumption); (case w2 => assumption); (case e1 => assumption); (case e2 => assumption); (case p1 => ktr_rel); (case p2 => ktr_rel); (case n1 => ktr_unf); (case n2 => ktr_unf); k_whole); intro D_q' ws_q' k_q' h_q' tk_q' zs_q' F_q' N_q' l1_q i1_q e1_q g1_q g2_q; (simp only [AllNe, and_true] at l1_q); (try k_sweep))
  exact trivial
theorem readyM510 : True := by
  k_with "call ref" => (k_here; (with_reducible show wpAny _ _ (call (Value.ref 67) [Value.ref _, Value.ref _, Value.int _ _]) _ _ _); k_dflt (refine' call_subR _ ?F ?N ?X ?T ?l1 ?i1 ?l2 ?i2 ?room ?w0 ?w1 ?w2 ?e1 ?e2 ?p1 ?p2 ?n1 ?n2 ?_; (case F => k_asm); (case N => k_asm); (case X => k_asm); (case T => k_asm); (case l1 => is_list); (case i1 => assumption); (case l2 => is_list); (case i2 => assumption); (case room => ktr_room); (case w0 => assumption); (case w1 => assumption); (case w2 => assumption); (case e1 => assumption); (case e2 => assumption); (case p1 => ktr_rel); (case p2 => ktr_rel); (case n1 => ktr_unf); (case n2 => ktr_unf); k_whole); intro D_q' ws_q' k_q' h_q' tk_q' zs_q' F_q' N_q' l1_q i1_q e1_q g1_q g2_q; (simp only [AllNe, and_true] at l1_q); (try k_sweep))
  exact trivial
theorem readyM511 : True := by
  k_with "call ref" => (k_here; (with_reducible show wpAny _ _ (call (Value.ref 53) [Value.ref _, Value.ref _]) _ _ _); k_dflt (refine' call_compareR _ ?F ?N ?X ?T ?l1 ?i1 ?l2 ?i2 ?room ?b0 ?e1 ?e2 ?p1 ?p2 ?n1 ?n2 ?_; (case F => k_asm); (case N => k_asm); (case X => k_asm); (case T => k_asm); (case l1 => is_list); (case i1 => assumption); (case l2 => is_list); (case i2 => assumption); (case room => ktr_room); (case b0 => assumption); (case e1 => assumption); (case e2 => assumption); (case p1 => ktr_rel); (case p2 => ktr_rel); (case n1 => ktr_unf); (case n2 => ktr_unf); k_whole); intro r_q' h_q' tk_q' tk2_q' e_q' F_q' N_q'; (try k_sweep))
  exact trivial
theorem readyM512 : True := by
  k_with "call ref" => (k_here; (with_reducible show wpAny _ _ (call (Value.ref 74) [Value.ref _, Value.ref _, Value.int _ _, Value.int _ _]) _ _ _); k_dflt (refine' call_add_at _ ?F ?N ?X ?T ?l1 ?i1 ?l2 ?i2 ?room ?w0 ?w1 ?w2 ?e1 ?e2 ?p1 ?p2 ?n1 ?n2 ?s0 ?s1 ?_; (case F => k_asm); (case N => k_asm); (case X => k_asm); (case T => k_asm); (case l1 => is_list); (case i1 => assumption); (case l2 => is_list); (case i2 => assumption); (case room => ktr_room); (case w0 => assumption); (case w1 => assumption); (case w2 => assumption); (case e1 => assumption); (case e2 => assumption); (case p1 => ktr_rel); (case p2 => ktr_rel); (case n1 => ktr_unf); (case n2 => ktr_unf); (case s0 => ktr_unf); (case s1 => ktr_unf); k_whole); intro D_q' ws_q' k_q' h_q' tk_q' zs_q' F_q' N_q' l1_q i1_q e1_q g1_q g2_q; (simp only [AllNe, and_true] at l1_q); (try k_sweep))
  exact trivial
section
variable (w : World) {p : Program} {loose : List Str} {mean : ExcName → Option Value} {mg mb : Str → Option Value} {dp : Nat} {fr : Option (List Env)} {gd : Option (List Code)} {un : Nat} {s : Shared} {Q E : Value → Shared → Prop}
  {a b : Addr} {vs us : List Value} {xs ys : List Int} {x y wd : Int} {tw : Tok} {B : Int}
set_option maxHeartbeats 8000000 in
theorem split_t {sp : Int} {tsp : Tok} 
  (X : (frag.heap_1 w.params).In s.heap) (T : Top p loose mean mg mb s.heap) (hroom : dp + 1 < recursionLimit) 
  (hl : s.heap.IsList a vs.toArray) (hi : IntsAre vs xs) (ex : xs = rowOf B x) (hn : xs.length ≤ 90)
  (hs0 : 0 ≤ sp) (hs : sp ≤ 90) (hB : 2 ≤ B) (hx : 0 ≤ x)
  (h : ∀ D D1 D2 h' tk' ws1 k1 ws2 k2, s.heap.StaysIn h' → s.heap.get? D = none → s.heap.get? D1 = none → s.heap.get? D2 = none → h'.get? D = some (tupO #[.ref D1, .ref D2]) → h'.get? D1 = some (W.listOf ws1.toArray k1) → h'.get? D2 = some (W.listOf ws2.toArray k2) →
    IntsAre ws1 (rowOf B (x % B ^ sp.toNat)) → IntsAre ws2 (rowOf B (x / B ^ sp.toNat)) → Q (.ref D) {s with heap := h', toks := tk'}) :
  wpAny (model PySem.Challenge.rw_nn0004_01.row.prog w) (mkA dp fr gd un) (call (.ref 81) [.ref a, .int sp tsp]) Q E s := by
  have hD : List.drop sp.toNat xs = rowOf B (x / B ^ sp.toNat) := by rw [ex, rowOf_drop hB hx]
  have hT : norm (List.take sp.toNat xs) = rowOf B (x % B ^ sp.toNat) := by rw [ex, norm_take hB hx]
  revert X; k_fill; intro X
  (k_dflt (refine' enter [((Str.ofString "a"), .ref a), ((Str.ofString "spot"), .int sp tsp)] (by assumption) (by assumption) ?k6 ?k7 (by dsimp only [mkA, Around.deeper]; omega) ?k9 ?kB ?_ ?c2 ?c3 ?c4 ?c5; (case k6 => k_is); (case k7 => k_is); (case k9 => exact BindsTo.of_eq rfl); (case c5 => decide); (case kB => exact locs rfl); (case c2 => exact rfl); (case c3 => exact rfl); (case c4 => exact rfl); k_whole; intro L' h' n F' N'); (try dsimp only); (try k_fold))
  k_with_none
  k_with "ktr_room" => ((try dsimp only [mkA, Around.deeper]); first | omega | decide)
  k_with "ktr_unf" => first | omega | ((simp only [List.length_append, List.length_cons, List.length_nil, rangeKs_length] at *); omega)
  k_with "ktr_rel" => first | assumption | omega
  k_with "subscriptTail Name Slice ref ref" => (k_here; (with_reducible show wpAny _ _ (subscriptTail _ (PySem.Expr.Slice (some _) (some _) none _) (Value.ref _) (Value.ref _)) _ _ _); k_dflt (refine' kmk_slice_ints ?F ?N ?l ?p ?q ?i ?m ?c ?_ ?s ?t ?z; (case F => k_asm); (case N => k_asm); (case l => kmk_list); (case p => kmk_part); (case q => kmk_part); (case i => l_ints); (case m => exact kmk_run (by l_ints) (by omega) (by omega)); (case c => kmk_len); (case s => with_unfolding_all rfl); (case t => kmk_pure); (case z => kmk_size)); intro D_q' ws_q' h_q' F_q' N_q' l1_q hI_q' hC_q' hL_q'; (try k_lt l1_q); (try k_sweep))
  k_with "subscriptTail Name Slice ref ref" => (k_here; (with_reducible show wpAny _ _ (subscriptTail _ (PySem.Expr.Slice (some _) none none _) (Value.ref _) (Value.ref _)) _ _ _); k_dflt (refine' kmk_slice_ints ?F ?N ?l ?p ?q ?i ?m ?c ?_ ?s ?t ?z; (case F => k_asm); (case N => k_asm); (case l => kmk_list); (case p => kmk_part); (case q => kmk_part); (case i => l_ints); (case m => exact kmk_from (by l_ints) (by omega)); (case c => kmk_len); (case s => with_unfolding_all rfl); (case t => kmk_pure); (case z => kmk_size)); intro D_q' ws_q' h_q' F_q' N_q' l1_q hI_q' hC_q' hL_q'; (try k_lt l1_q); (try k_sweep))
  k_with "subscriptTail Name Slice ref ref" => (k_here; (with_reducible show wpAny _ _ (subscriptTail _ (PySem.Expr.Slice none (some _) none _) (Value.ref _) (Value.ref _)) _ _ _); k_dflt (refine' kmk_slice_ints ?F ?N ?l ?p ?q ?i ?m ?c ?_ ?s ?t ?z; (case F => k_asm); (case N => k_asm); (case l => kmk_list); (case p => kmk_part); (case q => kmk_part); (case i => l_ints); (case m => exact kmk_upto (by l_ints) (by omega)); (case c => kmk_len); (case s => with_unfolding_all rfl); (case t => kmk_pure); (case z => kmk_size)); intro D_q' ws_q' h_q' F_q' N_q' l1_q hI_q' hC_q' hL_q'; (try k_lt l1_q); (try k_sweep))
  k_with "subscriptTail Name Slice ref ref" => (k_here; (with_reducible show wpAny _ _ (subscriptTail _ (PySem.Expr.Slice none none none _) (Value.ref _) (Value.ref _)) _ _ _); k_dflt (refine' kmk_slice_ints ?F ?N ?l ?p ?q ?i ?m ?c ?_ ?s ?t ?z; (case F => k_asm); (case N => k_asm); (case l => kmk_list); (case p => kmk_part); (case q => kmk_part); (case i => l_ints); (case m => exact kmk_all (by l_ints)); (case c => kmk_len); (case s => with_unfolding_all rfl); (case t => kmk_pure); (case z => kmk_size)); intro D_q' ws_q' h_q' F_q' N_q' l1_q hI_q' hC_q' hL_q'; (try k_lt l1_q); (try k_sweep))
  k_with "call ref" => (k_here; (with_reducible show wpAny _ _ (call (Value.ref 46) [Value.ref _]) _ _ _); k_dflt (refine' call_normal _ ?F ?N ?X ?T ?l1 ?i1 ?room ?n1 ?_; (case F => k_asm); (case N => k_asm); (case X => k_asm); (case T => k_asm); (case l1 => is_list); (case i1 => assumption); (case room => ktr_room); (case n1 => ktr_unf); k_whole); intro D_q' ws_q' k_q' h_q' tk_q' F_q' N_q' l1_q i1_q; (simp only [AllNe, and_true] at l1_q); (try k_sweep))
  k_with "call ref" => (k_here; (with_reducible show wpAny _ _ (call (Value.ref 60) [Value.ref _, Value.ref _, Value.int _ _]) _ _ _); k_dflt (refine' call_addR _ ?F ?N ?X ?T ?l1 ?i1 ?l2 ?i2 ?room ?w0 ?w1 ?w2 ?e1 ?e2 ?p1 ?p2 ?n1 ?n2 ?_; (case F => k_asm); (case N => k_asm); (case X => k_asm); (case T => k_asm); (case l1 => is_list); (case i1 => assumption); (case l2 => is_list); (case i2 => assumption); (case room => ktr_room); (case w0 => assumption); (case w1 => assumption); (case w2 => assumption); (case e1 => assumption); (case e2 => assumption); (case p1 => ktr_rel); (case p2 => ktr_rel); (case n1 => ktr_unf); (case n2 => ktr_unf); k_whole); intro D_q' ws_q' k_q' h_q' tk_q' zs_q' F_q' N_q' l1_q i1_q e1_q g1_q g2_q; (simp only [AllNe, and_true] at l1_q); (try k_sweep))
  k_with "call ref" => (k_here; (with_reducible show wpAny _ _ (call (Value.ref 67) [Value.ref _, Value.ref _, Value.int _ _]) _ _ _); k_dflt (refine' call_subR _ ?F ?N ?X ?T ?l1 ?i1 ?l2 ?i2 ?room ?w0 ?w1 ?w2 ?e1 ?e2 ?p1 ?p2 ?n1 ?n2 ?_; (case F => k_asm); (case N => k_asm); (case X => k_asm); (case T => k_asm); (case l1 => is_list); (case i1 => assumption); (case l2 => is_list); (case i2 => assumption); (case room => ktr_room); (case w0 => assumption); (case w1 => assumption); (case w2 => assumption); (case e1 => assumption); (case e2 => assumption); (case p1 => ktr_rel); (case p2 => ktr_rel); (case n1 => ktr_unf); (case n2 => ktr_unf); k_whole); intro D_q' ws_q' k_q' h_q' tk_q' zs_q' F_q' N_q' l1_q i1_q e1_q g1_q g2_q; (simp only [AllNe, and_true] at l1_q); (try k_sweep))
  k_with "call ref" => (k_here; (with_reducible show wpAny _ _ (call (Value.ref 53) [Value.ref _, Value.ref _]) _ _ _); k_dflt (refine' call_compareR _ ?F ?N ?X ?T ?l1 ?i1 ?l2 ?i2 ?room ?b0 ?e1 ?e2 ?p1 ?p2 ?n1 ?n2 ?_; (case F => k_asm); (case N => k_asm); (case X => k_asm); (case T => k_asm); (case l1 => is_list); (case i1 => assumption); (case l2 => is_list); (case i2 => assumption); (case room => ktr_room); (case b0 => assumption); (case e1 => assumption); (case e2 => assumption); (case p1 => ktr_rel); (case p2 => ktr_rel); (case n1 => ktr_unf); (case n2 => ktr_unf); k_whole); intro r_q' h_q' tk_q' tk2_q' e_q' F_q' N_q'; (try k_sweep))
  k_with "call ref" => (k_here; (with_reducible show wpAny _ _ (call (Value.ref 74) [Value.ref _, Value.ref _, Value.int _ _, Value.int _ _]) _ _ _); k_dflt (refine' call_add_at _ ?F ?N ?X ?T ?l1 ?i1 ?l2 ?i2 ?room ?w0 ?w1 ?w2 ?e1 ?e2 ?p1 ?p2 ?n1 ?n2 ?s0 ?s1 ?_; (case F => k_asm); (case N => k_asm); (case X => k_asm); (case T => k_asm); (case l1 => is_list); (case i1 => assumption); (case l2 => is_list); (case i2 => assumption); (case room => ktr_room); (case w0 => assumption); (case w1 => assumption); (case w2 => assumption); (case e1 => assumption); (case e2 => assumption); (case p1 => ktr_rel); (case p2 => ktr_rel); (case n1 => ktr_unf); (case n2 => ktr_unf); (case s0 => ktr_unf); (case s1 => ktr_unf); k_whole); intro D_q' ws_q' k_q' h_q' tk_q' zs_q' F_q' N_q' l1_q i1_q e1_q g1_q g2_q; (simp only [AllNe, and_true] at l1_q); (try k_sweep))
  k_steps
  (rename News _ _ _ _ => nE); (rename Fr _ _ _ _ => fE); (rename IntsAre _ (norm _) => iE); (rename IntsAre _ _ => iD)
  rw [hT] at iE
  rw [hD] at iD
  refine' h _ _ _ _ _ _ _ _ _ fE.keep (news_head nE).2 (isNew nE ?a).2 (isNew nE ?b).2 (news_head nE).1 (isNew nE ?a).1 (isNew nE ?b).1 iE iD
  case a => k_mem
  case b => k_mem
set_option maxHeartbeats 8000000 in
theorem piece_t {bi ei : Int} {tb te : Tok} 
  (X : (frag.heap_1 w.params).In s.heap) (T : Top p loose mean mg mb s.heap) (hroom : dp + 1 < recursionLimit) 
  (hl : s.heap.IsList a vs.toArray) (hi : IntsAre vs xs) (ex : xs = rowOf B x) (hn : xs.length ≤ 90)
  (hs0 : 0 ≤ bi) (hs1 : bi ≤ ei) (hs : ei ≤ 90) (hB : 2 ≤ B) (hx : 0 ≤ x)
  (h : ∀ D h' tk' ws k, s.heap.StaysIn h' → s.heap.get? D = none → h'.get? D = some (W.listOf ws.toArray k) → IntsAre ws (rowOf B (x / B ^ bi.toNat % B ^ (ei - bi).toNat)) → Q (.ref D) {s with heap := h', toks := tk'}) :
  wpAny (model PySem.Challenge.rw_nn0004_01.row.prog w) (mkA dp fr gd un) (call (.ref 88) [.ref a, .int bi tb, .int ei te]) Q E s := by
  have hT : norm (List.take (min ei.toNat xs.length - bi.toNat) (List.drop bi.toNat xs)) = rowOf B (x / B ^ bi.toNat % B ^ (ei - bi).toNat) := by
    rw [ex, norm_piece hB hx, show (ei - bi).toNat = ei.toNat - bi.toNat by omega]
  revert X; k_fill; intro X
  (k_dflt (refine' enter [((Str.ofString "a"), .ref a), ((Str.ofString "begin"), .int bi tb), ((Str.ofString "end"), .int ei te)] (by assumption) (by assumption) ?k6 ?k7 (by dsimp only [mkA, Around.deeper]; omega) ?k9 ?kB ?_ ?c2 ?c3 ?c4 ?c5; (case k6 => k_is); (case k7 => k_is); (case k9 => exact BindsTo.of_eq rfl); (case c5 => decide); (case kB => exact locs rfl); (case c2 => exact rfl); (case c3 => exact rfl); (case c4 => exact rfl); k_whole; intro L' h' n F' N'); (try dsimp only); (try k_fold))
  k_with_none
  k_with "ktr_room" => ((try dsimp only [mkA, Around.deeper]); first | omega | decide)
  k_with "ktr_unf" => first | omega | ((simp only [List.length_append, List.length_cons, List.length_nil, rangeKs_length] at *); omega)
  k_with "ktr_rel" => first | assumption | omega
  k_with "subscriptTail Name Slice ref ref" => (k_here; (with_reducible show wpAny _ _ (subscriptTail _ (PySem.Expr.Slice (some _) (some _) none _) (Value.ref _) (Value.ref _)) _ _ _); k_dflt (refine' kmk_slice_ints ?F ?N ?l ?p ?q ?i ?m ?c ?_ ?s ?t ?z; (case F => k_asm); (case N => k_asm); (case l => kmk_list); (case p => kmk_part); (case q => kmk_part); (case i => l_ints); (case m => exact kmk_run (by l_ints) (by omega) (by omega)); (case c => kmk_len); (case s => with_unfolding_all rfl); (case t => kmk_pure); (case z => kmk_size)); intro D_q' ws_q' h_q' F_q' N_q' l1_q hI_q' hC_q' hL_q'; (try k_lt l1_q); (try k_sweep))
  k_with "subscriptTail Name Slice ref ref" => (k_here; (with_reducible show wpAny _ _ (subscriptTail _ (PySem.Expr.Slice (some _) none none _) (Value.ref _) (Value.ref _)) _ _ _); k_dflt (refine' kmk_slice_ints ?F ?N ?l ?p ?q ?i ?m ?c ?_ ?s ?t ?z; (case F => k_asm); (case N => k_asm); (case l => kmk_list); (case p => kmk_part); (case q => kmk_part); (case i => l_ints); (case m => exact kmk_from (by l_ints) (by omega)); (case c => kmk_len); (case s => with_unfolding_all rfl); (case t => kmk_pure); (case z => kmk_size)); intro D_q' ws_q' h_q' F_q' N_q' l1_q hI_q' hC_q' hL_q'; (try k_lt l1_q); (try k_sweep))
  k_with "subscriptTail Name Slice ref ref" => (k_here; (with_reducible show wpAny _ _ (subscriptTail _ (PySem.Expr.Slice none (some _) none _) (Value.ref _) (Value.ref _)) _ _ _); k_dflt (refine' kmk_slice_ints ?F ?N ?l ?p ?q ?i ?m ?c ?_ ?s ?t ?z; (case F => k_asm); (case N => k_asm); (case l => kmk_list); (case p => kmk_part); (case q => kmk_part); (case i => l_ints); (case m => exact kmk_upto (by l_ints) (by omega)); (case c => kmk_len); (case s => with_unfolding_all rfl); (case t => kmk_pure); (case z => kmk_size)); intro D_q' ws_q' h_q' F_q' N_q' l1_q hI_q' hC_q' hL_q'; (try k_lt l1_q); (try k_sweep))
  k_with "subscriptTail Name Slice ref ref" => (k_here; (with_reducible show wpAny _ _ (subscriptTail _ (PySem.Expr.Slice none none none _) (Value.ref _) (Value.ref _)) _ _ _); k_dflt (refine' kmk_slice_ints ?F ?N ?l ?p ?q ?i ?m ?c ?_ ?s ?t ?z; (case F => k_asm); (case N => k_asm); (case l => kmk_list); (case p => kmk_part); (case q => kmk_part); (case i => l_ints); (case m => exact kmk_all (by l_ints)); (case c => kmk_len); (case s => with_unfolding_all rfl); (case t => kmk_pure); (case z => kmk_size)); intro D_q' ws_q' h_q' F_q' N_q' l1_q hI_q' hC_q' hL_q'; (try k_lt l1_q); (try k_sweep))
  k_with "call ref" => (k_here; (with_reducible show wpAny _ _ (call (Value.ref 46) [Value.ref _]) _ _ _); k_dflt (refine' call_normal _ ?F ?N ?X ?T ?l1 ?i1 ?room ?n1 ?_; (case F => k_asm); (case N => k_asm); (case X => k_asm); (case T => k_asm); (case l1 => is_list); (case i1 => assumption); (case room => ktr_room); (case n1 => ktr_unf); k_whole); intro D_q' ws_q' k_q' h_q' tk_q' F_q' N_q' l1_q i1_q; (simp only [AllNe, and_true] at l1_q); (try k_sweep))
  k_with "call ref" => (k_here; (with_reducible show wpAny _ _ (call (Value.ref 60) [Value.ref _, Value.ref _, Value.int _ _]) _ _ _); k_dflt (refine' call_addR _ ?F ?N ?X ?T ?l1 ?i1 ?l2 ?i2 ?room ?w0 ?w1 ?w2 ?e1 ?e2 ?p1 ?p2 ?n1 ?n2 ?_; (case F => k_asm); (case N => k_asm); (case X => k_asm); (case T => k_asm); (case l1 => is_list); (case i1 => assumption); (case l2 => is_list); (case i2 => assumption); (case room => ktr_room); (case w0 => assumption); (case w1 => assumption); (case w2 => assumption); (case e1 => assumption); (case e2 => assumption); (case p1 => ktr_rel); (case p2 => ktr_rel); (case n1 => ktr_unf); (case n2 => ktr_unf); k_whole); intro D_q' ws_q' k_q' h_q' tk_q' zs_q' F_q' N_q' l1_q i1_q e1_q g1_q g2_q; (simp only [AllNe, and_true] at l1_q); (try k_sweep))
  k_with "call ref" => (k_here; (with_reducible show wpAny _ _ (call (Value.ref 67) [Value.ref _, Value.ref _, Value.int _ _]) _ _ _); k_dflt (refine' call_subR _ ?F ?N ?X ?T ?l1 ?i1 ?l2 ?i2 ?room ?w0 ?w1 ?w2 ?e1 ?e2 ?p1 ?p2 ?n1 ?n2 ?_; (case F => k_asm); (case N => k_asm); (case X => k_asm); (case T => k_asm); (case l1 => is_list); (case i1 => assumption); (case l2 => is_list); (case i2 => assumption); (case room => ktr_room); (case w0 => assumption); (case w1 => assumption); (case w2 => assumption); (case e1 => assumption); (case e2 => assumption); (case p1 => ktr_rel); (case p2 => ktr_rel); (case n1 => ktr_unf); (case n2 => ktr_unf); k_whole); intro D_q' ws_q' k_q' h_q' tk_q' zs_q' F_q' N_q' l1_q i1_q e1_q g1_q g2_q; (simp only [AllNe, and_true] at l1_q); (try k_sweep))
  k_with "call ref" => (k_here; (with_reducible show wpAny _ _ (call (Value.ref 53) [Value.ref _, Value.ref _]) _ _ _); k_dflt (refine' call_compareR _ ?F ?N ?X ?T ?l1 ?i1 ?l2 ?i2 ?room ?b0 ?e1 ?e2 ?p1 ?p2 ?n1 ?n2 ?_; (case F => k_asm); (case N => k_asm); (case X => k_asm); (case T => k_asm); (case l1 => is_list); (case i1 => assumption); (case l2 => is_list); (case i2 => assumption); (case room => ktr_room); (case b0 => assumption); (case e1 => assumption); (case e2 => assumption); (case p1 => ktr_rel); (case p2 => ktr_rel); (case n1 => ktr_unf); (case n2 => ktr_unf); k_whole); intro r_q' h_q' tk_q' tk2_q' e_q' F_q' N_q'; (try k_sweep))
  k_with "call ref" => (k_here; (with_reducible show wpAny _ _ (call (Value.ref 74) [Value.ref _, Value.ref _, Value.int _ _, Value.int _ _]) _ _ _); k_dflt (refine' call_add_at _ ?F ?N ?X ?T ?l1 ?i1 ?l2 ?i2 ?room ?w0 ?w1 ?w2 ?e1 ?e2 ?p1 ?p2 ?n1 ?n2 ?s0 ?s1 ?_; (case F => k_asm); (case N => k_asm); (case X => k_asm); (case T => k_asm); (case l1 => is_list); (case i1 => assumption); (case l2 => is_list); (case i2 => assumption); (case room => ktr_room); (case w0 => assumption); (case w1 => assumption); (case w2 => assumption); (case e1 => assumption); (case e2 => assumption); (case p1 => ktr_rel); (case p2 => ktr_rel); (case n1 => ktr_unf); (case n2 => ktr_unf); (case s0 => ktr_unf); (case s1 => ktr_unf); k_whole); intro D_q' ws_q' k_q' h_q' tk_q' zs_q' F_q' N_q' l1_q i1_q e1_q g1_q g2_q; (simp only [AllNe, and_true] at l1_q); (try k_sweep))
  k_steps
  (rename News _ _ _ _ => nE); (rename Fr _ _ _ _ => fE); (rename IntsAre _ _ => iE)
  refine h _ _ _ _ _ fE.keep (news_head nE).2 (news_head nE).1 ?_
  rw [hT] at iE
  exact iE
set_option maxHeartbeats 8000000 in
theorem difference_t
  (X : (frag.heap_1 w.params).In s.heap) (T : Top p loose mean mg mb s.heap) (hroom : dp + 2 < recursionLimit) 
  (hl : s.heap.IsList a vs.toArray) (hi : IntsAre vs xs) (ex : xs = rowOf B x) (hn : xs.length ≤ 90)
  (hl2 : s.heap.IsList b us.toArray) (hi2 : IntsAre us ys) (ey : ys = rowOf B y) (hn2 : ys.length ≤ 90)
  (hBw : B = Bw wd) (hw : 2 ≤ wd) (hw2 : wd ≤ 9) (hx : 0 ≤ x) (hy : 0 ≤ y)
  (h : ∀ D D1 h' tk' ws1 k1, s.heap.StaysIn h' → s.heap.get? D = none → s.heap.get? D1 = none → h'.get? D = some (tupO #[.bool (decide (x < y)), .ref D1]) → h'.get? D1 = some (W.listOf ws1.toArray k1) →
    IntsAre ws1 (rowOf B ((x - y).natAbs : Int)) → Q (.ref D) {s with heap := h', toks := tk'}) :
  wpAny (model PySem.Challenge.rw_nn0004_01.row.prog w) (mkA dp fr gd un) (call (.ref 95) [.ref a, .ref b, .int wd tw]) Q E s := by
  have hB : 2 ≤ B := hBw ▸ Bw_ge hw
  revert X; k_fill; intro X
  (k_dflt (refine' enter [((Str.ofString "a"), .ref a), ((Str.ofString "b"), .ref b), ((Str.ofString "w"), .int wd tw)] (by assumption) (by assumption) ?k6 ?k7 (by dsimp only [mkA, Around.deeper]; omega) ?k9 ?kB ?_ ?c2 ?c3 ?c4 ?c5; (case k6 => k_is); (case k7 => k_is); (case k9 => exact BindsTo.of_eq rfl); (case c5 => decide); (case kB => exact locs rfl); (case c2 => exact rfl); (case c3 => exact rfl); (case c4 => exact rfl); k_whole; intro L' h' n F' N'); (try dsimp only); (try k_fold))
  k_with_none
  k_with "ktr_room" => ((try dsimp only [mkA, Around.deeper]); first | omega | decide)
  k_with "ktr_unf" => first | omega | ((simp only [List.length_append, List.length_cons, List.length_nil, rangeKs_length] at *); omega)
  k_with "ktr_rel" => first | assumption | omega
  k_with "subscriptTail Name Slice ref ref" => (k_here; (with_reducible show wpAny _ _ (subscriptTail _ (PySem.Expr.Slice (some _) (some _) none _) (Value.ref _) (Value.ref _)) _ _ _); k_dflt (refine' kmk_slice_ints ?F ?N ?l ?p ?q ?i ?m ?c ?_ ?s ?t ?z; (case F => k_asm); (case N => k_asm); (case l => kmk_list); (case p => kmk_part); (case q => kmk_part); (case i => l_ints); (case m => exact kmk_run (by l_ints) (by omega) (by omega)); (case c => kmk_len); (case s => with_unfolding_all rfl); (case t => kmk_pure); (case z => kmk_size)); intro D_q' ws_q' h_q' F_q' N_q' l1_q hI_q' hC_q' hL_q'; (try k_lt l1_q); (try k_sweep))
  k_with "subscriptTail Name Slice ref ref" => (k_here; (with_reducible show wpAny _ _ (subscriptTail _ (PySem.Expr.Slice (some _) none none _) (Value.ref _) (Value.ref _)) _ _ _); k_dflt (refine' kmk_slice_ints ?F ?N ?l ?p ?q ?i ?m ?c ?_ ?s ?t ?z; (case F => k_asm); (case N => k_asm); (case l => kmk_list); (case p => kmk_part); (case q => kmk_part); (case i => l_ints); (case m => exact kmk_from (by l_ints) (by omega)); (case c => kmk_len); (case s => with_unfolding_all rfl); (case t => kmk_pure); (case z => kmk_size)); intro D_q' ws_q' h_q' F_q' N_q' l1_q hI_q' hC_q' hL_q'; (try k_lt l1_q); (try k_sweep))
  k_with "subscriptTail Name Slice ref ref" => (k_here; (with_reducible show wpAny _ _ (subscriptTail _ (PySem.Expr.Slice none (some _) none _) (Value.ref _) (Value.ref _)) _ _ _); k_dflt (refine' kmk_slice_ints ?F ?N ?l ?p ?q ?i ?m ?c ?_ ?s ?t ?z; (case F => k_asm); (case N => k_asm); (case l => kmk_list); (case p => kmk_part); (case q => kmk_part); (case i => l_ints); (case m => exact kmk_upto (by l_ints) (by omega)); (case c => kmk_len); (case s => with_unfolding_all rfl); (case t => kmk_pure); (case z => kmk_size)); intro D_q' ws_q' h_q' F_q' N_q' l1_q hI_q' hC_q' hL_q'; (try k_lt l1_q); (try k_sweep))
  k_with "subscriptTail Name Slice ref ref" => (k_here; (with_reducible show wpAny _ _ (subscriptTail _ (PySem.Expr.Slice none none none _) (Value.ref _) (Value.ref _)) _ _ _); k_dflt (refine' kmk_slice_ints ?F ?N ?l ?p ?q ?i ?m ?c ?_ ?s ?t ?z; (case F => k_asm); (case N => k_asm); (case l => kmk_list); (case p => kmk_part); (case q => kmk_part); (case i => l_ints); (case m => exact kmk_all (by l_ints)); (case c => kmk_len); (case s => with_unfolding_all rfl); (case t => kmk_pure); (case z => kmk_size)); intro D_q' ws_q' h_q' F_q' N_q' l1_q hI_q' hC_q' hL_q'; (try k_lt l1_q); (try k_sweep))
  k_with "call ref" => (k_here; (with_reducible show wpAny _ _ (call (Value.ref 46) [Value.ref _]) _ _ _); k_dflt (refine' call_normal _ ?F ?N ?X ?T ?l1 ?i1 ?room ?n1 ?_; (case F => k_asm); (case N => k_asm); (case X => k_asm); (case T => k_asm); (case l1 => is_list); (case i1 => assumption); (case room => ktr_room); (case n1 => ktr_unf); k_whole); intro D_q' ws_q' k_q' h_q' tk_q' F_q' N_q' l1_q i1_q; (simp only [AllNe, and_true] at l1_q); (try k_sweep))
  k_with "call ref" => (k_here; (with_reducible show wpAny _ _ (call (Value.ref 60) [Value.ref _, Value.ref _, Value.int _ _]) _ _ _); k_dflt (refine' call_addR _ ?F ?N ?X ?T ?l1 ?i1 ?l2 ?i2 ?room ?w0 ?w1 ?w2 ?e1 ?e2 ?p1 ?p2 ?n1 ?n2 ?_; (case F => k_asm); (case N => k_asm); (case X => k_asm); (case T => k_asm); (case l1 => is_list); (case i1 => assumption); (case l2 => is_list); (case i2 => assumption); (case room => ktr_room); (case w0 => assumption); (case w1 => assumption); (case w2 => assumption); (case e1 => assumption); (case e2 => assumption); (case p1 => ktr_rel); (case p2 => ktr_rel); (case n1 => ktr_unf); (case n2 => ktr_unf); k_whole); intro D_q' ws_q' k_q' h_q' tk_q' zs_q' F_q' N_q' l1_q i1_q e1_q g1_q g2_q; (simp only [AllNe, and_true] at l1_q); (try k_sweep))
  k_with "call ref" => (k_here; (with_reducible show wpAny _ _ (call (Value.ref 67) [Value.ref _, Value.ref _, Value.int _ _]) _ _ _); k_dflt (refine' call_subR _ ?F ?N ?X ?T ?l1 ?i1 ?l2 ?i2 ?room ?w0 ?w1 ?w2 ?e1 ?e2 ?p1 ?p2 ?n1 ?n2 ?_; (case F => k_asm); (case N => k_asm); (case X => k_asm); (case T => k_asm); (case l1 => is_list); (case i1 => assumption); (case l2 => is_list); (case i2 => assumption); (case room => ktr_room); (case w0 => assumption); (case w1 => assumption); (case w2 => assumption); (case e1 => assumption); (case e2 => assumption); (case p1 => ktr_rel); (case p2 => ktr_rel); (case n1 => ktr_unf); (case n2 => ktr_unf); k_whole); intro D_q' ws_q' k_q' h_q' tk_q' zs_q' F_q' N_q' l1_q i1_q e1_q g1_q g2_q; (simp only [AllNe, and_true] at l1_q); (try k_sweep))
  k_with "call ref" => (k_here; (with_reducible show wpAny _ _ (call (Value.ref 53) [Value.ref _, Value.ref _]) _ _ _); k_dflt (refine' call_compareR _ ?F ?N ?X ?T ?l1 ?i1 ?l2 ?i2 ?room ?b0 ?e1 ?e2 ?p1 ?p2 ?n1 ?n2 ?_; (case F => k_asm); (case N => k_asm); (case X => k_asm); (case T => k_asm); (case l1 => is_list); (case i1 => assumption); (case l2 => is_list); (case i2 => assumption); (case room => ktr_room); (case b0 => assumption); (case e1 => assumption); (case e2 => assumption); (case p1 => ktr_rel); (case p2 => ktr_rel); (case n1 => ktr_unf); (case n2 => ktr_unf); k_whole); intro r_q' h_q' tk_q' tk2_q' e_q' F_q' N_q'; (try k_sweep))
  k_with "call ref" => (k_here; (with_reducible show wpAny _ _ (call (Value.ref 74) [Value.ref _, Value.ref _, Value.int _ _, Value.int _ _]) _ _ _); k_dflt (refine' call_add_at _ ?F ?N ?X ?T ?l1 ?i1 ?l2 ?i2 ?room ?w0 ?w1 ?w2 ?e1 ?e2 ?p1 ?p2 ?n1 ?n2 ?s0 ?s1 ?_; (case F => k_asm); (case N => k_asm); (case X => k_asm); (case T => k_asm); (case l1 => is_list); (case i1 => assumption); (case l2 => is_list); (case i2 => assumption); (case room => ktr_room); (case w0 => assumption); (case w1 => assumption); (case w2 => assumption); (case e1 => assumption); (case e2 => assumption); (case p1 => ktr_rel); (case p2 => ktr_rel); (case n1 => ktr_unf); (case n2 => ktr_unf); (case s0 => ktr_unf); (case s1 => ktr_unf); k_whole); intro D_q' ws_q' k_q' h_q' tk_q' zs_q' F_q' N_q' l1_q i1_q e1_q g1_q g2_q; (simp only [AllNe, and_true] at l1_q); (try k_sweep))
  k_steps
  · (rename News _ _ _ _ => nE); (rename Fr _ _ _ _ => fE); (rename IntsAre _ _ => iE); (rename _ = rowOf B (y - x) => eE)
    have hlt : x < y := by omega
    rw [decide_eq_true hlt] at h
    refine' h _ _ _ _ _ _ fE.keep (news_head nE).2 (isNew nE ?a).2 (news_head nE).1 (isNew nE ?a).1 ?_
    case a => k_mem
    rw [eE] at iE
    rw [show ((x - y).natAbs : Int) = y - x by omega]
    exact iE
  · (rename News _ _ _ _ => nE); (rename Fr _ _ _ _ => fE); (rename IntsAre _ _ => iE); (rename _ = rowOf B (x - y) => eE)
    have hlt : ¬ x < y := by omega
    rw [decide_eq_false hlt] at h
    refine' h _ _ _ _ _ _ fE.keep (news_head nE).2 (isNew nE ?a).2 (news_head nE).1 (isNew nE ?a).1 ?_
    case a => k_mem
    rw [eE] at iE
    rw [show ((x - y).natAbs : Int) = x - y by omega]
    exact iE
end
end Mine

end
section
open PySem PySem.W PyProof.Rows PySem.Calls
set_option Elab.async false
set_option maxRecDepth 100000
namespace Mine
theorem freshM6 : True := by
  w_top off
  k_with_none
  exact trivial
section
variable (w : World) {p : Program} {loose : List Str} {mean : ExcName → Option Value} {mg mb : Str → Option Value} {dp : Nat} {fr : Option (List Env)} {gd : Option (List Code)} {un : Nat} {s : Shared} {Q E : Value → Shared → Prop}
  {h₀ : Heap} {L : Addr} {m : Str → Option Value} {news : List (Addr × Obj)} {a b c : Addr} {vs us ts : List Value} {xs ys zs₀ : List Int} {x y z wd : Int} {tw : Tok} {B : Int}
theorem call_split {sp : Int} {tsp : Tok} (F : Fr h₀ L s.heap m) (N : News h₀ L s.heap news) (X : (frag.heap_1 w.params).In h₀) (T : Top p loose mean mg mb h₀)
  (hl : s.heap.IsList a vs.toArray) (hi : IntsAre vs xs)
  (hroom : dp + 1 < recursionLimit) (hB : 2 ≤ B) (ex : xs = rowOf B x) (hx : 0 ≤ x) (hn : xs.length ≤ 90) (hs0 : 0 ≤ sp) (hs : sp ≤ 90)
  (ret : ∀ D D1 D2 ws1 k1 ws2 k2 h' tk' zs1 zs2, Fr h₀ L h' m → News h₀ L h' ((D, tupO #[.ref D1, .ref D2]) :: (D1, W.listOf ws1.toArray k1) :: (D2, W.listOf ws2.toArray k2) :: news) → AllNe D news → AllNe D1 news → AllNe D2 news →
    IntsAre ws1 zs1 → IntsAre ws2 zs2 → zs1 = rowOf B (x % B ^ sp.toNat) → zs2 = rowOf B (x / B ^ sp.toNat) → 0 ≤ x % B ^ sp.toNat → 0 ≤ x / B ^ sp.toNat → zs1.length ≤ min sp.toNat xs.length → zs2.length = xs.length - sp.toNat → Q (.ref D) {s with heap := h', toks := tk'}) :
  wpAny (model PySem.Challenge.rw_nn0004_01.row.prog w) (mkA dp fr gd un) (call (.ref 81) [.ref a, .int sp tsp]) Q E s := by
  have hp := pow_pos' hB sp.toNat
  refine split_t w (X.keeps F.keep) (T.keeps F.keep) hroom hl hi ex hn hs0 hs hB hx fun D D1 D2 h' tk' ws1 k1 ws2 k2 st f f1 f2 o o1 o2 i1 i2 => ?_
  obtain ⟨F', N1, l1⟩ := made F N st f o
  obtain ⟨_, N2, l2⟩ := made F N st f1 o1
  obtain ⟨_, N3, l3⟩ := made F N st f2 o2
  have e1 := len_mod hB (x := x) sp.toNat
  have e2 := len_modle hB hx sp.toNat
  refine ret D D1 D2 ws1 k1 ws2 k2 h' tk' _ _ F' (news_three N1 N2 N3) l1 l2 l3 i1 i2 rfl rfl (Int.emod_nonneg _ (by omega)) (Int.ediv_nonneg hx (by omega)) ?_ ?_
  · rw [ex]; omega
  · rw [ex, len_div hB hx]
theorem call_piece {bi ei : Int} {tb te : Tok} (F : Fr h₀ L s.heap m) (N : News h₀ L s.heap news) (X : (frag.heap_1 w.params).In h₀) (T : Top p loose mean mg mb h₀)
  (hl : s.heap.IsList a vs.toArray) (hi : IntsAre vs xs)
  (hroom : dp + 1 < recursionLimit) (hB : 2 ≤ B) (ex : xs = rowOf B x) (hx : 0 ≤ x) (hn : xs.length ≤ 90) (hs0 : 0 ≤ bi) (hs1 : bi ≤ ei) (hs : ei ≤ 90)
  (ret : ∀ D ws k h' tk' zs, Fr h₀ L h' m → News h₀ L h' ((D, W.listOf ws.toArray k) :: news) → AllNe D news → IntsAre ws zs → zs = rowOf B (x / B ^ bi.toNat % B ^ (ei - bi).toNat) → 0 ≤ x / B ^ bi.toNat % B ^ (ei - bi).toNat → zs.length ≤ (ei - bi).toNat → Q (.ref D) {s with heap := h', toks := tk'}) :
  wpAny (model PySem.Challenge.rw_nn0004_01.row.prog w) (mkA dp fr gd un) (call (.ref 88) [.ref a, .int bi tb, .int ei te]) Q E s := by
  have hp := pow_pos' hB (ei - bi).toNat
  refine piece_t w (X.keeps F.keep) (T.keeps F.keep) hroom hl hi ex hn hs0 hs1 hs hB hx fun D h' tk' ws k st hf ho hI => ?_
  obtain ⟨F', N', l⟩ := made F N st hf ho
  exact ret D ws k h' tk' _ F' N' l hI rfl (Int.emod_nonneg _ (by omega)) (len_mod hB _)
theorem call_difference (F : Fr h₀ L s.heap m) (N : News h₀ L s.heap news) (X : (frag.heap_1 w.params).In h₀) (T : Top p loose mean mg mb h₀)
  (hl : s.heap.IsList a vs.toArray) (hi : IntsAre vs xs) (hl2 : s.heap.IsList b us.toArray) (hi2 : IntsAre us ys)
  (hroom : dp + 2 < recursionLimit) (hBw : B = Bw wd) (hw : 2 ≤ wd) (hw2 : wd ≤ 9) (ex : xs = rowOf B x) (ey : ys = rowOf B y) (hx : 0 ≤ x) (hy : 0 ≤ y) (hn : xs.length ≤ 90) (hn2 : ys.length ≤ 90)
  (ret : ∀ D D1 ws k h' tk' zs, Fr h₀ L h' m → News h₀ L h' ((D, tupO #[.bool (decide (x < y)), .ref D1]) :: (D1, W.listOf ws.toArray k) :: news) → AllNe D news → AllNe D1 news → IntsAre ws zs → zs = rowOf B ((x - y).natAbs : Int) → 0 ≤ ((x - y).natAbs : Int) → zs.length ≤ max xs.length ys.length → Q (.ref D) {s with heap := h', toks := tk'}) :
  wpAny (model PySem.Challenge.rw_nn0004_01.row.prog w) (mkA dp fr gd un) (call (.ref 95) [.ref a, .ref b, .int wd tw]) Q E s := by
  have hB : 2 ≤ B := hBw ▸ Bw_ge hw
  refine difference_t w (X.keeps F.keep) (T.keeps F.keep) hroom hl hi ex hn hl2 hi2 ey hn2 hBw hw hw2 hx hy fun D D1 h' tk' ws k st f f1 o o1 hI => ?_
  obtain ⟨F', N1, l1⟩ := made F N st f o
  obtain ⟨_, N2, l2⟩ := made F N st f1 o1
  refine ret D D1 ws k h' tk' _ F' (news_two N1 N2) l1 l2 hI rfl (by omega) ?_
  rw [ex, ey]
  rcases Int.lt_or_le x y with q | q
  · have := len_mono hB (show 0 ≤ ((x - y).natAbs : Int) by omega) (show ((x - y).natAbs : Int) ≤ y by omega)
    omega
  · have := len_mono hB (show 0 ≤ ((x - y).natAbs : Int) by omega) (show ((x - y).natAbs : Int) ≤ x by omega)
    omega
end
local macro_rules | `(tactic| ktr_room) => `(tactic| k_extra "ktr_room")
theorem readyM61 : True := by
  k_with "ktr_room" => ((try dsimp only [mkA, Around.deeper]); first | omega | decide)
  exact trivial
local macro_rules | `(tactic| ktr_unf) => `(tactic| k_extra "ktr_unf")
theorem readyM62 : True := by
  k_with "ktr_unf" => first | omega | ((simp only [List.length_append, List.length_cons, List.length_nil, rangeKs_length] at *); omega)
  exact trivial
local macro_rules | `(tactic| ktr_rel) => `(tactic| k_extra "ktr_rel")
theorem readyM63 : True := by
  k_with "ktr_rel" => first | assumption | omega
  exact trivial
local macro_rules | `(tactic| walk_at "subscriptTail Name Slice ref ref") => `(tactic| k_extra "subscriptTail Name Slice ref ref")
theorem readyM64 : True := by
  k_with "subscriptTail Name Slice ref ref" => (k_here; (with_reducible show wpAny _ _ (subscriptTail _ (PySem.Expr.Slice (some _) (some _) none _) (Value.ref _) (Value.ref _)) _ _ _); k_dflt (refine' kmk_slice_ints ?F ?N ?l ?p ?q ?i ?m ?c ?_ ?s ?t ?z; (case F => k_asm); (case N => k_asm); (case l => kmk_list); (case p => kmk_part); (case q => kmk_part); (case i => l_ints); (case m => exact kmk_run (by l_ints) (by omega) (by omega)); (case c => kmk_len); (case s => with_unfolding_all rfl); (case t => kmk_pure); (case z => kmk_size)); intro D_q' ws_q' h_q' F_q' N_q' l1_q hI_q' hC_q' hL_q'; (try k_lt l1_q); (try k_sweep))
  exact trivial
theorem readyM65 : True := by
  k_with "subscriptTail Name Slice ref ref" => (k_here; (with_reducible show wpAny _ _ (subscriptTail _ (PySem.Expr.Slice (some _) none none _) (Value.ref _) (Value.ref _)) _ _ _); k_dflt (refine' kmk_slice_ints ?F ?N ?l ?p ?q ?i ?m ?c ?_ ?s ?t ?z; (case F => k_asm); (case N => k_asm); (case l => kmk_list); (case p => kmk_part); (case q => kmk_part); (case i => l_ints); (case m => exact kmk_from (by l_ints) (by omega)); (case c => kmk_len); (case s => with_unfolding_all rfl); (case t => kmk_pure); (case z => kmk_size)); intro D_q' ws_q' h_q' F_q' N_q' l1_q hI_q' hC_q' hL_q'; (try k_lt l1_q); (try k_sweep))
  exact trivial
theorem readyM66 : True := by
  k_with "subscriptTail Name Slice ref ref" => (k_here; (with_reducible show wpAny _ _ (subscriptTail _ (PySem.Expr.Slice none (some _) none _) (Value.ref _) (Value.ref _)) _ _ _); k_dflt (refine' kmk_slice_ints ?F ?N ?l ?p ?q ?i ?m ?c ?_ ?s ?t ?z; (case F => k_asm); (case N => k_asm); (case l => kmk_list); (case p => kmk_part); (case q => kmk_part); (case i => l_ints); (case m => exact kmk_upto (by l_ints) (by omega)); (case c => kmk_len); (case s => with_unfolding_all rfl); (case t => kmk_pure); (case z => kmk_size)); intro D_q' ws_q' h_q' F_q' N_q' l1_q hI_q' hC_q' hL_q'; (try k_lt l1_q); (try k_sweep))
  exact trivial
theorem readyM67 : True := by
  k_with "subscriptTail Name Slice ref ref" => (k_here; (with_reducible show wpAny _ _ (subscriptTail _ (PySem.Expr.Slice none none none _) (Value.ref _) (Value.ref _)) _ _ _); k_dflt (refine' kmk_slice_ints ?F ?N ?l ?p ?q ?i ?m ?c ?_ ?s ?t ?z; (case F => k_asm); (case N => k_asm); (case l => kmk_list); (case p => kmk_part); (case q => kmk_part); (case i => l_ints); (case m => exact kmk_all (by l_ints)); (case c => kmk_len); (case s => with_unfolding_all rfl); (case t => kmk_pure); (case z => kmk_size)); intro D_q' ws_q' h_q' F_q' N_q' l1_q hI_q' hC_q' hL_q'; (try k_lt l1_q); (try k_sweep))
  exact trivial
local macro_rules | `(tactic| walk_at "call ref") => `(tactic| k_extra "call ref")
theorem readyM68 : True := by
  k_with "call ref" => (k_here; (with_reducible show wpAny _ _ (call (Value.ref 60) [Value.ref _, Value.ref _, Value.int _ _]) _ _ _); k_dflt (refine' call_addR _ ?F ?N ?X ?T ?l1 ?i1 ?l2 ?i2 ?room ?w0 ?w1 ?w2 ?e1 ?e2 ?p1 ?p2 ?n1 ?n2 ?_; (case F => k_asm); (case N => k_asm); (case X => k_asm); (case T => k_asm); (case l1 => is_list); (case i1 => assumption); (case l2 => is_list); (case i2 => assumption); (case room => ktr_room); (case w0 => assumption); (case w1 => assumption); (case w2 => assumption); (case e1 => assumption); (case e2 => assumption); (case p1 => ktr_rel); (case p2 => ktr_rel); (case n1 => ktr_unf); (case n2 => ktr_unf); k_whole); intro D_q' ws_q' k_q' h_q' tk_q' zs_q' F_q' N_q' l1_q i1_q e1_q g1_q g2_q; (simp only [AllNe, and_true] at l1_q); (try k_sweep))
  exact trivial
theorem readyM69 : True := by
  k_with "call ref" => (k_here; (with_reducible show wpAny _ _ (call (Value.ref 67) [Value.ref _, Value.ref _, Value.int _ _]) _ _ _); k_dflt (refine' call_subR _ ?F ?N ?X ?T ?l1 ?i1 ?l2 ?i2 ?room ?w0 ?w1 ?w2 ?e1 ?e2 ?p1 ?p2 ?n1 ?n2 ?_; (case F => k_asm); (case N => k_asm); (case X => k_asm); (case T => k_asm); (case l1 => is_list); (case i1 => assumption); (case l2 => is_list); (case i2 => assumption); (case room => ktr_room); (case w0 => assumption); (case w1 => assumption); (case w2 => assumption); (case e1 => assumption); (case e2 => assumption); (case p1 => ktr_rel); (case p2 => ktr_rel); (case n1 => ktr_unf); (case n2 => ktr_unf); k_whole); intro D_q' ws_q' k_q' h_q' tk_q' zs_q' F_q' N_q' l1_q i1_q e1_q g1_q g2_q; (simp only [AllNe, and_true] at l1_q); (try k_sweep))
  exact trivial
theorem readyM610 : True := by
  k_with "call ref" => (k_here; (with_reducible show wpAny _ _ (call (Value.ref 74) [Value.ref _, Value.ref _, Value.int _ _, Value.int _ _]) _ _ _); k_dflt (refine' call_add_at _ ?F ?N ?X ?T ?l1 ?i1 ?l2 ?i2 ?room ?w0 ?w1 ?w2 ?e1 ?e2 ?p1 ?p2 ?n1 ?n2 ?s0 ?s1 ?_; (case F => k_asm); (case N => k_asm); (case X => k_asm); (case T => k_asm); (case l1 => is_list); (case i1 => assumption); (case l2 => is_list); (case i2 => assumption); (case room => ktr_room); (case w0 => assumption); (case w1 => assumption); (case w2 => assumption); (case e1 => assumption); (case e2 => assumption); (case p1 => ktr_rel); (case p2 => ktr_rel); (case n1 => ktr_unf); (case n2 => ktr_unf); (case s0 => ktr_unf); (case s1 => ktr_unf); k_whole); intro D_q' ws_q' k_q' h_q' tk_q' zs_q' F_q' N_q' l1_q i1_q e1_q g1_q g2_q; (simp only [AllNe, and_true] at l1_q); (try k_sweep))
  exact trivial
section
variable (w : World) {p : Program} {loose : List Str} {mean : ExcName → Option Value} {mg mb : Str → Option Value} {dp : Nat} {fr : Option (List Env)} {gd : Option (List Code)} {un : Nat} {s : Shared} {Q E : Value → Shared → Prop}
  {a b c : Addr} {vs us ts : List Value} {xs ys zs₀ : List Int} {x y z wd : Int} {tw : Tok} {B : Int}
set_option maxHeartbeats 8000000 in
theorem put_together_t {sp : Int} {tsp : Tok} 
  (X : (frag.heap_1 w.params).In s.heap) (T : Top p loose mean mg mb s.heap) (hroom : dp + 2 < recursionLimit) 
  (hl : s.heap.IsList a vs.toArray) (hi : IntsAre vs xs) (ex : xs = rowOf B x) (hn : xs.length ≤ 30)
  (hl2 : s.heap.IsList b us.toArray) (hi2 : IntsAre us ys) (ey : ys = rowOf B y) (hn2 : ys.length ≤ 30)
  (hl3 : s.heap.IsList c ts.toArray) (hi3 : IntsAre ts zs₀) (ez : zs₀ = rowOf B z) (hn3 : zs₀.length ≤ 30)
  (hs0 : 0 ≤ sp) (hs : sp ≤ 30)
  (hBw : B = Bw wd) (hw : 2 ≤ wd) (hw2 : wd ≤ 9) (hx : 0 ≤ x) (hy : 0 ≤ y) (hz : 0 ≤ z)
  (h : ∀ D h' tk' ws k, s.heap.StaysIn h' → s.heap.get? D = none → h'.get? D = some (W.listOf ws.toArray k) → IntsAre ws (rowOf B (x + y * B ^ sp.toNat + z * B ^ (2 * sp).toNat)) → Q (.ref D) {s with heap := h', toks := tk'}) :
  wpAny (model PySem.Challenge.rw_nn0004_01.row.prog w) (mkA dp fr gd un) (call (.ref 102) [.ref a, .ref b, .ref c, .int sp tsp, .int wd tw]) Q E s := by
  have hB : 2 ≤ B := hBw ▸ Bw_ge hw
  revert X; k_fill; intro X
  (k_dflt (refine' enter [((Str.ofString "low"), .ref a), ((Str.ofString "middle"), .ref b), ((Str.ofString "high"), .ref c), ((Str.ofString "spot"), .int sp tsp), ((Str.ofString "w"), .int wd tw)] (by assumption) (by assumption) ?k6 ?k7 (by dsimp only [mkA, Around.deeper]; omega) ?k9 ?kB ?_ ?c2 ?c3 ?c4 ?c5; (case k6 => k_is); (case k7 => k_is); (case k9 => exact BindsTo.of_eq rfl); (case c5 => decide); (case kB => exact locs rfl); (case c2 => exact rfl); (case c3 => exact rfl); (case c4 => exact rfl); k_whole; intro L' h' n F' N'); (try dsimp only); (try k_fold))
  k_with_none
  k_with "ktr_room" => ((try dsimp only [mkA, Around.deeper]); first | omega | decide)
  k_with "ktr_unf" => first | omega | ((simp only [List.length_append, List.length_cons, List.length_nil, rangeKs_length] at *); omega)
  k_with "ktr_rel" => first | assumption | omega
  k_with "subscriptTail Name Slice ref ref" => (k_here; (with_reducible show wpAny _ _ (subscriptTail _ (PySem.Expr.Slice (some _) (some _) none _) (Value.ref _) (Value.ref _)) _ _ _); k_dflt (refine' kmk_slice_ints ?F ?N ?l ?p ?q ?i ?m ?c ?_ ?s ?t ?z; (case F => k_asm); (case N => k_asm); (case l => kmk_list); (case p => kmk_part); (case q => kmk_part); (case i => l_ints); (case m => exact kmk_run (by l_ints) (by omega) (by omega)); (case c => kmk_len); (case s => with_unfolding_all rfl); (case t => kmk_pure); (case z => kmk_size)); intro D_q' ws_q' h_q' F_q' N_q' l1_q hI_q' hC_q' hL_q'; (try k_lt l1_q); (try k_sweep))
  k_with "subscriptTail Name Slice ref ref" => (k_here; (with_reducible show wpAny _ _ (subscriptTail _ (PySem.Expr.Slice (some _) none none _) (Value.ref _) (Value.ref _)) _ _ _); k_dflt (refine' kmk_slice_ints ?F ?N ?l ?p ?q ?i ?m ?c ?_ ?s ?t ?z; (case F => k_asm); (case N => k_asm); (case l => kmk_list); (case p => kmk_part); (case q => kmk_part); (case i => l_ints); (case m => exact kmk_from (by l_ints) (by omega)); (case c => kmk_len); (case s => with_unfolding_all rfl); (case t => kmk_pure); (case z => kmk_size)); intro D_q' ws_q' h_q' F_q' N_q' l1_q hI_q' hC_q' hL_q'; (try k_lt l1_q); (try k_sweep))
  k_with "subscriptTail Name Slice ref ref" => (k_here; (with_reducible show wpAny _ _ (subscriptTail _ (PySem.Expr.Slice none (some _) none _) (Value.ref _) (Value.ref _)) _ _ _); k_dflt (refine' kmk_slice_ints ?F ?N ?l ?p ?q ?i ?m ?c ?_ ?s ?t ?z; (case F => k_asm); (case N => k_asm); (case l => kmk_list); (case p => kmk_part); (case q => kmk_part); (case i => l_ints); (case m => exact kmk_upto (by l_ints) (by omega)); (case c => kmk_len); (case s => with_unfolding_all rfl); (case t => kmk_pure); (case z => kmk_size)); intro D_q' ws_q' h_q' F_q' N_q' l1_q hI_q' hC_q' hL_q'; (try k_lt l1_q); (try k_sweep))
  k_with "subscriptTail Name Slice ref ref" => (k_here; (with_reducible show wpAny _ _ (subscriptTail _ (PySem.Expr.Slice none none none _) (Value.ref _) (Value.ref _)) _ _ _); k_dflt (refine' kmk_slice_ints ?F ?N ?l ?p ?q ?i ?m ?c ?_ ?s ?t ?z; (case F => k_asm); (case N => k_asm); (case l => kmk_list); (case p => kmk_part); (case q => kmk_part); (case i => l_ints); (case m => exact kmk_all (by l_ints)); (case c => kmk_len); (case s => with_unfolding_all rfl); (case t => kmk_pure); (case z => kmk_size)); intro D_q' ws_q' h_q' F_q' N_q' l1_q hI_q' hC_q' hL_q'; (try k_lt l1_q); (try k_sweep))
  k_with "call ref" => (k_here; (with_reducible show wpAny _ _ (call (Value.ref 60) [Value.ref _, Value.ref _, Value.int _ _]) _ _ _); k_dflt (refine' call_addR _ ?F ?N ?X ?T ?l1 ?i1 ?l2 ?i2 ?room ?w0 ?w1 ?w2 ?e1 ?e2 ?p1 ?p2 ?n1 ?n2 ?_; (case F => k_asm); (case N => k_asm); (case X => k_asm); (case T => k_asm); (case l1 => is_list); (case i1 => assumption); (case l2 => is_list); (case i2 => assumption); (case room => ktr_room); (case w0 => assumption); (case w1 => assumption); (case w2 => assumption); (case e1 => assumption); (case e2 => assumption); (case p1 => ktr_rel); (case p2 => ktr_rel); (case n1 => ktr_unf); (case n2 => ktr_unf); k_whole); intro D_q' ws_q' k_q' h_q' tk_q' zs_q' F_q' N_q' l1_q i1_q e1_q g1_q g2_q; (simp only [AllNe, and_true] at l1_q); (try k_sweep))
  k_with "call ref" => (k_here; (with_reducible show wpAny _ _ (call (Value.ref 67) [Value.ref _, Value.ref _, Value.int _ _]) _ _ _); k_dflt (refine' call_subR _ ?F ?N ?X ?T ?l1 ?i1 ?l2 ?i2 ?room ?w0 ?w1 ?w2 ?e1 ?e2 ?p1 ?p2 ?n1 ?n2 ?_; (case F => k_asm); (case N => k_asm); (case X => k_asm); (case T => k_asm); (case l1 => is_list); (case i1 => assumption); (case l2 => is_list); (case i2 => assumption); (case room => ktr_room); (case w0 => assumption); (case w1 => assumption); (case w2 => assumption); (case e1 => assumption); (case e2 => assumption); (case p1 => ktr_rel); (case p2 => ktr_rel); (case n1 => ktr_unf); (case n2 => ktr_unf); k_whole); intro D_q' ws_q' k_q' h_q' tk_q' zs_q' F_q' N_q' l1_q i1_q e1_q g1_q g2_q; (simp only [AllNe, and_true] at l1_q); (try k_sweep))
  k_with "call ref" => (k_here; (with_reducible show wpAny _ _ (call (Value.ref 74) [Value.ref _, Value.ref _, Value.int _ _, Value.int _ _]) _ _ _); k_dflt (refine' call_add_at _ ?F ?N ?X ?T ?l1 ?i1 ?l2 ?i2 ?room ?w0 ?w1 ?w2 ?e1 ?e2 ?p1 ?p2 ?n1 ?n2 ?s0 ?s1 ?_; (case F => k_asm); (case N => k_asm); (case X => k_asm); (case T => k_asm); (case l1 => is_list); (case i1 => assumption); (case l2 => is_list); (case i2 => assumption); (case room => ktr_room); (case w0 => assumption); (case w1 => assumption); (case w2 => assumption); (case e1 => assumption); (case e2 => assumption); (case p1 => ktr_rel); (case p2 => ktr_rel); (case n1 => ktr_unf); (case n2 => ktr_unf); (case s0 => ktr_unf); (case s1 => ktr_unf); k_whole); intro D_q' ws_q' k_q' h_q' tk_q' zs_q' F_q' N_q' l1_q i1_q e1_q g1_q g2_q; (simp only [AllNe, and_true] at l1_q); (try k_sweep))
  k_steps
  (rename News _ _ _ _ => nE); (rename Fr _ _ _ _ => fE); (rename IntsAre _ _ => iE); (rename _ = rowOf B _ => eE)
  rw [eE] at iE
  exact h _ _ _ _ _ fE.keep (news_head nE).2 (news_head nE).1 iE
set_option maxHeartbeats 8000000 in
theorem middle_of_t {bb : Bool}
  (X : (frag.heap_1 w.params).In s.heap) (T : Top p loose mean mg mb s.heap) (hroom : dp + 2 < recursionLimit) 
  (hl : s.heap.IsList a vs.toArray) (hi : IntsAre vs xs) (ex : xs = rowOf B x) (hn : xs.length ≤ 30)
  (hl2 : s.heap.IsList b us.toArray) (hi2 : IntsAre us ys) (ey : ys = rowOf B y) (hn2 : ys.length ≤ 30)
  (hl3 : s.heap.IsList c ts.toArray) (hi3 : IntsAre ts zs₀) (ez : zs₀ = rowOf B z) (hn3 : zs₀.length ≤ 30)
  (hBw : B = Bw wd) (hw : 2 ≤ wd) (hw2 : wd ≤ 9) (hx : 0 ≤ x) (hy : 0 ≤ y) (hz : 0 ≤ z) (hb : bb = false → z ≤ x + y)
  (h : ∀ D h' tk' ws k, s.heap.StaysIn h' → s.heap.get? D = none → h'.get? D = some (W.listOf ws.toArray k) → IntsAre ws (rowOf B (if bb then x + y + z else x + y - z)) → Q (.ref D) {s with heap := h', toks := tk'}) :
  wpAny (model PySem.Challenge.rw_nn0004_01.row.prog w) (mkA dp fr gd un) (call (.ref 109) [.ref a, .ref b, .bool bb, .ref c, .int wd tw]) Q E s := by
  have hB : 2 ≤ B := hBw ▸ Bw_ge hw
  revert X; k_fill; intro X
  (k_dflt (refine' enter [((Str.ofString "low"), .ref a), ((Str.ofString "high"), .ref b), ((Str.ofString "is_below"), .bool bb), ((Str.ofString "apart"), .ref c), ((Str.ofString "w"), .int wd tw)] (by assumption) (by assumption) ?k6 ?k7 (by dsimp only [mkA, Around.deeper]; omega) ?k9 ?kB ?_ ?c2 ?c3 ?c4 ?c5; (case k6 => k_is); (case k7 => k_is); (case k9 => exact BindsTo.of_eq rfl); (case c5 => decide); (case kB => exact locs rfl); (case c2 => exact rfl); (case c3 => exact rfl); (case c4 => exact rfl); k_whole; intro L' h' n F' N'); (try dsimp only); (try k_fold))
  k_with_none
  k_with "ktr_room" => ((try dsimp only [mkA, Around.deeper]); first | omega | decide)
  k_with "ktr_unf" => first | omega | ((simp only [List.length_append, List.length_cons, List.length_nil, rangeKs_length] at *); omega)
  k_with "ktr_rel" => first | assumption | omega
  k_with "subscriptTail Name Slice ref ref" => (k_here; (with_reducible show wpAny _ _ (subscriptTail _ (PySem.Expr.Slice (some _) (some _) none _) (Value.ref _) (Value.ref _)) _ _ _); k_dflt (refine' kmk_slice_ints ?F ?N ?l ?p ?q ?i ?m ?c ?_ ?s ?t ?z; (case F => k_asm); (case N => k_asm); (case l => kmk_list); (case p => kmk_part); (case q => kmk_part); (case i => l_ints); (case m => exact kmk_run (by l_ints) (by omega) (by omega)); (case c => kmk_len); (case s => with_unfolding_all rfl); (case t => kmk_pure); (case z => kmk_size)); intro D_q' ws_q' h_q' F_q' N_q' l1_q hI_q' hC_q' hL_q'; (try k_lt l1_q); (try k_sweep))
  k_with "subscriptTail Name Slice ref ref" => (k_here; (with_reducible show wpAny _ _ (subscriptTail _ (PySem.Expr.Slice (some _) none none _) (Value.ref _) (Value.ref _)) _ _ _); k_dflt (refine' kmk_slice_ints ?F ?N ?l ?p ?q ?i ?m ?c ?_ ?s ?t ?z; (case F => k_asm); (case N => k_asm); (case l => kmk_list); (case p => kmk_part); (case q => kmk_part); (case i => l_ints); (case m => exact kmk_from (by l_ints) (by omega)); (case c => kmk_len); (case s => with_unfolding_all rfl); (case t => kmk_pure); (case z => kmk_size)); intro D_q' ws_q' h_q' F_q' N_q' l1_q hI_q' hC_q' hL_q'; (try k_lt l1_q); (try k_sweep))
  k_with "subscriptTail Name Slice ref ref" => (k_here; (with_reducible show wpAny _ _ (subscriptTail _ (PySem.Expr.Slice none (some _) none _) (Value.ref _) (Value.ref _)) _ _ _); k_dflt (refine' kmk_slice_ints ?F ?N ?l ?p ?q ?i ?m ?c ?_ ?s ?t ?z; (case F => k_asm); (case N => k_asm); (case l => kmk_list); (case p => kmk_part); (case q => kmk_part); (case i => l_ints); (case m => exact kmk_upto (by l_ints) (by omega)); (case c => kmk_len); (case s => with_unfolding_all rfl); (case t => kmk_pure); (case z => kmk_size)); intro D_q' ws_q' h_q' F_q' N_q' l1_q hI_q' hC_q' hL_q'; (try k_lt l1_q); (try k_sweep))
  k_with "subscriptTail Name Slice ref ref" => (k_here; (with_reducible show wpAny _ _ (subscriptTail _ (PySem.Expr.Slice none none none _) (Value.ref _) (Value.ref _)) _ _ _); k_dflt (refine' kmk_slice_ints ?F ?N ?l ?p ?q ?i ?m ?c ?_ ?s ?t ?z; (case F => k_asm); (case N => k_asm); (case l => kmk_list); (case p => kmk_part); (case q => kmk_part); (case i => l_ints); (case m => exact kmk_all (by l_ints)); (case c => kmk_len); (case s => with_unfolding_all rfl); (case t => kmk_pure); (case z => kmk_size)); intro D_q' ws_q' h_q' F_q' N_q' l1_q hI_q' hC_q' hL_q'; (try k_lt l1_q); (try k_sweep))
  k_with "call ref" => (k_here; (with_reducible show wpAny _ _ (call (Value.ref 60) [Value.ref _, Value.ref _, Value.int _ _]) _ _ _); k_dflt (refine' call_addR _ ?F ?N ?X ?T ?l1 ?i1 ?l2 ?i2 ?room ?w0 ?w1 ?w2 ?e1 ?e2 ?p1 ?p2 ?n1 ?n2 ?_; (case F => k_asm); (case N => k_asm); (case X => k_asm); (case T => k_asm); (case l1 => is_list); (case i1 => assumption); (case l2 => is_list); (case i2 => assumption); (case room => ktr_room); (case w0 => assumption); (case w1 => assumption); (case w2 => assumption); (case e1 => assumption); (case e2 => assumption); (case p1 => ktr_rel); (case p2 => ktr_rel); (case n1 => ktr_unf); (case n2 => ktr_unf); k_whole); intro D_q' ws_q' k_q' h_q' tk_q' zs_q' F_q' N_q' l1_q i1_q e1_q g1_q g2_q; (simp only [AllNe, and_true] at l1_q); (try k_sweep))
  k_with "call ref" => (k_here; (with_reducible show wpAny _ _ (call (Value.ref 67) [Value.ref _, Value.ref _, Value.int _ _]) _ _ _); k_dflt (refine' call_subR _ ?F ?N ?X ?T ?l1 ?i1 ?l2 ?i2 ?room ?w0 ?w1 ?w2 ?e1 ?e2 ?p1 ?p2 ?n1 ?n2 ?_; (case F => k_asm); (case N => k_asm); (case X => k_asm); (case T => k_asm); (case l1 => is_list); (case i1 => assumption); (case l2 => is_list); (case i2 => assumption); (case room => ktr_room); (case w0 => assumption); (case w1 => assumption); (case w2 => assumption); (case e1 => assumption); (case e2 => assumption); (case p1 => ktr_rel); (case p2 => ktr_rel); (case n1 => ktr_unf); (case n2 => ktr_unf); k_whole); intro D_q' ws_q' k_q' h_q' tk_q' zs_q' F_q' N_q' l1_q i1_q e1_q g1_q g2_q; (simp only [AllNe, and_true] at l1_q); (try k_sweep))
  k_with "call ref" => (k_here; (with_reducible show wpAny _ _ (call (Value.ref 74) [Value.ref _, Value.ref _, Value.int _ _, Value.int _ _]) _ _ _); k_dflt (refine' call_add_at _ ?F ?N ?X ?T ?l1 ?i1 ?l2 ?i2 ?room ?w0 ?w1 ?w2 ?e1 ?e2 ?p1 ?p2 ?n1 ?n2 ?s0 ?s1 ?_; (case F => k_asm); (case N => k_asm); (case X => k_asm); (case T => k_asm); (case l1 => is_list); (case i1 => assumption); (case l2 => is_list); (case i2 => assumption); (case room => ktr_room); (case w0 => assumption); (case w1 => assumption); (case w2 => assumption); (case e1 => assumption); (case e2 => assumption); (case p1 => ktr_rel); (case p2 => ktr_rel); (case n1 => ktr_unf); (case n2 => ktr_unf); (case s0 => ktr_unf); (case s1 => ktr_unf); k_whole); intro D_q' ws_q' k_q' h_q' tk_q' zs_q' F_q' N_q' l1_q i1_q e1_q g1_q g2_q; (simp only [AllNe, and_true] at l1_q); (try k_sweep))
  cases bb with
  | true =>
    clear hb
    k_steps
    (rename News _ _ _ _ => nE); (rename Fr _ _ _ _ => fE); (rename IntsAre _ _ => iE); (rename _ = rowOf B _ => eE)
    rw [eE] at iE
    exact h _ _ _ _ _ fE.keep (news_head nE).2 (news_head nE).1 iE
  | false =>
    replace hb := hb rfl
    k_steps
    (rename News _ _ _ _ => nE); (rename Fr _ _ _ _ => fE); (rename IntsAre _ _ => iE); (rename _ = rowOf B _ => eE)
    rw [eE] at iE
    exact h _ _ _ _ _ fE.keep (news_head nE).2 (news_head nE).1 iE
end
end Mine

end
section
open PySem PySem.W PyProof.Rows PySem.Calls
set_option Elab.async false
set_option maxRecDepth 100000
namespace Mine
theorem freshM7 : True := by
  w_top off
  k_with_none
  exact trivial
abbrev Led := List (Addr × Obj)
/-- a list's values are pairs of ints, each in the heap g or in the ledger -/
inductive PairsIn (g : Heap) (tups : Led) : List Value → List (Int × Int) → Prop where
  | nil : PairsIn g tups [] []
  | base {a : Addr} {x y : Int} {tx ty : Tok} {vs : List Value} {ps : List (Int × Int)} : g.get? a = some (tupO #[.int x tx, .int y ty]) → PairsIn g tups vs ps → PairsIn g tups (.ref a :: vs) ((x, y) :: ps)
  | led {a : Addr} {x y : Int} {tx ty : Tok} {vs : List Value} {ps : List (Int × Int)} : (a, tupO #[.int x tx, .int y ty]) ∈ tups → PairsIn g tups vs ps → PairsIn g tups (.ref a :: vs) ((x, y) :: ps)
theorem PairsIn.length {g : Heap} {tups : Led} {vs : List Value} {ps : List (Int × Int)} (h : PairsIn g tups vs ps) : vs.length = ps.length := by
  induction h with
  | nil => rfl
  | base _ _ ih => simp [ih]
  | led _ _ ih => simp [ih]
theorem PairsIn.mono {g h : Heap} {tups tups' : Led} {vs : List Value} {ps : List (Int × Int)} (x : PairsIn g tups vs ps) (k : ∀ b o, g.get? b = some o → h.get? b = some o) (l : ∀ q ∈ tups, q ∈ tups' ∨ h.get? q.1 = some q.2) : PairsIn h tups' vs ps := by
  induction x with
  | nil => exact .nil
  | base e _ ih => exact .base (k _ _ e) ih
  | led e _ ih =>
    rcases l _ e with q | q
    · exact .led q ih
    · exact .base q ih
theorem PairsIn.append {g : Heap} {tups : Led} {vs ws : List Value} {ps qs : List (Int × Int)} (x : PairsIn g tups vs ps) (y : PairsIn g tups ws qs) : PairsIn g tups (vs ++ ws) (ps ++ qs) := by
  induction x with
  | nil => exact y
  | base e _ ih => exact .base e ih
  | led e _ ih => exact .led e ih
def IsPair (o : Obj) : Prop := ∃ x tx y ty, o = tupO #[.int x tx, .int y ty]
/-- what the values tell, laid upon a frame -/
theorem pairs_to {g h : Heap} {L : Addr} {m : Str → Option Value} {vs : List Value} {ps : List (Int × Int)} (F : Fr g L h m) (P : PairsIn h [] vs ps) : ∃ tups, News g L h tups ∧ (∀ q ∈ tups, IsPair q.2) ∧ PairsIn g tups vs ps := by
  obtain ⟨oL, es, ep, hL, hd, _⟩ := F.ns
  induction P with
  | nil => exact ⟨[], News.nil, (fun q hq => nomatch hq), .nil⟩
  | @base a x y tx ty vs ps e _ ih =>
    obtain ⟨tups, N, I, P⟩ := ih
    cases q : g.get? a with
    | some o =>
      have := F.keep _ _ q
      rw [e] at this
      obtain rfl := Option.some.inj this
      exact ⟨tups, N, I, .base q P⟩
    | none =>
      refine ⟨(a, tupO #[.int x tx, .int y ty]) :: tups, fun r hr => ?_, fun r hr => ?_, .led (.head _) (P.mono (fun _ _ z => z) fun r hr => .inl (.tail _ hr))⟩
      · rcases List.mem_cons.mp hr with rfl | hr
        · refine ⟨e, fun z => ?_, q⟩
          have z' : a = L := z
          rw [z', hL] at e
          obtain rfl := Option.some.inj e
          cases hd
        · exact N _ hr
      · rcases List.mem_cons.mp hr with rfl | hr
        · exact ⟨_, _, _, _, rfl⟩
        · exact I _ hr
  | led hm _ _ => cases hm
/-- the ledger's end, a letter -/
inductive Tl (t : Addr) (tl : Led) : Led → (Led → Led) → Prop where
  | here : Tl t tl tl fun tp => tp
  | cons {p : Addr × Obj} {r : Led} {G : Led → Led} : (@Ne Nat p.1 t) → Tl t tl r G → Tl t tl (p :: r) fun tp => p :: G tp
/-- the ledger split at t, its end the letter tl -/
inductive Spl (t : Addr) (o : Obj) (tl : Led) : Led → (Obj → Led → Led) → Prop where
  | head {r : Led} {G : Led → Led} : Tl t tl r G → Spl t o tl ((t, o) :: r) fun o' tp => (t, o') :: G tp
  | tail {p : Addr × Obj} {r : Led} {G : Obj → Led → Led} : (@Ne Nat p.1 t) → Spl t o tl r G → Spl t o tl (p :: r) fun o' tp => p :: G o' tp
theorem Tl.mem {t : Addr} {tl r : Led} {G : Led → Led} (h : Tl t tl r G) : ∀ q ∈ tl, q ∈ r := by
  induction h with
  | here => exact fun q hq => hq
  | cons _ _ ih => exact fun q hq => .tail _ (ih q hq)
theorem Spl.mem {t : Addr} {o : Obj} {tl r : Led} {G : Obj → Led → Led} (h : Spl t o tl r G) : (t, o) ∈ r ∧ ∀ q ∈ tl, q ∈ r := by
  induction h with
  | head h => exact ⟨.head _, fun q hq => .tail _ (h.mem q hq)⟩
  | tail _ _ ih => exact ⟨.tail _ ih.1, fun q hq => .tail _ (ih.2 q hq)⟩
theorem Tl.news {g h h' : Heap} {L t : Addr} {tl tl' r : Led} {G : Led → Led} (sp : Tl t tl r G) (N : News g L h r) (st : ∀ b x, b ≠ t → h.get? b = some x → h'.get? b = some x) (N' : News g L h' tl') : News g L h' (G tl') := by
  induction sp with
  | here => exact N'
  | cons hne _ ih =>
    intro q hq
    rcases List.mem_cons.mp hq with rfl | hq
    · exact ⟨st _ _ hne (N _ (.head _)).1, (N _ (.head _)).2⟩
    · exact ih (fun x hx => N x (.tail _ hx)) q hq
theorem Spl.news {g h h' : Heap} {L t : Addr} {o o' : Obj} {tl tl' r : Led} {G : Obj → Led → Led} (sp : Spl t o tl r G) (N : News g L h r) (st : ∀ b x, b ≠ t → h.get? b = some x → h'.get? b = some x) (ht : h'.get? t = some o') (N' : News g L h' tl') : News g L h' (G o' tl') := by
  induction sp with
  | head sp =>
    intro q hq
    rcases List.mem_cons.mp hq with rfl | hq
    · exact ⟨ht, (N _ (.head _)).2⟩
    · exact sp.news (fun x hx => N x (.tail _ hx)) st N' q hq
  | tail hne _ ih =>
    intro q hq
    rcases List.mem_cons.mp hq with rfl | hq
    · exact ⟨st _ _ hne (N _ (.head _)).1, (N _ (.head _)).2⟩
    · exact ih (fun x hx => N x (.tail _ hx)) q hq
/-- addresses of a split ledger -/
def AllIn (P : Addr → Prop) : Led → Prop := fun l => ∀ q ∈ l, P q.1
theorem Tl.addr {t : Addr} {tl tl' r : Led} {G : Led → Led} {D : Addr} (sp : Tl t tl r G) (h1 : ∀ q ∈ r, q.1 ≠ D) (h2 : ∀ q ∈ tl', q.1 ≠ D) : ∀ q ∈ G tl', q.1 ≠ D := by
  induction sp with
  | here => exact h2
  | cons _ _ ih =>
    intro q hq
    rcases List.mem_cons.mp hq with rfl | hq
    · exact h1 _ (.head _)
    · exact ih (fun x hx => h1 x (.tail _ hx)) q hq
theorem Spl.addr {t : Addr} {o o' : Obj} {tl tl' r : Led} {G : Obj → Led → Led} {D : Addr} (sp : Spl t o tl r G) (h1 : ∀ q ∈ r, q.1 ≠ D) (h2 : ∀ q ∈ tl', q.1 ≠ D) : ∀ q ∈ G o' tl', q.1 ≠ D := by
  induction sp with
  | head sp =>
    intro q hq
    rcases List.mem_cons.mp hq with rfl | hq
    · exact h1 (t, o) (.head _)
    · exact sp.addr (fun x hx => h1 x (.tail _ hx)) h2 q hq
  | tail _ _ ih =>
    intro q hq
    rcases List.mem_cons.mp hq with rfl | hq
    · exact h1 _ (.head _)
    · exact ih (fun x hx => h1 x (.tail _ hx)) q hq
theorem allNe_mem {d : Addr} : ∀ {l : Led}, AllNe d l → ∀ p ∈ l, p.1 ≠ d
  | [], _, _, h => nomatch h
  | q :: r, x, p, h => by
    rcases List.mem_cons.mp h with rfl | h
    · exact x.1
    · exact allNe_mem x.2 p h
theorem cut_cons {M : Model} {A : Around} {E : Value → Shared → Prop} {Q : Flow → Shared → Prop} {s : Shared} {st : Stmt} {rest : List Stmt} {env : Env} (P : Shared → Prop)
    (h1 : wpAny M A (exec st env) (fun f s' => f = .next ∧ P s') E s) (h2 : ∀ s', P s' → wpAny M A (execs rest env) Q E s') : wpAny M A (execs (st :: rest) env) Q E s := by
  refine wpAny_execs_cons (wpAny_mono h1 (fun f s' h => ?_) fun _ _ x => x)
  obtain ⟨rfl, hp⟩ := h
  exact h2 s' hp
end Mine

end
section
open PySem PySem.W PyProof.Rows PySem.Calls
set_option Elab.async false
set_option maxRecDepth 100000
namespace Mine
theorem freshM8 : True := by
  w_top off
  k_with_none
  exact trivial
structure RowInv (B n : Int) (f : List Int) (m : Int) : Prop where
  len : f.length + (rowOf B m).length ≤ 100
  nn : 0 ≤ m
  eq : rowOf B n = f ++ rowOf B m
theorem fmod_pow (x : Int) (k : Nat) : x.fmod (2 ^ k) = x % 2 ^ k := Int.fmod_eq_emod_of_nonneg _ (Int.le_of_lt (Int.pow_pos (by decide)))
theorem row_step {B n m : Int} {f : List Int} {wd : Int} (hBw : B = Bw wd) (hB : 2 ≤ B) (h : RowInv B n f m) (hm : 0 < m) :
   (f ++ [m.fmod (2 ^ wd.toNat)]).length ≤ 100 ∧ RowInv B n (f ++ [m.fmod (2 ^ wd.toNat)]) (m.fdiv (2 ^ wd.toNat)) := by
  rw [fdiv_pow, fmod_pow]
  have h1 := h.len
  have h2 := h.eq
  subst hBw
  show (f ++ [m % Bw wd]).length ≤ 100 ∧ RowInv (Bw wd) n (f ++ [m % Bw wd]) (m / Bw wd)
  rw [rowOf_pos hB hm] at h1 h2
  simp only [List.length_cons] at h1
  refine ⟨by simp only [List.length_append, List.length_singleton]; omega, ⟨by simp only [List.length_append, List.length_singleton]; omega, Int.ediv_nonneg (Int.le_of_lt hm) (by omega), ?_⟩⟩
  rw [h2, List.append_assoc]; rfl
theorem row_less {m : Int} {wd : Int} (hw : 2 ≤ wd) (hm : 0 < m) : (m.fdiv (2 ^ wd.toNat)).toNat < m.toNat := by
  rw [fdiv_pow]
  have h1 : m / 2 ^ wd.toNat < m := div_lt hm (Bw_ge hw)
  have h2 := Int.ediv_nonneg (Int.le_of_lt hm) (Int.le_trans (by decide) (Bw_ge hw))
  omega
local macro_rules | `(tactic| walk_at "pyIter ref") => `(tactic| k_extra "pyIter ref")
section
variable (w : World) {p : Program} {loose : List Str} {mean : ExcName → Option Value} {mg mb : Str → Option Value} {dp : Nat} {fr : Option (List Env)} {gd : Option (List Code)} {un : Nat} {s : Shared} {Q E : Value → Shared → Prop}
set_option maxHeartbeats 2000000 in
theorem law_row_t {num wd : Int} {tn tw : Tok} {B : Int} (hBw : B = Bw wd)
  (X : (frag.heap_1 w.params).In s.heap) (T : Top p loose mean mg mb s.heap) (hroom : dp < recursionLimit) 
  (hw : 2 ≤ wd) (hw2 : wd ≤ 9) (hn0 : 0 ≤ num) (hn : (rowOf B num).length ≤ 100)
  (h : ∀ D h' tk' ws k, s.heap.StaysIn h' → s.heap.get? D = none → h'.get? D = some (W.listOf ws.toArray k) → IntsAre ws (rowOf B num) → Q (.ref D) {s with heap := h', toks := tk'}) :
  wpAny (model PySem.Challenge.rw_nn0004_01.row.prog w) (mkA dp fr gd un) (call (.ref 135) [.int num tn, .int wd tw]) Q E s := by
  have hB : 2 ≤ B := hBw ▸ Bw_ge hw
  have hS : RowInv B num [] num := ⟨by simpa using hn, hn0, rfl⟩
  clear hn
  revert X; k_fill; intro X
  (k_dflt (refine' enter [((Str.ofString "number"), .int num tn), ((Str.ofString "w"), .int wd tw)] (by assumption) (by assumption) ?k6 ?k7 (by dsimp only [mkA, Around.deeper]; omega) ?k9 ?kB ?_ ?c2 ?c3 ?c4 ?c5; (case k6 => k_is); (case k7 => k_is); (case k9 => exact BindsTo.of_eq rfl); (case c5 => decide); (case kB => exact locs rfl); (case c2 => exact rfl); (case c3 => exact rfl); (case c4 => exact rfl); k_whole; intro L' h' n F' N'); (try dsimp only); (try k_fold))
  k_with_none
  k_with "exec While Compare cons nil" =>
     (rename Fr _ _ _ _ => lF')
     (rename News _ _ _ _ => lN')
     refine' ksw_while (hE := ?hE) (σ := List Value × List Int × Nat × Int × Tok) (fun c => [(?lA, W.listOf c.1.toArray c.2.2.1)]) (fun c => [((Str.ofString "number"), Value.int c.2.2.2.1 c.2.2.2.2)]) (fun c => IntsAre c.1 c.2.1) [] (fun c => c.2.1.length ≤ 100 ∧ RowInv B num c.2.1 c.2.2.2.1) (fun c => c.2.2.2.1.toNat) ⟨[], [], 0, num, tn⟩ lF' ?kn ?kf ?kk ?kp ?_
     case hE => exact PassesOwn.never
     case kn => exact lN'
     case kf => exact IntsAre.nil
     case kk => kst_all
     case kp => exact ⟨Nat.zero_le _, hS⟩
     clear lF' lN'
     intro ⟨ws1, f1, k1, m1, tm1⟩ u1 h1 tk1 hI1 hP1 F1 N1
     dsimp only at hI1 hP1 F1 N1
     all_goals (try k_fold)
  k_steps
  · (rename News _ _ _ _ => nE')
    simp only [List.push_toArray] at nE'
    refine ksw_end ⟨_, _, _, _, _⟩ (by assumption) nE' (by kst_in) (ints_snoc hI1) (by kst_all) (by intro z h2 h3; have h4 := h2 _ (List.Mem.head _); dsimp only at h4; simp only [kstB, if_neg h4]; rfl) ?_ ?_
    · exact row_step hBw hB hP1.2 (by assumption)
    · exact row_less hw (by assumption)
  · refine h _ _ _ _ _ F1.keep (news_head N1).2 (news_head N1).1 ?_
    rw [hP1.2.eq, show m1 = (0 : Int) from Int.le_antisymm (by omega) hP1.2.nn, rowOf_zero, List.append_nil]
    exact hI1
end
end Mine

end
section
open PySem PySem.W PyProof.Rows PySem.Calls PySem.Spec PyProof.Rows.LCg
set_option Elab.async false
set_option maxRecDepth 100000
namespace Mine
theorem freshC0 : True := by
  w_top off
  k_with_none
  exact trivial
section
variable {prog : Program} {w : World} {A : Around} {E : Value → Shared → Prop} {s : Shared} {h₀ : Heap} {L : Addr} {m : Str → Option Value} {env : Env}
/-- a list comprehension over enumerate, its element makes no object -/
theorem block_E {elt iter : Expr} {x x₂ : Str} {px px₂ tp : Pos} {tk} {scope : Scope} {cl : List (Str × Addr)} {pos : Pos} {s₂ : Shared} {e it l : Addr} {items : Array Value} {news : List (Addr × Obj)} {R : Nat → Value → Prop} {RR : Value → Addr → Result → Shared → Prop}
    (hh : A.handled = none) (hei : e ≠ it) (hle : l ≠ e) (hli : l ≠ it)
    (he : IsEnum s₂.heap e it 0 .none) (hit : s₂.heap.IsListIter it l 0) (hl : s₂.heap.IsList l items) (hsz : items.size ≤ sizeLine)
    (hcell : ∀ y ∈ scope.names, y.2 ≠ .cell) (hkind : scope.kind = .function) (hx : scope.names.lookup x = some .local) (hx₂ : scope.names.lookup x₂ = some .local) (hxx : x ≠ x₂)
    (F : Fr h₀ L s₂.heap m) (N : News h₀ L s₂.heap news) (hLe : L ≠ e) (hLi : L ≠ it) (he₀ : h₀.get? e = none) (hi₀ : h₀.get? it = none) (off : ∀ p ∈ news, p.1 ≠ e ∧ p.1 ≠ it)
    (turn : ∀ (i : Nat) v t C oC h tk m₂ E', items[i]? = some v → NsObj oC m₂ → m₂ x = some (.int (i : Int) t) → m₂ x₂ = some v → Fr h₀ L h m → News h₀ L h ((C, oC) :: news) →
      wpAny (model prog w) A (eval elt (compEnvC scope cl C env)) (fun y s' => R i y ∧ ∃ tk', s' = { s₂ with heap := h, toks := tk' }) E' { s₂ with heap := h, toks := tk })
    (hRR : ∀ D C h tk m' ys, Fr h₀ L h m → News h₀ L h ((D, lst ys) :: news) → Off1 D news → h.Ns C m' → h₀.get? C = none → h₀.get? D = none → C ≠ L → D ≠ L → C ≠ D → (∀ p ∈ news, p.1 ≠ C) → ys.length = items.size → (∀ i y, ys[i]? = some y → R i y) → RR (.ref D) C (.ok .next) { s₂ with heap := h, toks := tk }) :
    wpAny (model prog w) A (newList []) (fun acc s₃ => wpAny (model prog w) A (newFunctionEnv scope env.globals cl [] env.qual none .none (some env)) (fun cenv s₄ =>
      codeAny (model prog w) A (.compStart (.ListComp elt [⟨.Tuple [.Name x px, .Name x₂ px₂] tk tp, iter, [], 0⟩] scope pos) 0 (.ref e) acc { cenv with scope := relabel scope env }) (RR acc cenv.locals) s₄) E s₃) E s₂ := by
  have W := WalksT.enumerate (prog := prog) (w := w) hh e it l hei hle hli items
  refine wpAny_newObj_type (wpAny_newFunctionEnv hcell (by intro y hy; simp at hy) (fun h₁ hns₁ hsb₁ => ?_) hkind)
  dsimp only at hns₁ hsb₁ ⊢
  generalize hH2 : s₂.heap.push { cls := .type "list", dict := none, data := .seq ([] : List Value).toArray } = H2 at hns₁ hsb₁ ⊢
  have hC : H2.objs.size = s₂.heap.objs.size + 1 := by rw [← hH2, Heap.size_push]
  have hDC : s₂.heap.objs.size ≠ H2.objs.size := by rw [hC]; exact Nat.ne_of_lt (Nat.lt_succ_self _)
  have below : ∀ b, b < s₂.heap.objs.size → b ≠ H2.objs.size ∧ b ≠ s₂.heap.objs.size := fun b hb => ⟨by rw [hC]; exact Nat.ne_of_lt (Nat.lt_succ_of_lt hb), Nat.ne_of_lt hb⟩
  have helt : e < s₂.heap.objs.size := Heap.lt_size he
  have hilt : it < s₂.heap.objs.size := by obtain ⟨_, q, _⟩ := id hit; exact Heap.lt_size q
  have hllt : l < s₂.heap.objs.size := by obtain ⟨_, q, _⟩ := id hl; exact Heap.lt_size q
  have old : ∀ b o, s₂.heap.get? b = some o → h₁.get? b = some o := fun b o q => hsb₁.extBut b o (below b (Heap.lt_size q)).1 (Heap.get?_push_of_some _ (hH2 ▸ Heap.get?_push_of_some _ q))
  have hacc : h₁.get? s₂.heap.objs.size = some (lst []) := hsb₁.extBut _ _ hDC (Heap.get?_push_of_some _ (hH2 ▸ Heap.get?_push_size _ rfl))
  have hst₁ := W.frame _ _ _ (⟨⟨_, he⟩, hit, hl⟩ : _ ∧ _ ∧ _) fun b _ o q => old b o q
  have fresh : ∀ a, s₂.heap.objs.size ≤ a → s₂.heap.get? a = none := fun a ha => by
    cases q : s₂.heap.get? a with
    | none => rfl
    | some o' => exact absurd (Heap.lt_size q) (Nat.not_lt.mpr ha)
  have fresh₀ : ∀ a, s₂.heap.objs.size ≤ a → h₀.get? a = none := fun a ha => by
    cases q : h₀.get? a with
    | none => rfl
    | some o' => have := F.keep a o' q; rw [fresh a ha] at this; cases this
  have hD₀ : h₀.get? s₂.heap.objs.size = none := fresh₀ _ (Nat.le_refl _)
  have hC₀ : h₀.get? H2.objs.size = none := fresh₀ _ (by rw [hC]; exact Nat.le_succ _)
  have hLlt : L < s₂.heap.objs.size := F.ns.lt
  have hDL : s₂.heap.objs.size ≠ L := Ne.symm (below L hLlt).2
  have hCL : H2.objs.size ≠ L := Ne.symm (below L hLlt).1
  have wrn : ∀ b, b ≠ e → b ≠ it → b ∉ [e, it] := fun b h1 h2 hm => by
    rcases List.mem_cons.mp hm with q | hm
    · exact h1 q
    · exact h2 (List.mem_singleton.mp hm)
  have off3 : ∀ p ∈ news, p.1 ≠ e ∧ p.1 ≠ it ∧ p.1 ≠ H2.objs.size ∧ p.1 ≠ s₂.heap.objs.size := fun p hp => ⟨(off p hp).1, (off p hp).2, (below _ (Heap.lt_size (N p hp).1)).1, (below _ (Heap.lt_size (N p hp).1)).2⟩
  have off1 : Off1 s₂.heap.objs.size news := by
    have all : ∀ l : List (Addr × Obj), (∀ p ∈ l, p.1 ≠ s₂.heap.objs.size) → Off1 s₂.heap.objs.size l := by
      intro l
      induction l with
      | nil => exact fun _ => trivial
      | cons p r ih => exact fun h => ⟨h p List.mem_cons_self, ih fun q hq => h q (List.mem_cons_of_mem _ hq)⟩
    exact all _ fun p hp => (off3 p hp).2.2.2
  have loop : ∀ s₃ : Shared, s₃ = { s₂ with heap := h₁, toks := s₂.toks + ([] : List (Str × Value)).length } →
      codeAny (model prog w) A (.compLoop (.ListComp elt [⟨.Tuple [.Name x px, .Name x₂ px₂] tk tp, iter, [], 0⟩] scope pos) 0 (.ref e) (.ref s₂.heap.objs.size) (compEnvC scope cl H2.objs.size env))
        (RR (.ref s₂.heap.objs.size) H2.objs.size) s₃ := by
    rintro s₃ rfl
    refine LCp.codeAny_compLoop_pair
      (fun k s' => ∃ h' tk i ys m', s' = { s₂ with heap := h', toks := tk } ∧ i ≤ items.size ∧ k = items.size + 1 - i ∧ ys.length = i ∧ ((∃ old, IsEnum h' e it i old) ∧ h'.IsListIter it l i ∧ h'.IsList l items) ∧ Fr h₀ L h' m ∧ h'.Ns H2.objs.size m' ∧ News h₀ L h' ((s₂.heap.objs.size, lst ys) :: news) ∧
        (∀ i y, ys[i]? = some y → R i y)) ?_ (items.size + 1)
      ⟨h₁, _, 0, [], _, rfl, Nat.zero_le _, rfl, rfl, hst₁, F.keeps old, hns₁, fun p hp => ?_, fun i y q => by simp at q⟩
    · rintro k s' ⟨h', tk, i, ys, m', rfl, hi, rfl, hyl, hst', F', hn', N', hR⟩
      have key : ∀ {h h2 : Heap}, (∀ b o, b ∉ [e, it] → h.get? b = some o → h2.get? b = some o) → Fr h₀ L h m → h.Ns H2.objs.size m' → News h₀ L h ((s₂.heap.objs.size, lst ys) :: news) → Fr h₀ L h2 m ∧ h2.Ns H2.objs.size m' ∧ News h₀ L h2 ((s₂.heap.objs.size, lst ys) :: news) := by
        intro h h2 hk Fx nx Nx
        refine ⟨⟨Fx.ns.at' fun o q => hk L o (wrn _ hLe hLi) q, fun b o q => hk b o (wrn _ (fun z => by rw [z, he₀] at q; cases q) (fun z => by rw [z, hi₀] at q; cases q)) (Fx.keep b o q), Fx.above⟩, nx.at' fun o q => hk _ o (wrn _ (Ne.symm (below _ helt).1) (Ne.symm (below _ hilt).1)) q, fun p hp => ⟨hk _ _ ?_ (Nx p hp).1, (Nx p hp).2⟩⟩
        rcases List.mem_cons.mp hp with rfl | hp
        · exact wrn _ (Ne.symm (below _ helt).2) (Ne.symm (below _ hilt).2)
        · exact wrn _ (off3 p hp).1 (off3 p hp).2.1
      by_cases hlt : i < items.size
      · refine W.item i _ _ _ hlt hst' fun T vals h₂ tk₂ hPv hTsz hT hMid hk₂ => ?_
        obtain ⟨t, v, hv, rfl⟩ := hPv
        obtain ⟨F₂, n₂, N₂⟩ := key hk₂ F' hn' N'
        have hTw := W.apart _ _ _ hMid
        refine W.go _ _ _ i T _ _ _ hMid fun h₄ hst₄ hk₄ => ?_
        obtain ⟨F₄, n₄, N₄⟩ := key hk₄ F₂ n₂ N₂
        have ht : IsTup h₄ T #[.int (i : Int) t, v] := by
          obtain ⟨oT, q, r⟩ := hT
          exact ⟨oT, hk₄ _ _ hTw q, r⟩
        refine assign_Tuple_tuple hh ht rfl rfl fun h₅ he5 => ?_
        have he' : ∀ b o, h₄.get? b = some o → h₅.get? b = some o := fun b o q => he5 b o (Nat.ne_of_lt (Heap.lt_size q)) q
        refine assignInOrder_cons (wpAny_assign_Name (wpAny_storeName_local (lookup_relabel_local hx) (n₄.at' fun o q => he' _ o q) (fun h₆ hn₆ hs₆ => ?_) (by simp [compEnvC, relabel, hkind])))
        refine assignInOrder_cons (wpAny_assign_Name (wpAny_storeName_local (lookup_relabel_local hx₂) hn₆ (fun h₃ hn₃ hs₃ => ?_) (by simp [compEnvC, relabel, hkind])))
        refine assignInOrder_nil ?_
        have old3 : ∀ b o, b ≠ H2.objs.size → h₄.get? b = some o → h₃.get? b = some o := fun b o hb q => hs₃.extBut b o hb (hs₆.extBut b o hb (he' b o q))
        have hfpC : ∀ b ∈ [e, it, l], b ≠ H2.objs.size ∧ b ≠ s₂.heap.objs.size := fun b hb => by
          rcases List.mem_cons.mp hb with rfl | hb
          · exact below _ helt
          · rcases List.mem_cons.mp hb with rfl | hb
            · exact below _ hilt
            · rw [List.mem_singleton.mp hb]; exact below _ hllt
        have hst₃ := W.frame _ _ _ hst₄ fun b hb o q => old3 b o (hfpC b hb).1 q
        obtain ⟨oC, heC, hoC⟩ := ns_obj hn₃
        have F₃ : Fr h₀ L h₃ m := ((F₄.keeps he').change hs₆ hCL hC₀).change hs₃ hCL hC₀
        have N₃ : News h₀ L h₃ ((H2.objs.size, oC) :: news) := fun p hp => by
          rcases List.mem_cons.mp hp with rfl | hp
          · exact ⟨heC, hCL, hC₀⟩
          · have z := N₄ p (List.mem_cons_of_mem _ hp)
            exact ⟨old3 _ _ (off3 p hp).2.2.1 z.1, z.2⟩
        have zD : h₃.get? s₂.heap.objs.size = some (lst ys) := old3 _ _ hDC (N₄ _ List.mem_cons_self).1
        refine wpAny_mono (turn i v t _ oC h₃ _ _ _ hv hoC (by simp [hxx]) (by simp) F₃ N₃) (fun y s₄ h₄' => ?_) fun _ _ q => q
        obtain ⟨hRy, tk₄, rfl⟩ := h₄'
        refine append_at (hsz := by show ys.toArray.size ≤ sizeLine; rw [List.size_toArray, hyl]; exact Nat.le_trans hi hsz) zD fun h₅ hs₅ hD₅ => ?_
        refine ⟨items.size + 1 - (i + 1), by omega, h₅, tk₄, i + 1, ys ++ [y], _, rfl, hlt, rfl, by rw [List.length_append, List.length_singleton, hyl], W.frame _ _ _ hst₃ fun b hb o q => hs₅.extBut b o (hfpC b hb).2 q, F₃.change hs₅ hDL hD₀,
          hn₃.sameBut hs₅ (Ne.symm hDC), fun p hp => ?_, fun j z q => ?_⟩
        · rcases List.mem_cons.mp hp with rfl | hp
          · exact ⟨hD₅.trans (congrArg some (lst_snoc ys y)), hDL, hD₀⟩
          · exact ⟨hs₅.extBut _ _ (off3 p hp).2.2.2 (N₃ p (List.mem_cons_of_mem _ hp)).1, (N₃ p (List.mem_cons_of_mem _ hp)).2⟩
        · by_cases hj : j < ys.length
          · rw [List.getElem?_append_left hj] at q
            exact hR j z q
          · rw [List.getElem?_append_right (by omega)] at q
            have hj' : j = i := by
              have := (List.getElem?_eq_some_iff.mp q).1
              simp only [List.length_singleton] at this
              omega
            subst hj'
            rw [hyl, Nat.sub_self] at q
            obtain rfl : y = z := by simpa using q
            exact hRy
      · obtain rfl : i = items.size := Nat.le_antisymm hi (Nat.not_lt.mp hlt)
        refine W.done _ _ _ hst' fun h₂ tk₂ hk₂ => ?_
        obtain ⟨F₂, n₂, N₂⟩ := key hk₂ F' hn' N'
        exact hRR _ _ h₂ tk₂ _ ys F₂ N₂ off1 n₂ hC₀ hD₀ hCL hDL (Ne.symm hDC) (fun p hp => (off3 p hp).2.2.1) hyl hR
    · rcases List.mem_cons.mp hp with rfl | hp
      · exact ⟨hacc, hDL, hD₀⟩
      · exact ⟨old _ _ (N p hp).1, (N p hp).2⟩
  exact codeAny_compStart_list (loop _ rfl) (W.self 0 _ _ _ hst₁ (loop _ rfl))
def SrcE (prog : Program) (w : World) (A : Around) (h₀ : Heap) (L : Addr) (m : Str → Option Value) (env : Env) (elt : Expr) (x x₂ : Str) (scope : Scope) (cl : List (Str × Addr)) (Q : Value → Shared → Prop) (xv : Value) (s₁ : Shared) : Prop :=
  ∃ (e it l : Addr) (items : Array Value) (news : List (Addr × Obj)) (R : Nat → Value → Prop), xv = .ref e ∧ A.handled = none ∧ (e ≠ it ∧ l ≠ e ∧ l ≠ it) ∧ (IsEnum s₁.heap e it 0 .none ∧ s₁.heap.IsListIter it l 0 ∧ s₁.heap.IsList l items) ∧ items.size ≤ sizeLine ∧ Fr h₀ L s₁.heap m ∧ News h₀ L s₁.heap news ∧
    (L ≠ e ∧ L ≠ it ∧ h₀.get? e = none ∧ h₀.get? it = none) ∧ (∀ p ∈ news, p.1 ≠ e ∧ p.1 ≠ it) ∧
    (∀ (i : Nat) v t C oC h tk m₂ E', items[i]? = some v → NsObj oC m₂ → m₂ x = some (.int (i : Int) t) → m₂ x₂ = some v → Fr h₀ L h m → News h₀ L h ((C, oC) :: news) →
      wpAny (model prog w) A (eval elt (compEnvC scope cl C env)) (fun y s' => R i y ∧ ∃ tk', s' = { s₁ with heap := h, toks := tk' }) E' { s₁ with heap := h, toks := tk }) ∧
    ∀ D h tk ys, Fr h₀ L h m → News h₀ L h ((D, lst ys) :: news) → Off1 D news → ys.length = items.size → (∀ i y, ys[i]? = some y → R i y) → Q (.ref D) { s₁ with heap := h, toks := tk }
theorem ListComp_E {elt iter : Expr} {x x₂ : Str} {px px₂ tp : Pos} {tk} {scope : Scope} {cl : List (Str × Addr)} {pos : Pos} {Q : Value → Shared → Prop} (_F₀ : Fr h₀ L s.heap m)
    (hclos : closureFor scope env = pure cl) (hcell : ∀ y ∈ scope.names, y.2 ≠ .cell) (hkind : scope.kind = .function)
    (hnames : ∀ y ∈ scope.names, y.2 = .local → scope.names.lookup y.1 = some .local) (hx : scope.names.lookup x = some .local) (hx₂ : scope.names.lookup x₂ = some .local) (hxx : x ≠ x₂)
    (h : wpAny (model prog w) A (eval iter env) (SrcE prog w A h₀ L m env elt x x₂ scope cl Q) E s)
    (hs : ∀ x, foldedSetIterable iter env x = pure x := by intro _; rfl) :
    wpAny (model prog w) A (eval (.ListComp elt [⟨.Tuple [.Name x px, .Name x₂ px₂] tk tp, iter, [], 0⟩] scope pos) env) Q E s := by
  rw [eval_ListComp]
  refine wpAny_comprehension_free (use := none) rfl hs hclos hkind hnames (wpAny_mono h (fun xv s₁ h₁ => ?_) fun _ _ e => e)
  obtain ⟨e, it, l, items, news, R, rfl, hh, ⟨h1, h2, h3⟩, ⟨e1, e2, e3⟩, hsz, F, N, ⟨k1, k2, k3, k4⟩, off, turn, fin⟩ := h₁
  refine wpAny_pyIter_enum e1 ?_
  refine block_E hh h1 h2 h3 e1 e2 e3 hsz hcell hkind hx hx₂ hxx F N k1 k2 k3 k4 off turn ?_
  intro D C h tk m' ys F' N' o1 hn hC₀ hD₀ hCL hDL hCD offC hlen hR
  refine ⟨m', hn, fun h'' hs'' => fin D h'' tk ys (F'.change hs'' hCL hC₀) (fun p hp => ?_) o1 hlen hR⟩
  refine ⟨hs''.extBut _ _ ?_ (N' p hp).1, (N' p hp).2⟩
  rcases List.mem_cons.mp hp with rfl | hp
  · exact Ne.symm hCD
  · exact offC p hp
end
end Mine

end
section
open PySem PySem.W PyProof.Rows PySem.Calls PyProof.Rows.LCg
set_option Elab.async false
set_option maxRecDepth 100000
namespace Mine
theorem freshM9 : True := by
  w_top off
  k_with_none
  exact trivial
theorem enterC {prog : Program} {w : World} {K : Frag} {p : Program} {loose : List Str} {mean : ExcName → Option Value} {mg mb : Str → Option Value} {A : Around} {s : Shared}
    {name qual : Str} {params : Arguments} {body : List Stmt} {scope : Scope} {dV kV doc pm cdv ct oc : Value} {an od : Option Addr} {osl : Array (Option Value)} {f : Addr} {vals : List Value} (binds : List (Str × Value))
    {Q E : Value → Shared → Prop}
    (X : K.In s.heap) (T : Top p loose mean mg mb s.heap)
    (ho : K.lookup f = some ⟨oc, od, .func (fnOf name qual params body scope dV kV doc pm an cdv ct), osl⟩) (hcd : codeIn K cdv qual = true) (hroom : A.depth < recursionLimit)
    (hbind : BindsTo s (fnOf name qual params body scope dV kV doc pm an cdv ct) ⟨vals, []⟩ binds)
    (hkind : (binds.all fun y => scope.names.lookup y.1 == some .local || scope.names.lookup y.1 == some .cell) = true)
    (hnd : ((cellsFrom 0 scope.names []).map (·.1)).Nodup)
    (h : ∀ L' h₁ n cells, Fr s.heap L' h₁ (bindL (envOfC qual scope L' f cdv).kindOf binds fun _ => none) → News s.heap L' h₁ cells →
      CellsAre (bindC (envOfC qual scope L' f cdv).kindOf binds fun _ => none) (cellsFrom (L' + 1) scope.names []) cells →
      wpAny (model prog w) (A.deeper (envOfC qual scope L' f cdv)) (execs body (envOfC qual scope L' f cdv))
        (fun fl s' => Q (match fl with | .ret v => v | _ => .none) s') (fun _ _ => False)
        { s with heap := h₁, toks := n })
    (hco : scope.isCoroutine = false) (hgen : scope.isGenerator = false) (hk : scope.kind = .function) : wpAny (model prog w) A (call (.ref f) vals) Q E s := by
  refine wpAny_call (codeAny_call_function hroom (X _ _ ho) rfl hco hgen rfl (codeRec_of X hcd) (hbind _ _ _ _ ?_))
  refine wpAny_newFunctionEnv_cells hk (kindsX hkind _) fun env' he s' x => ?_
  subst he
  refine ⟨T.nolimit.keeps x.toInCall.keep, codeAny_func ?_⟩
  obtain ⟨h₁, tk, rfl, _⟩ := x.done
  have hk₁ := x.toInCall.keep
  obtain ⟨cells, NC, Y⟩ := Cl.news (h₀ := s.heap) (Nat.le_refl _) fun n c hm => ⟨x.cell n c (lookup_of_mem_nodup (cellsFrom_names scope.names 0 (s.heap.objs.size + 1) [] [] rfl ▸ hnd) hm), x.above n c hm⟩
  exact wpAny_mono (h s.heap.objs.size h₁ tk cells ⟨x.toInCall.ns, hk₁, Nat.le_refl _⟩ NC Y) (fun _ _ x => x) (fun _ _ x => x.elim)
theorem Bw_le {wd : Int} (h : wd ≤ 9) : Bw wd ≤ 512 := by
  have : (2 : Int) ^ wd.toNat ≤ 2 ^ 9 := pow_mono (by decide) (by omega)
  exact this
theorem srcE_of {prog : Program} {w : World} {A : Around} {s : Shared} {h₀ : Heap} {L : Addr} {m : Str → Option Value} {env : Env} {elt : PySem.Expr} {x x₂ : Str} {scope : Scope} {cl : List (Str × Addr)} {Q : Value → Shared → Prop} {l : Addr} {items : Array Value} {news : List (Addr × Obj)} {h' : Heap} (R : Nat → Value → Prop)
    (hh : A.handled = none) (F : Fr h₀ L s.heap m) (N : News h₀ L s.heap news) (e1 : IsEnum h' (s.heap.objs.size + 1) s.heap.objs.size 0 .none) (e2 : h'.IsListIter s.heap.objs.size l 0) (e3 : h'.IsList l items) (hk : ∀ b o, s.heap.get? b = some o → h'.get? b = some o)
    (n2 : l ≠ s.heap.objs.size + 1) (n3 : l ≠ s.heap.objs.size) (hsz : items.size ≤ sizeLine)
    (turn : ∀ (i : Nat) v t C oC h tk m₂ E', items[i]? = some v → NsObj oC m₂ → m₂ x = some (.int (i : Int) t) → m₂ x₂ = some v → Fr h₀ L h m → News h₀ L h ((C, oC) :: news) →
      wpAny (model prog w) A (eval elt (compEnvC scope cl C env)) (fun y s' => R i y ∧ ∃ tk', s' = { s with heap := h, toks := tk' }) E' { s with heap := h, toks := tk })
    (fin : ∀ D h tk (ys : List Value), Fr h₀ L h m → News h₀ L h ((D, W.listOf ys.toArray ys.length) :: news) → Off1 D news → ys.length = items.size → (∀ i y, ys[i]? = some y → R i y) → Q (.ref D) { s with heap := h, toks := tk }) :
    SrcE prog w A h₀ L m env elt x x₂ scope cl Q (.ref (s.heap.objs.size + 1)) { s with heap := h' } := by
  have hL := F.ns.lt
  have fr : ∀ a, s.heap.objs.size ≤ a → h₀.get? a = none := fun a ha => Heap.get?_none_of_le (Nat.le_trans F.above (Nat.le_trans (Nat.le_of_lt hL) ha))
  exact ⟨_, _, l, items, news, R, rfl, hh, ⟨Nat.succ_ne_self _, n2, n3⟩, ⟨e1, e2, e3⟩, hsz, F.keeps hk, fun p hp => ⟨hk _ _ (N p hp).1, (N p hp).2⟩, ⟨Nat.ne_of_lt (Nat.lt_succ_of_lt hL), Nat.ne_of_lt hL, fr _ (Nat.le_succ _), fr _ (Nat.le_refl _)⟩,
    fun p hp => have := Heap.lt_size (N p hp).1; ⟨Nat.ne_of_lt (Nat.lt_succ_of_lt this), Nat.ne_of_lt this⟩, turn, fin⟩
theorem ints_get {vs : List Value} {xs : List Int} (h : IntsAre vs xs) : ∀ {i : Nat} {v : Value}, vs[i]? = some v → i < xs.length ∧ ∃ t, v = .int (xs.getD i 0) t := by
  induction h with
  | nil => intro i v q; simp at q
  | cons n t _ ih =>
    intro i v q
    cases i with
    | zero => simp at q; exact ⟨by simp, t, by simp [q]⟩
    | succ i =>
      have := ih (by simpa using q)
      exact ⟨by simp; omega, by simpa using this.2⟩
theorem ints_rel {g : Nat → Int} : ∀ {ys : List Value}, (∀ (i : Nat) (y : Value), ys[i]? = some y → ∃ t, y = Value.int (g i) t) → IntsAre ys ((List.range ys.length).map g) := by
  intro ys
  induction ys generalizing g with
  | nil => intro _; exact .nil
  | cons y r ih =>
    intro h
    obtain ⟨t, rfl⟩ := h 0 y (by simp)
    rw [List.length_cons, List.range_succ_eq_map, List.map_cons, List.map_map]
    exact .cons _ _ (ih fun i z q => h (i + 1) z (by simpa using q))
theorem sum_val {B wd : Int} (hBw : B = Bw wd) (hw : 2 ≤ wd) {xs : List Int} : ∀ k, k ≤ xs.length → ((List.range k).map fun i : Nat => xs.getD i 0 * 2 ^ (wd * (i : Int)).toNat).sum = val B (xs.take k)
  | 0, _ => by simp [val]
  | k + 1, hk => by
    rw [List.range_succ, List.map_append, List.sum_append, sum_val hBw hw k (by omega), val_take_succ (by omega)]
    have e : (2 : Int) ^ (wd * (k : Int)).toNat = B ^ k := by
      subst hBw
      rw [Bw, ← Int.pow_mul]
      congr 1
      obtain ⟨n, rfl⟩ := Int.eq_ofNat_of_zero_le (show 0 ≤ wd by omega)
      rw [← Int.natCast_mul]; rfl
    simp only [List.map_cons, List.map_nil, List.sum_cons, List.sum_nil, Int.add_zero, e]
    rw [Int.mul_comm (B ^ k)]
local macro_rules | `(tactic| walk_at "eval ListComp") => `(tactic| k_extra "eval ListComp")
theorem readyM91 : True := by
  k_with "eval ListComp" => (k_here; k_dflt (refine ListComp_E (by k_asm) (by with_unfolding_all rfl) (by decide) (by rfl) (by decide) (by rfl) (by rfl) (by decide) ?_))
  exact trivial
local macro_rules | `(tactic| walk_at "call type:enumerate") => `(tactic| k_extra "call type:enumerate")
theorem readyM92 : True := by
  k_with "call type:enumerate" => (k_here; k_dflt (refine enum_rows (by k_asm) (by is_list) ?_; intro h_q' e1_q' e2_q' e3_q' F_q' hk_q' n1_q' n2_q' n3_q' n4_q' n5_q'; clear n1_q' n4_q' n5_q'))
  exact trivial
local macro_rules | `(tactic| walk_at "pyIter ref") => `(tactic| k_extra "pyIter ref")
section
variable (w : World) {p : Program} {loose : List Str} {mean : ExcName → Option Value} {mg mb : Str → Option Value} {dp : Nat} {fr : Option (List Env)} {gd : Option (List Code)} {un : Nat} {s : Shared} {Q E : Value → Shared → Prop}
set_option maxHeartbeats 2000000 in
theorem law_whole_t {a : Addr} {vs : List Value} {xs : List Int} {wd : Int} {tw : Tok} {B : Int} (hBw : B = Bw wd)
  (X : (frag.heap_1 w.params).In s.heap) (T : Top p loose mean mg mb s.heap) (hroom : dp < recursionLimit) 
  (hl : s.heap.IsList a vs.toArray) (hi : IntsAre vs xs) (hn : xs.length ≤ 100)
  (hw : 2 ≤ wd) (hw2 : wd ≤ 9) (rx : Row B xs)
  (h : ∀ tk tk' h', s.heap.StaysIn h' → Q (.int (val B xs) tk) {s with heap := h', toks := tk'}) :
  wpAny (model PySem.Challenge.rw_nn0004_01.row.prog w) (mkA dp fr gd un) (call (.ref 140) [.ref a, .int wd tw]) Q E s := by
  have hB : 2 ≤ B := hBw ▸ Bw_ge hw
  revert X; k_fill; intro X
  (k_dflt (refine' enterC [((Str.ofString "row"), .ref a), ((Str.ofString "w"), .int wd tw)] (by assumption) (by assumption) ?k6 ?k7 (by dsimp only [mkA, Around.deeper]; omega) ?k9 ?kB ?kD ?_ ?c2 ?c3 ?c4; (case k6 => k_is); (case k7 => k_is); (case k9 => exact BindsTo.of_eq rfl); (case kB => exact rfl); (case kD => decide +kernel); (case c2 => exact rfl); (case c3 => exact rfl); (case c4 => exact rfl); k_whole; intro L' h' n cells' F' N' Y'); k_cells Y'; (try simp only [List.cons_append, List.nil_append, List.append_nil] at N'); (try dsimp only); (try k_fold))
  k_with_none
  k_with "eval ListComp" => (k_here; k_dflt (refine ListComp_E (by k_asm) (by with_unfolding_all rfl) (by decide) (by rfl) (by decide) (by rfl) (by rfl) (by decide) ?_))
  k_with "call type:enumerate" => (k_here; k_dflt (refine enum_rows (by k_asm) (by is_list) ?_; intro h_q' e1_q' e2_q' e3_q' F_q' hk_q' n1_q' n2_q' n3_q' n4_q' n5_q'; clear n1_q' n4_q' n5_q'))
  k_steps
  refine srcE_of (fun i y => ∃ t, y = Value.int (xs.getD i 0 * 2 ^ (wd * (i : Int)).toNat) t) rfl (by assumption) (by assumption) (by assumption) (by assumption) (by assumption) (by assumption) (by assumption) (by assumption) (by size_fits) ?_ ?_
  · intro i v t C oC h1 tk m₂ E' hv hC hx hy F1 N1
    obtain ⟨hi', t', rfl⟩ := ints_get hi (i := i) (v := v) (by simpa using hv)
    have hx0 := (getD_row hB rx i).1
    have hx1 : xs.getD i 0 < 512 := by have := (getD_row hB rx i).2; have := Bw_le hw2; omega
    have hb0 : 0 ≤ wd * (i : Int) := Int.mul_nonneg (by omega) (by omega)
    have hb1 : wd * (i : Int) ≤ 900 := by
      have h1 := Int.mul_le_mul_of_nonneg_right hw2 (show 0 ≤ (i : Int) by omega)
      omega
    k_steps
  · intro D h1 tk ys F1 N1 o1 hlen hR
    have hI := ints_rel hR
    have e : ys.length = xs.length := by rw [hlen, ← hi.length]; simp
    have e2 := sum_val hBw hw (xs := xs) xs.length (Nat.le_refl _)
    rw [List.take_length, ← e] at e2
    k_steps
    rw [e2]
    exact h _ _ _ (Fr.keep (by assumption))
end
end Mine

end
section
open PySem PySem.W PyProof.Rows PySem.Calls PyProof.Rows.LCg
set_option Elab.async false
set_option maxRecDepth 100000
namespace Mine
theorem freshM10 : True := by
  w_top off
  k_with_none
  exact trivial
/-- entering a def while the objects hs are let go -/
theorem enterH {prog : Program} {w : World} {K : Frag} {p : Program} {loose : List Str} {mean : ExcName → Option Value} {mg mb : Str → Option Value} {A : Around} {s : Shared} (hs : Led)
    {name qual : Str} {params : Arguments} {body : List Stmt} {scope : Scope} {dV kV doc pm cdv ct oc : Value} {an od : Option Addr} {osl : Array (Option Value)} {f : Addr} {vals : List Value} (binds : List (Str × Value))
    {Q E : Value → Shared → Prop} (hh : ∀ q ∈ hs, s.heap.get? q.1 = some q.2)
    (X : K.In (hideAll s.heap (hs.map (·.1)))) (T : Top p loose mean mg mb (hideAll s.heap (hs.map (·.1))))
    (ho : K.lookup f = some ⟨oc, od, .func (fnOf name qual params body scope dV kV doc pm an cdv ct), osl⟩) (hcd : codeIn K cdv qual = true) (hroom : A.depth < recursionLimit)
    (hbind : BindsTo s (fnOf name qual params body scope dV kV doc pm an cdv ct) ⟨vals, []⟩ binds) (hloc : ∀ y ∈ binds, scope.names.lookup y.1 = some .local)
    (h : ∀ L' h₁ n, Fr (hideAll s.heap (hs.map (·.1))) L' h₁ (kstB (fun _ => none) binds.reverse) → News (hideAll s.heap (hs.map (·.1))) L' h₁ hs → (∀ q ∈ hs, q.1 < L') →
      wpAny (model prog w) (A.deeper (envOf qual scope L' f cdv)) (execs body (envOf qual scope L' f cdv))
        (fun fl s' => Q (match fl with | .ret v => v | _ => .none) s') (fun _ _ => False)
        { s with heap := h₁, toks := n })
    (hco : scope.isCoroutine = false) (hgen : scope.isGenerator = false) (hk : scope.kind = .function)
    (hcell : ∀ x ∈ scope.names, x.2 ≠ .cell) : wpAny (model prog w) A (call (.ref f) vals) Q E s := by
  have st : (hideAll s.heap (hs.map (·.1))).StaysIn s.heap := fun b o e => of_hideAll _ e
  refine wpAny_call (codeAny_call_def (fd := fnOf name qual params body scope dV kV doc pm an cdv ct) (body := body) (binds := binds) hroom (st _ _ (X _ _ ho)) rfl (T.nolimit.keeps st) (codeRec_of (X.keeps st) hcd) rfl hbind hcell hloc (fun h₁ hns hk₁ => ?_) hco hgen hk)
  refine wpAny_mono (h _ h₁ _ ⟨kstB_lookup _ ▸ hns, fun b x e => hk₁ b x (of_hideAll _ e), Nat.le_of_eq (hideAll_size _ _)⟩ (fun q hq => ?_) fun q hq => Heap.lt_size (hh q hq)) (fun _ _ x => x) (fun _ _ x => x.elim)
  exact ⟨hk₁ _ _ (hh q hq), Nat.ne_of_lt (Heap.lt_size (hh q hq)), hideAll_none _ (List.mem_map_of_mem hq)⟩
theorem enterCH {prog : Program} {w : World} {K : Frag} {p : Program} {loose : List Str} {mean : ExcName → Option Value} {mg mb : Str → Option Value} {A : Around} {s : Shared} (hs : Led)
    {name qual : Str} {params : Arguments} {body : List Stmt} {scope : Scope} {dV kV doc pm cdv ct oc : Value} {an od : Option Addr} {osl : Array (Option Value)} {f : Addr} {vals : List Value} (binds : List (Str × Value))
    {Q E : Value → Shared → Prop} (hh : ∀ q ∈ hs, s.heap.get? q.1 = some q.2)
    (X : K.In (hideAll s.heap (hs.map (·.1)))) (T : Top p loose mean mg mb (hideAll s.heap (hs.map (·.1))))
    (ho : K.lookup f = some ⟨oc, od, .func (fnOf name qual params body scope dV kV doc pm an cdv ct), osl⟩) (hcd : codeIn K cdv qual = true) (hroom : A.depth < recursionLimit)
    (hbind : BindsTo s (fnOf name qual params body scope dV kV doc pm an cdv ct) ⟨vals, []⟩ binds)
    (hkind : (binds.all fun y => scope.names.lookup y.1 == some .local || scope.names.lookup y.1 == some .cell) = true)
    (hnd : ((cellsFrom 0 scope.names []).map (·.1)).Nodup)
    (h : ∀ L' h₁ n cells, Fr (hideAll s.heap (hs.map (·.1))) L' h₁ (bindL (envOfC qual scope L' f cdv).kindOf binds fun _ => none) → News (hideAll s.heap (hs.map (·.1))) L' h₁ (cells ++ hs) → (∀ q ∈ hs, q.1 < L') →
      CellsAre (bindC (envOfC qual scope L' f cdv).kindOf binds fun _ => none) (cellsFrom (L' + 1) scope.names []) cells →
      wpAny (model prog w) (A.deeper (envOfC qual scope L' f cdv)) (execs body (envOfC qual scope L' f cdv))
        (fun fl s' => Q (match fl with | .ret v => v | _ => .none) s') (fun _ _ => False)
        { s with heap := h₁, toks := n })
    (hco : scope.isCoroutine = false) (hgen : scope.isGenerator = false) (hk : scope.kind = .function) : wpAny (model prog w) A (call (.ref f) vals) Q E s := by
  have st : (hideAll s.heap (hs.map (·.1))).StaysIn s.heap := fun b o e => of_hideAll _ e
  refine wpAny_call (codeAny_call_function hroom (st _ _ (X _ _ ho)) rfl hco hgen rfl (codeRec_of (X.keeps st) hcd) (hbind _ _ _ _ ?_))
  refine wpAny_newFunctionEnv_cells hk (kindsX hkind _) fun env' he s' x => ?_
  subst he
  refine ⟨(T.nolimit.keeps st).keeps x.toInCall.keep, codeAny_func ?_⟩
  obtain ⟨h₁, tk, rfl, _⟩ := x.done
  have hk₁ := x.toInCall.keep
  obtain ⟨cells, NC, Y⟩ := Cl.news (h₀ := s.heap) (Nat.le_refl _) fun n c hm => ⟨x.cell n c (lookup_of_mem_nodup (cellsFrom_names scope.names 0 (s.heap.objs.size + 1) [] [] rfl ▸ hnd) hm), x.above n c hm⟩
  refine wpAny_mono (h s.heap.objs.size h₁ tk cells ⟨x.toInCall.ns, fun b o e => hk₁ b o (of_hideAll _ e), Nat.le_of_eq (hideAll_size _ _)⟩ (fun q hq => ?_) (fun q hq => Heap.lt_size (hh q hq)) Y) (fun _ _ x => x) (fun _ _ x => x.elim)
  rcases List.mem_append.mp hq with hq | hq
  · refine ⟨(NC q hq).1, (NC q hq).2.1, ?_⟩
    cases z : (hideAll s.heap (hs.map (·.1))).get? q.1 with
    | none => rfl
    | some o => have := st _ _ z; rw [(NC q hq).2.2] at this; cases this
  · exact ⟨hk₁ _ _ (hh q hq), Nat.ne_of_lt (Heap.lt_size (hh q hq)), hideAll_none _ (List.mem_map_of_mem hq)⟩
/-- entering a function object of the heap -/
theorem enterF {prog : Program} {w : World} {p : Program} {loose : List Str} {mean : ExcName → Option Value} {mg mb : Str → Option Value} {A : Around} {s : Shared} (hs : Led)
    {name qual : Str} {params : Arguments} {body : List Stmt} {scope : Scope} {cl : List (Str × Addr)} {dV kV doc pm cdv ct : Value} {an : Option Addr} {fo : Obj} {f : Addr} {vals : List Value} (binds : List (Str × Value))
    {Q E : Value → Shared → Prop} (hh : ∀ q ∈ hs, s.heap.get? q.1 = some q.2)
    (T : Top p loose mean mg mb (hideAll s.heap (hs.map (·.1))))
    (ho : s.heap.get? f = some fo) (hd : fo.data = .func (fnX name qual params body scope cl dV kV doc pm an cdv ct)) (hcd : s.heap.CodeRec cdv qual) (hroom : A.depth < recursionLimit)
    (hbind : BindsTo s (fnX name qual params body scope cl dV kV doc pm an cdv ct) ⟨vals, []⟩ binds) (hloc : ∀ y ∈ binds, scope.names.lookup y.1 = some .local)
    (h : ∀ L' h₁ n, Fr (hideAll s.heap (hs.map (·.1))) L' h₁ (kstB (fun _ => none) binds.reverse) → News (hideAll s.heap (hs.map (·.1))) L' h₁ hs → (∀ q ∈ hs, q.1 < L') →
      wpAny (model prog w) (A.deeper (envX qual scope L' f cdv cl)) (execs body (envX qual scope L' f cdv cl))
        (fun fl s' => Q (match fl with | .ret v => v | _ => .none) s') (fun _ _ => False)
        { s with heap := h₁, toks := n })
    (hco : scope.isCoroutine = false) (hgen : scope.isGenerator = false) (hk : scope.kind = .function)
    (hcell : ∀ x ∈ scope.names, x.2 ≠ .cell) : wpAny (model prog w) A (call (.ref f) vals) Q E s := by
  have st : (hideAll s.heap (hs.map (·.1))).StaysIn s.heap := fun b o e => of_hideAll _ e
  refine wpAny_call (codeAny_call_def (fd := fnX name qual params body scope cl dV kV doc pm an cdv ct) (body := body) (binds := binds) hroom ho hd (T.nolimit.keeps st) hcd rfl hbind hcell hloc (fun h₁ hns hk₁ => ?_) hco hgen hk)
  refine wpAny_mono (h _ h₁ _ ⟨kstB_lookup _ ▸ hns, fun b x e => hk₁ b x (of_hideAll _ e), Nat.le_of_eq (hideAll_size _ _)⟩ (fun q hq => ?_) fun q hq => Heap.lt_size (hh q hq)) (fun _ _ x => x) (fun _ _ x => x.elim)
  exact ⟨hk₁ _ _ (hh q hq), Nat.ne_of_lt (Heap.lt_size (hh q hq)), hideAll_none _ (List.mem_map_of_mem hq)⟩
theorem pow_left {a b : Int} (ha : 0 ≤ a) (h : a ≤ b) : ∀ k : Nat, 0 ≤ a ^ k ∧ a ^ k ≤ b ^ k
  | 0 => by simp
  | k + 1 => by
    have ih := pow_left ha h k
    rw [Int.pow_succ, Int.pow_succ]
    exact ⟨Int.mul_nonneg ih.1 ha, Int.mul_le_mul ih.2 h ha (Int.le_trans ih.1 ih.2)⟩
theorem bits_of {B wd x : Int} (hBw : B = Bw wd) (hw : 2 ≤ wd) (hw2 : wd ≤ 9) (hx : 0 ≤ x) (hn : (rowOf B x).length ≤ 100) : Builtin.Int.intBits x ≤ 2 ^ 20 := by
  have hB : 2 ≤ B := hBw ▸ Bw_ge hw
  have h1 := (len_le_iff hB hx 100).mp hn
  have h2 : B ^ 100 ≤ (512 : Int) ^ 100 := (pow_left (by omega) (hBw ▸ Bw_le hw2) 100).2
  have h3 : (512 : Int) ^ 100 ≤ ((2 ^ 1000 : Nat) : Int) := by decide +kernel
  have h4 : x.natAbs < 2 ^ 1000 := by
    have : (x.natAbs : Int) < ((2 ^ 1000 : Nat) : Int) := by
      rw [Int.natAbs_of_nonneg hx]
      exact Int.lt_of_lt_of_le h1 (Int.le_trans h2 h3)
    exact Int.ofNat_lt.mp this
  have h5 : Builtin.Int.intBits x ≤ 1000 := intBits_le_iff.mpr h4
  exact Nat.le_trans h5 (by decide)
section
variable (w : World) {p : Program} {loose : List Str} {mean : ExcName → Option Value} {mg mb : Str → Option Value} {dp : Nat} {fr : Option (List Env)} {gd : Option (List Code)} {un : Nat} {s : Shared} {Q E : Value → Shared → Prop}
  {h₀ : Heap} {L : Addr} {m : Str → Option Value} {news : List (Addr × Obj)} {a b : Addr} {vs us : List Value} {xs ys : List Int} {x y wd : Int} {tw : Tok} {B : Int}
theorem call_law_row {num : Int} {tn : Tok} (F : Fr h₀ L s.heap m) (N : News h₀ L s.heap news) (X : (frag.heap_1 w.params).In h₀) (T : Top p loose mean mg mb h₀)
  (hroom : dp < recursionLimit) (hBw : B = Bw wd) (hw : 2 ≤ wd) (hw2 : wd ≤ 9) (hn0 : 0 ≤ num) (hn : (rowOf B num).length ≤ 100)
  (ret : ∀ D ws k h' tk' zs, Fr h₀ L h' m → News h₀ L h' ((D, W.listOf ws.toArray k) :: news) → AllNe D news → IntsAre ws zs → zs = rowOf B num → Q (.ref D) {s with heap := h', toks := tk'}) :
  wpAny (model PySem.Challenge.rw_nn0004_01.row.prog w) (mkA dp fr gd un) (call (.ref 135) [.int num tn, .int wd tw]) Q E s := by
  refine law_row_t w hBw (X.keeps F.keep) (T.keeps F.keep) hroom hw hw2 hn0 hn fun D h' tk' ws k st hf ho hI => ?_
  obtain ⟨F', N', l⟩ := made F N st hf ho
  exact ret D ws k h' tk' _ F' N' l hI rfl
theorem call_law_whole (F : Fr h₀ L s.heap m) (N : News h₀ L s.heap news) (X : (frag.heap_1 w.params).In h₀) (T : Top p loose mean mg mb h₀)
  (hl : s.heap.IsList a vs.toArray) (hi : IntsAre vs xs)
  (hroom : dp < recursionLimit) (hBw : B = Bw wd) (hw : 2 ≤ wd) (hw2 : wd ≤ 9) (ex : xs = rowOf B x) (hx : 0 ≤ x) (hn : xs.length ≤ 100)
  (ret : ∀ v tv h' tk', Fr h₀ L h' m → News h₀ L h' news → v = x → Builtin.Int.intBits x ≤ 2 ^ 20 → Q (.int v tv) {s with heap := h', toks := tk'}) :
  wpAny (model PySem.Challenge.rw_nn0004_01.row.prog w) (mkA dp fr gd un) (call (.ref 140) [.ref a, .int wd tw]) Q E s := by
  have hB : 2 ≤ B := hBw ▸ Bw_ge hw
  refine law_whole_t w hBw (X.keeps F.keep) (T.keeps F.keep) hroom hl hi hn hw hw2 (ex ▸ rowOf_row hB hx) fun tk tk' h' st => ?_
  obtain ⟨F', N'⟩ := kept F N st
  exact ret _ tk h' tk' F' N' (by rw [ex, val_rowOf hB hx]) (bits_of hBw hw hw2 hx (ex ▸ hn))
end
end Mine

end
section
open PySem PySem.W PyProof.Rows PySem.Calls PyProof.Rows.LCg
set_option Elab.async false
set_option maxRecDepth 100000
namespace Mine
theorem freshM11 : True := by
  w_top off
  k_with_none
  exact trivial
/-- what the product handed in does: a row of the product, and one pair more in the list at t -/
def GivenOk (w : World) (g : Heap) (f t : Addr) (wd : Int) : Prop :=
  FnAt f g ∧ ∀ (p : Program) (loose : List Str) (mean : ExcName → Option Value) (mg mb : Str → Option Value) (dp : Nat) (fr : Option (List Env)) (gd : Option (List Code)) (un : Nat) (s : Shared) (Q E : Value → Shared → Prop)
    (a b : Addr) (vs us : List Value) (xs ys : List Int) (x y : Int) (tw : Tok) (tv : List Value) (k : Nat),
    g.StaysIn (hideAll s.heap [t]) → (frag.heap_1 w.params).In (hideAll s.heap [t]) → Top p loose mean mg mb (hideAll s.heap [t]) → dp + 2 < recursionLimit →
    (hideAll s.heap [t]).IsList a vs.toArray → IntsAre vs xs → (hideAll s.heap [t]).IsList b us.toArray → IntsAre us ys →
    xs = rowOf (Bw wd) x → ys = rowOf (Bw wd) y → 0 ≤ x → 0 ≤ y → xs.length ≤ 30 → ys.length ≤ 30 →
    s.heap.get? t = some (W.listOf tv.toArray k) → tv.length ≤ 5000 →
    (∀ D T h' tk' ws n t1 t2, (hideAll s.heap [t]).StaysIn h' → s.heap.get? D = none → s.heap.get? T = none → h'.get? D = some (W.listOf ws.toArray n) → IntsAre ws (rowOf (Bw wd) (x * y)) →
      h'.get? T = some (tupO #[.int xs.length t1, .int ys.length t2]) → h'.get? t = some (W.listOf (tv ++ [Value.ref T]).toArray (k + 1)) → Q (.ref D) {s with heap := h', toks := tk'}) →
    wpAny (model PySem.Challenge.rw_nn0004_01.row.prog w) (mkA dp fr gd un) (call (.ref f) [.ref a, .ref b, .int wd tw]) Q E s
theorem GivenOk.mono {w : World} {g g' : Heap} {f t : Addr} {wd : Int} (x : GivenOk w g f t wd) (st : g.StaysIn g') : GivenOk w g' f t wd :=
  ⟨let ⟨oc, od, fd, sl, e⟩ := x.1; ⟨oc, od, fd, sl, st _ _ e⟩, fun p loose mean mg mb dp fr gd un s Q E a b vs us xs ys x' y tw tv k h1 => x.2 p loose mean mg mb dp fr gd un s Q E a b vs us xs ys x' y tw tv k fun b o e => h1 b o (st b o e)⟩
/-- the table of the maker's nested codes -/
def TabOk (ps : Array Value) (tl : Led) : Prop :=
  ps = #[] ∨ ∃ c' oc vs tq, ps = #[rawInt 108, rawInt 4, .ref c'] ∧ (c', oc) ∈ tl ∧ oc.data = .fields vs ∧ vs[1]? = some (.str ((Str.ofString "_law_given") ++ ".<locals>." ++ (Str.ofString "given")) tq)
theorem TabOk.mono {ps : Array Value} {tl tl' : Led} (x : TabOk ps tl) (h : ∀ q ∈ tl, q ∈ tl') : TabOk ps tl' := by
  rcases x with x | ⟨c', oc, vs, tq, a, b, c⟩
  · exact .inl x
  · exact .inr ⟨c', oc, vs, tq, a, h _ b, c⟩
local macro_rules | `(tactic| ktr_room) => `(tactic| k_extra "ktr_room")
theorem readyM111 : True := by
  k_with "ktr_room" => ((try dsimp only [mkA, Around.deeper]); first | omega | decide)
  exact trivial
local macro_rules | `(tactic| ktr_unf) => `(tactic| k_extra "ktr_unf")
theorem readyM112 : True := by
  k_with "ktr_unf" => first | omega | ((simp only [List.length_append, List.length_cons, List.length_nil, rangeKs_length] at *); omega)
  exact trivial
local macro_rules | `(tactic| ktr_rel) => `(tactic| k_extra "ktr_rel")
theorem readyM113 : True := by
  k_with "ktr_rel" => first | assumption | omega
  exact trivial
local macro_rules | `(tactic| walk_at "call ref") => `(tactic| k_extra "call ref")
theorem readyM114 : True := by
  k_with "call ref" => (k_here; (with_reducible show wpAny _ _ (call (Value.ref 135) [Value.int _ _, Value.int _ _]) _ _ _); k_dflt (refine' call_law_row _ ?F ?N ?X ?T ?room ?w0 ?w1 ?w2 ?n0 ?n1 ?_; (case F => k_asm); (case N => k_asm); (case X => k_asm); (case T => k_asm); (case room => ktr_room); (case w0 => assumption); (case w1 => assumption); (case w2 => assumption); (case n0 => ktr_rel); (case n1 => ktr_unf); k_whole); intro D_q' ws_q' k_q' h_q' tk_q' zs_q' F_q' N_q' l1_q i1_q e1_q; (simp only [AllNe, and_true] at l1_q); (try k_sweep))
  exact trivial
theorem readyM115 : True := by
  k_with "call ref" => (k_here; (with_reducible show wpAny _ _ (call (Value.ref 140) [Value.ref _, Value.int _ _]) _ _ _); k_dflt (refine' call_law_whole _ ?F ?N ?X ?T ?l1 ?i1 ?room ?w0 ?w1 ?w2 ?e1 ?p1 ?n1 ?_; (case F => k_asm); (case N => k_asm); (case X => k_asm); (case T => k_asm); (case l1 => is_list); (case i1 => assumption); (case room => ktr_room); (case w0 => assumption); (case w1 => assumption); (case w2 => assumption); (case e1 => assumption); (case p1 => ktr_rel); (case n1 => ktr_unf); k_whole); intro v_q' tv_q' h_q' tk_q' F_q' N_q' e1_q b1_q; (subst e1_q); (try k_sweep))
  exact trivial
theorem nameX_base {M : Model} {A : Around} {E : Value → Shared → Prop} {s : Shared} {h₀ : Heap} {L a : Addr} {m : Str → Option Value} {cn : Str} {cs : Scope} {ccd : Value} {cl : List (Str × Addr)} {x : Str} {pos : Pos} {v : Value} {Q : Value → Shared → Prop} {c : Addr} {o : Obj}
    (F : Fr h₀ L s.heap m) (hc : cl.lookup x = some c) (hv : h₀.get? c = some o) (hd : o.data = .cell (some v)) (h : Q v s)
    (hk : cs.kind = .function := by rfl) (hx : (envX cn cs L a ccd cl).kindOf x = some .free := by rfl) (hb : (x == ("__debug__" : Str)) = false := by decide) (hn : (x == ("__classdict__" : Str)) = false := by decide) :
    wpAny M A (eval (.Name x pos) (envX cn cs L a ccd cl)) Q E s := wpAny_Name (wpAny_loadName_free hk hx hc ⟨_, F.keep _ _ hv, hd⟩ h hn) hb
local macro_rules | `(tactic| walk_at "eval Name") => `(tactic| k_extra "eval Name")
theorem readyM116 : True := by
  k_with "eval Name" => (k_here; kc_free; k_dflt (refine' nameX_base ?F ?c ?v ?d ?_ ?a ?b; (case a => rfl); (case b => rfl); (case F => k_asm); (case c => exact rfl); (case v => assumption); (case d => assumption); k_whole))
  exact trivial
theorem notin1 {b x : Nat} (h1 : b ≠ x) : b ∉ [x] := by simp [h1]
theorem notin2 {b x y : Nat} (h1 : b ≠ x) (h2 : b ≠ y) : b ∉ [x, y] := by simp [h1, h2]
theorem notin_get {h : Heap} {l : List Addr} {b : Addr} {o : Obj} (e : (hideAll h l).get? b = some o) : b ∉ l := fun q => by rw [hideAll_none _ q] at e; cases e
theorem fresh_hide {h : Heap} {l : List Addr} {b : Addr} (hn : b ∉ l) (e : (hideAll h l).get? b = none) : h.get? b = none := by
  cases q : h.get? b with
  | none => rfl
  | some o => rw [hideAll_get _ q hn] at e; cases e
local macro_rules | `(tactic| mul_fits) => `(tactic| k_extra "mul_fits")
theorem readyM117 : True := by
  k_with "mul_fits" => exact IntMulOk.of_bits (by assumption) (by assumption)
  exact trivial
section
variable (w : World) {p : Program} {loose : List Str} {mean : ExcName → Option Value} {mg mb : Str → Option Value} {dp : Nat} {fr : Option (List Env)} {gd : Option (List Code)} {un : Nat} {s : Shared} {Q E : Value → Shared → Prop}
set_option maxHeartbeats 1000000 in
theorem law_given_miss {t : Addr} {ot : Obj} {wd : Int} {tw : Tok}
  (X : (frag.heap_1 w.params).In (hideAll s.heap [149, t])) (T : Top p loose mean mg mb (hideAll s.heap [149, t])) (C : CodeHd (hideAll s.heap [149, t]) 153 149) (hroom : dp < recursionLimit)
  (hP : s.heap.get? 149 = some (tabObj #[])) (ht : s.heap.get? t = some ot) (hne : t ≠ 149)
  (hw : 2 ≤ wd) (hw2 : wd ≤ 9)
  (h : ∀ (f c' : Addr) (oc : Obj) (vs : Array Value) (tq : Tok) (h' : Heap) (tk' : Nat), (hideAll s.heap [149, t]).StaysIn h' → h'.get? t = some ot → h'.get? 149 = some (tabObj #[rawInt 108, rawInt 4, .ref c']) → h'.get? c' = some oc → (hideAll s.heap [149, t]).get? c' = none → oc.data = .fields vs → vs[1]? = some (.str ((Str.ofString "_law_given") ++ ".<locals>." ++ (Str.ofString "given")) tq) → GivenOk w (hideAll h' [149, t]) f t wd → Q (.ref f) {s with heap := h', toks := tk'}) :
  wpAny (model PySem.Challenge.rw_nn0004_01.row.prog w) (mkA dp fr gd un) (call (.ref 154) [.int wd tw, .ref t]) Q E s := by
  revert X; k_fill; intro X
  (k_dflt (refine' enterCH [(149, tabObj #[]), (t, ot)] [((Str.ofString "w"), .int wd tw), ((Str.ofString "told"), .ref t)] (by intro q9 h9; (repeat' (first | (rcases List.mem_cons.mp h9 with rfl | h9))) <;> first | assumption | cases h9) (by assumption) (by assumption) ?k6 ?k7 (by dsimp only [mkA, Around.deeper]; omega) ?k9 ?kB ?kD ?_ ?c2 ?c3 ?c4; (case k6 => k_is); (case k7 => k_is); (case k9 => exact BindsTo.of_eq rfl); (case kB => exact rfl); (case kD => decide +kernel); (case c2 => exact rfl); (case c3 => exact rfl); (case c4 => exact rfl); k_whole; intro L' h' n cells' F' N' l0 Y'); k_cells Y'; (try simp only [List.cons_append, List.nil_append, List.append_nil] at N'); (simp only [List.map_cons, List.map_nil] at F' N'); (replace l0 := allLt_of l0; simp only [AllLt, and_true] at l0); (try dsimp only); (try k_fold))
  k_with_none
  k_with "ktr_room" => ((try dsimp only [mkA, Around.deeper]); first | omega | decide)
  k_with "ktr_unf" => first | omega | ((simp only [List.length_append, List.length_cons, List.length_nil, rangeKs_length] at *); omega)
  k_with "ktr_rel" => first | assumption | omega
  k_with "call ref" => (k_here; (with_reducible show wpAny _ _ (call (Value.ref 135) [Value.int _ _, Value.int _ _]) _ _ _); k_dflt (refine' call_law_row _ ?F ?N ?X ?T ?room ?w0 ?w1 ?w2 ?n0 ?n1 ?_; (case F => k_asm); (case N => k_asm); (case X => k_asm); (case T => k_asm); (case room => ktr_room); (case w0 => assumption); (case w1 => assumption); (case w2 => assumption); (case n0 => ktr_rel); (case n1 => ktr_unf); k_whole); intro D_q' ws_q' k_q' h_q' tk_q' zs_q' F_q' N_q' l1_q i1_q e1_q; (simp only [AllNe, and_true] at l1_q); (try k_sweep))
  k_with "call ref" => (k_here; (with_reducible show wpAny _ _ (call (Value.ref 140) [Value.ref _, Value.int _ _]) _ _ _); k_dflt (refine' call_law_whole _ ?F ?N ?X ?T ?l1 ?i1 ?room ?w0 ?w1 ?w2 ?e1 ?p1 ?n1 ?_; (case F => k_asm); (case N => k_asm); (case X => k_asm); (case T => k_asm); (case l1 => is_list); (case i1 => assumption); (case room => ktr_room); (case w0 => assumption); (case w1 => assumption); (case w2 => assumption); (case e1 => assumption); (case p1 => ktr_rel); (case n1 => ktr_unf); k_whole); intro v_q' tv_q' h_q' tk_q' F_q' N_q' e1_q b1_q; (subst e1_q); (try k_sweep))
  k_with "eval Name" => (k_here; kc_free; k_dflt (refine' nameX_base ?F ?c ?v ?d ?_ ?a ?b; (case a => rfl); (case b => rfl); (case F => k_asm); (case c => exact rfl); (case v => assumption); (case d => assumption); k_whole))
  k_with "mul_fits" => exact IntMulOk.of_bits (by assumption) (by assumption)
  k_steps
  (rename News _ _ _ _ => nE)
  (rename Fr _ _ _ _ => fE)
  (rename _ < _ => l2)
  (rename _ ∧ _ ∧ _ ∧ _ => l1)
  have hf := (isNew nE (List.mem_cons_self ..)).1
  have hcc := (isNew nE (List.mem_cons_of_mem _ (List.mem_cons_self ..))).1
  have hcc0 := (isNew nE (List.mem_cons_of_mem _ (List.mem_cons_self ..))).2
  have hcT := (isNew nE (List.mem_cons_of_mem _ (List.mem_cons_of_mem _ (List.mem_cons_self ..)))).1
  have hcW := (isNew nE (List.mem_cons_of_mem _ (List.mem_cons_of_mem _ (List.mem_cons_of_mem _ (List.mem_cons_self ..))))).1
  refine h _ _ _ _ _ _ _ fE.keep (isNew nE (by k_mem)).1 (isNew nE (by k_mem)).1 hcc hcc0 (by assumption) (by assumption) ?_
  clear h X T C hcc0
  replace hcc := hideAll_get [149, t] hcc (notin2 (by omega) (by omega))
  (rename Obj.data _ = Data.fields _ => dF)
  (rename _ = some (Value.str _ _) => dV)
  replace hf := hideAll_get [149, t] hf (notin2 (by omega) (by omega))
  replace hcT := hideAll_get [149, t] hcT (notin2 (by omega) (by omega))
  replace hcW := hideAll_get [149, t] hcW (notin2 (by omega) (by omega))
  (rename Obj.data _ = Data.cell _ => dW0)
  have dW : Obj.data _ = Data.cell (some (Value.int wd tw)) := dW0
  clear dW0
  (rename Obj.data _ = Data.cell (bindC _ _ _ _) => dT0)
  have dT : Obj.data _ = Data.cell (some (Value.ref t)) := dT0
  clear dT0
  have hrec : Heap.CodeRec _ _ _ := ⟨_, _, _, _, rfl, hcc, dF, dV⟩
  refine ⟨⟨_, _, _, _, hf⟩, fun p loose mean mg mb dp fr gd un s2 Q2 E2 a b vs us xs ys x y tw2 tv k hst X T hroom hla hia hlb hib ex ey hx hy hnx hny htv hlen ret => ?_⟩
  have hf2 := of_hideAll _ (hst _ _ hf)
  have hcT2 := hst _ _ hcT
  have hcW2 := hst _ _ hcW
  have hrec2 := (hrec.keeps hst).keeps fun b o e => of_hideAll _ e
  clear hf hcc hcT hcW hrec hst nE fE
  obtain ⟨B, hBw⟩ : ∃ B, B = Bw wd := ⟨_, rfl⟩
  rw [← hBw] at ex ey
  have hB : 2 ≤ B := hBw ▸ Bw_ge hw
  have hxy := Int.mul_nonneg hx hy
  have hlxy : (rowOf B (x * y)).length ≤ 100 := by
    have := len_mul hB hx hy
    rw [← ex, ← ey] at this
    omega
  (k_dflt (refine' enterF [(t, W.listOf tv.toArray k)] [((Str.ofString "a"), .ref a), ((Str.ofString "b"), .ref b), ((Str.ofString "width"), .int wd tw2)] (by intro q9 h9; (repeat' (first | (rcases List.mem_cons.mp h9 with rfl | h9))) <;> first | assumption | cases h9) (by assumption) (by assumption) (by exact rfl) (by assumption) (by dsimp only [mkA, Around.deeper]; omega) ?k9 ?kB ?_ ?c2 ?c3 ?c4 ?c5; (case k9 => exact BindsTo.of_eq rfl); (case c5 => decide); (case kB => exact locs rfl); (case c2 => exact rfl); (case c3 => exact rfl); (case c4 => exact rfl); k_whole; intro L' h' n F' N' l0); (simp only [List.map_cons, List.map_nil] at F' N'); (replace l0 := allLt_of l0; simp only [AllLt, and_true] at l0); (try dsimp only); (try k_fold))
  k_steps
  all_goals first | exact absurd rfl (by assumption) | skip
  (rename News _ _ _ _ => nE); (rename Fr _ _ _ _ => fE); (rename IntsAre _ _ => iE); (rename _ = rowOf B (_ * _) => eE)
  simp only [List.push_toArray] at nE
  rw [eE] at iE
  subst hBw
  exact ret _ _ _ _ _ _ _ _ fE.keep (fresh_hide (notin1 (by omega)) (news_head nE).2) (fresh_hide (notin1 (by omega)) (isNew nE (List.mem_cons_of_mem _ (List.mem_cons_self ..))).2) (news_head nE).1 iE
    (isNew nE (List.mem_cons_of_mem _ (List.mem_cons_self ..))).1 (isNew nE (List.mem_cons_of_mem _ (List.mem_cons_of_mem _ (List.mem_cons_self ..)))).1

set_option maxHeartbeats 1000000 in
theorem law_given_hit {t c₁ : Addr} {ot oc : Obj} {vs : Array Value} {tq : Tok} {wd : Int} {tw : Tok}
  (X : (frag.heap_1 w.params).In (hideAll s.heap [149, t])) (T : Top p loose mean mg mb (hideAll s.heap [149, t])) (C : CodeHd (hideAll s.heap [149, t]) 153 149) (hroom : dp < recursionLimit)
  (hP : s.heap.get? 149 = some (tabObj #[rawInt 108, rawInt 4, .ref c₁])) (ht : s.heap.get? t = some ot) (hne : t ≠ 149)
  (hcc : (hideAll s.heap [149, t]).get? c₁ = some oc) (dF : oc.data = .fields vs) (dV : vs[1]? = some (.str ((Str.ofString "_law_given") ++ ".<locals>." ++ (Str.ofString "given")) tq))
  (hw : 2 ≤ wd) (hw2 : wd ≤ 9)
  (h : ∀ (f : Addr) (h' : Heap) (tk' : Nat), (hideAll s.heap [149, t]).StaysIn h' → h'.get? t = some ot → h'.get? 149 = some (tabObj #[rawInt 108, rawInt 4, .ref c₁]) → GivenOk w (hideAll h' [149, t]) f t wd → Q (.ref f) {s with heap := h', toks := tk'}) :
  wpAny (model PySem.Challenge.rw_nn0004_01.row.prog w) (mkA dp fr gd un) (call (.ref 154) [.int wd tw, .ref t]) Q E s := by
  revert X; k_fill; intro X
  (k_dflt (refine' enterCH [(149, tabObj #[rawInt 108, rawInt 4, .ref c₁]), (t, ot)] [((Str.ofString "w"), .int wd tw), ((Str.ofString "told"), .ref t)] (by intro q9 h9; (repeat' (first | (rcases List.mem_cons.mp h9 with rfl | h9))) <;> first | assumption | cases h9) (by assumption) (by assumption) ?k6 ?k7 (by dsimp only [mkA, Around.deeper]; omega) ?k9 ?kB ?kD ?_ ?c2 ?c3 ?c4; (case k6 => k_is); (case k7 => k_is); (case k9 => exact BindsTo.of_eq rfl); (case kB => exact rfl); (case kD => decide +kernel); (case c2 => exact rfl); (case c3 => exact rfl); (case c4 => exact rfl); k_whole; intro L' h' n cells' F' N' l0 Y'); k_cells Y'; (try simp only [List.cons_append, List.nil_append, List.append_nil] at N'); (simp only [List.map_cons, List.map_nil] at F' N'); (replace l0 := allLt_of l0; simp only [AllLt, and_true] at l0); (try dsimp only); (try k_fold))
  k_with_none
  k_with "ktr_room" => ((try dsimp only [mkA, Around.deeper]); first | omega | decide)
  k_with "ktr_unf" => first | omega | ((simp only [List.length_append, List.length_cons, List.length_nil, rangeKs_length] at *); omega)
  k_with "ktr_rel" => first | assumption | omega
  k_with "call ref" => (k_here; (with_reducible show wpAny _ _ (call (Value.ref 135) [Value.int _ _, Value.int _ _]) _ _ _); k_dflt (refine' call_law_row _ ?F ?N ?X ?T ?room ?w0 ?w1 ?w2 ?n0 ?n1 ?_; (case F => k_asm); (case N => k_asm); (case X => k_asm); (case T => k_asm); (case room => ktr_room); (case w0 => assumption); (case w1 => assumption); (case w2 => assumption); (case n0 => ktr_rel); (case n1 => ktr_unf); k_whole); intro D_q' ws_q' k_q' h_q' tk_q' zs_q' F_q' N_q' l1_q i1_q e1_q; (simp only [AllNe, and_true] at l1_q); (try k_sweep))
  k_with "call ref" => (k_here; (with_reducible show wpAny _ _ (call (Value.ref 140) [Value.ref _, Value.int _ _]) _ _ _); k_dflt (refine' call_law_whole _ ?F ?N ?X ?T ?l1 ?i1 ?room ?w0 ?w1 ?w2 ?e1 ?p1 ?n1 ?_; (case F => k_asm); (case N => k_asm); (case X => k_asm); (case T => k_asm); (case l1 => is_list); (case i1 => assumption); (case room => ktr_room); (case w0 => assumption); (case w1 => assumption); (case w2 => assumption); (case e1 => assumption); (case p1 => ktr_rel); (case n1 => ktr_unf); k_whole); intro v_q' tv_q' h_q' tk_q' F_q' N_q' e1_q b1_q; (subst e1_q); (try k_sweep))
  k_with "eval Name" => (k_here; kc_free; k_dflt (refine' nameX_base ?F ?c ?v ?d ?_ ?a ?b; (case a => rfl); (case b => rfl); (case F => k_asm); (case c => exact rfl); (case v => assumption); (case d => assumption); k_whole))
  k_with "mul_fits" => exact IntMulOk.of_bits (by assumption) (by assumption)
  k_steps
  (rename News _ _ _ _ => nE)
  (rename Fr _ _ _ _ => fE)
  have hf := (isNew nE (List.mem_cons_self ..)).1
  have hcT := (isNew nE (List.mem_cons_of_mem _ (List.mem_cons_self ..))).1
  have hcW := (isNew nE (List.mem_cons_of_mem _ (List.mem_cons_of_mem _ (List.mem_cons_self ..)))).1
  refine h _ _ _ fE.keep (isNew nE (by k_mem)).1 (isNew nE (by k_mem)).1 ?_
  replace hcc := hideAll_get [149, t] (fE.keep _ _ hcc) (notin_get hcc)
  clear h X T C
  replace hf := hideAll_get [149, t] hf (notin2 (by omega) (by omega))
  replace hcT := hideAll_get [149, t] hcT (notin2 (by omega) (by omega))
  replace hcW := hideAll_get [149, t] hcW (notin2 (by omega) (by omega))
  (rename Obj.data _ = Data.cell _ => dW0)
  have dW : Obj.data _ = Data.cell (some (Value.int wd tw)) := dW0
  clear dW0
  (rename Obj.data _ = Data.cell (bindC _ _ _ _) => dT0)
  have dT : Obj.data _ = Data.cell (some (Value.ref t)) := dT0
  clear dT0
  have hrec : Heap.CodeRec _ _ _ := ⟨_, _, _, _, rfl, hcc, dF, dV⟩
  refine ⟨⟨_, _, _, _, hf⟩, fun p loose mean mg mb dp fr gd un s2 Q2 E2 a b vs us xs ys x y tw2 tv k hst X T hroom hla hia hlb hib ex ey hx hy hnx hny htv hlen ret => ?_⟩
  have hf2 := of_hideAll _ (hst _ _ hf)
  have hcT2 := hst _ _ hcT
  have hcW2 := hst _ _ hcW
  have hrec2 := (hrec.keeps hst).keeps fun b o e => of_hideAll _ e
  clear hf hcc hcT hcW hrec hst nE fE
  obtain ⟨B, hBw⟩ : ∃ B, B = Bw wd := ⟨_, rfl⟩
  rw [← hBw] at ex ey
  have hB : 2 ≤ B := hBw ▸ Bw_ge hw
  have hxy := Int.mul_nonneg hx hy
  have hlxy : (rowOf B (x * y)).length ≤ 100 := by
    have := len_mul hB hx hy
    rw [← ex, ← ey] at this
    omega
  (k_dflt (refine' enterF [(t, W.listOf tv.toArray k)] [((Str.ofString "a"), .ref a), ((Str.ofString "b"), .ref b), ((Str.ofString "width"), .int wd tw2)] (by intro q9 h9; (repeat' (first | (rcases List.mem_cons.mp h9 with rfl | h9))) <;> first | assumption | cases h9) (by assumption) (by assumption) (by exact rfl) (by assumption) (by dsimp only [mkA, Around.deeper]; omega) ?k9 ?kB ?_ ?c2 ?c3 ?c4 ?c5; (case k9 => exact BindsTo.of_eq rfl); (case c5 => decide); (case kB => exact locs rfl); (case c2 => exact rfl); (case c3 => exact rfl); (case c4 => exact rfl); k_whole; intro L' h' n F' N' l0); (simp only [List.map_cons, List.map_nil] at F' N'); (replace l0 := allLt_of l0; simp only [AllLt, and_true] at l0); (try dsimp only); (try k_fold))
  k_steps
  all_goals first | exact absurd rfl (by assumption) | skip
  (rename News _ _ _ _ => nE); (rename Fr _ _ _ _ => fE); (rename IntsAre _ _ => iE); (rename _ = rowOf B (_ * _) => eE)
  simp only [List.push_toArray] at nE
  rw [eE] at iE
  subst hBw
  exact ret _ _ _ _ _ _ _ _ fE.keep (fresh_hide (notin1 (by omega)) (news_head nE).2) (fresh_hide (notin1 (by omega)) (isNew nE (List.mem_cons_of_mem _ (List.mem_cons_self ..))).2) (news_head nE).1 iE
    (isNew nE (List.mem_cons_of_mem _ (List.mem_cons_self ..))).1 (isNew nE (List.mem_cons_of_mem _ (List.mem_cons_of_mem _ (List.mem_cons_self ..)))).1

end
end Mine

end
section
open PySem PySem.W PyProof.Rows PySem.Calls PyProof.Rows.LCg
set_option Elab.async false
set_option maxRecDepth 100000
namespace Mine
theorem freshM12 : True := by
  w_top off
  k_with_none
  exact trivial
def Good (short M : Int) (q : Int × Int) : Prop := 0 ≤ q.1 ∧ 0 ≤ q.2 ∧ min q.1 q.2 < short ∧ q.1 ≤ M ∧ q.2 ≤ M
/-- what a call has told -/
def Added (short M : Int) (c : Nat) (ps ps' : List (Int × Int)) : Prop := ∃ new, ps' = ps ++ new ∧ new ≠ [] ∧ new.length ≤ c ∧ ∀ q ∈ new, Good short M q
theorem Added.mono {short M M' : Int} {c c' : Nat} {ps ps' : List (Int × Int)} (h : Added short M c ps ps') (hM : M ≤ M') (hc : c ≤ c') : Added short M' c' ps ps' := by
  obtain ⟨new, a, b, d, e⟩ := h
  exact ⟨new, a, b, Nat.le_trans d hc, fun q hq => let ⟨h1, h2, h3, h4, h5⟩ := e q hq; ⟨h1, h2, h3, Int.le_trans h4 hM, Int.le_trans h5 hM⟩⟩
theorem Added.trans {short M : Int} {c c' : Nat} {ps ps' ps'' : List (Int × Int)} (h : Added short M c ps ps') (h' : Added short M c' ps' ps'') : Added short M (c + c') ps ps'' := by
  obtain ⟨new, rfl, b, d, e⟩ := h
  obtain ⟨new', rfl, b', d', e'⟩ := h'
  refine ⟨new ++ new', by rw [List.append_assoc], by simp [b], by rw [List.length_append]; omega, fun q hq => ?_⟩
  rcases List.mem_append.mp hq with hq | hq
  · exact e q hq
  · exact e' q hq
theorem Added.len {short M : Int} {c : Nat} {ps ps' : List (Int × Int)} (h : Added short M c ps ps') : ps'.length ≤ ps.length + c := by
  obtain ⟨new, rfl, _, d, _⟩ := h
  rw [List.length_append]; omega
def cst (M : Nat) : Nat := M ^ 3 + 1
structure Fix (M : Nat) (least : Int) : Prop where
  mark :: (one : True)
def KaraOk (w : World) (n : Nat) : Prop :=
  ∀ (p : Program) (loose : List Str) (mean : ExcName → Option Value) (mg mb : Str → Option Value) (dp : Nat) (fr : Option (List Env)) (gd : Option (List Code)) (un : Nat) (s : Shared) (Q E : Value → Shared → Prop)
    (a b f t : Addr) (vs us tv : List Value) (xs ys : List Int) (x y wd least : Int) (tw tl : Tok) (k M : Nat) (ps : List (Int × Int)),
    xs.length + ys.length < n → (frag.heap_1 w.params).In (hideAll s.heap [t]) → Top p loose mean mg mb (hideAll s.heap [t]) → dp + n + 5 < recursionLimit →
    (hideAll s.heap [t]).IsList a vs.toArray → IntsAre vs xs → (hideAll s.heap [t]).IsList b us.toArray → IntsAre us ys →
    xs = rowOf (Bw wd) x → ys = rowOf (Bw wd) y → 0 ≤ x → 0 ≤ y → xs.length ≤ M → ys.length ≤ M → M ≤ 9 → 2 ≤ wd → wd ≤ 9 →
    GivenOk w (hideAll s.heap [t]) f t wd → s.heap.get? t = some (W.listOf tv.toArray k) → PairsIn (hideAll s.heap [t]) [] tv ps → tv.length + cst M ≤ 5000 →
    (∀ D h' tk' ws n' (tv' : List Value) k' ps', (hideAll s.heap [t]).StaysIn h' → s.heap.get? D = none → h'.get? D = some (W.listOf ws.toArray n') → IntsAre ws (rowOf (Bw wd) (x * y)) →
      h'.get? t = some (W.listOf tv'.toArray k') → PairsIn h' [] tv' ps' → Added (max 2 least) M (cst M) ps ps' → Q (.ref D) {s with heap := h', toks := tk'}) →
    wpAny (model PySem.Challenge.rw_nn0004_01.row.prog w) (mkA dp fr gd un) (call (.ref 116) [.ref a, .ref b, .int wd tw, .int least tl, .ref f]) Q E s
theorem IsList.hide {h : Heap} {a : Addr} {l : List Addr} {its : Array Value} (x : h.IsList a its) (hn : a ∉ l) : (hideAll h l).IsList a its := let ⟨o, e, r⟩ := x; ⟨o, hideAll_get _ e hn, r⟩
theorem isPair_ne {o : Obj} {its : Array Value} {k : Nat} (h : IsPair o) : o ≠ W.listOf its k := by
  obtain ⟨_, _, _, _, rfl⟩ := h
  intro q
  have := congrArg Obj.cls q
  exact absurd this (by simp)
theorem allNe_append {d : Addr} : ∀ {l l' : Led}, AllNe d l → AllNe d l' → AllNe d (l ++ l')
  | [], _, _, h => h
  | _ :: _, _, h, h' => ⟨h.1, allNe_append h.2 h'⟩
section
variable (w : World) {p : Program} {loose : List Str} {mean : ExcName → Option Value} {mg mb : Str → Option Value} {dp : Nat} {fr : Option (List Env)} {gd : Option (List Code)} {un : Nat} {s : Shared} {Q E : Value → Shared → Prop}
  {h₀ : Heap} {L : Addr} {m : Str → Option Value} {led : Led} {G : Obj → Led → Led} {a b f t : Addr} {vs us tv : List Value} {xs ys : List Int} {x y wd least : Int} {tw tle : Tok} {B : Int} {k n M : Nat} {tl : Led} {ps : List (Int × Int)}
theorem call_kara (hK : KaraOk w n) (hF : Fix M least) (F : Fr h₀ L s.heap m) (N : News h₀ L s.heap led) (X : (frag.heap_1 w.params).In h₀) (T : Top p loose mean mg mb h₀) (P : PairsIn h₀ tl tv ps) (Sp : Spl t (W.listOf tv.toArray k) tl led G) (htl : AllNe t tl) (GO : GivenOk w h₀ f t wd)
  (hl : s.heap.IsList a vs.toArray) (hi : IntsAre vs xs) (hl2 : s.heap.IsList b us.toArray) (hi2 : IntsAre us ys) (hat : @Ne Nat a t) (hbt : @Ne Nat b t)
  (hroom : dp + n + 5 < recursionLimit) (hBw : B = Bw wd) (hw : 2 ≤ wd) (hw2 : wd ≤ 9) (ex : xs = rowOf B x) (ey : ys = rowOf B y) (hx : 0 ≤ x) (hy : 0 ≤ y) (hn : xs.length + ys.length < n) (hM1 : xs.length ≤ M) (hM2 : ys.length ≤ M) (hM9 : M ≤ 9) (hlen : tv.length + cst M ≤ 5000)
  (ret : ∀ D ws n' tv' k' ps' tl' h' tk' zs, Fr h₀ L h' m → News h₀ L h' ((D, W.listOf ws.toArray n') :: G (W.listOf tv'.toArray k') tl') → AllNe D (G (W.listOf tv'.toArray k') tl') → IntsAre ws zs → zs = rowOf B (x * y) → 0 ≤ x * y → zs.length ≤ xs.length + ys.length →
    PairsIn h₀ tl' tv' ps' → Added (max 2 least) M (cst M) ps ps' → tv'.length ≤ tv.length + cst M → AllNe t tl' → (∀ q ∈ tl, q ∈ tl') → (∀ q ∈ tl', q ∈ tl ∨ IsPair q.2) → Q (.ref D) {s with heap := h', toks := tk'}) :
  wpAny (model PySem.Challenge.rw_nn0004_01.row.prog w) (mkA dp fr gd un) (call (.ref 116) [.ref a, .ref b, .int wd tw, .int least tle, .ref f]) Q E s := by
  have hB : 2 ≤ B := hBw ▸ Bw_ge hw
  obtain ⟨ht, htm⟩ := Sp.mem
  have hst : h₀.StaysIn (hideAll s.heap [t]) := fun b o e => hideAll_get _ (F.keep b o e) (notin1 fun q => by rw [q, (N _ ht).2.2] at e; cases e)
  have up : ∀ b o, b ≠ t → s.heap.get? b = some o → (hideAll s.heap [t]).get? b = some o := fun b o hb e => hideAll_get _ e (notin1 hb)
  have P0 : PairsIn (hideAll s.heap [t]) [] tv ps := P.mono hst fun q hq => .inr (up _ _ (allNe_mem htl q hq) (N _ (htm q hq)).1)
  subst hBw
  refine hK p loose mean mg mb dp fr gd un s Q E a b f t vs us tv xs ys x y wd least tw tle k M ps hn (X.keeps hst) (T.keeps hst) hroom (IsList.hide hl (notin1 hat)) hi (IsList.hide hl2 (notin1 hbt)) hi2 ex ey hx hy hM1 hM2 hM9 hw hw2 (GO.mono hst) (N _ ht).1 P0 hlen ?_
  intro D h' tk' ws n' tv' k' ps' st hD ho hI hto P' hA
  have st2 : ∀ b o, b ≠ t → s.heap.get? b = some o → h'.get? b = some o := fun b o hb e => st _ _ (up b o hb e)
  obtain ⟨oL, es, ep, hL, hLd, hLr⟩ := id F.ns
  have hLt : L ≠ t := fun q => (N _ ht).2.1 q.symm
  have F' : Fr h₀ L h' m := ⟨F.ns.at' fun o e => st2 _ _ hLt e, fun b o e => st _ _ (hst b o e), F.above⟩
  obtain ⟨tups, Nt, It, Pt⟩ := pairs_to F' P'
  have Ntl : News h₀ L h' tl := fun q hq => ⟨st2 _ _ (allNe_mem htl q hq) (N _ (htm q hq)).1, (N _ (htm q hq)).2⟩
  have N' : News h₀ L h' (tups ++ tl) := fun q hq => by
    rcases List.mem_append.mp hq with hq | hq
    · exact Nt q hq
    · exact Ntl q hq
  have hDL : D ≠ L := fun q => by rw [q, hL] at hD; cases hD
  have hD0 : h₀.get? D = none := by
    cases q : h₀.get? D with
    | none => rfl
    | some o => rw [F.keep _ _ q] at hD; cases hD
  have NG := Sp.news N st2 hto N'
  have offD : ∀ q ∈ led, q.1 ≠ D := fun q hq e => by
    have := (N q hq).1
    rw [e, hD] at this; cases this
  have offT : ∀ q ∈ tups ++ tl, q.1 ≠ D := fun q hq => by
    rcases List.mem_append.mp hq with hq | hq
    · intro e
      have h1 := (Nt q hq).1
      rw [e, ho] at h1
      exact isPair_ne (It q hq) (Option.some.inj h1).symm
    · exact offD q (htm q hq)
  have neT : AllNe t (tups ++ tl) := allNe_append (allNe_of fun q hq e => by
    have h1 := (Nt q hq).1
    rw [e, hto] at h1
    exact isPair_ne (It q hq) (Option.some.inj h1).symm) htl
  have hlen2 : tv'.length ≤ tv.length + cst M := by
    rw [P'.length, P.length]; exact hA.len
  refine ret D ws n' tv' k' ps' (tups ++ tl) h' tk' _ F' (fun q hq => ?_) (allNe_of (Sp.addr offD offT)) hI rfl (Int.mul_nonneg hx hy) ?_ (Pt.mono (fun _ _ z => z) fun q hq => .inl (List.mem_append_left _ hq)) hA hlen2 neT (fun q hq => List.mem_append_right _ hq) fun q hq => ?_
  · rcases List.mem_cons.mp hq with rfl | hq
    · exact ⟨ho, hDL, hD0⟩
    · exact NG q hq
  · rw [ex, ey]; exact len_mul hB hx hy
  · rcases List.mem_append.mp hq with hq | hq
    · exact .inr (It q hq)
    · exact .inl hq
theorem call_given (hF : Fix M least) (F : Fr h₀ L s.heap m) (N : News h₀ L s.heap led) (X : (frag.heap_1 w.params).In h₀) (T : Top p loose mean mg mb h₀) (P : PairsIn h₀ tl tv ps) (GO : GivenOk w h₀ f t wd) (Sp : Spl t (W.listOf tv.toArray k) tl led G) (htl : AllNe t tl)
  (hl : s.heap.IsList a vs.toArray) (hi : IntsAre vs xs) (hl2 : s.heap.IsList b us.toArray) (hi2 : IntsAre us ys) (hat : @Ne Nat a t) (hbt : @Ne Nat b t)
  (hroom : dp + 2 < recursionLimit) (hBw : B = Bw wd) (ex : xs = rowOf B x) (ey : ys = rowOf B y) (hx : 0 ≤ x) (hy : 0 ≤ y) (hM1 : xs.length ≤ M) (hM2 : ys.length ≤ M) (hM9 : M ≤ 9) (hlen : tv.length + cst M ≤ 5000) (hs : min (xs.length : Int) ys.length < max 2 least)
  (ret : ∀ D ws n' tv' k' ps' tl' h' tk' zs, Fr h₀ L h' m → News h₀ L h' ((D, W.listOf ws.toArray n') :: G (W.listOf tv'.toArray k') tl') → AllNe D (G (W.listOf tv'.toArray k') tl') → IntsAre ws zs → zs = rowOf B (x * y) →
    PairsIn h₀ tl' tv' ps' → Added (max 2 least) M (cst M) ps ps' → Q (.ref D) {s with heap := h', toks := tk'}) :
  wpAny (model PySem.Challenge.rw_nn0004_01.row.prog w) (mkA dp fr gd un) (call (.ref f) [.ref a, .ref b, .int wd tw]) Q E s := by
  obtain ⟨ht, htm⟩ := Sp.mem
  have hst : h₀.StaysIn (hideAll s.heap [t]) := fun b o e => hideAll_get _ (F.keep b o e) (notin1 fun q => by rw [q, (N _ ht).2.2] at e; cases e)
  have up : ∀ b o, b ≠ t → s.heap.get? b = some o → (hideAll s.heap [t]).get? b = some o := fun b o hb e => hideAll_get _ e (notin1 hb)
  subst hBw
  refine GO.2 p loose mean mg mb dp fr gd un s Q E a b vs us xs ys x y tw tv k hst (X.keeps hst) (T.keeps hst) hroom (IsList.hide hl (notin1 hat)) hi (IsList.hide hl2 (notin1 hbt)) hi2 ex ey hx hy (by omega) (by omega) (N _ ht).1 (by omega) ?_
  intro D Tu h' tk' ws n' t1 t2 st hD hT ho hI hTo hto
  have st2 : ∀ b o, b ≠ t → s.heap.get? b = some o → h'.get? b = some o := fun b o hb e => st _ _ (up b o hb e)
  obtain ⟨oL, es, ep, hL, hLd, hLr⟩ := id F.ns
  have hLt : L ≠ t := fun q => (N _ ht).2.1 q.symm
  have F' : Fr h₀ L h' m := ⟨F.ns.at' fun o e => st2 _ _ hLt e, fun b o e => st _ _ (hst b o e), F.above⟩
  have fresh : ∀ D, s.heap.get? D = none → D ≠ L ∧ h₀.get? D = none := by
    intro D hD
    constructor
    · intro q
      rw [q, hL] at hD; cases hD
    · cases q : h₀.get? D with
      | none => rfl
      | some o => rw [F.keep _ _ q] at hD; cases hD
  have offD : ∀ D, s.heap.get? D = none → ∀ q ∈ led, q.1 ≠ D := fun D hD q hq e => by
    have := (N q hq).1
    rw [e, hD] at this; cases this
  have N' : News h₀ L h' ((Tu, tupO #[.int xs.length t1, .int ys.length t2]) :: tl) := fun q hq => by
    rcases List.mem_cons.mp hq with rfl | hq
    · exact ⟨hTo, fresh _ hT⟩
    · exact ⟨st2 _ _ (allNe_mem htl q hq) (N _ (htm q hq)).1, (N _ (htm q hq)).2⟩
  have NG := Sp.news N st2 hto N'
  refine ret D ws n' (tv ++ [.ref Tu]) (k + 1) (ps ++ [((xs.length : Int), (ys.length : Int))]) ((Tu, tupO #[.int xs.length t1, .int ys.length t2]) :: tl) h' tk' _ F' (fun q hq => ?_) (allNe_of (Sp.addr (offD D hD) fun q hq => ?_)) hI rfl ?_ ?_
  · rcases List.mem_cons.mp hq with rfl | hq
    · exact ⟨ho, fresh _ hD⟩
    · exact NG q hq
  · rcases List.mem_cons.mp hq with rfl | hq
    · intro e
      have e' : Tu = D := e
      rw [e', ho] at hTo
      exact isPair_ne ⟨_, _, _, _, rfl⟩ (Option.some.inj hTo).symm
    · exact offD D hD q (htm q hq)
  · exact (P.mono (fun _ _ z => z) fun q hq => .inl (List.mem_cons_of_mem _ hq)).append (.led (.head _) .nil)
  · exact ⟨_, rfl, by simp, by simp [cst], fun q hq => by
      rw [List.mem_singleton.mp hq]
      exact ⟨by omega, by omega, hs, by simp; omega, by simp; omega⟩⟩
end
end Mine

end
section
set_option Elab.async false
namespace Mine
theorem freshP3 : True := by
  w_top off
  k_with_none
  exact trivial
theorem abs_le' {a b : Int} (h : a < b) : ((a - b).natAbs : Int) = b - a := by lia
theorem abs_ge' {a b : Int} (h : ¬ a < b) : ((a - b).natAbs : Int) = a - b := by lia
theorem mid_ok {x0 x1 y0 y1 : Int} (h0 : 0 ≤ x0) (h1 : 0 ≤ x1) (h2 : 0 ≤ y0) (h3 : 0 ≤ y1) (hb : (decide (x0 < x1) != decide (y0 < y1)) = false) :
    ((x0 - x1).natAbs : Int) * ((y0 - y1).natAbs : Int) ≤ x0 * y0 + x1 * y1 := by
  have a := Int.mul_nonneg h0 h3
  have b := Int.mul_nonneg h1 h2
  by_cases hx : x0 < x1
  · by_cases hy : y0 < y1
    · rw [abs_le' hx, abs_le' hy, Int.sub_mul, Int.mul_sub, Int.mul_sub]; lia
    · simp [hx, hy] at hb
  · by_cases hy : y0 < y1
    · simp [hx, hy] at hb
    · rw [abs_ge' hx, abs_ge' hy, Int.sub_mul, Int.mul_sub, Int.mul_sub]; lia
theorem kara_sum {x y P : Int} :
    x % P * (y % P) + (if (decide (x % P < x / P) != decide (y % P < y / P)) = true then x % P * (y % P) + x / P * (y / P) + ((x % P - x / P).natAbs : Int) * ((y % P - y / P).natAbs : Int)
      else x % P * (y % P) + x / P * (y / P) - ((x % P - x / P).natAbs : Int) * ((y % P - y / P).natAbs : Int)) * P + x / P * (y / P) * P ^ 2 = x * y := by
  have ex := Int.emod_add_mul_ediv x P
  have ey := Int.emod_add_mul_ediv y P
  generalize x % P = x0 at *
  generalize x / P = x1 at *
  generalize y % P = y0 at *
  generalize y / P = y1 at *
  subst ex ey
  by_cases hx : x0 < x1
  · by_cases hy : y0 < y1
    · rw [if_neg (by simp [hx, hy]), abs_le' hx, abs_le' hy]; grind
    · rw [if_pos (by simp [hx, hy]), abs_le' hx, abs_ge' hy]; grind
  · by_cases hy : y0 < y1
    · rw [if_pos (by simp [hx, hy]), abs_ge' hx, abs_le' hy]; grind
    · rw [if_neg (by simp [hx, hy]), abs_ge' hx, abs_ge' hy]; grind
/-- one piece more -/
theorem piece_sum {B : Int} (hB : 2 ≤ B) {x y : Int} (a b : Nat) : x % B ^ a * y + x / B ^ a % B ^ b * y * B ^ a = x % B ^ (a + b) * y := by
  have e : x % B ^ (a + b) = x % B ^ a + x / B ^ a % B ^ b * B ^ a := by
    have p := pow_pos' hB a
    rw [Int.pow_add]
    have h1 := Int.emod_add_mul_ediv x (B ^ a * B ^ b)
    have h2 := Int.emod_add_mul_ediv x (B ^ a)
    have h3 := Int.emod_add_mul_ediv (x / B ^ a) (B ^ b)
    rw [Int.ediv_ediv_of_nonneg (Int.le_of_lt p)] at h3
    have h4 : B ^ a * (x / B ^ a) = B ^ a * (x / B ^ a % B ^ b) + B ^ a * B ^ b * (x / (B ^ a * B ^ b)) := by
      rw [Int.mul_assoc, ← Int.mul_add, h3]
    rw [Int.mul_comm (x / B ^ a % B ^ b)]
    lia
  rw [e]; grind
end Mine

end
section
open PySem PySem.W PyProof.Rows PySem.Calls PyProof.Rows.LCg
set_option Elab.async false
set_option maxRecDepth 100000
namespace Mine
theorem freshM12B : True := by
  w_top off
  k_with_none
  exact trivial
section
variable (w : World) {p : Program} {loose : List Str} {mean : ExcName → Option Value} {mg mb : Str → Option Value} {dp : Nat} {fr : Option (List Env)} {gd : Option (List Code)} {un : Nat} {s : Shared} {Q E : Value → Shared → Prop}
  {h₀ : Heap} {L : Addr} {m : Str → Option Value} {news : List (Addr × Obj)} {a b c : Addr} {vs us ts : List Value} {xs ys zs₀ : List Int} {x y z wd : Int} {tw : Tok} {B : Int}
theorem call_put_together {sp : Int} {tsp : Tok} (F : Fr h₀ L s.heap m) (N : News h₀ L s.heap news) (X : (frag.heap_1 w.params).In h₀) (T : Top p loose mean mg mb h₀)
  (hl : s.heap.IsList a vs.toArray) (hi : IntsAre vs xs) (hl2 : s.heap.IsList b us.toArray) (hi2 : IntsAre us ys) (hl3 : s.heap.IsList c ts.toArray) (hi3 : IntsAre ts zs₀)
  (hroom : dp + 2 < recursionLimit) (hBw : B = Bw wd) (hw : 2 ≤ wd) (hw2 : wd ≤ 9) (ex : xs = rowOf B x) (ey : ys = rowOf B y) (ez : zs₀ = rowOf B z) (hx : 0 ≤ x) (hy : 0 ≤ y) (hz : 0 ≤ z) (hn : xs.length ≤ 30) (hn2 : ys.length ≤ 30) (hn3 : zs₀.length ≤ 30)
  (hs0 : 0 ≤ sp) (hs : sp ≤ 30)
  (ret : ∀ D ws k h' tk' zs, Fr h₀ L h' m → News h₀ L h' ((D, W.listOf ws.toArray k) :: news) → AllNe D news → IntsAre ws zs → zs = rowOf B (x + y * B ^ sp.toNat + z * B ^ (2 * sp).toNat) → True → True → Q (.ref D) {s with heap := h', toks := tk'}) :
  wpAny (model PySem.Challenge.rw_nn0004_01.row.prog w) (mkA dp fr gd un) (call (.ref 102) [.ref a, .ref b, .ref c, .int sp tsp, .int wd tw]) Q E s := by
  refine put_together_t w (X.keeps F.keep) (T.keeps F.keep) hroom hl hi ex hn hl2 hi2 ey hn2 hl3 hi3 ez hn3 hs0 hs hBw hw hw2 hx hy hz fun D h' tk' ws k st hf ho hI => ?_
  obtain ⟨F', N', l⟩ := made F N st hf ho
  exact ret D ws k h' tk' _ F' N' l hI rfl trivial trivial
theorem call_middle_of {bb : Bool} (F : Fr h₀ L s.heap m) (N : News h₀ L s.heap news) (X : (frag.heap_1 w.params).In h₀) (T : Top p loose mean mg mb h₀)
  (hl : s.heap.IsList a vs.toArray) (hi : IntsAre vs xs) (hl2 : s.heap.IsList b us.toArray) (hi2 : IntsAre us ys) (hl3 : s.heap.IsList c ts.toArray) (hi3 : IntsAre ts zs₀)
  (hroom : dp + 2 < recursionLimit) (hBw : B = Bw wd) (hw : 2 ≤ wd) (hw2 : wd ≤ 9) (ex : xs = rowOf B x) (ey : ys = rowOf B y) (ez : zs₀ = rowOf B z) (hx : 0 ≤ x) (hy : 0 ≤ y) (hz : 0 ≤ z) (hn : xs.length ≤ 28) (hn2 : ys.length ≤ 28) (hn3 : zs₀.length ≤ 28)
  (hb : bb = false → z ≤ x + y)
  (ret : ∀ D ws k h' tk' zs, Fr h₀ L h' m → News h₀ L h' ((D, W.listOf ws.toArray k) :: news) → AllNe D news → IntsAre ws zs → zs = rowOf B (if bb then x + y + z else x + y - z) → 0 ≤ (if bb then x + y + z else x + y - z) → zs.length ≤ 30 → Q (.ref D) {s with heap := h', toks := tk'}) :
  wpAny (model PySem.Challenge.rw_nn0004_01.row.prog w) (mkA dp fr gd un) (call (.ref 109) [.ref a, .ref b, .bool bb, .ref c, .int wd tw]) Q E s := by
  have hB : 2 ≤ B := hBw ▸ Bw_ge hw
  refine middle_of_t w (X.keeps F.keep) (T.keeps F.keep) hroom hl hi ex (by omega) hl2 hi2 ey (by omega) hl3 hi3 ez (by omega) hBw hw hw2 hx hy hz hb fun D h' tk' ws k st hf ho hI => ?_
  obtain ⟨F', N', l⟩ := made F N st hf ho
  refine ret D ws k h' tk' _ F' N' l hI rfl ?_ ?_
  · cases bb with
    | true => simp only [if_true]; omega
    | false => have := hb rfl; simp only [Bool.false_eq_true, if_false]; omega
  · have h1 := len_add hB hx hy
    rw [← ex, ← ey] at h1
    cases bb with
    | true =>
      simp only [if_true]
      have h2 := len_add hB (show 0 ≤ x + y by omega) hz
      rw [← ez] at h2
      omega
    | false =>
      have := hb rfl
      simp only [Bool.false_eq_true, if_false]
      have h2 := len_mono hB (show 0 ≤ x + y - z by omega) (show x + y - z ≤ x + y by omega)
      omega
end
end Mine

end
section
open PySem PySem.W PyProof.Rows PySem.Calls PyProof.Rows.LCg
set_option Elab.async false
set_option maxRecDepth 100000
namespace Mine
theorem freshM12C : True := by
  w_top off
  k_with_none
  exact trivial
/-- a range of any step, by an invariant over the turn's number, the frame's map and the ledger -/
theorem range_inv2 {prog : Program} {w : World} {A : Around} {E : Value → Shared → Prop} {s : Shared} {env : Env} {h₀ : Heap} {x : Str} {body : List Stmt} {Q : Flow → Shared → Prop}
    {r : Addr} {a₀ b₀ c : Int} {t₀ u₀ v₀ : Tok} {n : Nat} {m₀ : Str → Option Value} {news : Led} (Inv : Nat → (Str → Option Value) → Led → Prop)
    (hh : A.handled = none) (hr : IsRange s.heap r a₀ b₀ c t₀ u₀ v₀) (hsmall : Builtin.Range.small a₀ b₀ c = true) (hn : Builtin.Range.rangeSize a₀ b₀ c = (n : Int)) (F : Fr h₀ env.locals s.heap m₀) (N : News h₀ env.locals s.heap news)
    (start : Inv 0 m₀ news)
    (turn : ∀ i m news' t h tk I it, it.cls = .type "range_iterator" → i < n → Inv i m news' → Fr h₀ env.locals h (fun y => if y = x then some (.int (a₀ + (i : Int) * c) t) else m y) → News h₀ env.locals h ((I, it) :: news') → (∀ p ∈ news, p.1 < I) →
      wpAny (model prog w) A (execs body env) (UnrPost h₀ env.locals { s with heap := h, toks := tk } I it (fun m' n' => Inv (i + 1) m' n') Q) E { s with heap := h, toks := tk })
    (done : ∀ m news' h tk, Inv n m news' → Fr h₀ env.locals h m → News h₀ env.locals h news' → Q .next { s with heap := h, toks := tk }) :
    wpAny (model prog w) A (pyIter (.ref r)) (fun it s₂ => LoopAtV prog w A h₀ env x body Q E it s₂) E s := by
  refine krs_iter hh hr hsmall hn F N fun I hI => ?_
  have all : ∀ k i m news', i + k = n → Inv i m news' → KrsRest prog w A E h₀ env x body Q s I a₀ c n k i m news' := by
    intro k
    induction k with
    | zero =>
      intro i m news' e h
      have : i = n := by omega
      subst this
      exact KrsRest.zero fun h' tk F' N' => done m news' h' tk h F' N'
    | succ k ih =>
      intro i m news' e h
      refine KrsRest.succ rfl fun t h' tk F' N' => ?_
      refine wpAny_mono (turn i m news' t h' tk I _ rfl (by omega) h F' N' hI) (fun f s₂ p => ?_) fun _ _ x => x
      have up : UnrEnd h₀ env.locals { s with heap := h', toks := tk } I (krsIt (a₀ + ((i + 1 : Nat) : Int) * c) ((n : Int) - ((i + 1 : Nat) : Int)) c) (fun m' n' => Inv (i + 1) m' n') s₂ →
          UnrEnd h₀ env.locals { s with heap := h', toks := tk } I (krsIt (a₀ + ((i + 1 : Nat) : Int) * c) ((n : Int) - ((i + 1 : Nat) : Int)) c) (KrsRest prog w A E h₀ env x body Q s I a₀ c n k (i + 1)) s₂ := by
        rintro ⟨h2, tk2, m2, n2, e2, F2, N2, o2, r2⟩
        exact ⟨h2, tk2, m2, n2, e2, F2, N2, o2, ih (i + 1) m2 n2 (by omega) r2⟩
      cases f with
      | ret v => exact p
      | brk => exact p
      | next => exact up p
      | cont => exact up p
  exact all n 0 m₀ news (by omega) start

theorem cst_pieces {la lb M n : Nat} (h2 : 2 ≤ lb) (h : 2 * lb ≤ la) (hM : la ≤ M) (hM9 : M ≤ 9) (hn : n = (la - 1) / lb + 1) : n * cst lb ≤ cst M := by
  have all : ∀ M < 10, ∀ la < M + 1, ∀ lb < 5, 2 ≤ lb → 2 * lb ≤ la → ((la - 1) / lb + 1) * cst lb ≤ cst M := by decide +kernel
  subst hn
  exact all M (by omega) la (by omega) lb (by omega) h2 h
theorem small_pos {b c : Nat} (hb : b ≤ 9) (hc : c ≤ 9) (h1 : 1 ≤ c) : Builtin.Range.small 0 (b : Int) (c : Int) = true := by
  have all : ∀ b < 10, ∀ c < 10, 1 ≤ c → Builtin.Range.small 0 ((b : Nat) : Int) ((c : Nat) : Int) = true := by decide +kernel
  exact all b (by omega) c (by omega) h1
theorem size_pos {b c : Nat} (hb : 1 ≤ b) (h1 : 1 ≤ c) : Builtin.Range.rangeSize 0 (b : Int) (c : Int) = (((b - 1) / c + 1 : Nat) : Int) := by
  unfold Builtin.Range.rangeSize
  rw [if_pos (by omega), if_pos (by omega)]
  simp only [Int.sub_zero, Int.natCast_add, Int.natCast_ediv]
  congr 2
  omega
theorem fr_one {g h : Heap} {L : Addr} {m' : Str → Option Value} {A : Str} {v1 : Value} (h1 : m' A = some v1) (F : Fr g L h m') : Fr g L h (fun y => if y = A then some v1 else m' y) := by
  have e : (fun y => if y = A then some v1 else m' y) = m' := by
    funext y
    by_cases hA : y = A
    · rw [if_pos hA, hA, h1]
    · rw [if_neg hA]
  rw [e]; exact F
theorem news_ne {g h : Heap} {L a b : Addr} {o o' : Obj} {all : Led} (N : News g L h all) (h1 : (a, o) ∈ all) (h2 : (b, o') ∈ all) (hne : o.cls ≠ o'.cls) : a ≠ b := fun e => by
  have q1 := (N _ h1).1
  have q2 := (N _ h2).1
  have e' : (a, o).1 = (b, o').1 := e
  rw [e', q2] at q1
  exact hne (congrArg Obj.cls (Option.some.inj q1)).symm
structure Nn (x : Int) : Prop where
  out : 0 ≤ x
structure Hid (p : Prop) : Prop where
  out : p
structure Apart (t D : Nat) : Prop where
  ne : @Ne Nat t D
/-- between the pieces -/
def PInv (g : Heap) (t : Addr) (B x1 y1 short : Int) (lb : Nat) (ps : List (Int × Int)) (mB : Str → Option Value) (i : Nat) (m' : Str → Option Value) (news' : Led) : Prop :=
  ∃ (D : Addr) (ws : List Value) (nD : Nat) (zs : List Int) (tv' : List Value) (k' : Nat) (ps' : List (Int × Int)) (tl' : Led), news' = (D, W.listOf ws.toArray nD) :: (t, W.listOf tv'.toArray k') :: tl' ∧ m' (Str.ofString "found") = some (.ref D) ∧ (∀ z, z ≠ (Str.ofString "at") → z ≠ (Str.ofString "found") → m' z = mB z) ∧
    IntsAre ws zs ∧ zs = rowOf B (x1 % B ^ (lb * i) * y1) ∧ PairsIn g tl' tv' ps' ∧ (ps' = ps ∧ i = 0 ∨ Added short lb (i * cst lb) ps ps') ∧ AllNe t tl' ∧ (∀ q ∈ tl', IsPair q.2) ∧ Apart t D
theorem range_P {prog : Program} {w : World} {A : Around} {E : Value → Shared → Prop} {s : Shared} {env : Env} {h₀ : Heap} {x : Str} {body : List Stmt} {Q : Flow → Shared → Prop}
    {r : Addr} {a₀ b₀ c : Int} {t₀ u₀ v₀ : Tok} {n : Nat} {m₀ : Str → Option Value} {news : Led} {t : Addr} {B x1 y1 short : Int} {lb : Nat} {ps : List (Int × Int)}
    (hh : A.handled = none) (hr : IsRange s.heap r a₀ b₀ c t₀ u₀ v₀) (hsmall : Builtin.Range.small a₀ b₀ c = true) (hn : Builtin.Range.rangeSize a₀ b₀ c = (n : Int)) (F : Fr h₀ env.locals s.heap m₀) (N : News h₀ env.locals s.heap news)
    (start : PInv h₀ t B x1 y1 short lb ps m₀ 0 m₀ news)
    (turn : ∀ i m news' t' h tk I it, it.cls = .type "range_iterator" → i < n → PInv h₀ t B x1 y1 short lb ps m₀ i m news' → Fr h₀ env.locals h (fun y => if y = x then some (.int (a₀ + (i : Int) * c) t') else m y) → News h₀ env.locals h ((I, it) :: news') → (∀ p ∈ news, p.1 < I) →
      wpAny (model prog w) A (execs body env) (UnrPost h₀ env.locals { s with heap := h, toks := tk } I it (fun m' n' => PInv h₀ t B x1 y1 short lb ps m₀ (i + 1) m' n') Q) E { s with heap := h, toks := tk })
    (done : ∀ m news' h tk, PInv h₀ t B x1 y1 short lb ps m₀ n m news' → Fr h₀ env.locals h m → News h₀ env.locals h news' → Q .next { s with heap := h, toks := tk }) :
    wpAny (model prog w) A (pyIter (.ref r)) (fun it s₂ => LoopAtV prog w A h₀ env x body Q E it s₂) E s := range_inv2 (PInv h₀ t B x1 y1 short lb ps m₀) hh hr hsmall hn F N start turn done
theorem pinv_next {g h : Heap} {L I D3 t : Addr} {it : Obj} {all tl1 tl2 : Led} {m' mB : Str → Option Value} {ws3 tv2 : List Value} {n3 k2 lb i tk : Nat} {zs3 : List Int} {B x1 y1 short : Int} {ps ps1 ps2 : List (Int × Int)} {s1 : Shared}
    (hit : it.cls = .type "range_iterator") (fE : Fr g L h m') (nE : News g L h all) (pE : PairsIn g tl2 tv2 ps2) (hA : ps1 = ps ∧ i = 0 ∨ Added short lb (i * cst lb) ps ps1) (aE : Added short lb (cst lb) ps1 ps2) (iE : IntsAre ws3 zs3)
    (e1 : m' (Str.ofString "found") = some (.ref D3)) (e3 : ∀ z, z ≠ (Str.ofString "at") → z ≠ (Str.ofString "found") → m' z = mB z) (mI : (I, it) ∈ all) (mD : (D3, W.listOf ws3.toArray n3) ∈ all) (mt : (t, W.listOf tv2.toArray k2) ∈ all) (ms : ∀ q ∈ tl2, q ∈ all) (hIt : Apart t I)
    (hfr : ∀ q ∈ tl2, q ∈ tl1 ∨ IsPair q.2) (hpair : ∀ q ∈ tl1, IsPair q.2) (htl2 : AllNe t tl2) (hD3 : Apart t D3) (eE : zs3 = rowOf B (x1 % B ^ (lb * (i + 1)) * y1)) :
    UnrEnd g L s1 I it (fun m' n' => PInv g t B x1 y1 short lb ps mB (i + 1) m' n') {s1 with heap := h, toks := tk} := by
  have pairs : ∀ q ∈ tl2, IsPair q.2 := fun q hq => by
    rcases hfr q hq with z | z
    · exact hpair q z
    · exact z
  refine UnrEnd.intro fE nE ((D3, W.listOf ws3.toArray n3) :: (t, W.listOf tv2.toArray k2) :: tl2) (fun q hq => ?_) (fun q hq => ?_) ⟨D3, ws3, n3, zs3, tv2, k2, ps2, tl2, rfl, e1, e3, iE, eE, pE, .inr ?_, htl2, pairs, hD3⟩
  · rcases List.mem_cons.mp hq with rfl | hq
    · exact mI
    · rcases List.mem_cons.mp hq with rfl | hq
      · exact mD
      · rcases List.mem_cons.mp hq with rfl | hq
        · exact mt
        · exact ms q hq
  · rcases List.mem_cons.mp hq with rfl | hq
    · exact news_ne nE mD mI (by rw [hit]; simp)
    · rcases List.mem_cons.mp hq with rfl | hq
      · exact hIt.ne
      · refine news_ne nE (ms q hq) mI ?_
        obtain ⟨_, _, _, _, e⟩ := pairs q hq
        rw [hit, e]; simp
  · rw [Nat.add_mul, Nat.one_mul]
    rcases hA with ⟨rfl, rfl⟩ | hA
    · rw [Nat.zero_mul, Nat.zero_add]; exact aE
    · exact hA.trans aE
theorem piece_all {la lb np : Nat} (h2 : 1 ≤ lb) (hn : np = (la - 1) / lb + 1) : la ≤ lb * np := by
  have h3 := Nat.lt_mul_div_succ (la - 1) (show 0 < lb by omega)
  rw [← hn] at h3
  omega
end Mine

end
section
open PySem PySem.W PyProof.Rows PySem.Calls PyProof.Rows.LCg
set_option Elab.async false
set_option maxRecDepth 100000
namespace Mine
theorem freshM13 : True := by
  w_top off
  k_with_none
  exact trivial
/-- two rows of a frame's base, the longer one first -/
structure Sw (g : Heap) (t : Addr) (B x y : Int) (M N : Nat) (a b : Addr) (vs us : List Value) (xs ys : List Int) (x1 y1 : Int) : Prop where
  la : g.IsList a vs.toArray
  ia : IntsAre vs xs
  lb : g.IsList b us.toArray
  ib : IntsAre us ys
  ex : xs = rowOf B x1
  ey : ys = rowOf B y1
  hx : 0 ≤ x1
  hy : 0 ≤ y1
  exy : x1 * y1 = x * y
  m1 : xs.length ≤ M
  m2 : ys.length ≤ M
  hN : xs.length + ys.length < N
  le : ys.length ≤ xs.length
  at' : Apart t a
  bt : Apart t b
theorem fr_ab {g h : Heap} {L : Addr} {m' m₀ : Str → Option Value} {A B : Str} {v1 v2 : Value} (h1 : m' A = some v1) (h2 : m' B = some v2) (h3 : ∀ z, z ≠ A → z ≠ B → m' z = m₀ z) (F : Fr g L h m') : Fr g L h (fun y => if y = A then some v1 else if y = B then some v2 else m₀ y) := by
  have e : (fun y => if y = A then some v1 else if y = B then some v2 else m₀ y) = m' := by
    funext y
    by_cases hA : y = A
    · rw [if_pos hA, hA, h1]
    · by_cases hB : y = B
      · rw [if_neg hA, if_pos hB, hB, h2]
      · rw [if_neg hA, if_neg hB, h3 y hA hB]
  rw [e]; exact F
theorem ne_of_hide {h : Heap} {a t : Addr} {its : Array Value} (x : (hideAll h [t]).IsList a its) : Apart t a := ⟨fun q => by
  obtain ⟨o, e, _⟩ := x
  have q' : a = t := q.symm
  rw [q', hideAll_none _ (List.mem_singleton.mpr rfl)] at e
  cases e⟩
theorem allNe_t {w : World} {g : Heap} {f t D : Addr} {wd : Int} {news : Led} {o : Obj} (_ : GivenOk w g f t wd) (l : AllNe D news) (hm : (t, o) ∈ news) : Apart t D := ⟨allNe_mem l _ hm⟩
theorem piece_toNat (a b : Nat) : ((a : Int) + (b : Int) - (a : Int)).toNat = b := by omega
theorem piece_lt {la lb i kk : Nat} (h1 : 1 ≤ la) (h2 : 1 ≤ lb) (hk : kk = lb * i) (hi : i < (la - 1) / lb + 1) : kk < la := by
  have h3 : lb * i ≤ lb * ((la - 1) / lb) := Nat.mul_le_mul_left _ (by omega)
  have h4 := Nat.mul_div_le (la - 1) lb
  omega
theorem piece_len {g : Heap} {tl tl1 : Led} {tv tv1 : List Value} {ps ps1 : List (Int × Int)} {short M : Int} {i np c C : Nat} (P : PairsIn g tl tv ps) (P1 : PairsIn g tl1 tv1 ps1) (hA : ps1 = ps ∧ i = 0 ∨ Added short M (i * c) ps ps1) (hc : np * c ≤ C) (hi : i < np) (hl : tv.length + C ≤ 5000) : tv1.length + c ≤ 5000 := by
  have h1 : (i + 1) * c ≤ np * c := Nat.mul_le_mul_right _ hi
  rw [Nat.add_mul, Nat.one_mul] at h1
  rw [P.length] at hl
  rw [P1.length]
  rcases hA with ⟨rfl, rfl⟩ | hA
  · omega
  · have := hA.len; omega
theorem kara_done {s : Shared} {t D : Addr} {Q : Value → Shared → Prop} {least wd x y : Int} {M c tk' n' k' : Nat} {ps ps' : List (Int × Int)} {h' : Heap} {L : Addr} {m : Str → Option Value} {ws tv' : List Value} {tl r : Led}
    (ret : ∀ D h' tk' ws n' (tv' : List Value) k' ps', (hideAll s.heap [t]).StaysIn h' → s.heap.get? D = none → h'.get? D = some (W.listOf ws.toArray n') → IntsAre ws (rowOf (Bw wd) (x * y)) →
      h'.get? t = some (W.listOf tv'.toArray k') → PairsIn h' [] tv' ps' → Added (max 2 least) M c ps ps' → Q (.ref D) {s with heap := h', toks := tk'})
    (fE : Fr (hideAll s.heap [t]) L h' m) (nE : News (hideAll s.heap [t]) L h' ((D, W.listOf ws.toArray n') :: r)) (pE : PairsIn (hideAll s.heap [t]) tl tv' ps') (aE : Added (max 2 least) M c ps ps') (iE : IntsAre ws (rowOf (Bw wd) (x * y))) (hD : Apart t D)
    (mt : (t, W.listOf tv'.toArray k') ∈ r) (ms : ∀ q ∈ tl, q ∈ r) : Q (.ref D) {s with heap := h', toks := tk'} := by
  exact ret D h' tk' ws n' tv' k' ps' fE.keep (fresh_hide (notin1 (Ne.symm hD.ne)) (news_head nE).2) (news_head nE).1 iE (isNew nE (List.mem_cons_of_mem _ mt)).1 (pE.mono fE.keep fun q hq => .inr (nE _ (List.mem_cons_of_mem _ (ms q hq))).1) aE
theorem two_toNat (n : Int) : (2 * n).toNat = n.toNat * 2 := by omega
theorem spl_of {g h : Heap} {L t : Addr} {o : Obj} {tl r : Led} {G : Obj → Led → Led} (_ : News g L h r) (Sp : Spl t o tl r G) : (t, o) ∈ r ∧ ∀ q ∈ tl, q ∈ r := Sp.mem
def AfterSwap (s : Shared) (g : Heap) (L : Addr) (led : Led) (m₀ : Str → Option Value) (t : Addr) (B x y : Int) (M N : Nat) (s' : Shared) : Prop :=
  ∃ (h1 : Heap) (tk1 : Nat) (a1 b1 : Addr) (vs1 us1 : List Value) (xs1 ys1 : List Int) (x1 y1 : Int) (m1 : Str → Option Value), s' = {s with heap := h1, toks := tk1} ∧ Fr g L h1 m1 ∧ News g L h1 led ∧
      m1 (Str.ofString "a") = some (.ref a1) ∧ m1 (Str.ofString "b") = some (.ref b1) ∧ (∀ z, z ≠ (Str.ofString "a") → z ≠ (Str.ofString "b") → m1 z = m₀ z) ∧ Sw g t B x y M N a1 b1 vs1 us1 xs1 ys1 x1 y1
theorem AfterSwap.intro {s : Shared} {g h1 : Heap} {L : Addr} {led all : Led} {m₀ m1 : Str → Option Value} {t : Addr} {B x y : Int} {M N tk1 : Nat} {a1 b1 : Addr} {vs1 us1 : List Value} {xs1 ys1 : List Int} {x1 y1 : Int}
    (F : Fr g L h1 m1) (N' : News g L h1 all) (sub : ∀ q ∈ led, q ∈ all) (e1 : m1 (Str.ofString "a") = some (.ref a1)) (e2 : m1 (Str.ofString "b") = some (.ref b1)) (e3 : ∀ z, z ≠ (Str.ofString "a") → z ≠ (Str.ofString "b") → m1 z = m₀ z) (S : Sw g t B x y M N a1 b1 vs1 us1 xs1 ys1 x1 y1) :
    AfterSwap s g L led m₀ t B x y M N {s with heap := h1, toks := tk1} := ⟨h1, tk1, a1, b1, vs1, us1, xs1, ys1, x1, y1, m1, rfl, F, fun q hq => N' q (sub q hq), e1, e2, e3, S⟩
local macro_rules | `(tactic| ktr_room) => `(tactic| k_extra "ktr_room")
theorem readyM131 : True := by
  k_with "ktr_room" => ((try dsimp only [mkA, Around.deeper]); first | omega | decide)
  exact trivial
local macro_rules | `(tactic| ktr_unf) => `(tactic| k_extra "ktr_unf")
theorem readyM132 : True := by
  k_with "ktr_unf" => first | omega | ((simp only [List.length_append, List.length_cons, List.length_nil, rangeKs_length] at *); omega)
  exact trivial
local macro_rules | `(tactic| ktr_rel) => `(tactic| k_extra "ktr_rel")
theorem readyM133 : True := by
  k_with "ktr_rel" => first | assumption | omega
  exact trivial
theorem sp_low {Ms n l : Nat} {q : Int} (h : (Ms : Int) = q) (g : n ≤ min q.toNat l) : n ≤ Ms := by omega
theorem sp_high {Ms n l : Nat} {q : Int} (h : (Ms : Int) = q) (hl : l ≤ 2 * Ms) (g : n = l - q.toNat) : n ≤ Ms := by omega
theorem df_le {Ms n a b : Nat} {least : Int} (_ : Fix Ms least) (ha : a ≤ Ms) (hb : b ≤ Ms) (g : n ≤ max a b) : n ≤ Ms := by omega
local macro_rules | `(tactic| walk_at "call ref") => `(tactic| k_extra "call ref")
theorem readyM134 : True := by
  k_with "call ref" => (k_here; (with_reducible show wpAny _ _ (call (Value.ref _) [Value.ref _, Value.ref _, Value.int _ _]) _ _ _); k_dflt (refine' call_given _ ?hF ?F ?N ?X ?T ?P ?GO ?Sp ?htl ?l1 ?i1 ?l2 ?i2 ?q1 ?q2 ?room ?w0 ?e1 ?e2 ?p1 ?p2 ?m1 ?m2 ?m9 ?len ?hs ?_; (case hF => assumption); (case F => k_asm); (case N => k_asm); (case X => k_asm); (case T => k_asm); (case P => assumption); (case GO => assumption); (case Sp => (repeat' (first | exact Tl.here | (refine' Spl.head ?_) | (refine' Spl.tail (neN (by (try dsimp only); first | exact Apart.ne (by assumption) | exact Ne.symm (Apart.ne (by assumption)))) ?_) | (refine' Tl.cons (neN (by (try dsimp only); first | exact Apart.ne (by assumption) | exact Ne.symm (Apart.ne (by assumption)))) ?_)))); (case htl => first | assumption | exact True.intro); (case l1 => is_list); (case i1 => assumption); (case l2 => is_list); (case i2 => assumption); (case q1 => exact neN (by first | exact Apart.ne (by assumption) | exact Ne.symm (Apart.ne (by assumption)))); (case q2 => exact neN (by first | exact Apart.ne (by assumption) | exact Ne.symm (Apart.ne (by assumption)))); (case room => ktr_room); (case w0 => assumption); (case e1 => assumption); (case e2 => assumption); (case p1 => first | exact Nn.out (by assumption) | assumption | omega); (case p2 => first | exact Nn.out (by assumption) | assumption | omega); (case m1 => ktr_unf); (case m2 => ktr_unf); (case m9 => ktr_unf); (case len => ktr_unf); (case hs => first | omega | (split at * <;> omega)); k_whole); intro D_q' ws_q' n_q' tv_q' k_q' ps_q' tl_q' h_q' tk_q' zs_q' F_q' N_q' l1_q i1_q e1_q P_q' A_q'; (try dsimp only at N_q' l1_q); (k_dflt (replace l1_q := allNe_t (by assumption) l1_q (by k_mem))); (try k_sweep))
  exact trivial
theorem readyM135 : True := by
  k_with "call ref" => (k_here; (with_reducible show wpAny _ _ (call (Value.ref 116) [Value.ref _, Value.ref _, Value.int _ _, Value.int _ _, Value.ref _]) _ _ _); k_dflt (refine' call_kara _ ?hK ?hF ?F ?N ?X ?T ?P ?Sp ?htl ?GO ?l1 ?i1 ?l2 ?i2 ?q1 ?q2 ?room ?w0 ?w1 ?w2 ?e1 ?e2 ?p1 ?p2 ?hn ?m1 ?m2 ?m9 ?len ?_; (case hK => assumption); (case hF => assumption); (case F => k_asm); (case N => k_asm); (case X => k_asm); (case T => k_asm); (case P => assumption); (case GO => assumption); (case Sp => (repeat' (first | exact Tl.here | (refine' Spl.head ?_) | (refine' Spl.tail (neN (by (try dsimp only); first | exact Apart.ne (by assumption) | exact Ne.symm (Apart.ne (by assumption)))) ?_) | (refine' Tl.cons (neN (by (try dsimp only); first | exact Apart.ne (by assumption) | exact Ne.symm (Apart.ne (by assumption)))) ?_)))); (case htl => first | assumption | exact True.intro); (case l1 => is_list); (case i1 => assumption); (case l2 => is_list); (case i2 => assumption); (case q1 => exact neN (by first | exact Apart.ne (by assumption) | exact Ne.symm (Apart.ne (by assumption)))); (case q2 => exact neN (by first | exact Apart.ne (by assumption) | exact Ne.symm (Apart.ne (by assumption)))); (case room => ktr_room); (case w0 => assumption); (case w1 => assumption); (case w2 => assumption); (case e1 => assumption); (case e2 => assumption); (case p1 => first | exact Nn.out (by assumption) | assumption | omega); (case p2 => first | exact Nn.out (by assumption) | assumption | omega); (case hn => ktr_unf); (case m1 => ktr_unf); (case m2 => ktr_unf); (case m9 => ktr_unf); (case len => ktr_unf); k_whole); intro D_q' ws_q' n_q' tv_q' k_q' ps_q' tl_q' h_q' tk_q' zs_q' F_q' N_q' l1_q i1_q e1_q g1_q g2_q P_q' A_q' b1_q htl_q' sub_q' fr_q'; (try dsimp only at N_q' l1_q); (k_dflt (replace l1_q := allNe_t (by assumption) l1_q (by k_mem))); (try replace g1_q := Nn.mk g1_q); (try k_sweep))
  exact trivial
theorem readyM136 : True := by
  k_with "call ref" => (k_here; (with_reducible show wpAny _ _ (call (Value.ref 74) [Value.ref _, Value.ref _, Value.int _ _, Value.int _ _]) _ _ _); k_dflt (refine' call_add_at _ ?F ?N ?X ?T ?l1 ?i1 ?l2 ?i2 ?room ?w0 ?w1 ?w2 ?e1 ?e2 ?p1 ?p2 ?n1 ?n2 ?s0 ?s1 ?_; (case F => k_asm); (case N => k_asm); (case X => k_asm); (case T => k_asm); (case l1 => is_list); (case i1 => assumption); (case l2 => is_list); (case i2 => assumption); (case room => ktr_room); (case w0 => assumption); (case w1 => assumption); (case w2 => assumption); (case e1 => assumption); (case e2 => assumption); (case p1 => first | exact Nn.out (by assumption) | assumption | omega); (case p2 => first | exact Nn.out (by assumption) | assumption | omega); (case n1 => ktr_unf); (case n2 => ktr_unf); (case s0 => ktr_unf); (case s1 => ktr_unf); k_whole); intro D_q' ws_q' k_q' h_q' tk_q' zs_q' F_q' N_q' l1_q i1_q e1_q g1_q g2_q; (k_dflt (replace l1_q := allNe_t (by assumption) l1_q (by k_mem))); (try replace g1_q := Nn.mk g1_q); (try k_sweep))
  exact trivial
theorem readyM137 : True := by
  k_with "call ref" => (k_here; (with_reducible show wpAny _ _ (call (Value.ref 81) [Value.ref _, Value.int _ _]) _ _ _); k_dflt (refine' call_split _ ?F ?N ?X ?T ?l1 ?i1 ?room ?b0 ?e1 ?p1 ?n1 ?s0 ?s1 ?_; (case F => k_asm); (case N => k_asm); (case X => k_asm); (case T => k_asm); (case l1 => is_list); (case i1 => assumption); (case room => ktr_room); (case b0 => assumption); (case e1 => assumption); (case p1 => first | exact Nn.out (by assumption) | assumption | omega); (case n1 => ktr_unf); (case s0 => ktr_unf); (case s1 => ktr_unf); k_whole); intro D_q' D1_q' D2_q' ws1_q' k1_q' ws2_q' k2_q' h_q' tk_q' zs1_q' zs2_q' F_q' N_q' l1_q l2_q l3_q i1_q i2_q e1_q e2_q g1_q g2_q g3_q g4_q; (k_dflt (replace l1_q := allNe_t (by assumption) l1_q (by k_mem))); (k_dflt (replace l2_q := allNe_t (by assumption) l2_q (by k_mem))); (k_dflt (replace l3_q := allNe_t (by assumption) l3_q (by k_mem))); (try replace g1_q := Nn.mk g1_q); (replace g2_q := Nn.mk g2_q); (k_dflt (replace g3_q := sp_low (by assumption) g3_q)); (k_dflt (replace g4_q := sp_high (by assumption) (by omega) g4_q)); (try k_sweep))
  exact trivial
theorem readyM138 : True := by
  k_with "call ref" => (k_here; (with_reducible show wpAny _ _ (call (Value.ref 88) [Value.ref _, Value.int _ _, Value.int _ _]) _ _ _); k_dflt (refine' call_piece _ ?F ?N ?X ?T ?l1 ?i1 ?room ?b0 ?e1 ?p1 ?n1 ?s0 ?s1 ?s2 ?_; (case F => k_asm); (case N => k_asm); (case X => k_asm); (case T => k_asm); (case l1 => is_list); (case i1 => assumption); (case room => ktr_room); (case b0 => assumption); (case e1 => assumption); (case p1 => first | exact Nn.out (by assumption) | assumption | omega); (case n1 => ktr_unf); (case s0 => ktr_unf); (case s1 => ktr_unf); (case s2 => ktr_unf); k_whole); intro D_q' ws_q' k_q' h_q' tk_q' zs_q' F_q' N_q' l1_q i1_q e1_q g1_q g2_q; (k_dflt (replace l1_q := allNe_t (by assumption) l1_q (by k_mem))); (try replace g1_q := Nn.mk g1_q); (try k_sweep))
  exact trivial
theorem readyM139 : True := by
  k_with "call ref" => (k_here; (with_reducible show wpAny _ _ (call (Value.ref 95) [Value.ref _, Value.ref _, Value.int _ _]) _ _ _); k_dflt (refine' call_difference _ ?F ?N ?X ?T ?l1 ?i1 ?l2 ?i2 ?room ?w0 ?w1 ?w2 ?e1 ?e2 ?p1 ?p2 ?n1 ?n2 ?_; (case F => k_asm); (case N => k_asm); (case X => k_asm); (case T => k_asm); (case l1 => is_list); (case i1 => assumption); (case l2 => is_list); (case i2 => assumption); (case room => ktr_room); (case w0 => assumption); (case w1 => assumption); (case w2 => assumption); (case e1 => assumption); (case e2 => assumption); (case p1 => first | exact Nn.out (by assumption) | assumption | omega); (case p2 => first | exact Nn.out (by assumption) | assumption | omega); (case n1 => ktr_unf); (case n2 => ktr_unf); k_whole); intro D_q' D1_q' ws_q' k_q' h_q' tk_q' zs_q' F_q' N_q' l1_q l2_q i1_q e1_q g1_q g2_q; (k_dflt (replace l1_q := allNe_t (by assumption) l1_q (by k_mem))); (k_dflt (replace l2_q := allNe_t (by assumption) l2_q (by k_mem))); (try replace g1_q := Nn.mk g1_q); (k_dflt (replace g2_q := df_le (by assumption) (by omega) (by omega) g2_q)); (try k_sweep))
  exact trivial
theorem readyM1310 : True := by
  k_with "call ref" => (k_here; (with_reducible show wpAny _ _ (call (Value.ref 102) [Value.ref _, Value.ref _, Value.ref _, Value.int _ _, Value.int _ _]) _ _ _); k_dflt (refine' call_put_together _ ?F ?N ?X ?T ?l1 ?i1 ?l2 ?i2 ?l3 ?i3 ?room ?w0 ?w1 ?w2 ?e1 ?e2 ?e3 ?p1 ?p2 ?p3 ?n1 ?n2 ?n3 ?s0 ?s1 ?_; (case F => k_asm); (case N => k_asm); (case X => k_asm); (case T => k_asm); (case l1 => is_list); (case i1 => assumption); (case l2 => is_list); (case i2 => assumption); (case l3 => is_list); (case i3 => assumption); (case room => ktr_room); (case w0 => assumption); (case w1 => assumption); (case w2 => assumption); (case e1 => assumption); (case e2 => assumption); (case e3 => assumption); (case p1 => first | exact Nn.out (by assumption) | assumption | omega); (case p2 => first | exact Nn.out (by assumption) | assumption | omega); (case p3 => first | exact Nn.out (by assumption) | assumption | omega); (case n1 => ktr_unf); (case n2 => ktr_unf); (case n3 => ktr_unf); (case s0 => ktr_unf); (case s1 => ktr_unf); k_whole); intro D_q' ws_q' k_q' h_q' tk_q' zs_q' F_q' N_q' l1_q i1_q e1_q g1_q g2_q; (k_dflt (replace l1_q := allNe_t (by assumption) l1_q (by k_mem))); (try replace g1_q := Nn.mk g1_q); (try k_sweep))
  exact trivial
theorem readyM1311 : True := by
  k_with "call ref" => (k_here; (with_reducible show wpAny _ _ (call (Value.ref 109) [Value.ref _, Value.ref _, Value.bool _, Value.ref _, Value.int _ _]) _ _ _); k_dflt (refine' call_middle_of _ ?F ?N ?X ?T ?l1 ?i1 ?l2 ?i2 ?l3 ?i3 ?room ?w0 ?w1 ?w2 ?e1 ?e2 ?e3 ?p1 ?p2 ?p3 ?n1 ?n2 ?n3 ?s0 ?_; (case F => k_asm); (case N => k_asm); (case X => k_asm); (case T => k_asm); (case l1 => is_list); (case i1 => assumption); (case l2 => is_list); (case i2 => assumption); (case l3 => is_list); (case i3 => assumption); (case room => ktr_room); (case w0 => assumption); (case w1 => assumption); (case w2 => assumption); (case e1 => assumption); (case e2 => assumption); (case e3 => assumption); (case p1 => first | exact Nn.out (by assumption) | assumption | omega); (case p2 => first | exact Nn.out (by assumption) | assumption | omega); (case p3 => first | exact Nn.out (by assumption) | assumption | omega); (case n1 => ktr_unf); (case n2 => ktr_unf); (case n3 => ktr_unf); (case s0 => first | assumption | exact mid_ok (Nn.out (by assumption)) (Nn.out (by assumption)) (Nn.out (by assumption)) (Nn.out (by assumption))); k_whole); intro D_q' ws_q' k_q' h_q' tk_q' zs_q' F_q' N_q' l1_q i1_q e1_q g1_q g2_q; (k_dflt (replace l1_q := allNe_t (by assumption) l1_q (by k_mem))); (try replace g1_q := Nn.mk g1_q); (try k_sweep))
  exact trivial
theorem FnAt.fr {h₀ h : Heap} {L f : Addr} {m : Str → Option Value} (F : Fr h₀ L h m) (x : FnAt f h₀) : FnAt f h := let ⟨oc, od, fd, sl, e⟩ := x; ⟨oc, od, fd, sl, F.keep _ _ e⟩
local macro_rules | `(tactic| walk_at "callWith ref") => `(tactic| k_extra "callWith ref")
theorem readyM1312 : True := by
  k_with "callWith ref" => (k_here; k_dflt (refine' callWith_F ?k1 ?_; (case k1 => exact FnAt.fr (by k_asm) (by assumption)); k_whole))
  exact trivial
local macro_rules | `(tactic| walk_at "FnAt") => `(tactic| (k_dflt (exact FnAt.fr (by k_asm) (by assumption))))
theorem cst_three {M Ms : Nat} (h : 2 * Ms ≤ M + 1) (h2 : 2 ≤ M) (h9 : M ≤ 9) : 3 * cst Ms ≤ cst M := by
  have all : ∀ M < 10, ∀ Ms < 6, 2 * Ms ≤ M + 1 → 2 ≤ M → 3 * cst Ms ≤ cst M := by decide
  exact all M (by omega) Ms (by omega) h h2
section
variable (w : World)
set_option maxHeartbeats 2000000 in
theorem kara_step {n1 : Nat} (hK : KaraOk w n1) : KaraOk w (n1 + 1) := by
  intro p loose mean mg mb dp fr gd un s Q E a b f t vs us tv xs ys x y wd least tw tle k M ps hn X T hroom hla hia hlb hib ex ey hx hy hM1 hM2 hM9 hw hw2 GO ht P hlen ret
  obtain ⟨B, hBw⟩ : ∃ B, B = Bw wd := ⟨_, rfl⟩
  rw [← hBw] at ex ey
  have hB : 2 ≤ B := hBw ▸ Bw_ge hw
  have hat := ne_of_hide hla
  have hbt := ne_of_hide hlb
  revert X; k_fill; intro X
  (k_dflt (refine' enterH [(t, W.listOf tv.toArray k)] [((Str.ofString "a"), .ref a), ((Str.ofString "b"), .ref b), ((Str.ofString "w"), .int wd tw), ((Str.ofString "least"), .int least tle), ((Str.ofString "mul"), .ref f)] (by intro q9 h9; (repeat' (first | (rcases List.mem_cons.mp h9 with rfl | h9))) <;> first | assumption | cases h9) (by assumption) (by assumption) ?k6 ?k7 (by dsimp only [mkA, Around.deeper]; omega) ?k9 ?kB ?_ ?c2 ?c3 ?c4 ?c5; (case k6 => k_is); (case k7 => k_is); (case k9 => exact BindsTo.of_eq rfl); (case c5 => decide); (case kB => exact locs rfl); (case c2 => exact rfl); (case c3 => exact rfl); (case c4 => exact rfl); k_whole; intro L' h' n F' N' l0); (simp only [List.map_cons, List.map_nil] at F' N'); (replace l0 := allLt_of l0; simp only [AllLt, and_true] at l0); (try dsimp only); (try k_fold))
  k_with_none
  k_with "ktr_room" => ((try dsimp only [mkA, Around.deeper]); first | omega | decide)
  k_with "ktr_unf" => first | omega | ((simp only [List.length_append, List.length_cons, List.length_nil, rangeKs_length] at *); omega)
  k_with "ktr_rel" => first | assumption | omega
  k_with "call ref" => (k_here; (with_reducible show wpAny _ _ (call (Value.ref _) [Value.ref _, Value.ref _, Value.int _ _]) _ _ _); k_dflt (refine' call_given _ ?hF ?F ?N ?X ?T ?P ?GO ?Sp ?htl ?l1 ?i1 ?l2 ?i2 ?q1 ?q2 ?room ?w0 ?e1 ?e2 ?p1 ?p2 ?m1 ?m2 ?m9 ?len ?hs ?_; (case hF => assumption); (case F => k_asm); (case N => k_asm); (case X => k_asm); (case T => k_asm); (case P => assumption); (case GO => assumption); (case Sp => (repeat' (first | exact Tl.here | (refine' Spl.head ?_) | (refine' Spl.tail (neN (by (try dsimp only); first | exact Apart.ne (by assumption) | exact Ne.symm (Apart.ne (by assumption)))) ?_) | (refine' Tl.cons (neN (by (try dsimp only); first | exact Apart.ne (by assumption) | exact Ne.symm (Apart.ne (by assumption)))) ?_)))); (case htl => first | assumption | exact True.intro); (case l1 => is_list); (case i1 => assumption); (case l2 => is_list); (case i2 => assumption); (case q1 => exact neN (by first | exact Apart.ne (by assumption) | exact Ne.symm (Apart.ne (by assumption)))); (case q2 => exact neN (by first | exact Apart.ne (by assumption) | exact Ne.symm (Apart.ne (by assumption)))); (case room => ktr_room); (case w0 => assumption); (case e1 => assumption); (case e2 => assumption); (case p1 => first | exact Nn.out (by assumption) | assumption | omega); (case p2 => first | exact Nn.out (by assumption) | assumption | omega); (case m1 => ktr_unf); (case m2 => ktr_unf); (case m9 => ktr_unf); (case len => ktr_unf); (case hs => first | omega | (split at * <;> omega)); k_whole); intro D_q' ws_q' n_q' tv_q' k_q' ps_q' tl_q' h_q' tk_q' zs_q' F_q' N_q' l1_q i1_q e1_q P_q' A_q'; (try dsimp only at N_q' l1_q); (k_dflt (replace l1_q := allNe_t (by assumption) l1_q (by k_mem))); (try k_sweep))
  k_with "call ref" => (k_here; (with_reducible show wpAny _ _ (call (Value.ref 116) [Value.ref _, Value.ref _, Value.int _ _, Value.int _ _, Value.ref _]) _ _ _); k_dflt (refine' call_kara _ ?hK ?hF ?F ?N ?X ?T ?P ?Sp ?htl ?GO ?l1 ?i1 ?l2 ?i2 ?q1 ?q2 ?room ?w0 ?w1 ?w2 ?e1 ?e2 ?p1 ?p2 ?hn ?m1 ?m2 ?m9 ?len ?_; (case hK => assumption); (case hF => assumption); (case F => k_asm); (case N => k_asm); (case X => k_asm); (case T => k_asm); (case P => assumption); (case GO => assumption); (case Sp => (repeat' (first | exact Tl.here | (refine' Spl.head ?_) | (refine' Spl.tail (neN (by (try dsimp only); first | exact Apart.ne (by assumption) | exact Ne.symm (Apart.ne (by assumption)))) ?_) | (refine' Tl.cons (neN (by (try dsimp only); first | exact Apart.ne (by assumption) | exact Ne.symm (Apart.ne (by assumption)))) ?_)))); (case htl => first | assumption | exact True.intro); (case l1 => is_list); (case i1 => assumption); (case l2 => is_list); (case i2 => assumption); (case q1 => exact neN (by first | exact Apart.ne (by assumption) | exact Ne.symm (Apart.ne (by assumption)))); (case q2 => exact neN (by first | exact Apart.ne (by assumption) | exact Ne.symm (Apart.ne (by assumption)))); (case room => ktr_room); (case w0 => assumption); (case w1 => assumption); (case w2 => assumption); (case e1 => assumption); (case e2 => assumption); (case p1 => first | exact Nn.out (by assumption) | assumption | omega); (case p2 => first | exact Nn.out (by assumption) | assumption | omega); (case hn => ktr_unf); (case m1 => ktr_unf); (case m2 => ktr_unf); (case m9 => ktr_unf); (case len => ktr_unf); k_whole); intro D_q' ws_q' n_q' tv_q' k_q' ps_q' tl_q' h_q' tk_q' zs_q' F_q' N_q' l1_q i1_q e1_q g1_q g2_q P_q' A_q' b1_q htl_q' sub_q' fr_q'; (try dsimp only at N_q' l1_q); (k_dflt (replace l1_q := allNe_t (by assumption) l1_q (by k_mem))); (try replace g1_q := Nn.mk g1_q); (try k_sweep))
  k_with "call ref" => (k_here; (with_reducible show wpAny _ _ (call (Value.ref 74) [Value.ref _, Value.ref _, Value.int _ _, Value.int _ _]) _ _ _); k_dflt (refine' call_add_at _ ?F ?N ?X ?T ?l1 ?i1 ?l2 ?i2 ?room ?w0 ?w1 ?w2 ?e1 ?e2 ?p1 ?p2 ?n1 ?n2 ?s0 ?s1 ?_; (case F => k_asm); (case N => k_asm); (case X => k_asm); (case T => k_asm); (case l1 => is_list); (case i1 => assumption); (case l2 => is_list); (case i2 => assumption); (case room => ktr_room); (case w0 => assumption); (case w1 => assumption); (case w2 => assumption); (case e1 => assumption); (case e2 => assumption); (case p1 => first | exact Nn.out (by assumption) | assumption | omega); (case p2 => first | exact Nn.out (by assumption) | assumption | omega); (case n1 => ktr_unf); (case n2 => ktr_unf); (case s0 => ktr_unf); (case s1 => ktr_unf); k_whole); intro D_q' ws_q' k_q' h_q' tk_q' zs_q' F_q' N_q' l1_q i1_q e1_q g1_q g2_q; (k_dflt (replace l1_q := allNe_t (by assumption) l1_q (by k_mem))); (try replace g1_q := Nn.mk g1_q); (try k_sweep))
  k_with "call ref" => (k_here; (with_reducible show wpAny _ _ (call (Value.ref 81) [Value.ref _, Value.int _ _]) _ _ _); k_dflt (refine' call_split _ ?F ?N ?X ?T ?l1 ?i1 ?room ?b0 ?e1 ?p1 ?n1 ?s0 ?s1 ?_; (case F => k_asm); (case N => k_asm); (case X => k_asm); (case T => k_asm); (case l1 => is_list); (case i1 => assumption); (case room => ktr_room); (case b0 => assumption); (case e1 => assumption); (case p1 => first | exact Nn.out (by assumption) | assumption | omega); (case n1 => ktr_unf); (case s0 => ktr_unf); (case s1 => ktr_unf); k_whole); intro D_q' D1_q' D2_q' ws1_q' k1_q' ws2_q' k2_q' h_q' tk_q' zs1_q' zs2_q' F_q' N_q' l1_q l2_q l3_q i1_q i2_q e1_q e2_q g1_q g2_q g3_q g4_q; (k_dflt (replace l1_q := allNe_t (by assumption) l1_q (by k_mem))); (k_dflt (replace l2_q := allNe_t (by assumption) l2_q (by k_mem))); (k_dflt (replace l3_q := allNe_t (by assumption) l3_q (by k_mem))); (try replace g1_q := Nn.mk g1_q); (replace g2_q := Nn.mk g2_q); (k_dflt (replace g3_q := sp_low (by assumption) g3_q)); (k_dflt (replace g4_q := sp_high (by assumption) (by omega) g4_q)); (try k_sweep))
  k_with "call ref" => (k_here; (with_reducible show wpAny _ _ (call (Value.ref 88) [Value.ref _, Value.int _ _, Value.int _ _]) _ _ _); k_dflt (refine' call_piece _ ?F ?N ?X ?T ?l1 ?i1 ?room ?b0 ?e1 ?p1 ?n1 ?s0 ?s1 ?s2 ?_; (case F => k_asm); (case N => k_asm); (case X => k_asm); (case T => k_asm); (case l1 => is_list); (case i1 => assumption); (case room => ktr_room); (case b0 => assumption); (case e1 => assumption); (case p1 => first | exact Nn.out (by assumption) | assumption | omega); (case n1 => ktr_unf); (case s0 => ktr_unf); (case s1 => ktr_unf); (case s2 => ktr_unf); k_whole); intro D_q' ws_q' k_q' h_q' tk_q' zs_q' F_q' N_q' l1_q i1_q e1_q g1_q g2_q; (k_dflt (replace l1_q := allNe_t (by assumption) l1_q (by k_mem))); (try replace g1_q := Nn.mk g1_q); (try k_sweep))
  k_with "call ref" => (k_here; (with_reducible show wpAny _ _ (call (Value.ref 95) [Value.ref _, Value.ref _, Value.int _ _]) _ _ _); k_dflt (refine' call_difference _ ?F ?N ?X ?T ?l1 ?i1 ?l2 ?i2 ?room ?w0 ?w1 ?w2 ?e1 ?e2 ?p1 ?p2 ?n1 ?n2 ?_; (case F => k_asm); (case N => k_asm); (case X => k_asm); (case T => k_asm); (case l1 => is_list); (case i1 => assumption); (case l2 => is_list); (case i2 => assumption); (case room => ktr_room); (case w0 => assumption); (case w1 => assumption); (case w2 => assumption); (case e1 => assumption); (case e2 => assumption); (case p1 => first | exact Nn.out (by assumption) | assumption | omega); (case p2 => first | exact Nn.out (by assumption) | assumption | omega); (case n1 => ktr_unf); (case n2 => ktr_unf); k_whole); intro D_q' D1_q' ws_q' k_q' h_q' tk_q' zs_q' F_q' N_q' l1_q l2_q i1_q e1_q g1_q g2_q; (k_dflt (replace l1_q := allNe_t (by assumption) l1_q (by k_mem))); (k_dflt (replace l2_q := allNe_t (by assumption) l2_q (by k_mem))); (try replace g1_q := Nn.mk g1_q); (k_dflt (replace g2_q := df_le (by assumption) (by omega) (by omega) g2_q)); (try k_sweep))
  k_with "call ref" => (k_here; (with_reducible show wpAny _ _ (call (Value.ref 102) [Value.ref _, Value.ref _, Value.ref _, Value.int _ _, Value.int _ _]) _ _ _); k_dflt (refine' call_put_together _ ?F ?N ?X ?T ?l1 ?i1 ?l2 ?i2 ?l3 ?i3 ?room ?w0 ?w1 ?w2 ?e1 ?e2 ?e3 ?p1 ?p2 ?p3 ?n1 ?n2 ?n3 ?s0 ?s1 ?_; (case F => k_asm); (case N => k_asm); (case X => k_asm); (case T => k_asm); (case l1 => is_list); (case i1 => assumption); (case l2 => is_list); (case i2 => assumption); (case l3 => is_list); (case i3 => assumption); (case room => ktr_room); (case w0 => assumption); (case w1 => assumption); (case w2 => assumption); (case e1 => assumption); (case e2 => assumption); (case e3 => assumption); (case p1 => first | exact Nn.out (by assumption) | assumption | omega); (case p2 => first | exact Nn.out (by assumption) | assumption | omega); (case p3 => first | exact Nn.out (by assumption) | assumption | omega); (case n1 => ktr_unf); (case n2 => ktr_unf); (case n3 => ktr_unf); (case s0 => ktr_unf); (case s1 => ktr_unf); k_whole); intro D_q' ws_q' k_q' h_q' tk_q' zs_q' F_q' N_q' l1_q i1_q e1_q g1_q g2_q; (k_dflt (replace l1_q := allNe_t (by assumption) l1_q (by k_mem))); (try replace g1_q := Nn.mk g1_q); (try k_sweep))
  k_with "call ref" => (k_here; (with_reducible show wpAny _ _ (call (Value.ref 109) [Value.ref _, Value.ref _, Value.bool _, Value.ref _, Value.int _ _]) _ _ _); k_dflt (refine' call_middle_of _ ?F ?N ?X ?T ?l1 ?i1 ?l2 ?i2 ?l3 ?i3 ?room ?w0 ?w1 ?w2 ?e1 ?e2 ?e3 ?p1 ?p2 ?p3 ?n1 ?n2 ?n3 ?s0 ?_; (case F => k_asm); (case N => k_asm); (case X => k_asm); (case T => k_asm); (case l1 => is_list); (case i1 => assumption); (case l2 => is_list); (case i2 => assumption); (case l3 => is_list); (case i3 => assumption); (case room => ktr_room); (case w0 => assumption); (case w1 => assumption); (case w2 => assumption); (case e1 => assumption); (case e2 => assumption); (case e3 => assumption); (case p1 => first | exact Nn.out (by assumption) | assumption | omega); (case p2 => first | exact Nn.out (by assumption) | assumption | omega); (case p3 => first | exact Nn.out (by assumption) | assumption | omega); (case n1 => ktr_unf); (case n2 => ktr_unf); (case n3 => ktr_unf); (case s0 => first | assumption | exact mid_ok (Nn.out (by assumption)) (Nn.out (by assumption)) (Nn.out (by assumption)) (Nn.out (by assumption))); k_whole); intro D_q' ws_q' k_q' h_q' tk_q' zs_q' F_q' N_q' l1_q i1_q e1_q g1_q g2_q; (k_dflt (replace l1_q := allNe_t (by assumption) l1_q (by k_mem))); (try replace g1_q := Nn.mk g1_q); (try k_sweep))
  k_with "callWith ref" => (k_here; k_dflt (refine' callWith_F ?k1 ?_; (case k1 => exact FnAt.fr (by k_asm) (by assumption)); k_whole))
  refine cut_cons (AfterSwap s (hideAll s.heap [t]) L' [(t, W.listOf tv.toArray k)] (kstB (fun _ => none) [((Str.ofString "mul"), .ref f), ((Str.ofString "least"), .int least tle), ((Str.ofString "w"), .int wd tw)]) t B x y M (n1 + 1)) ?_ ?_
  · k_steps
    · exact AfterSwap.intro (by assumption) (by assumption) (by intro q hq; exact List.mem_cons_of_mem _ hq) (by rfl) (by rfl) (by intro z h1 h2; simp only [if_neg h1, if_neg h2]; simp only [kstB, List.reverse_cons, List.reverse_nil, List.nil_append, List.cons_append, if_neg h1, if_neg h2]) ⟨hlb, hib, hla, hia, ey, ex, hy, hx, Int.mul_comm _ _, hM2, hM1, by omega, by omega, hbt, hat⟩
    · exact AfterSwap.intro (by assumption) (by assumption) (fun q hq => hq) (by rfl) (by rfl) (by intro z h1 h2; simp only [kstB, List.reverse_cons, List.reverse_nil, List.nil_append, List.cons_append, if_neg h1, if_neg h2]) ⟨hla, hia, hlb, hib, ex, ey, hx, hy, rfl, hM1, hM2, by omega, by omega, hat, hbt⟩
  · clear hla hia hlb hib ex ey hx hy hM1 hM2 hn hat hbt F' N'
    rintro s' ⟨h1, tk1, a1, b1, vs1, us1, xs1, ys1, x1, y1, m1, rfl, F1, N1, e1, e2, e3, ⟨la, ia, lb, ib, ex, ey, hx, hy, exy, hM1, hM2, hN, hle, hat, hbt⟩⟩
    replace F1 := fr_ab e1 e2 e3 F1
    replace hx := Nn.mk hx
    replace hy := Nn.mk hy
    replace exy := Hid.mk exy
    clear e1 e2 e3
    have hFn := GO.1
    have hF : Fix M least := ⟨trivial⟩
    by_cases hc : (ys1.length : Int) < if 2 > least then 2 else least
    · have hF : Fix M least := ⟨trivial⟩
      k_steps
      · (rename News _ _ _ _ => nE); (rename Fr _ _ _ _ => fE); (rename IntsAre _ _ => iE); (rename _ = rowOf B _ => eE); (rename PairsIn _ _ _ _ => pE); (rename Added _ _ _ _ _ => aE)
        rw [eE, exy.out] at iE
        subst hBw
        exact ret _ _ _ _ _ _ _ _ fE.keep (fresh_hide (notin1 (neN (by first | exact Apart.ne (by assumption) | exact Ne.symm (Apart.ne (by assumption))))) (news_head nE).2) (news_head nE).1 iE (isNew nE (List.mem_cons_of_mem _ (List.mem_cons_self ..))).1 (pE.mono fE.keep fun q hq => .inr (nE _ (List.mem_cons_of_mem _ (List.mem_cons_of_mem _ hq))).1) aE
    · have lb2 : 2 ≤ ys1.length := by split at hc <;> omega
      by_cases h2 : 2 * (ys1.length : Int) ≤ xs1.length
      · have hF : Fix ys1.length least := ⟨trivial⟩
        obtain ⟨np, hnp⟩ : ∃ np, np = (xs1.length - 1) / ys1.length + 1 := ⟨_, rfl⟩
        have hcp := Hid.mk (cst_pieces lb2 (by omega) hM1 hM9 hnp)
        have hlb9 : ys1.length ≤ 4 := by omega
        k_with "pyIter ref" =>
          (rename Fr _ _ _ _ => lF')
          (rename News _ _ _ _ => lN')
          (rename IsRange _ _ _ _ _ _ _ _ => rgX)
          refine' range_P (t := t) (B := B) (x1 := x1) (y1 := y1) (short := max 2 least) (lb := ys1.length) (ps := ps) (n := np) (by rfl) rgX ?small ?size lF' lN' ?start ?turn ?done
          case small => exact small_pos (by omega) (by omega) (by omega)
          case size => rw [hnp]; exact size_pos (by omega) (by omega)
          case start => exact ⟨_, [], 0, [], tv, k, ps, [], rfl, by rfl, fun z _ _ => rfl, .nil, by simp [rowOf_zero], P, .inl ⟨rfl, rfl⟩, trivial, (fun q hq => nomatch hq), ⟨by omega⟩⟩
          case' turn =>
            intro i m2 news2 tt h2 tk2 I it hit hlt hInv F2 N2 hI
            obtain ⟨D, ws, nD, zs, tv1, k1, ps1, tl1, rfl, e1, e3, iD, eD, P1, hA, htl, hpair, hDt⟩ := hInv
            have F3 := fr_ab (A := (Str.ofString "at")) (B := (Str.ofString "found")) (if_pos rfl) ((if_neg (by decide)).trans e1) (fun z h1 h2 => (if_neg h1).trans (e3 z h1 h2)) F2
            obtain ⟨kk, hkk⟩ : ∃ kk, kk = ys1.length * i := ⟨_, rfl⟩
            have hav : 0 + (i : Int) * (ys1.length : Int) = (kk : Int) := by rw [hkk, Int.natCast_mul, Int.mul_comm]; omega
            rw [hav] at F3
            rw [← hkk] at eD
            have hkk2 : kk < xs1.length := piece_lt (by omega) (by omega) hkk (hnp ▸ hlt)
            have hz : zs.length ≤ xs1.length + ys1.length := by
              have h3 := len_mul hB (Int.emod_nonneg x1 (Int.ne_of_gt (pow_pos' hB kk))) hy.out
              have h4 := len_modle hB hx.out kk
              rw [← eD] at h3
              rw [← ex] at h4
              rw [← ey] at h3
              omega
            have hnD : Nn (x1 % B ^ kk * y1) := ⟨Int.mul_nonneg (Int.emod_nonneg x1 (Int.ne_of_gt (pow_pos' hB kk))) hy.out⟩
            have hl1 : tv1.length + cst ys1.length ≤ 5000 := piece_len P P1 hA hcp.out hlt hlen
            have hIt : Apart t I := ⟨Nat.ne_of_lt (hI (t, _) (List.mem_cons_of_mem _ (List.mem_cons_self ..)))⟩
            clear F2 hI hlt hav e1 e3
          case' done =>
            intro m2 news2 h2 tk2 hInv F2 N2
            obtain ⟨D, ws, nD, zs, tv1, k1, ps1, tl1, rfl, e1, e3, iD, eD, P1, hA, htl, hpair, hDt⟩ := hInv
            have F3 := fr_one e1 F2
            clear F2
          all_goals (try k_fold)
        k_steps
        · have hall := piece_all (by omega) hnp
          have hlt : x1 < B ^ (ys1.length * np) := by
            have h3 := lt_pow_len hB hx.out
            rw [← ex] at h3
            exact Int.lt_of_lt_of_le h3 (pow_mono hB hall)
          rw [eD, Int.emod_eq_of_lt hx.out hlt, exy.out] at iD
          have aE : Added (max 2 least) (M : Int) (cst M) ps ps1 := by
            rcases hA with ⟨_, h0⟩ | hA
            · exact absurd (hnp.symm.trans h0) (Nat.succ_ne_zero _)
            · exact hA.mono (by omega) hcp.out
          subst hBw
          refine' kara_done (s := s) ret F3 N2 P1 aE iD hDt ?mt ?ms
          case mt => k_mem
          case ms => intro q hq; (repeat (first | exact hq | refine List.mem_cons_of_mem _ ?_))
        · (rename News _ _ _ _ => nE); (rename Fr _ _ _ _ => fE); (rename IntsAre _ _ => iE); (rename _ = rowOf B (_ + _) => eE); (rename PairsIn _ _ _ _ => pE); (rename Added _ _ _ _ _ => aE); (rename ∀ _, _ → _ ∨ _ => hfr)
          refine' pinv_next hit fE nE pE hA aE iE (by rfl) ?e3 ?mI ?mD ?mt ?ms hIt hfr hpair (by assumption) (by assumption) ?eq
          case e3 => intro z h1 h2; simp only [if_neg h1, if_neg h2]
          case mI => k_mem
          case mD => k_mem
          case mt => k_mem
          case ms => intro q hq; (repeat (first | exact hq | refine List.mem_cons_of_mem _ ?_))
          case eq =>
            rw [eE, piece_toNat, Int.toNat_natCast, piece_sum hB, hkk, Nat.mul_add, Nat.mul_one]
      · have sp0 : ((xs1.length : Int) + 1).fdiv 2 = ((xs1.length : Int) + 1) / 2 := Int.fdiv_eq_ediv_of_nonneg _ (by decide)
        have sp1 : 2 * ((xs1.length : Int) + 1).fdiv 2 ≤ (xs1.length : Int) + 1 := by rw [sp0]; omega
        have sp2 : (xs1.length : Int) ≤ 2 * ((xs1.length : Int) + 1).fdiv 2 := by rw [sp0]; omega
        clear sp0
        obtain ⟨Ms, hMs⟩ : ∃ Ms : Nat, (Ms : Int) = ((xs1.length : Int) + 1).fdiv 2 := ⟨_, Int.toNat_of_nonneg (by omega)⟩
        have hF : Fix Ms least := ⟨trivial⟩
        have hA1 : 2 * Ms ≤ xs1.length + 1 := by omega
        have hA2 : xs1.length ≤ 2 * Ms := by omega
        have hA3 : Ms ≤ ys1.length := by omega
        clear sp1 sp2
        have hc3 : 3 * cst Ms ≤ cst M := cst_three (by omega) (by omega) (by omega)
        have hMM : Hid ((Ms : Int) ≤ (M : Int)) := ⟨by omega⟩
        have hcc : Hid (cst Ms + cst Ms + cst Ms ≤ cst M) := ⟨by omega⟩
        k_steps
        (rename News _ _ _ _ => nE); (rename Fr _ _ _ _ => fE); (rename IntsAre _ _ => iE); (rename _ = rowOf B (_ + _) => eE); (rename PairsIn _ _ _ _ => pE)
        (rename Added _ _ _ _ _ => a3); revert a3; (rename Added _ _ _ _ _ => a2); revert a2
        (rename Added _ _ _ _ _ => a1'); intro a2 a3
        rw [eE] at iE
        rw [two_toNat, Int.pow_mul, kara_sum, exy.out] at iE
        subst hBw
        have aE := ((a1'.trans a2).trans a3).mono (M' := (M : Int)) (c' := cst M) hMM.out hcc.out
        refine' kara_done (s := s) ret fE nE pE aE iE (by assumption) ?mt ?ms
        case mt => k_mem
        case ms => intro q hq; (repeat (first | exact hq | refine List.mem_cons_of_mem _ ?_))
theorem kara_all : ∀ n, KaraOk w n
  | 0 => fun p loose mean mg mb dp fr gd un s Q E a b f t vs us tv xs ys x y wd least tw tl k M ps hn => absurd hn (Nat.not_lt_zero _)
  | n + 1 => kara_step w (kara_all n)
end
end Mine

end
section
open PySem PySem.W PyProof.Rows PySem.Calls PyProof.Rows.LCg
set_option Elab.async false
set_option maxRecDepth 100000
namespace Mine
theorem freshM15 : True := by
  w_top off
  k_with_none
  exact trivial
theorem mods_sum (l : List Int) : 0 ≤ (l.map fun k' => k'.fmod 9973).sum ∧ (l.map fun k' => k'.fmod 9973).sum ≤ 9973 * (l.length : Int) := by
  induction l with
  | nil => simp
  | cons x r ih =>
    have h1 := Int.fmod_nonneg_of_pos x (show (0 : Int) < 9973 by decide)
    have h2 := Int.fmod_lt_of_pos x (show (0 : Int) < 9973 by decide)
    simp only [List.map_cons, List.sum_cons, List.length_cons]
    omega
structure PoolOk (i st : Int) (gns : List Int) : Prop where
  len : gns.length ≤ 20
  h0 : 0 ≤ i
  h1 : i ≤ gns.length
  h2 : 0 ≤ st
  h3 : st < 2000000
section
variable (w : World) {p : Program} {loose : List Str} {mean : ExcName → Option Value} {mg mb : Str → Option Value} {dp : Nat} {fr : Option (List Env)} {gd : Option (List Code)} {un : Nat} {s : Shared} {Q E : Value → Shared → Prop}
set_option maxHeartbeats 400000 in
theorem law_draw_t {P G : Addr} {gvs : List Value} {gns : List Int} {i st many : Int} {t1 t2 tm : Tok} {k : Nat}
  (X : (frag.heap_1 w.params).In (hideAll s.heap [P])) (T : Top p loose mean mg mb (hideAll s.heap [P])) (hroom : dp < recursionLimit)
  (hP : s.heap.get? P = some (W.listOf [.ref G, .int i t1, .int st t2].toArray k)) (hG : (hideAll s.heap [P]).IsList G gvs.toArray) (hi : IntsAre gvs gns) (hn : gns.length ≤ 20)
  (h0 : 0 ≤ i) (h1 : i ≤ gns.length) (h2 : 0 ≤ st) (h3 : st < 2000000) (h4 : 1 ≤ many) (h5 : many ≤ 1000)
  (h : ∀ r tr i' t1' st' t2' h' tk', (hideAll s.heap [P]).StaysIn h' → h'.get? P = some (W.listOf [.ref G, .int i' t1', .int st' t2'].toArray k) → 0 ≤ r → r < many → 0 ≤ i' → i' ≤ gns.length → 0 ≤ st' → st' < 2000000 → Q (.int r tr) {s with heap := h', toks := tk'}) :
  wpAny (model PySem.Challenge.rw_nn0004_01.row.prog w) (mkA dp fr gd un) (call (.ref 123) [.ref P, .int many tm]) Q E s := by
  revert X; k_fill; intro X
  (k_dflt (refine' enterH [(P, W.listOf [.ref G, .int i t1, .int st t2].toArray k)] [((Str.ofString "pool"), .ref P), ((Str.ofString "many"), .int many tm)] (by intro q9 h9; (repeat' (first | (rcases List.mem_cons.mp h9 with rfl | h9))) <;> first | assumption | cases h9) (by assumption) (by assumption) ?k6 ?k7 (by dsimp only [mkA, Around.deeper]; omega) ?k9 ?kB ?_ ?c2 ?c3 ?c4 ?c5; (case k6 => k_is); (case k7 => k_is); (case k9 => exact BindsTo.of_eq rfl); (case c5 => decide); (case kB => exact locs rfl); (case c2 => exact rfl); (case c3 => exact rfl); (case c4 => exact rfl); k_whole; intro L' h' n F' N' l0); (simp only [List.map_cons, List.map_nil] at F' N'); (replace l0 := allLt_of l0; simp only [AllLt, and_true] at l0); (try dsimp only); (try k_fold))
  k_with_none
  k_steps
  · (rename News _ _ _ _ => nE); (rename Fr _ _ _ _ => fE)
    exact h _ _ _ _ _ _ _ _ fE.keep (news_head nE).1 (Int.fmod_nonneg_of_pos _ (by omega)) (Int.fmod_lt_of_pos _ (by omega)) (by omega) (by omega) h2 h3
  · (rename News _ _ _ _ => nE); (rename Fr _ _ _ _ => fE)
    exact h _ _ _ _ _ _ _ _ fE.keep (news_head nE).1 (Int.fmod_nonneg_of_pos _ (by omega)) (Int.fmod_lt_of_pos _ (by omega)) h0 h1 (Int.fmod_nonneg_of_pos _ (by omega)) (Int.lt_trans (Int.fmod_lt_of_pos _ (by omega)) (by omega))
set_option maxHeartbeats 400000 in
theorem law_pool_t {a : Addr} {vs : List Value} {ns : List Int}
  (X : (frag.heap_1 w.params).In s.heap) (T : Top p loose mean mg mb s.heap) (hroom : dp < recursionLimit)
  (hl : s.heap.IsList a vs.toArray) (hi : IntsAre vs ns) (hn : ns.length ≤ 63)
  (h : ∀ D G t1 t2 st gvs gns k kg h' tk', s.heap.StaysIn h' → s.heap.get? D = none → s.heap.get? G = none → h'.get? D = some (W.listOf [.ref G, .int 0 t1, .int st t2].toArray k) → h'.get? G = some (W.listOf (List.toArray gvs) kg) → IntsAre gvs gns → gns.length ≤ 20 → 0 ≤ st → st < 2000000 → Q (.ref D) {s with heap := h', toks := tk'}) :
  wpAny (model PySem.Challenge.rw_nn0004_01.row.prog w) (mkA dp fr gd un) (call (.ref 128) [.ref a]) Q E s := by
  revert X; k_fill; intro X
  (k_dflt (refine' enter [((Str.ofString "script"), .ref a)] (by assumption) (by assumption) ?k6 ?k7 (by dsimp only [mkA, Around.deeper]; omega) ?k9 ?kB ?_ ?c2 ?c3 ?c4 ?c5; (case k6 => k_is); (case k7 => k_is); (case k9 => exact BindsTo.of_eq rfl); (case c5 => decide); (case kB => exact locs rfl); (case c2 => exact rfl); (case c3 => exact rfl); (case c4 => exact rfl); k_whole; intro L' h' n F' N'); (try dsimp only); (try k_fold))
  k_with_none
  k_steps
  (rename News _ _ _ _ => nE); (rename Fr _ _ _ _ => fE); (rename IntsAre _ (List.map _ (List.take 20 _)) => hG)
  have hb := mods_sum (List.map (fun k' : Int => if k' < 0 then -k' else k') (List.take 20 ns))
  have hlen : (List.map (fun k' : Int => if k' < 0 then -k' else k') (List.take 20 ns)).length ≤ 20 := by rw [List.length_map, List.length_take]; omega
  refine' h _ _ _ _ _ _ _ _ _ _ _ fE.keep (news_head nE).2 (isNew nE ?a).2 (news_head nE).1 (isNew nE ?a).1 hG hlen ?b0 ?b1
  case a => k_mem
  case b0 => omega
  case b1 => omega
end
section
variable (w : World) {p : Program} {loose : List Str} {mean : ExcName → Option Value} {mg mb : Str → Option Value} {dp : Nat} {fr : Option (List Env)} {gd : Option (List Code)} {un : Nat} {s : Shared} {Q E : Value → Shared → Prop}
  {h₀ : Heap} {L : Addr} {m : Str → Option Value} {news : Led} {g : Obj → Led} {P G : Addr} {gvs : List Value} {gns : List Int} {i st many : Int} {t1 t2 tm : Tok} {k : Nat}
theorem call_draw (F : Fr h₀ L s.heap m) (N : News h₀ L s.heap news) (X : (frag.heap_1 w.params).In h₀) (T : Top p loose mean mg mb h₀) (U : UpdF P (W.listOf [.ref G, .int i t1, .int st t2].toArray k) news g)
  (hG : s.heap.IsList G gvs.toArray) (hi : IntsAre gvs gns) (hGP : @Ne Nat G P) (hroom : dp < recursionLimit) (hS : PoolOk i st gns) (h4 : 1 ≤ many) (h5 : many ≤ 1000)
  (ret : ∀ r tr i' t1' st' t2' h' tk', Fr h₀ L h' m → News h₀ L h' (g (W.listOf [.ref G, .int i' t1', .int st' t2'].toArray k)) → PoolOk i' st' gns → 0 ≤ r → r < many → Q (.int r tr) {s with heap := h', toks := tk'}) :
  wpAny (model PySem.Challenge.rw_nn0004_01.row.prog w) (mkA dp fr gd un) (call (.ref 123) [.ref P, .int many tm]) Q E s := by
  obtain ⟨pre, post, rfl, hg, n1, n2⟩ := U.split
  have hP := N (P, _) (List.mem_append_right _ (.head _))
  have hst : h₀.StaysIn (hideAll s.heap [P]) := fun b o e => hideAll_get _ (F.keep b o e) (notin1 fun q => by rw [q, hP.2.2] at e; cases e)
  refine law_draw_t w (X.keeps hst) (T.keeps hst) hroom hP.1 (let ⟨o, e, r⟩ := hG; ⟨o, hideAll_get _ e (notin1 hGP), r⟩) hi hS.len hS.h0 hS.h1 hS.h2 hS.h3 h4 h5 ?_
  intro r tr i' t1' st' t2' h' tk' st hP' r0 r1 a0 a1 a2 a3
  have st2 : ∀ b o, b ≠ P → s.heap.get? b = some o → h'.get? b = some o := fun b o hb e => st _ _ (hideAll_get _ e (notin1 hb))
  have hLP : L ≠ P := fun q => hP.2.1 q.symm
  refine ret r tr i' t1' st' t2' h' tk' ⟨F.ns.at' fun o e => st2 _ _ hLP e, fun b o e => st _ _ (hst b o e), F.above⟩ (fun q hq => ?_) ⟨hS.len, a0, a1, a2, a3⟩ r0 r1
  rw [hg] at hq
  rcases List.mem_append.mp hq with hq | hq
  · exact ⟨st2 _ _ (n1 q hq) (N q (List.mem_append_left _ hq)).1, (N q (List.mem_append_left _ hq)).2⟩
  · rcases List.mem_cons.mp hq with rfl | hq
    · exact ⟨hP', hP.2⟩
    · exact ⟨st2 _ _ (n2 q hq) (N q (List.mem_append_right _ (.tail _ hq))).1, (N q (List.mem_append_right _ (.tail _ hq))).2⟩
end
end Mine

end
section
open PySem PySem.W PyProof.Rows PySem.Calls PyProof.Rows.LCg
set_option Elab.async false
set_option maxRecDepth 100000
namespace Mine
theorem freshM16 : True := by
  w_top off
  k_with_none
  exact trivial
theorem fr_abc {g h : Heap} {L : Addr} {m' mB : Str → Option Value} {A B C : Str} {v v2 : Value} (e1 : m' B = some v2) (e3 : ∀ z, z ≠ A → z ≠ B → z ≠ C → m' z = mB z) (F : Fr g L h (fun y => if y = A then some v else m' y)) :
    Fr g L h (fun y => if y = A then some v else if y = B then some v2 else if y = C then m' C else mB y) := by
  have e : (fun y => if y = A then some v else if y = B then some v2 else if y = C then m' C else mB y) = fun y => if y = A then some v else m' y := by
    funext y
    by_cases hA : y = A
    · rw [if_pos hA, if_pos hA]
    · rw [if_neg hA, if_neg hA]
      by_cases hB : y = B
      · rw [if_pos hB, hB, e1]
      · rw [if_neg hB]
        by_cases hC : y = C
        · rw [if_pos hC, hC]
        · rw [if_neg hC, e3 y hA hB hC]
  rw [e]; exact F
structure Stop (p : Prop) : Prop where
  out : p
theorem stop {p : Prop} (h : Stop p) : p := h.out
def NInv (P G : Addr) (gns : List Int) (B : Int) (k : Nat) (mB : Str → Option Value) (i : Nat) (m' : Str → Option Value) (news' : Led) : Prop :=
  ∃ (v : Int) (tv : Tok) (i' : Int) (t1' : Tok) (st' : Int) (t2' : Tok), news' = [(P, W.listOf [.ref G, .int i' t1', .int st' t2'].toArray k)] ∧ m' (Str.ofString "found") = some (.int v tv) ∧ (∀ z, z ≠ (Str.ofString "turn") → z ≠ (Str.ofString "found") → z ≠ (Str.ofString "limb") → m' z = mB z) ∧ 0 ≤ v ∧ v < B ^ i ∧ PoolOk i' st' gns
theorem range_N {prog : Program} {w : World} {A : Around} {E : Value → Shared → Prop} {s : Shared} {env : Env} {h₀ : Heap} {x : Str} {body : List Stmt} {Q : Flow → Shared → Prop}
    {r : Addr} {a₀ b₀ c : Int} {t₀ u₀ v₀ : Tok} {n : Nat} {m₀ : Str → Option Value} {news : Led} {P G : Addr} {gns : List Int} {B : Int} {k : Nat}
    (hh : A.handled = none) (hr : IsRange s.heap r a₀ b₀ c t₀ u₀ v₀) (hsmall : Builtin.Range.small a₀ b₀ c = true) (hn : Builtin.Range.rangeSize a₀ b₀ c = (n : Int)) (F : Fr h₀ env.locals s.heap m₀) (N : News h₀ env.locals s.heap news)
    (start : NInv P G gns B k m₀ 0 m₀ news)
    (turn : ∀ i m news' t' h tk I it, it.cls = .type "range_iterator" → i < n → NInv P G gns B k m₀ i m news' → Fr h₀ env.locals h (fun y => if y = x then some (.int (a₀ + (i : Int) * c) t') else m y) → News h₀ env.locals h ((I, it) :: news') → (∀ p ∈ news, p.1 < I) →
      wpAny (model prog w) A (execs body env) (UnrPost h₀ env.locals { s with heap := h, toks := tk } I it (fun m' n' => NInv P G gns B k m₀ (i + 1) m' n') Q) E { s with heap := h, toks := tk })
    (done : ∀ m news' h tk, NInv P G gns B k m₀ n m news' → Fr h₀ env.locals h m → News h₀ env.locals h news' → Q .next { s with heap := h, toks := tk }) :
    wpAny (model prog w) A (pyIter (.ref r)) (fun it s₂ => LoopAtV prog w A h₀ env x body Q E it s₂) E s := range_inv2 (NInv P G gns B k m₀) hh hr hsmall hn F N start turn done
theorem ninv_next {g h : Heap} {L I P G : Addr} {it : Obj} {all : Led} {m' mB : Str → Option Value} {gns : List Int} {B v i' st' : Int} {tv t1' t2' : Tok} {k i tk : Nat} {s1 : Shared}
    (fE : Fr g L h m') (nE : News g L h all) (S : PoolOk i' st' gns) (h0 : 0 ≤ v) (h1 : v < B ^ (i + 1)) (e1 : m' (Str.ofString "found") = some (.int v tv)) (e3 : ∀ z, z ≠ (Str.ofString "turn") → z ≠ (Str.ofString "found") → z ≠ (Str.ofString "limb") → m' z = mB z)
    (mI : (I, it) ∈ all) (mP : (P, W.listOf [.ref G, .int i' t1', .int st' t2'].toArray k) ∈ all) (hIP : @LT.lt Nat _ P I) : UnrEnd g L s1 I it (fun m' n' => NInv P G gns B k mB (i + 1) m' n') {s1 with heap := h, toks := tk} := by
  refine UnrEnd.intro fE nE [(P, W.listOf [.ref G, .int i' t1', .int st' t2'].toArray k)] (fun q hq => ?_) (fun q hq => ?_) ⟨v, tv, i', t1', st', t2', rfl, e1, e3, h0, h1, S⟩
  · rcases List.mem_cons.mp hq with rfl | hq
    · exact mI
    · rcases List.mem_cons.mp hq with rfl | hq
      · exact mP
      · cases hq
  · rcases List.mem_cons.mp hq with rfl | hq
    · exact Nat.ne_of_lt hIP
    · cases hq
theorem menu_ok {wd r2 : Int} (hw : 2 ≤ wd) (h0 : 0 ≤ r2) (h1 : r2 < 2 ^ wd.toNat) (j : Nat) : 0 ≤ [0, 2 ^ wd.toNat - 1, 1, r2, 2 ^ wd.toNat - 1, 2 ^ (wd - 1).toNat].getD j 0 ∧ [0, 2 ^ wd.toNat - 1, 1, r2, 2 ^ wd.toNat - 1, 2 ^ (wd - 1).toNat].getD j 0 < 2 ^ wd.toNat := by
  have h2 : 2 ≤ (2 : Int) ^ wd.toNat := Bw_ge hw
  have h3 : (0 : Int) < 2 ^ (wd - 1).toNat := Int.pow_pos (by decide)
  have h4 : (2 : Int) ^ wd.toNat = 2 ^ (wd - 1).toNat * 2 := by rw [← Int.pow_succ]; congr 1; omega
  match j with
  | 0 => simp; omega
  | 1 => simp; omega
  | 2 => simp; omega
  | 3 => simp; omega
  | 4 => simp; omega
  | 5 => show 0 ≤ (2 : Int) ^ (wd - 1).toNat ∧ (2 : Int) ^ (wd - 1).toNat < 2 ^ wd.toNat; omega
  | n + 6 => simp; omega
theorem num_step {B v l : Int} {i : Nat} (hB : 2 ≤ B) (v0 : 0 ≤ v) (v1 : v < B ^ i) (l0 : 0 ≤ l) (l1 : l < B) : 0 ≤ v * B + l ∧ v * B + l < B ^ (i + 1) := by
  have h1 := Int.mul_nonneg v0 (show 0 ≤ B by omega)
  have h2 : v * B ≤ (B ^ i - 1) * B := Int.mul_le_mul_of_nonneg_right (by omega) (by omega)
  rw [Int.sub_mul] at h2
  rw [Int.pow_succ]
  omega
local macro_rules | `(tactic| walk_at "pyIter ref") => `(tactic| k_extra "pyIter ref")
local macro_rules | `(tactic| ktr_room) => `(tactic| k_extra "ktr_room")
theorem readyM161 : True := by
  k_with "ktr_room" => ((try dsimp only [mkA, Around.deeper]); first | omega | decide)
  exact trivial
local macro_rules | `(tactic| walk_at "call ref") => `(tactic| k_extra "call ref")
theorem readyM162 : True := by
  k_with "call ref" => (k_here; (with_reducible show wpAny _ _ (call (Value.ref 123) [Value.ref _, Value.int _ _]) _ _ _); k_dflt (refine' call_draw _ ?F ?N ?X ?T ?U ?l1 ?i1 ?q1 ?room ?S ?m0 ?m1 ?_; (case F => k_asm); (case N => k_asm); (case X => k_asm); (case T => k_asm); (case U => k_updF); (case l1 => is_list); (case i1 => assumption); (case q1 => exact neN (by omega)); (case room => ktr_room); (case S => assumption); (case m0 => omega); (case m1 => omega); k_whole); intro r_q' tr_q' i_q' t1_q' st_q' t2_q' h_q' tk_q' F_q' N_q' S_q' r0_q' r1_q'; (try dsimp only at N_q'); (try k_sweep))
  exact trivial
section
variable (w : World) {p : Program} {loose : List Str} {mean : ExcName → Option Value} {mg mb : Str → Option Value} {dp : Nat} {fr : Option (List Env)} {gd : Option (List Code)} {un : Nat} {s : Shared} {Q E : Value → Shared → Prop}
set_option maxHeartbeats 800000 in
theorem law_number_t {P G : Addr} {gvs : List Value} {gns : List Int} {i st wd : Int} {t1 t2 tm tw : Tok} {k : Nat} {B : Int} (hBw : B = Bw wd)
  (X : (frag.heap_1 w.params).In (hideAll s.heap [P])) (T : Top p loose mean mg mb (hideAll s.heap [P])) (hroom : dp + 1 < recursionLimit)
  (hP : s.heap.get? P = some (W.listOf [.ref G, .int i t1, .int st t2].toArray k)) (hG : (hideAll s.heap [P]).IsList G gvs.toArray) (hi : IntsAre gvs gns) (hS : PoolOk i st gns) (hGP : @Ne Nat G P) (hw : 2 ≤ wd) (hw2 : wd ≤ 9)
  (h : ∀ r tr i' t1' st' t2' h' tk', (hideAll s.heap [P]).StaysIn h' → h'.get? P = some (W.listOf [.ref G, .int i' t1', .int st' t2'].toArray k) → 0 ≤ r → r < B ^ 9 → PoolOk i' st' gns → Q (.int r tr) {s with heap := h', toks := tk'}) :
  wpAny (model PySem.Challenge.rw_nn0004_01.row.prog w) (mkA dp fr gd un) (call (.ref 147) [.ref P, .int wd tw, .int 9 tm]) Q E s := by
  have hB : 2 ≤ B := hBw ▸ Bw_ge hw
  have hp0 : 2 ≤ (2 : Int) ^ wd.toNat := Bw_ge hw
  have hp1 : (2 : Int) ^ wd.toNat ≤ 512 := Bw_le hw2
  revert X; k_fill; intro X
  (k_dflt (refine' enterH [(P, W.listOf [.ref G, .int i t1, .int st t2].toArray k)] [((Str.ofString "pool"), .ref P), ((Str.ofString "w"), .int wd tw), ((Str.ofString "most"), .int 9 tm)] (by intro q9 h9; (repeat' (first | (rcases List.mem_cons.mp h9 with rfl | h9))) <;> first | assumption | cases h9) (by assumption) (by assumption) ?k6 ?k7 (by dsimp only [mkA, Around.deeper]; omega) ?k9 ?kB ?_ ?c2 ?c3 ?c4 ?c5; (case k6 => k_is); (case k7 => k_is); (case k9 => exact BindsTo.of_eq rfl); (case c5 => decide); (case kB => exact locs rfl); (case c2 => exact rfl); (case c3 => exact rfl); (case c4 => exact rfl); k_whole; intro L' h' n F' N' l0); (simp only [List.map_cons, List.map_nil] at F' N'); (replace l0 := allLt_of l0; simp only [AllLt, and_true] at l0); (try dsimp only); (try k_fold))
  k_with_none
  k_with "ktr_room" => ((try dsimp only [mkA, Around.deeper]); first | omega | decide)
  k_with "call ref" => (k_here; (with_reducible show wpAny _ _ (call (Value.ref 123) [Value.ref _, Value.int _ _]) _ _ _); k_dflt (refine' call_draw _ ?F ?N ?X ?T ?U ?l1 ?i1 ?q1 ?room ?S ?m0 ?m1 ?_; (case F => k_asm); (case N => k_asm); (case X => k_asm); (case T => k_asm); (case U => k_updF); (case l1 => is_list); (case i1 => assumption); (case q1 => exact neN (by omega)); (case room => ktr_room); (case S => assumption); (case m0 => omega); (case m1 => omega); k_whole); intro r_q' tr_q' i_q' t1_q' st_q' t2_q' h_q' tk_q' F_q' N_q' S_q' r0_q' r1_q'; (try dsimp only at N_q'); (try k_sweep))
  k_with "pyIter ref" => refine stop ?_
  k_steps
  · refine Stop.mk ?_
    (rename Fr _ _ _ _ => lF')
    (rename News _ _ _ _ => lN')
    (rename IsRange _ _ _ _ _ _ _ _ => rgX)
    (rename PoolOk _ _ _ => S0)
    refine' range_N (P := P) (G := G) (gns := gns) (B := B) (k := k) (by rfl) rgX ?small ?size lF' lN' ?start ?turn ?done
    case small => exact small_one (by omega) (by omega) (by omega) (by omega)
    case size => exact rangeSize_nat _ _
    case start => exact ⟨0, _, _, _, _, _, rfl, by rfl, fun z _ _ _ => rfl, by omega, by simp, S0⟩
    case' turn =>
      intro i2 m2 news2 tt h2 tk2 I it hit hlt hInv F2 N2 hI
      obtain ⟨v, tv, i', t1', st', t2', rfl, e1, e3, v0, v1, S1⟩ := hInv
      have F3 := fr_abc e1 e3 F2
      have hIP : @LT.lt Nat _ P I := hI (P, _) (List.mem_cons_self ..)
      clear F2 hI
    case' done =>
      intro m2 news2 h2 tk2 hInv F2 N2
      obtain ⟨v, tv, i', t1', st', t2', rfl, e1, e3, v0, v1, S1⟩ := hInv
      have F3 := fr_one e1 F2
      clear F2
    all_goals (try k_fold)
    all_goals k_steps
    · exact h _ _ _ _ _ _ _ _ F3.keep (news_head N2).1 v0 (Int.lt_of_lt_of_le v1 (pow_mono hB (by omega))) S1
    · (rename News _ _ _ _ => nE); (rename Fr _ _ _ _ => fE); (rename PoolOk _ _ _ => SE)
      (rename _ < 2 ^ _ => rE)
      (rename IsRange _ _ _ _ _ _ _ _ => rgX)
      subst hBw
      have hm := menu_ok hw (by assumption) rE
      have hs := fun j => num_step hB v0 v1 (hm j).1 (hm j).2
      refine' ninv_next fE nE SE (hs _).1 (hs _).2 (by rfl) ?e3 ?mI ?mP hIP
      case e3 => intro z h1 h2 h3; simp only [if_neg h1, if_neg h2, if_neg h3]
      case mI => k_mem
      case mP => k_mem
end
section
variable (w : World) {p : Program} {loose : List Str} {mean : ExcName → Option Value} {mg mb : Str → Option Value} {dp : Nat} {fr : Option (List Env)} {gd : Option (List Code)} {un : Nat} {s : Shared} {Q E : Value → Shared → Prop}
  {h₀ : Heap} {L : Addr} {m : Str → Option Value} {news : Led} {g : Obj → Led} {P G : Addr} {gvs : List Value} {gns : List Int} {i st wd : Int} {t1 t2 tm tw : Tok} {k : Nat} {B : Int}
theorem call_number (F : Fr h₀ L s.heap m) (N : News h₀ L s.heap news) (X : (frag.heap_1 w.params).In h₀) (T : Top p loose mean mg mb h₀) (U : UpdF P (W.listOf [.ref G, .int i t1, .int st t2].toArray k) news g)
  (hG : s.heap.IsList G gvs.toArray) (hi : IntsAre gvs gns) (hGP : @Ne Nat G P) (hroom : dp + 1 < recursionLimit) (hS : PoolOk i st gns) (hw : 2 ≤ wd) (hw2 : wd ≤ 9)
  (ret : ∀ r tr i' t1' st' t2' h' tk', Fr h₀ L h' m → News h₀ L h' (g (W.listOf [.ref G, .int i' t1', .int st' t2'].toArray k)) → PoolOk i' st' gns → 0 ≤ r → (rowOf (Bw wd) r).length ≤ 9 → Q (.int r tr) {s with heap := h', toks := tk'}) :
  wpAny (model PySem.Challenge.rw_nn0004_01.row.prog w) (mkA dp fr gd un) (call (.ref 147) [.ref P, .int wd tw, .int 9 tm]) Q E s := by
  obtain ⟨pre, post, rfl, hg, n1, n2⟩ := U.split
  have hP := N (P, _) (List.mem_append_right _ (.head _))
  have hst : h₀.StaysIn (hideAll s.heap [P]) := fun b o e => hideAll_get _ (F.keep b o e) (notin1 fun q => by rw [q, hP.2.2] at e; cases e)
  refine law_number_t w rfl (X.keeps hst) (T.keeps hst) hroom hP.1 (let ⟨o, e, r⟩ := hG; ⟨o, hideAll_get _ e (notin1 hGP), r⟩) hi hS hGP hw hw2 ?_
  intro r tr i' t1' st' t2' h' tk' st hP' r0 r1 S
  have st2 : ∀ b o, b ≠ P → s.heap.get? b = some o → h'.get? b = some o := fun b o hb e => st _ _ (hideAll_get _ e (notin1 hb))
  have hLP : L ≠ P := fun q => hP.2.1 q.symm
  refine ret r tr i' t1' st' t2' h' tk' ⟨F.ns.at' fun o e => st2 _ _ hLP e, fun b o e => st _ _ (hst b o e), F.above⟩ (fun q hq => ?_) S r0 ((len_le_iff (Bw_ge hw) r0 9).mpr r1)
  rw [hg] at hq
  rcases List.mem_append.mp hq with hq | hq
  · exact ⟨st2 _ _ (n1 q hq) (N q (List.mem_append_left _ hq)).1, (N q (List.mem_append_left _ hq)).2⟩
  · rcases List.mem_cons.mp hq with rfl | hq
    · exact ⟨hP', hP.2⟩
    · exact ⟨st2 _ _ (n2 q hq) (N q (List.mem_append_right _ (.tail _ hq))).1, (N q (List.mem_append_right _ (.tail _ hq))).2⟩
end
end Mine

end
section
open PySem PySem.W PyProof.Rows PySem.Calls PyProof.Rows.LCg
set_option Elab.async false
set_option maxRecDepth 100000
namespace Mine
theorem freshM14 : True := by
  w_top off
  k_with_none
  exact trivial
theorem hide_sub {h : Heap} {t : Addr} : (hideAll h [149, t]).StaysIn (hideAll h [t]) := fun b o e => hideAll_get _ (of_hideAll _ e) (notin1 fun q => by
  rw [q, hideAll_none _ (List.mem_cons_of_mem _ (List.mem_cons_self ..))] at e
  cases e)
section
variable (w : World) {p : Program} {loose : List Str} {mean : ExcName → Option Value} {mg mb : Str → Option Value} {dp : Nat} {fr : Option (List Env)} {gd : Option (List Code)} {un : Nat} {s : Shared} {Q E : Value → Shared → Prop}
  {h₀ : Heap} {L : Addr} {m : Str → Option Value} {led : Led} {G : Obj → Led → Led} {a b f t : Addr} {vs us tv : List Value} {xs ys : List Int} {x y wd least : Int} {tw tle : Tok} {B : Int} {k n M : Nat} {tl : Led} {ps : List (Int × Int)}
theorem call_karaL (hK : KaraOk w n) (hF : Fix M 0) (F : Fr h₀ L s.heap m) (N : News h₀ L s.heap led) (X : (frag.heap_1 w.params).In h₀) (T : Top p loose mean mg mb h₀) (P : PairsIn h₀ tl tv ps) (Sp : Spl t (W.listOf tv.toArray k) tl led G) (htl : AllNe t tl) (GO : GivenOk w (hideAll s.heap [149, t]) f t wd)
  (hl : s.heap.IsList a vs.toArray) (hi : IntsAre vs xs) (hl2 : s.heap.IsList b us.toArray) (hi2 : IntsAre us ys) (hat : @Ne Nat a t) (hbt : @Ne Nat b t)
  (hroom : dp + n + 5 < recursionLimit) (hBw : B = Bw wd) (hw : 2 ≤ wd) (hw2 : wd ≤ 9) (ex : xs = rowOf B x) (ey : ys = rowOf B y) (hx : 0 ≤ x) (hy : 0 ≤ y) (hn : xs.length + ys.length < n) (hM1 : xs.length ≤ M) (hM2 : ys.length ≤ M) (hM9 : M ≤ 9) (hlen : tv.length + cst M ≤ 5000)
  (ret : ∀ D ws n' tv' k' ps' tl' h' tk' zs, Fr h₀ L h' m → News h₀ L h' ((D, W.listOf ws.toArray n') :: G (W.listOf tv'.toArray k') tl') → AllNe D (G (W.listOf tv'.toArray k') tl') → IntsAre ws zs → zs = rowOf B (x * y) → 0 ≤ x * y → zs.length ≤ xs.length + ys.length →
    PairsIn h₀ tl' tv' ps' → Added (max 2 least) M (cst M) ps ps' → tv'.length ≤ tv.length + cst M → AllNe t tl' → (∀ q ∈ tl, q ∈ tl') → (∀ q ∈ tl', q ∈ tl ∨ IsPair q.2) → Q (.ref D) {s with heap := h', toks := tk'}) :
  wpAny (model PySem.Challenge.rw_nn0004_01.row.prog w) (mkA dp fr gd un) (call (.ref 116) [.ref a, .ref b, .int wd tw, .int least tle, .ref f]) Q E s := by
  have hB : 2 ≤ B := hBw ▸ Bw_ge hw
  obtain ⟨ht, htm⟩ := Sp.mem
  have hst : h₀.StaysIn (hideAll s.heap [t]) := fun b o e => hideAll_get _ (F.keep b o e) (notin1 fun q => by rw [q, (N _ ht).2.2] at e; cases e)
  have up : ∀ b o, b ≠ t → s.heap.get? b = some o → (hideAll s.heap [t]).get? b = some o := fun b o hb e => hideAll_get _ e (notin1 hb)
  have P0 : PairsIn (hideAll s.heap [t]) [] tv ps := P.mono hst fun q hq => .inr (up _ _ (allNe_mem htl q hq) (N _ (htm q hq)).1)
  subst hBw
  refine hK p loose mean mg mb dp fr gd un s Q E a b f t vs us tv xs ys x y wd least tw tle k M ps hn (X.keeps hst) (T.keeps hst) hroom (IsList.hide hl (notin1 hat)) hi (IsList.hide hl2 (notin1 hbt)) hi2 ex ey hx hy hM1 hM2 hM9 hw hw2 (GO.mono hide_sub) (N _ ht).1 P0 hlen ?_
  intro D h' tk' ws n' tv' k' ps' st hD ho hI hto P' hA
  have st2 : ∀ b o, b ≠ t → s.heap.get? b = some o → h'.get? b = some o := fun b o hb e => st _ _ (up b o hb e)
  obtain ⟨oL, es, ep, hL, hLd, hLr⟩ := id F.ns
  have hLt : L ≠ t := fun q => (N _ ht).2.1 q.symm
  have F' : Fr h₀ L h' m := ⟨F.ns.at' fun o e => st2 _ _ hLt e, fun b o e => st _ _ (hst b o e), F.above⟩
  obtain ⟨tups, Nt, It, Pt⟩ := pairs_to F' P'
  have Ntl : News h₀ L h' tl := fun q hq => ⟨st2 _ _ (allNe_mem htl q hq) (N _ (htm q hq)).1, (N _ (htm q hq)).2⟩
  have N' : News h₀ L h' (tups ++ tl) := fun q hq => by
    rcases List.mem_append.mp hq with hq | hq
    · exact Nt q hq
    · exact Ntl q hq
  have hDL : D ≠ L := fun q => by rw [q, hL] at hD; cases hD
  have hD0 : h₀.get? D = none := by
    cases q : h₀.get? D with
    | none => rfl
    | some o => rw [F.keep _ _ q] at hD; cases hD
  have NG := Sp.news N st2 hto N'
  have offD : ∀ q ∈ led, q.1 ≠ D := fun q hq e => by
    have := (N q hq).1
    rw [e, hD] at this; cases this
  have offT : ∀ q ∈ tups ++ tl, q.1 ≠ D := fun q hq => by
    rcases List.mem_append.mp hq with hq | hq
    · intro e
      have h1 := (Nt q hq).1
      rw [e, ho] at h1
      exact isPair_ne (It q hq) (Option.some.inj h1).symm
    · exact offD q (htm q hq)
  have neT : AllNe t (tups ++ tl) := allNe_append (allNe_of fun q hq e => by
    have h1 := (Nt q hq).1
    rw [e, hto] at h1
    exact isPair_ne (It q hq) (Option.some.inj h1).symm) htl
  have hlen2 : tv'.length ≤ tv.length + cst M := by
    rw [P'.length, P.length]; exact hA.len
  refine ret D ws n' tv' k' ps' (tups ++ tl) h' tk' _ F' (fun q hq => ?_) (allNe_of (Sp.addr offD offT)) hI rfl (Int.mul_nonneg hx hy) ?_ (Pt.mono (fun _ _ z => z) fun q hq => .inl (List.mem_append_left _ hq)) hA hlen2 neT (fun q hq => List.mem_append_right _ hq) fun q hq => ?_
  · rcases List.mem_cons.mp hq with rfl | hq
    · exact ⟨ho, hDL, hD0⟩
    · exact NG q hq
  · rw [ex, ey]; exact len_mul hB hx hy
  · rcases List.mem_append.mp hq with hq | hq
    · exact .inr (It q hq)
    · exact .inl hq

theorem call_law_given {ps₀ : Array Value} {ot : Obj} (F : Fr h₀ L s.heap m) (N : News h₀ L s.heap led) (X : (frag.heap_1 w.params).In h₀) (T : Top p loose mean mg mb h₀) (C : CodeHd h₀ 153 149) (hps : TabOk ps₀ tl) (Sp : Spl 149 (tabObj ps₀) tl led G) (htl : AllNe 149 tl)
  (hot : ∀ vs, ot.data ≠ .fields vs) (hmt : (t, ot) ∈ led) (hne : @Ne Nat t 149) (htt : AllNe t tl) (hroom : dp < recursionLimit) (hw : 2 ≤ wd) (hw2 : wd ≤ 9)
  (ret : ∀ f ps' tl' h' tk', Fr h₀ L h' m → News h₀ L h' (G (tabObj ps') tl') → TabOk ps' tl' → AllNe 149 tl' → AllNe t tl' → (∀ q ∈ tl, q ∈ tl') → (∀ q ∈ tl', q ∈ tl ∨ ∀ p ∈ led, p.1 ≠ q.1) → GivenOk w (hideAll h' [149, t]) f t wd → Q (.ref f) {s with heap := h', toks := tk'}) :
  wpAny (model PySem.Challenge.rw_nn0004_01.row.prog w) (mkA dp fr gd un) (call (.ref 154) [.int wd tw, .ref t]) Q E s := by
  obtain ⟨hP, htm⟩ := Sp.mem
  have h0t := (N _ hmt).2.2
  have h0P := (N _ hP).2.2
  have hst : h₀.StaysIn (hideAll s.heap [149, t]) := fun b o e => hideAll_get _ (F.keep b o e) (notin2 (fun q => by rw [q, h0P] at e; cases e) (fun q => by rw [q, h0t] at e; cases e))
  have fin : ∀ (f c' : Addr) (oc : Obj) (vs : Array Value) (tq : Tok) (h' : Heap) (tk' : Nat), (hideAll s.heap [149, t]).StaysIn h' → h'.get? t = some ot → h'.get? 149 = some (tabObj #[rawInt 108, rawInt 4, .ref c']) → h'.get? c' = some oc → h₀.get? c' = none → ((c', oc) ∈ tl ∨ (hideAll s.heap [149, t]).get? c' = none) → oc.data = .fields vs → vs[1]? = some (.str ((Str.ofString "_law_given") ++ ".<locals>." ++ (Str.ofString "given")) tq) → GivenOk w (hideAll h' [149, t]) f t wd → Q (.ref f) {s with heap := h', toks := tk'} := by
    intro f c' oc vs tq h' tk' st ht' hP' hc hc0 hold d1 d2 GO
    have st2 : ∀ b o, b ≠ 149 → s.heap.get? b = some o → h'.get? b = some o := fun b o hb e => by
      by_cases hbt : b = t
      · rw [hbt] at e ⊢
        rw [(N _ hmt).1] at e
        rw [← e]; exact ht'
      · exact st _ _ (hideAll_get _ e (notin2 hb hbt))
    have hLP : L ≠ 149 := fun q => (N _ hP).2.1 q.symm
    have F' : Fr h₀ L h' m := ⟨F.ns.at' fun o e => st2 _ _ hLP e, fun b o e => st _ _ (hst b o e), F.above⟩
    have hcL : c' ≠ L := fun q => by
      obtain ⟨oL, es, ep, hL, hd, _⟩ := F'.ns
      rw [q, hL] at hc
      obtain rfl := Option.some.inj hc
      rw [d1] at hd; cases hd
    have Nt : News h₀ L h' ((c', oc) :: tl) := fun q hq => by
      rcases List.mem_cons.mp hq with rfl | hq
      · exact ⟨hc, hcL, hc0⟩
      · exact ⟨st2 _ _ (allNe_mem htl q hq) (N _ (htm q hq)).1, (N _ (htm q hq)).2⟩
    have hc149 : c' ≠ 149 := fun q => by
      rw [q, hP'] at hc
      obtain rfl := Option.some.inj hc
      have d3 : #[rawInt 108, rawInt 4, Value.ref c'] = vs := by simpa using d1
      rw [← d3] at d2
      simp [rawInt] at d2
    have hct : c' ≠ t := fun q => by
      rw [q, ht'] at hc
      obtain rfl := Option.some.inj hc
      exact hot _ d1
    refine ret f _ ((c', oc) :: tl) h' tk' F' (Sp.news N st2 hP' Nt) (.inr ⟨c', oc, vs, tq, rfl, .head _, d1, d2⟩) ⟨hc149, htl⟩ ⟨hct, htt⟩ (fun q hq => List.mem_cons_of_mem _ hq) (fun q hq => ?_) GO
    rcases List.mem_cons.mp hq with rfl | hq
    · rcases hold with z | z
      · exact .inl z
      · refine .inr fun p hp e => ?_
        have e1 := (N p hp).1
        rw [e] at e1
        have e2 := hideAll_get [149, t] e1 (notin2 hc149 hct)
        rw [z] at e2; cases e2
    · exact .inl hq
  rcases hps with rfl | ⟨c', oc, vs, tq, rfl, hm, d1, d2⟩
  · refine law_given_miss w (X.keeps hst) (T.keeps hst) (C.keeps hst) hroom (N _ hP).1 (N _ hmt).1 hne hw hw2 ?_
    intro f c' oc vs tq h' tk' st ht' hP' hc hn d1 d2 GO
    refine fin f c' oc vs tq h' tk' st ht' hP' hc ?_ (.inr hn) d1 d2 GO
    cases q : h₀.get? c' with
    | none => rfl
    | some o => rw [hst _ _ q] at hn; cases hn
  · have hcc := hideAll_get [149, t] (N _ (htm _ hm)).1 (notin2 (allNe_mem htl _ hm) (allNe_mem htt _ hm))
    refine law_given_hit w (X.keeps hst) (T.keeps hst) (C.keeps hst) hroom (N _ hP).1 (N _ hmt).1 hne hcc d1 d2 hw hw2 ?_
    intro f h' tk' st ht' hP' GO
    exact fin f c' oc vs tq h' tk' st ht' hP' (st _ _ hcc) (N _ (htm _ hm)).2.2 (.inl hm) d1 d2 GO
/-- a loop over written ints, by an invariant -/
theorem items_inv {prog : Program} {w : World} {A : Around} {E : Value → Shared → Prop} {h₀ : Heap} {env : Env} {target : PySem.Expr} {body : List Stmt} {Q : Flow → Shared → Prop} {s : Shared} {I : Addr} {nm : String} {keep : Led} (Inv : (Str → Option Value) → Led → Prop)
    (hkeep : ∀ m n, Inv m n → SubL keep n) (all : List (Int × Tok))
    (turn : ∀ v tv m news h tk (o : Obj), (v, tv) ∈ all → o.cls = .type nm → Inv m news → Fr h₀ env.locals h m → News h₀ env.locals h ((I, o) :: news) →
      wpAny (model prog w) A (assign target env (.int v tv)) (fun _ s₂ => wpAny (model prog w) A (execs body env) (UnrPostW h₀ env.locals { s with heap := h, toks := tk } [(I, o)] Inv Q) E s₂) E { s with heap := h, toks := tk })
    (done : ∀ m news h tk, Inv m news → Fr h₀ env.locals h m → News h₀ env.locals h news → Q .next { s with heap := h, toks := tk }) :
    ∀ xs : List (Int × Tok), (∀ x ∈ xs, x ∈ all) → ∀ m news, Inv m news → ItemsRest prog w A E h₀ env target body Q s [(I, nm)] keep (xs.map fun p => .val (.int p.1 p.2)) m news
  | [], _, m, news, hI => ItemsRest.zero fun h tk F N => done m news h tk hI F N
  | (v, tv) :: r, hx, m, news, hI => ItemsRest.val fun h tk F => AllObj.cons fun o ho => AllObj.nil fun N => by
    refine wpAny_mono (turn v tv m news h tk o (hx _ (.head _)) ho hI F N) (fun _ s₂ h₂ => wpAny_mono h₂ (fun f s₃ h₃ => ?_) fun _ _ x => x) fun _ _ x => x
    have up : UnrEndW h₀ env.locals { s with heap := h, toks := tk } [(I, o)] Inv s₃ → UnrEndW h₀ env.locals { s with heap := h, toks := tk } [(I, o)] (fun m' n' => SubL keep n' ∧ ItemsRest prog w A E h₀ env target body Q s [(I, nm)] keep (r.map fun p => .val (.int p.1 p.2)) m' n') s₃ := by
      rintro ⟨h', tk', m', news', e, F', N', off, hI'⟩
      exact ⟨h', tk', m', news', e, F', N', off, hkeep _ _ hI', items_inv Inv hkeep all turn done r (fun x h => hx x (.tail _ h)) m' news' hI'⟩
    cases f with
    | ret v => exact h₃
    | brk => exact h₃
    | next => exact up h₃
    | cont => exact up h₃
end
end Mine

end
section
open PySem PySem.W PyProof.Rows PySem.Calls PyProof.Rows.LCg
set_option Elab.async false
set_option maxRecDepth 100000
namespace Mine
theorem freshC1 : True := by
  w_top off
  k_with_none
  exact trivial
section
variable {prog : Program} {w : World} {A : Around} {s : Shared} {h₀ : Heap} {L : Addr} {m : Str → Option Value} {env : Env} {ct elt : PySem.Expr} {x : Str} {scope : Scope} {cl : List (Str × Addr)} {S : Led → Prop} {P : Nat → Value → Prop} {news : Led}
/-- a turn's end that keeps all -/
def TurnE (h₀ : Heap) (L : Addr) (m : Str → Option Value) (all : Led) (s : Shared) (s' : Shared) : Prop := ∃ h' tk', s' = { s with heap := h', toks := tk' } ∧ Fr h₀ L h' m ∧ News h₀ L h' all
def TurnT (h₀ : Heap) (L : Addr) (m : Str → Option Value) (all : Led) (s : Shared) (ok : Bool) (s' : Shared) : Prop := ok = false ∧ TurnE h₀ L m all s s'
def TurnU (h₀ : Heap) (L : Addr) (m : Str → Option Value) (all : Led) (s : Shared) (Mx : Int) (y : Value) (s' : Shared) : Prop := (∃ z t, y = .int z t ∧ z ≤ Mx) ∧ TurnE h₀ L m all s s'
theorem TurnE.intro {h₀ h' : Heap} {L : Addr} {m : Str → Option Value} {all all' : Led} {s : Shared} {tk' : Nat} (F : Fr h₀ L h' m) (N : News h₀ L h' all') (sub : ∀ q ∈ all, q ∈ all') : TurnE h₀ L m all s { s with heap := h', toks := tk' } := ⟨h', tk', rfl, F, fun q hq => N q (sub q hq)⟩
/-- a comprehension whose test never holds -/
theorem rest_T {Fin : List Value → Led → Prop} (hS : S news)
  (turn : ∀ i v, P i v → ∀ I oI C oC D m₂ h tk (E' : Value → Shared → Prop), NsObj oC m₂ → m₂ x = some v → Fr h₀ L h m → News h₀ L h ((I, oI) :: (C, oC) :: (D, lst []) :: news) →
     wpAny (model prog w) A (isTrue ct (compEnvC scope cl C env) (eval ct (compEnvC scope cl C env))) (TurnT h₀ L m ((I, oI) :: (C, oC) :: (D, lst []) :: news) s) E' { s with heap := h, toks := tk })
  (fin : Fin [] news) : ∀ k i, LCt.CompRestT prog w A h₀ L m env ct elt x scope cl s S P Fin k i [] news
  | 0, _ => LCt.CompRestT.zero fin
  | k + 1, i => LCt.CompRestT.succ fun v I oI C oC D m₂ h tk E' hP hC hx F N off _ => by
    refine wpAny_mono (turn i v hP I oI C oC D m₂ h tk E' hC hx F N) (fun ok s' q => ?_) fun _ _ z => z
    obtain ⟨rfl, h', tk', rfl, F', N'⟩ := q
    simp only [Bool.false_eq_true, if_false]
    exact ⟨h', tk', news, rfl, F', N', off, hS, rest_T hS turn fin k (i + 1)⟩
/-- a comprehension of ints -/
theorem rest_U {Fin : List Value → Led → Prop} {Mx : Int} {n : Nat} (hS : S news)
  (turn : ∀ i v, P i v → ∀ I oI C oC D m₂ h tk ys (E' : Value → Shared → Prop), NsObj oC m₂ → m₂ x = some v → Fr h₀ L h m → News h₀ L h ((I, oI) :: (C, oC) :: (D, lst ys) :: news) →
     wpAny (model prog w) A (eval elt (compEnvC scope cl C env)) (TurnU h₀ L m ((I, oI) :: (C, oC) :: (D, lst ys) :: news) s Mx) E' { s with heap := h, toks := tk })
  (fin : ∀ ys zs, IntsAre ys zs → zs.length = n → (∀ z ∈ zs, z ≤ Mx) → Fin ys news) : ∀ k i ys zs, i + k = n → IntsAre ys zs → zs.length = i → (∀ z ∈ zs, z ≤ Mx) → CompRest prog w A h₀ L m env elt x scope cl s S P Fin k i ys news
  | 0, i, ys, zs, e, hI, hl, hz => CompRest.zero (fin ys zs hI (by omega) hz)
  | k + 1, i, ys, zs, e, hI, hl, hz => CompRest.succ fun v I oI C oC D m₂ h tk E' hP hC hx F N off _ => by
    refine wpAny_mono (turn i v hP I oI C oC D m₂ h tk ys E' hC hx F N) (fun y s' q => ?_) fun _ _ z => z
    obtain ⟨⟨z, t, rfl, hzz⟩, h', tk', rfl, F', N'⟩ := q
    refine ⟨h', tk', news, rfl, F', N', off, hS, rest_U hS turn fin k (i + 1) _ (zs ++ [z]) (by omega) (ints_snoc hI) (by rw [List.length_append, List.length_singleton, hl]) fun q hq => ?_⟩
    rcases List.mem_append.mp hq with hq | hq
    · exact hz q hq
    · rw [List.mem_singleton.mp hq]; exact hzz
end
theorem pairs_get {g : Heap} {tl : Led} {vs : List Value} {ps : List (Int × Int)} (P : PairsIn g tl vs ps) : ∀ {i : Nat} {v : Value}, vs[i]? = some v → ∃ a tx ty, v = .ref a ∧ i < ps.length ∧ (g.get? a = some (tupO #[.int (ps.getD i (0, 0)).1 tx, .int (ps.getD i (0, 0)).2 ty]) ∨ (a, tupO #[.int (ps.getD i (0, 0)).1 tx, .int (ps.getD i (0, 0)).2 ty]) ∈ tl) := by
  induction P with
  | nil => intro i v q; simp at q
  | @base a x y tx ty vs ps e _ ih =>
    intro i v q
    cases i with
    | zero => simp at q; exact ⟨a, tx, ty, q.symm, by simp, .inl (by simpa using e)⟩
    | succ i => obtain ⟨a', b, c, d, e1, f⟩ := ih (by simpa using q); exact ⟨a', b, c, d, by simp; omega, by simpa using f⟩
  | @led a x y tx ty vs ps e _ ih =>
    intro i v q
    cases i with
    | zero => simp at q; exact ⟨a, tx, ty, q.symm, by simp, .inr (by simpa using e)⟩
    | succ i => obtain ⟨a', b, c, d, e1, f⟩ := ih (by simpa using q); exact ⟨a', b, c, d, by simp; omega, by simpa using f⟩
/-- the tuple of a pair -/
theorem pairs_tup {g h : Heap} {L : Addr} {m : Str → Option Value} {tl all : Led} {vs : List Value} {ps : List (Int × Int)} (P : PairsIn g tl vs ps) (F : Fr g L h m) (N : News g L h all) (sub : ∀ q ∈ tl, q ∈ all) {i : Nat} {v : Value} (q : vs[i]? = some v) :
    ∃ a tx ty, v = .ref a ∧ i < ps.length ∧ IsTup h a #[.int (ps.getD i (0, 0)).1 tx, .int (ps.getD i (0, 0)).2 ty] := by
  obtain ⟨a, tx, ty, e, hi, z⟩ := pairs_get P q
  refine ⟨a, tx, ty, e, hi, ?_⟩
  rcases z with z | z
  · exact ⟨_, F.keep _ _ z, rfl, _, rfl⟩
  · exact ⟨_, (N _ (sub _ z)).1, rfl, _, rfl⟩
structure TlOk (cs I : Addr) (tl : Led) : Prop where
  a149 : AllNe 149 tl
  acs : AllNe cs tl
  aI : AllNe I tl
theorem ne_pair {g h : Heap} {L x : Addr} {all : Led} {ox : Obj} {q : Addr × Obj} (N : News g L h all) (hq : q ∈ all) (hp : IsPair q.2) (hx : (x, ox) ∈ all) (hc : ox.cls ≠ .type "tuple") : q.1 ≠ x := by
  obtain ⟨_, _, _, _, e⟩ := hp
  exact news_ne N (a := q.1) (o := q.2) hq hx (by rw [e]; exact Ne.symm hc)
theorem tlok_pairs {cs I : Addr} {tl tl' all : Led} {g h : Heap} {L : Addr} {ps : Array Value} {oc oI : Obj} {v : Option Value} (K : TlOk cs I tl) (N : News g L h all) (sub : ∀ q ∈ tl', q ∈ all) (fr : ∀ q ∈ tl', q ∈ tl ∨ IsPair q.2) (h1 : (149, tabObj ps) ∈ all) (h2 : (cs, oc) ∈ all) (hc : oc.data = .cell v) (h3 : (I, oI) ∈ all) (hI : oI.cls = .type "tuple_iterator") : TlOk cs I tl' := by
  refine ⟨allNe_of fun q hq => ?_, allNe_of fun q hq => ?_, allNe_of fun q hq => ?_⟩
  · rcases fr q hq with z | z
    · exact allNe_mem K.a149 q z
    · exact ne_pair N (sub q hq) z h1 (by simp)
  · rcases fr q hq with z | z
    · exact allNe_mem K.acs q z
    · obtain ⟨_, _, _, _, e⟩ := z
      intro e'
      have q1 := (N _ (sub q hq)).1
      rw [e', (N _ h2).1] at q1
      have q2 : oc = q.2 := Option.some.inj q1
      rw [q2, e] at hc; cases hc
  · rcases fr q hq with z | z
    · exact allNe_mem K.aI q z
    · exact ne_pair N (sub q hq) z h3 (by rw [hI]; simp)
theorem tlok_fields {cs I : Addr} {tl tl' led : Led} {oc oI : Obj} (K : TlOk cs I tl) (n149 : AllNe 149 tl') (fr : ∀ q ∈ tl', q ∈ tl ∨ ∀ p ∈ led, p.1 ≠ q.1) (h2 : (cs, oc) ∈ led) (h3 : (I, oI) ∈ led) : TlOk cs I tl' := by
  refine ⟨n149, allNe_of fun q hq => ?_, allNe_of fun q hq => ?_⟩
  · rcases fr q hq with z | z
    · exact allNe_mem K.acs q z
    · exact Ne.symm (z _ h2)
  · rcases fr q hq with z | z
    · exact allNe_mem K.aI q z
    · exact Ne.symm (z _ h3)
end Mine

end
section
open PySem PySem.W PyProof.Rows PySem.Calls PyProof.Rows.LCg
set_option Elab.async false
set_option maxRecDepth 100000
namespace Mine
theorem freshM17 : True := by
  w_top off
  k_with_none
  exact trivial
section
variable (w : World) {p : Program} {loose : List Str} {mean : ExcName → Option Value} {mg mb : Str → Option Value} {dp : Nat} {fr : Option (List Env)} {gd : Option (List Code)} {un : Nat} {s : Shared} {Q E : Value → Shared → Prop}
  {h₀ : Heap} {L : Addr} {m : Str → Option Value} {news : Led}
theorem call_pool {a : Addr} {vs : List Value} {ns : List Int} (F : Fr h₀ L s.heap m) (N : News h₀ L s.heap news) (X : (frag.heap_1 w.params).In h₀) (T : Top p loose mean mg mb h₀)
  (hl : s.heap.IsList a vs.toArray) (hi : IntsAre vs ns) (hroom : dp < recursionLimit) (hn : ns.length ≤ 63)
  (ret : ∀ D G t1 t2 st gvs gns k kg h' tk', Fr h₀ L h' m → News h₀ L h' ((D, W.listOf [.ref G, .int 0 t1, .int st t2].toArray k) :: (G, W.listOf (List.toArray gvs) kg) :: news) → AllNe D news → AllNe G news → @Ne Nat G D → IntsAre gvs gns → PoolOk 0 st gns → Q (.ref D) {s with heap := h', toks := tk'}) :
  wpAny (model PySem.Challenge.rw_nn0004_01.row.prog w) (mkA dp fr gd un) (call (.ref 128) [.ref a]) Q E s := by
  refine law_pool_t w (X.keeps F.keep) (T.keeps F.keep) hroom hl hi hn fun D G t1 t2 st gvs gns k kg h' tk' sta hf hg ho hog hI hlen s0 s1 => ?_
  obtain ⟨F', N1, l1⟩ := made F N sta hf ho
  obtain ⟨_, N2, l2⟩ := made F N sta hg hog
  refine ret D G t1 t2 st gvs gns k kg h' tk' F' (news_two N1 N2) l1 l2 (fun e => ?_) hI ⟨hlen, Int.le_refl _, by omega, s0, s1⟩
  have e' : G = D := e
  rw [e', ho] at hog
  have q := congrArg (fun o : Option Obj => o.map Obj.data) hog
  simp only [Option.map_some, Option.some.injEq, Data.seq.injEq, List.toArray_inj] at q
  cases hI with
  | nil => simp at q
  | cons x tx r => simp at q
end
theorem abs_len {wd x y n : Int} (hw : 2 ≤ wd) (hx : 0 ≤ x) (hy : 0 ≤ y) (h1 : (rowOf (Bw wd) x).length ≤ 9) (h2 : (rowOf (Bw wd) y).length ≤ 9) (hn : n = ((x - y).natAbs : Int) := by omega) : (rowOf (Bw wd) n).length ≤ 100 := by
  rcases Int.lt_or_le x y with q | q
  · have := len_mono (Bw_ge hw) (show 0 ≤ n by omega) (show n ≤ y by omega)
    omega
  · have := len_mono (Bw_ge hw) (show 0 ≤ n by omega) (show n ≤ x by omega)
    omega
theorem abs_if (x y : Int) : ((x - y).natAbs : Int) = if x - y < 0 then -(x - y) else x - y := by split <;> omega
theorem rows_abs {B x y : Int} {zs zs' : List Int} (e1 : zs = rowOf B ((x - y).natAbs : Int)) (e2 : zs' = rowOf B (if x - y < 0 then -(x - y) else x - y)) : zs = zs' := by rw [e1, e2, abs_if]
theorem ne_tups {g : Heap} {prog : Program} {w : World} {A : Around} {E Q : Value → Shared → Prop} {s : Shared} {L a b da db : Addr} {oa ob : Obj} {x y : Bool} {na nb : Nat} {xs ys : List Value} {ns ms : List Int} {news : Led}
    (N : News g L s.heap news) (ha : (a, oa) ∈ news) (hb : (b, ob) ∈ news) (ca : oa.cls = .type "tuple") (cb : ob.cls = .type "tuple") (dA : oa.data = .seq #[.bool x, .ref da] na) (dB : ob.data = .seq #[.bool y, .ref db] nb)
    (la : s.heap.IsList da xs.toArray) (lb : s.heap.IsList db ys.toArray) (ia : IntsAre xs ns) (ib : IntsAre ys ms) (hu : A.units + 64 < cLine) (exy : x = y) (ens : ns = ms) (h : Q (.bool false) s) :
    wpAny (model prog w) A (compareOp .NotEq (.ref a) (.ref b)) Q E s := by
  subst exy; subst ens
  have sh : SeqAt.shaped (.tuple [.bool x, .list (ns.map PyData.int)]) = true := by
    simp [SeqAt.shaped, PyData.canLay0, PyData.canLayAll0, PyData.depth, PyData.depthAll, ke_canLayAll0, ke_depthAll]
  have eq : PyData.eqv (.tuple [.bool x, .list (ns.map PyData.int)]) (.tuple [.bool x, .list (ns.map PyData.int)]) = true := by
    simp [PyData.eqv, PyData.eqvAll, ked_eqvAll]
  refine ne_dataH (reads_tuple_at (N.get ha) ca dA (.cons (.bool x) (.cons (reads_newData la (ke_carried ia)) .nil))) (reads_tuple_at (N.get hb) cb dB (.cons (.bool x) (.cons (reads_newData lb (ke_carried ib)) .nil))) sh sh hu ?_
  rw [eq]; exact h
def AbsFits (wd x y : Int) : Prop := ∀ n, n = (if x - y < 0 then -(x - y) else x - y) → (rowOf (Bw wd) n).length ≤ 100
theorem abs_use {wd x y n : Int} (h : AbsFits wd x y) (hn : n = if x - y < 0 then -(x - y) else x - y) : (rowOf (Bw wd) n).length ≤ 100 := h n hn
def LInv (cs DT DA DB I : Addr) (oT oA oB : Obj) (mB : Str → Option Value) (m : Str → Option Value) (news : Led) : Prop :=
  ∃ (oc : Obj) (v0 : Option Value) (ps : Array Value) (tl : Led), (∀ q ∈ (cs, oc) :: (149, tabObj ps) :: (DT, oT) :: (DA, oA) :: (DB, oB) :: tl, q ∈ news) ∧ oc.data = .cell v0 ∧ TabOk ps tl ∧ TlOk cs I tl ∧ ∀ z, z ≠ (Str.ofString "told") → z ≠ (Str.ofString "least") → m z = mB z
theorem linv_start {cs DT DA DB I : Addr} {oc oT oA oB : Obj} {m : Str → Option Value} {news : Led} {v0 : Option Value} (hoc : oc.data = .cell v0) (h1 : (cs, oc) ∈ news) (h2 : (149, tabObj #[]) ∈ news) (h3 : (DT, oT) ∈ news) (h4 : (DA, oA) ∈ news) (h5 : (DB, oB) ∈ news) : LInv cs DT DA DB I oT oA oB m m news := by
  refine ⟨oc, v0, #[], [], fun q hq => ?_, hoc, .inl rfl, ⟨trivial, trivial, trivial⟩, fun z _ _ => rfl⟩
  simp only [List.mem_cons, List.not_mem_nil, or_false] at hq
  rcases hq with rfl | rfl | rfl | rfl | rfl <;> assumption
theorem linv_keep {cs DT DA DB I : Addr} {oT oA oB : Obj} {m mB : Str → Option Value} {news : Led} (h : LInv cs DT DA DB I oT oA oB mB m news) : SubL [(DT, oT)] news := by
  obtain ⟨_, _, _, _, hs, _⟩ := h
  exact ⟨hs _ (.tail _ (.tail _ (.head _))), trivial⟩
theorem News.sub1 {g h : Heap} {L : Addr} {l l' : Led} (N : News g L h l) (hs : ∀ q ∈ l', q ∈ l) : News g L h l' := fun q hq => N q (hs q hq)
theorem News.sub2 {g h : Heap} {L : Addr} {l l' : Led} {p : Addr × Obj} (N : News g L h (p :: l)) (hs : ∀ q ∈ l', q ∈ l) : News g L h (p :: l') := fun q hq => by
  rcases List.mem_cons.mp hq with rfl | hq
  · exact N _ (.head _)
  · exact N _ (.tail _ (hs q hq))
theorem apart_cs {cs I D : Addr} {tl news : Led} {o : Obj} (_ : TlOk cs I tl) (l : AllNe D news) (hm : (cs, o) ∈ news) : Apart cs D := ⟨allNe_mem l _ hm⟩
theorem apart_149 {D : Addr} {news : Led} {ps : Array Value} (l : AllNe D news) (hm : (149, tabObj ps) ∈ news) : Apart 149 D := ⟨allNe_mem l _ hm⟩
theorem added_good {short M : Int} {c : Nat} {ps' : List (Int × Int)} (h : Added short M c [] ps') : ∀ i, i < ps'.length → Good short M (ps'.getD i (0, 0)) := by
  obtain ⟨new, e, _, _, hg⟩ := h
  intro i hi
  have e' : ps' = new := by simpa using e
  subst e'
  have : ps'.getD i (0, 0) = ps'[i] := by simp [hi]
  rw [this]; exact hg _ (List.getElem_mem hi)
theorem pairs_size {g : Heap} {tl : Led} {vs : List Value} {short M : Int} {c : Nat} {ps' : List (Int × Int)} (P : PairsIn g tl vs ps') (h : Added short M c [] ps') (hc : c ≤ sizeLine) : vs.toArray.size ≤ sizeLine := by
  rw [List.size_toArray, P.length]
  have := h.len
  simp at this
  omega
theorem cst_le {M : Nat} (h : M ≤ 9) : ([] : List Value).length + cst M ≤ 5000 := by
  have all : ∀ M < 10, ([] : List Value).length + cst M ≤ 5000 := by decide
  exact all M (by omega)
theorem added_pos {g : Heap} {tl : Led} {vs : List Value} {short M : Int} {c : Nat} {ps' : List (Int × Int)} (P : PairsIn g tl vs ps') (h : Added short M c [] ps') : (vs.toArray.size != (#[] : Array Value).size) = true := by
  obtain ⟨new, e, hn, _, _⟩ := h
  rw [List.size_toArray, P.length, e]
  cases new with
  | nil => exact absurd rfl hn
  | cons x r => simp
theorem sizeLine_ge {M : Nat} (h : M ≤ 9) : cst M ≤ sizeLine := by
  have := cst_le h
  rw [PySem.sizeLine_eq]
  simp at this
  omega
theorem linv_next {g h : Heap} {L cs DT DA DB I : Addr} {o oc oT oA oB : Obj} {m' mB : Str → Option Value} {all tl tl1 : Led} {ps : Array Value} {v0 : Option Value} {s1 : Shared} {tk : Nat}
    (fE : Fr g L h m') (nE : News g L h all) (hoc : oc.data = .cell v0) (K : TlOk cs I tl) (hT : TabOk ps tl1) (sub : ∀ q ∈ tl1, q ∈ tl) (mI : (I, o) ∈ all) (m1 : (cs, oc) ∈ all) (m2 : (149, tabObj ps) ∈ all) (m3 : (DT, oT) ∈ all) (m4 : (DA, oA) ∈ all) (m5 : (DB, oB) ∈ all) (ms : ∀ q ∈ tl, q ∈ all)
    (n1 : @LT.lt Nat _ cs I) (n2 : @LT.lt Nat _ 149 I) (n3 : @LT.lt Nat _ DT I) (n4 : @LT.lt Nat _ DA I) (n5 : @LT.lt Nat _ DB I) (e3 : ∀ z, z ≠ (Str.ofString "told") → z ≠ (Str.ofString "least") → m' z = mB z) :
    UnrEndW g L s1 [(I, o)] (LInv cs DT DA DB I oT oA oB mB) { s1 with heap := h, toks := tk } := by
  refine ⟨h, tk, m', (cs, oc) :: (149, tabObj ps) :: (DT, oT) :: (DA, oA) :: (DB, oB) :: tl, rfl, fE, fun q hq => ?_, fun q hq p hp => ?_, oc, v0, ps, tl, fun q hq => hq, hoc, hT.mono sub, K, e3⟩
  · rcases List.mem_cons.mp hq with rfl | hq
    · exact nE _ mI
    · rcases List.mem_cons.mp hq with rfl | hq
      · exact nE _ m1
      · rcases List.mem_cons.mp hq with rfl | hq
        · exact nE _ m2
        · rcases List.mem_cons.mp hq with rfl | hq
          · exact nE _ m3
          · rcases List.mem_cons.mp hq with rfl | hq
            · exact nE _ m4
            · rcases List.mem_cons.mp hq with rfl | hq
              · exact nE _ m5
              · exact nE _ (ms q hq)
  · rw [List.mem_singleton.mp hp]
    rcases List.mem_cons.mp hq with rfl | hq
    · exact Nat.ne_of_lt n1
    · rcases List.mem_cons.mp hq with rfl | hq
      · exact Nat.ne_of_lt n2
      · rcases List.mem_cons.mp hq with rfl | hq
        · exact Nat.ne_of_lt n3
        · rcases List.mem_cons.mp hq with rfl | hq
          · exact Nat.ne_of_lt n4
          · rcases List.mem_cons.mp hq with rfl | hq
            · exact Nat.ne_of_lt n5
            · exact allNe_mem K.aI q hq
theorem fr_two {g h : Heap} {L : Addr} {m' mB : Str → Option Value} {A B : Str} (e3 : ∀ z, z ≠ A → z ≠ B → m' z = mB z) (F : Fr g L h m') : Fr g L h (fun y => if y = A then m' A else if y = B then m' B else mB y) := by
  have e : (fun y => if y = A then m' A else if y = B then m' B else mB y) = m' := by
    funext y
    by_cases hA : y = A
    · rw [if_pos hA, hA]
    · by_cases hB : y = B
      · rw [if_neg hA, if_pos hB, hB]
      · rw [if_neg hA, if_neg hB, e3 y hA hB]
  rw [e]; exact F
theorem pos_of_bne {vs : List Value} (h : (vs.toArray.size != (#[] : Array Value).size) = true) : 0 < vs.toArray.size := by
  cases vs with
  | nil => simp at h
  | cons x r => simp
theorem allNe_lt {d : Addr} : ∀ {l : Led}, AllLt d l → AllNe d l
  | [], _ => trivial
  | _ :: _, h => ⟨Nat.ne_of_lt h.1, allNe_lt h.2⟩
local macro_rules | `(tactic| ktr_room) => `(tactic| k_extra "ktr_room")
theorem readyM171 : True := by
  k_with "ktr_room" => ((try dsimp only [mkA, Around.deeper]); first | omega | decide)
  exact trivial
local macro_rules | `(tactic| ktr_unf) => `(tactic| k_extra "ktr_unf")
theorem readyM172 : True := by
  k_with "ktr_unf" => first | omega | ((simp only [List.length_append, List.length_cons, List.length_nil, rangeKs_length] at *); omega)
  exact trivial
local macro_rules | `(tactic| ktr_rel) => `(tactic| k_extra "ktr_rel")
theorem readyM173 : True := by
  k_with "ktr_rel" => first | assumption | omega
  exact trivial
local macro_rules | `(tactic| walk_at "ItemsRest") => `(tactic| (refine stop ?_))
/-- d differs from each address of l (one structure, so that omega does not open it) -/
structure Aps (d : Nat) (l : List Nat) : Prop where
  all : ∀ a ∈ l, @Ne Nat a d
theorem apsOf {d : Addr} : ∀ {l : Led}, AllNe d l → Aps d (l.map fun q => q.1)
  | [], _ => ⟨fun _ h => nomatch h⟩
  | q :: r, x => ⟨fun a h => by
    rcases List.mem_cons.mp h with rfl | h
    · exact x.1
    · exact (apsOf x.2).all a h⟩
theorem Aps.ne {d a : Nat} {l : List Nat} (x : Aps d l) (h : a ∈ l) : @Ne Nat a d := x.all a h
local macro_rules | `(tactic| k_ne) => `(tactic| k_extra "k_ne")
theorem readyM174 : True := by
  k_with "k_ne" => (refine neN ?_; (try dsimp only); first | exact Apart.ne (by assumption) | exact Ne.symm (Apart.ne (by assumption)) | exact Aps.ne (by assumption) (by k_mem) | exact Ne.symm (Aps.ne (by assumption) (by k_mem)) | omega)
  exact trivial
theorem readyM175 : True := by
  k_with "line5" => (k_here; (with_reducible show wpAny _ _ (call (Value.ref 128) [Value.ref _]) _ _ _); k_dflt (refine' call_pool _ ?F ?N ?X ?T ?l1 ?i1 ?room ?n1 ?_; (case F => k_asm); (case N => k_asm); (case X => k_asm); (case T => k_asm); (case l1 => is_list); (case i1 => assumption); (case room => ktr_room); (case n1 => ktr_unf); k_whole))
  exact trivial
local macro_rules | `(tactic| walk_at "call ref") => `(tactic| (k_extra "line5"; intro D' G' t1' t2' st' gvs' gns' k' kg' h' tk' F' N' l1 l2 l3 i1 S'; (k_dflt (replace l1 := apsOf l1)); (k_dflt (replace l2 := apsOf l2)); (simp only [List.map_cons, List.map_nil] at l1 l2); (try k_sweep)))
theorem readyM176 : True := by
  k_with "line6" => (k_here; (with_reducible show wpAny _ _ (call (Value.ref 123) [Value.ref _, Value.int _ _]) _ _ _); k_dflt (refine' call_draw _ ?F ?N ?X ?T ?U ?l1 ?i1 ?q1 ?room ?S ?m0 ?m1 ?_; (case F => k_asm); (case N => k_asm); (case X => k_asm); (case T => k_asm); (case U => k_updF); (case l1 => is_list); (case i1 => assumption); (case q1 => k_ne); (case room => ktr_room); (case S => assumption); (case m0 => omega); (case m1 => omega); k_whole))
  exact trivial
local macro_rules | `(tactic| walk_at "call ref") => `(tactic| (k_extra "line6"; intro r' tr' i' t1' st' t2' h' tk' F' N' S' r0' r1'; (try dsimp only at N'); (try k_sweep)))
theorem readyM177 : True := by
  k_with "line7" => (k_here; (with_reducible show wpAny _ _ (call (Value.ref 147) [Value.ref _, Value.int _ _, Value.int 9 _]) _ _ _); k_dflt (refine' call_number _ ?F ?N ?X ?T ?U ?l1 ?i1 ?q1 ?room ?S ?m0 ?m1 ?_; (case F => k_asm); (case N => k_asm); (case X => k_asm); (case T => k_asm); (case U => k_updF); (case l1 => is_list); (case i1 => assumption); (case q1 => k_ne); (case room => ktr_room); (case S => assumption); (case m0 => omega); (case m1 => omega); k_whole))
  exact trivial
local macro_rules | `(tactic| walk_at "call ref") => `(tactic| (k_extra "line7"; intro r' tr' i' t1' st' t2' h' tk' F' N' S' r0' r1'; (try dsimp only at N'); (try k_sweep)))
theorem readyM178 : True := by
  k_with "line8" => (k_here; (with_reducible show wpAny _ _ (call (Value.ref 135) [Value.int _ _, Value.int _ _]) _ _ _); k_dflt (refine' call_law_row _ ?F ?N ?X ?T ?room ?w0 ?w1 ?w2 ?n0 ?n1 ?_; (case F => k_asm); (case N => k_asm); (case X => k_asm); (case T => k_asm); (case room => ktr_room); (case w0 => exact rfl); (case w1 => omega); (case w2 => omega); (case n0 => first | omega | exact Int.mul_nonneg (by omega) (by omega) | (split <;> omega)); (case n1 => first | omega | (refine Nat.le_trans (len_mul (Bw_ge (by omega)) (by omega) (by omega)) (by omega)) | exact abs_use (by assumption) (by first | exact rfl | omega)); k_whole))
  exact trivial
local macro_rules | `(tactic| walk_at "call ref") => `(tactic| (k_extra "line8"; intro D' ws' k' h' tk' zs' F' N' l1 i1 e1; (k_dflt (replace l1 := apsOf l1)); (simp only [List.map_cons, List.map_nil] at l1); (try k_sweep)))
local macro_rules | `(tactic| k_all) => `(tactic| k_extra "k_all")
theorem readyM179 : True := by
  k_with "k_all" => exact allNe_mem (TlOk.acs (by assumption))
  exact trivial
local macro_rules | `(tactic| mul_fits) => `(tactic| k_extra "mul_fits")
theorem readyM1710 : True := by
  k_with "mul_fits" => exact IntMulOk.of_bits (by assumption) (by assumption)
  exact trivial
local macro_rules | `(tactic| walk_at "eval ListComp") => `(tactic| (refine stop ?_))
local macro_rules | `(tactic| walk_at "subscriptTail Name Constant ref int") => `(tactic| (k_here; k_dflt (refine item_tupleT (by assumption) (by decide) (by decide) (by rfl) (by rfl) ?_)))
local macro_rules | `(tactic| walk_at "compareOp Eq ref ref") => `(tactic| k_extra "compareOp Eq ref ref")
theorem readyM1711 : True := by
  k_with "compareOp Eq ref ref" => (k_here; (with_reducible show wpAny _ _ (compareOp CmpOp.Eq (Value.ref _) (Value.ref _)) _ _ _); k_dflt (refine' PySem.SeqAt.eq_list_lengthsAt ?k1 ?k2 ?k3 ?k4 ?_; (case k1 => is_list); (case k2 => is_list); (case k3 => assumption); (case k4 => k_units)))
  exact trivial
local macro_rules | `(tactic| walk_at "call ref") => `(tactic| k_extra "call ref")
theorem readyM1712 : True := by
  k_with "call ref" => (k_here; (rename TlOk _ _ _ => hTl9_q); (with_reducible show wpAny _ _ (call (Value.ref 135) [Value.int _ _, Value.int _ _]) _ _ _); k_dflt (refine' call_law_row _ ?F ?N ?X ?T ?room ?w0 ?w1 ?w2 ?n0 ?n1 ?_; (case F => k_asm); (case N => k_asm); (case X => k_asm); (case T => k_asm); (case room => ktr_room); (case w0 => exact rfl); (case w1 => omega); (case w2 => omega); (case n0 => first | omega | exact Int.mul_nonneg (by omega) (by omega) | (split <;> omega)); (case n1 => first | omega | (refine Nat.le_trans (len_mul (Bw_ge (by omega)) (by omega) (by omega)) (by omega)) | exact abs_use (by assumption) (by first | exact rfl | omega)); k_whole); intro D_q' ws_q' k_q' h_q' tk_q' zs_q' F_q' N_q' l1_q i1_q e1_q; (try (k_dflt (have a1_q := apart_cs (by assumption) l1_q (by k_mem)))); (try (k_dflt (have a2_q := apart_149 l1_q (by k_mem)))); clear l1_q; (try k_sweep))
  exact trivial
theorem readyM1713 : True := by
  k_with "call ref" => (k_here; (rename TlOk _ _ _ => hTl9_q); (with_reducible show wpAny _ _ (call (Value.ref 154) [Value.int _ _, Value.ref _]) _ _ _); k_dflt (refine' call_law_given _ ?F ?N ?X ?T ?C ?hps ?Sp ?htl ?hot ?hmt ?hne ?htt ?room ?w1 ?w2 ?_; (case F => k_asm); (case N => k_asm); (case X => k_asm); (case T => k_asm); (case C => assumption); (case hps => assumption); (case htl => exact TlOk.a149 (by assumption)); (case Sp => (repeat' (first | exact Tl.here | (refine' Spl.head ?_) | (refine' Spl.tail (neN (by (try dsimp only); first | exact Apart.ne (by assumption) | exact Ne.symm (Apart.ne (by assumption)) | omega)) ?_) | (refine' Tl.cons (neN (by (try dsimp only); first | exact Apart.ne (by assumption) | exact Ne.symm (Apart.ne (by assumption)) | omega)) ?_)))); (case hmt => k_mem); (case hot => (intro v9_q h9_q; cases h9_q)); (case hne => k_ne); (case htt => first | exact True.intro | (apply allNe_lt; simp only [*])); (case room => ktr_room); (case w1 => omega); (case w2 => omega); k_whole); intro f_q' ps_q' tl_q' h_q' tk_q' F_q' N_q' TO_q' n149_q nT_q sub_q' fr_q' GO_q'; (try dsimp only at N_q'); (try (k_dflt (have K9_q := tlok_fields (by assumption) n149_q fr_q' (by k_mem) (by k_mem)))); (try k_sweep))
  exact trivial
theorem readyM1714 : True := by
  k_with "call ref" => (k_here; (rename TlOk _ _ _ => hTl9_q); (with_reducible show wpAny _ _ (call (Value.ref 116) [Value.ref _, Value.ref _, Value.int _ _, Value.int _ _, Value.ref _]) _ _ _); k_dflt (refine' call_karaL _ ?hK ?hF ?F ?N ?X ?T ?P ?Sp ?htl ?GO ?l1 ?i1 ?l2 ?i2 ?q1 ?q2 ?room ?w0 ?w1 ?w2 ?e1 ?e2 ?p1 ?p2 ?hn ?m1 ?m2 ?m9 ?len ?_; (case hK => exact kara_all _ 19); (case hF => assumption); (case F => k_asm); (case N => k_asm); (case X => k_asm); (case T => k_asm); (case GO => assumption); (case htl => assumption); (case P => exact PairsIn.nil); (case Sp => (repeat' (first | exact Tl.here | (refine' Spl.head ?_) | (refine' Spl.tail (neN (by (try dsimp only); first | exact Apart.ne (by assumption) | exact Ne.symm (Apart.ne (by assumption)) | omega)) ?_) | (refine' Tl.cons (neN (by (try dsimp only); first | exact Apart.ne (by assumption) | exact Ne.symm (Apart.ne (by assumption)) | omega)) ?_)))); (case l1 => is_list); (case i1 => assumption); (case l2 => is_list); (case i2 => assumption); (case q1 => k_ne); (case q2 => k_ne); (case room => ktr_room); (case w0 => exact rfl); (case w1 => omega); (case w2 => omega); (case e1 => first | exact rfl | assumption); (case e2 => first | exact rfl | assumption); (case p1 => omega); (case p2 => omega); (case hn => omega); (case m1 => omega); (case m2 => omega); (case m9 => omega); (case len => exact cst_le (by omega)); k_whole); intro D_q' ws_q' n_q' tv_q' k_q' ps_q' tl_q' h_q' tk_q' zs_q' F_q' N_q' l1_q i1_q e1_q g1_q g2_q P_q' A_q' b1_q htl_q' sub_q' fr_q'; (try dsimp only at N_q' l1_q); (try (k_dflt (have a1_q := apart_cs (by assumption) l1_q (by k_mem)))); (try (k_dflt (have a2_q := apart_149 l1_q (by k_mem)))); clear l1_q; (try (k_dflt (have K9_q := tlok_pairs (by assumption) N_q' (by (intro q_q hq_q; (repeat (first | exact hq_q | refine List.mem_cons_of_mem _ ?_)))) fr_q' (by k_mem) (by k_mem) (by assumption) (by k_mem) (by assumption)))); (try k_sweep))
  exact trivial
theorem readyM1715 : True := by
  k_with "call ref" => (k_here; (rename TlOk _ _ _ => hTl9_q); (with_reducible show wpAny _ _ (call (Value.ref 95) [Value.ref _, Value.ref _, Value.int _ _]) _ _ _); k_dflt (refine' call_difference _ ?F ?N ?X ?T ?l1 ?i1 ?l2 ?i2 ?room ?w0 ?w1 ?w2 ?e1 ?e2 ?p1 ?p2 ?n1 ?n2 ?_; (case F => k_asm); (case N => k_asm); (case X => k_asm); (case T => k_asm); (case l1 => is_list); (case i1 => assumption); (case l2 => is_list); (case i2 => assumption); (case room => ktr_room); (case w0 => exact rfl); (case w1 => omega); (case w2 => omega); (case e1 => assumption); (case e2 => assumption); (case p1 => first | assumption | omega); (case p2 => first | assumption | omega); (case n1 => ktr_unf); (case n2 => ktr_unf); k_whole); intro D_q' D1_q' ws_q' k_q' h_q' tk_q' zs_q' F_q' N_q' l1_q l2_q i1_q e1_q g1_q g2_q; (try (k_dflt (have a1_q := apart_cs (by assumption) l1_q (by k_mem)))); (try (k_dflt (have a2_q := apart_149 l1_q (by k_mem)))); clear l1_q; (try (k_dflt (have a3_q := apart_cs (by assumption) l2_q (by k_mem)))); (try (k_dflt (have a4_q := apart_149 l2_q (by k_mem)))); clear l2_q; (try k_sweep))
  exact trivial
local macro_rules | `(tactic| walk_at "compareOp NotEq ref ref") => `(tactic| k_extra "compareOp NotEq ref ref")
theorem readyM1716 : True := by
  k_with "compareOp NotEq ref ref" => ((rename AbsFits _ _ _ => hab9_q); k_here; (with_reducible show wpAny _ _ (compareOp CmpOp.NotEq (Value.ref _) (Value.ref _)) _ _ _); k_dflt (refine' ne_tups ?N ?ha ?hb ?ca ?cb ?dA ?dB ?la ?lb ?ia ?ib ?hu ?exy ?ens ?_; (case N => k_asm); (case ha => k_mem); (case hb => k_mem); (case ca => exact rfl); (case cb => exact rfl); (case dA => exact rfl); (case dB => exact rfl); (case la => is_list); (case lb => is_list); (case ia => assumption); (case ib => assumption); (case hu => k_units); (case exy => exact rfl); (case ens => (refine' rows_abs ?e1 ?e2; (case e1 => assumption); (case e2 => assumption)))))
  exact trivial
theorem kx_of {as : List Addr} {n t : Nat} {w : World} {s : Shared} (y : PySem.W.X.obsZ as s = PySem.W.X.valZ hd.heap_182 n t w) (e : ∀ P, as = (hd.heap_182 P).map (·.1)) : PySem.W.InK hd.heap_182 w s.heap := (PySem.W.X.z_facts e y).2.1
local macro_rules | `(tactic| k_go0) => `(tactic| (
  intro w s₀ s₁ mg mb G y fa o pm cd doc dV kV ho hd9 hcd hD hmg hg args vals as L hpre hlay hrd hwl hlo
  have KX := in_of_bridge (PySem.W.InK.keeps w (PySem.Shared.heap s₀) (PySem.Shared.heap s₁) (kx_of y (fun P => by kernel_rfl)) (PySem.W.Laid.keeps L))
  clear y L
  revert KX
  k_fill
  intro KX
  k_behind G ho hd9 hcd hD hmg hpre hlay hrd hwl hlo cd))
set_option maxHeartbeats 3000000 in
theorem law_holds : PySem.Challenge.rw_nn0004_01.Holds := by
  refine hd ?_
  w_strict (k_go0; (all_goals try k_fold))
  k_with_none
  k_with "ktr_room" => ((try dsimp only [mkA, Around.deeper]); first | omega | decide)
  k_with "ktr_unf" => first | omega | ((simp only [List.length_append, List.length_cons, List.length_nil, rangeKs_length] at *); omega)
  k_with "ktr_rel" => first | assumption | omega
  k_with "k_ne" => (refine neN ?_; (try dsimp only); first | exact Apart.ne (by assumption) | exact Ne.symm (Apart.ne (by assumption)) | exact Aps.ne (by assumption) (by k_mem) | exact Ne.symm (Aps.ne (by assumption) (by k_mem)) | omega)
  k_with "line5" => (k_here; (with_reducible show wpAny _ _ (call (Value.ref 128) [Value.ref _]) _ _ _); k_dflt (refine' call_pool _ ?F ?N ?X ?T ?l1 ?i1 ?room ?n1 ?_; (case F => k_asm); (case N => k_asm); (case X => k_asm); (case T => k_asm); (case l1 => is_list); (case i1 => assumption); (case room => ktr_room); (case n1 => ktr_unf); k_whole))
  k_with "line6" => (k_here; (with_reducible show wpAny _ _ (call (Value.ref 123) [Value.ref _, Value.int _ _]) _ _ _); k_dflt (refine' call_draw _ ?F ?N ?X ?T ?U ?l1 ?i1 ?q1 ?room ?S ?m0 ?m1 ?_; (case F => k_asm); (case N => k_asm); (case X => k_asm); (case T => k_asm); (case U => k_updF); (case l1 => is_list); (case i1 => assumption); (case q1 => k_ne); (case room => ktr_room); (case S => assumption); (case m0 => omega); (case m1 => omega); k_whole))
  k_with "line7" => (k_here; (with_reducible show wpAny _ _ (call (Value.ref 147) [Value.ref _, Value.int _ _, Value.int 9 _]) _ _ _); k_dflt (refine' call_number _ ?F ?N ?X ?T ?U ?l1 ?i1 ?q1 ?room ?S ?m0 ?m1 ?_; (case F => k_asm); (case N => k_asm); (case X => k_asm); (case T => k_asm); (case U => k_updF); (case l1 => is_list); (case i1 => assumption); (case q1 => k_ne); (case room => ktr_room); (case S => assumption); (case m0 => omega); (case m1 => omega); k_whole))
  k_with "line8" => (k_here; (with_reducible show wpAny _ _ (call (Value.ref 135) [Value.int _ _, Value.int _ _]) _ _ _); k_dflt (refine' call_law_row _ ?F ?N ?X ?T ?room ?w0 ?w1 ?w2 ?n0 ?n1 ?_; (case F => k_asm); (case N => k_asm); (case X => k_asm); (case T => k_asm); (case room => ktr_room); (case w0 => exact rfl); (case w1 => omega); (case w2 => omega); (case n0 => first | omega | exact Int.mul_nonneg (by omega) (by omega) | (split <;> omega)); (case n1 => first | omega | (refine Nat.le_trans (len_mul (Bw_ge (by omega)) (by omega) (by omega)) (by omega)) | exact abs_use (by assumption) (by first | exact rfl | omega)); k_whole))
  k_with "k_all" => exact allNe_mem (TlOk.acs (by assumption))
  k_with "mul_fits" => exact IntMulOk.of_bits (by assumption) (by assumption)
  k_with "compareOp Eq ref ref" => (k_here; (with_reducible show wpAny _ _ (compareOp CmpOp.Eq (Value.ref _) (Value.ref _)) _ _ _); k_dflt (refine' PySem.SeqAt.eq_list_lengthsAt ?k1 ?k2 ?k3 ?k4 ?_; (case k1 => is_list); (case k2 => is_list); (case k3 => assumption); (case k4 => k_units)))
  k_with "call ref" => (k_here; (rename TlOk _ _ _ => hTl9_q); (with_reducible show wpAny _ _ (call (Value.ref 135) [Value.int _ _, Value.int _ _]) _ _ _); k_dflt (refine' call_law_row _ ?F ?N ?X ?T ?room ?w0 ?w1 ?w2 ?n0 ?n1 ?_; (case F => k_asm); (case N => k_asm); (case X => k_asm); (case T => k_asm); (case room => ktr_room); (case w0 => exact rfl); (case w1 => omega); (case w2 => omega); (case n0 => first | omega | exact Int.mul_nonneg (by omega) (by omega) | (split <;> omega)); (case n1 => first | omega | (refine Nat.le_trans (len_mul (Bw_ge (by omega)) (by omega) (by omega)) (by omega)) | exact abs_use (by assumption) (by first | exact rfl | omega)); k_whole); intro D_q' ws_q' k_q' h_q' tk_q' zs_q' F_q' N_q' l1_q i1_q e1_q; (try (k_dflt (have a1_q := apart_cs (by assumption) l1_q (by k_mem)))); (try (k_dflt (have a2_q := apart_149 l1_q (by k_mem)))); clear l1_q; (try k_sweep))
  k_with "call ref" => (k_here; (rename TlOk _ _ _ => hTl9_q); (with_reducible show wpAny _ _ (call (Value.ref 154) [Value.int _ _, Value.ref _]) _ _ _); k_dflt (refine' call_law_given _ ?F ?N ?X ?T ?C ?hps ?Sp ?htl ?hot ?hmt ?hne ?htt ?room ?w1 ?w2 ?_; (case F => k_asm); (case N => k_asm); (case X => k_asm); (case T => k_asm); (case C => assumption); (case hps => assumption); (case htl => exact TlOk.a149 (by assumption)); (case Sp => (repeat' (first | exact Tl.here | (refine' Spl.head ?_) | (refine' Spl.tail (neN (by (try dsimp only); first | exact Apart.ne (by assumption) | exact Ne.symm (Apart.ne (by assumption)) | omega)) ?_) | (refine' Tl.cons (neN (by (try dsimp only); first | exact Apart.ne (by assumption) | exact Ne.symm (Apart.ne (by assumption)) | omega)) ?_)))); (case hmt => k_mem); (case hot => (intro v9_q h9_q; cases h9_q)); (case hne => k_ne); (case htt => first | exact True.intro | (apply allNe_lt; simp only [*])); (case room => ktr_room); (case w1 => omega); (case w2 => omega); k_whole); intro f_q' ps_q' tl_q' h_q' tk_q' F_q' N_q' TO_q' n149_q nT_q sub_q' fr_q' GO_q'; (try dsimp only at N_q'); (try (k_dflt (have K9_q := tlok_fields (by assumption) n149_q fr_q' (by k_mem) (by k_mem)))); (try k_sweep))
  k_with "call ref" => (k_here; (rename TlOk _ _ _ => hTl9_q); (with_reducible show wpAny _ _ (call (Value.ref 116) [Value.ref _, Value.ref _, Value.int _ _, Value.int _ _, Value.ref _]) _ _ _); k_dflt (refine' call_karaL _ ?hK ?hF ?F ?N ?X ?T ?P ?Sp ?htl ?GO ?l1 ?i1 ?l2 ?i2 ?q1 ?q2 ?room ?w0 ?w1 ?w2 ?e1 ?e2 ?p1 ?p2 ?hn ?m1 ?m2 ?m9 ?len ?_; (case hK => exact kara_all _ 19); (case hF => assumption); (case F => k_asm); (case N => k_asm); (case X => k_asm); (case T => k_asm); (case GO => assumption); (case htl => assumption); (case P => exact PairsIn.nil); (case Sp => (repeat' (first | exact Tl.here | (refine' Spl.head ?_) | (refine' Spl.tail (neN (by (try dsimp only); first | exact Apart.ne (by assumption) | exact Ne.symm (Apart.ne (by assumption)) | omega)) ?_) | (refine' Tl.cons (neN (by (try dsimp only); first | exact Apart.ne (by assumption) | exact Ne.symm (Apart.ne (by assumption)) | omega)) ?_)))); (case l1 => is_list); (case i1 => assumption); (case l2 => is_list); (case i2 => assumption); (case q1 => k_ne); (case q2 => k_ne); (case room => ktr_room); (case w0 => exact rfl); (case w1 => omega); (case w2 => omega); (case e1 => first | exact rfl | assumption); (case e2 => first | exact rfl | assumption); (case p1 => omega); (case p2 => omega); (case hn => omega); (case m1 => omega); (case m2 => omega); (case m9 => omega); (case len => exact cst_le (by omega)); k_whole); intro D_q' ws_q' n_q' tv_q' k_q' ps_q' tl_q' h_q' tk_q' zs_q' F_q' N_q' l1_q i1_q e1_q g1_q g2_q P_q' A_q' b1_q htl_q' sub_q' fr_q'; (try dsimp only at N_q' l1_q); (try (k_dflt (have a1_q := apart_cs (by assumption) l1_q (by k_mem)))); (try (k_dflt (have a2_q := apart_149 l1_q (by k_mem)))); clear l1_q; (try (k_dflt (have K9_q := tlok_pairs (by assumption) N_q' (by (intro q_q hq_q; (repeat (first | exact hq_q | refine List.mem_cons_of_mem _ ?_)))) fr_q' (by k_mem) (by k_mem) (by assumption) (by k_mem) (by assumption)))); (try k_sweep))
  k_with "call ref" => (k_here; (rename TlOk _ _ _ => hTl9_q); (with_reducible show wpAny _ _ (call (Value.ref 95) [Value.ref _, Value.ref _, Value.int _ _]) _ _ _); k_dflt (refine' call_difference _ ?F ?N ?X ?T ?l1 ?i1 ?l2 ?i2 ?room ?w0 ?w1 ?w2 ?e1 ?e2 ?p1 ?p2 ?n1 ?n2 ?_; (case F => k_asm); (case N => k_asm); (case X => k_asm); (case T => k_asm); (case l1 => is_list); (case i1 => assumption); (case l2 => is_list); (case i2 => assumption); (case room => ktr_room); (case w0 => exact rfl); (case w1 => omega); (case w2 => omega); (case e1 => assumption); (case e2 => assumption); (case p1 => first | assumption | omega); (case p2 => first | assumption | omega); (case n1 => ktr_unf); (case n2 => ktr_unf); k_whole); intro D_q' D1_q' ws_q' k_q' h_q' tk_q' zs_q' F_q' N_q' l1_q l2_q i1_q e1_q g1_q g2_q; (try (k_dflt (have a1_q := apart_cs (by assumption) l1_q (by k_mem)))); (try (k_dflt (have a2_q := apart_149 l1_q (by k_mem)))); clear l1_q; (try (k_dflt (have a3_q := apart_cs (by assumption) l2_q (by k_mem)))); (try (k_dflt (have a4_q := apart_149 l2_q (by k_mem)))); clear l2_q; (try k_sweep))
  k_with "compareOp NotEq ref ref" => ((rename AbsFits _ _ _ => hab9_q); k_here; (with_reducible show wpAny _ _ (compareOp CmpOp.NotEq (Value.ref _) (Value.ref _)) _ _ _); k_dflt (refine' ne_tups ?N ?ha ?hb ?ca ?cb ?dA ?dB ?la ?lb ?ia ?ib ?hu ?exy ?ens ?_; (case N => k_asm); (case ha => k_mem); (case hb => k_mem); (case ca => exact rfl); (case cb => exact rfl); (case dA => exact rfl); (case dB => exact rfl); (case la => is_list); (case lb => is_list); (case ia => assumption); (case ib => assumption); (case hu => k_units); (case exy => exact rfl); (case ens => (refine' rows_abs ?e1 ?e2; (case e1 => assumption); (case e2 => assumption)))))
  k_steps
  rename_i oc0 hoc0 _ _ _ _ _ _ _ _ _ _ _ _ _ _ _ _ _ _ _ _ _ _ _ _ _ _ _ r3 tr3 _ _ _ _ _ _ _ w0 w1 _ _ n1 tn1 _ _ _ _ _ _ _ n10 n11 n2 tn2 _ _ _ _ _ _ _ n20 n21 _ _ _ _ _ _ _ DA wsA kA _ _ zsA iA eA _ DB wsB kB _ _ zsB iB eB _ _ _ _ _ _ _ r4 tr4 _ _ _ _ _ tkz _ d0 d1 DT _ nE lT II lI
  rename Aps _ _ => ap4
  replace ap4 := ap4.all
  simp only [List.forall_mem_cons, List.not_mem_nil, false_implies, implies_true, and_true] at ap4
  rename Aps _ _ => ap3
  replace ap3 := ap3.all
  simp only [List.forall_mem_cons, List.not_mem_nil, false_implies, implies_true, and_true] at ap3
  have pB1 : Apart _ DB := ⟨ap4.1⟩
  have pB2 : Apart _ DB := ⟨ap4.2.2.2.2.2.1⟩
  have pB3 : Apart _ DB := ⟨ap4.2.2.2.2.2.2⟩
  have pA2 : Apart _ DA := ⟨ap3.2.2.2.2.1⟩
  have pA3 : Apart _ DA := ⟨ap3.2.2.2.2.2⟩
  clear ap4 ap3
  rename Aps _ _ => ap2
  clear ap2
  rename Aps _ _ => ap1
  clear ap1
  have b1 := bits_of (B := Bw (2 + r3)) rfl (by omega) (by omega) n10 (by omega)
  have b2 := bits_of (B := Bw (2 + r3)) rfl (by omega) (by omega) n20 (by omega)
  have hFx : Fix (max zsA.length zsB.length) 0 := ⟨trivial⟩
  have lA9 : zsA.length ≤ 9 := by rw [eA]; exact n11
  have lB9 : zsB.length ≤ 9 := by rw [eB]; exact n21
  refine Stop.mk ?_
  rename Shared => s1
  refine' items_inv (LInv (s1.heap.objs.size + 1) DT DA DB II (tupO #[Value.int 0 tk, Value.int 2 (tk + 1), Value.int 3 (tk + 1 + 1), Value.int (1 + r4) tkz]) (W.listOf wsA.toArray kA) (W.listOf wsB.toArray kB) _) ?hkeep _ ?turn ?done [(0, _), (2, _), (3, _), (1 + r4, _)] (fun _ h => h) _ _ ?start
  case start =>
    refine linv_start (oc := oc0) hoc0 ?_ ?_ ?_ ?_ ?_
    · simp
    · simp
    · simp
    · simp
    · simp
  case hkeep => exact fun _ _ => linv_keep
  case' turn =>
    intro v tv m2 news2 h2 tk2 o hv ho hInv F2 N2
    obtain ⟨oc, v0, ps, tl, hsub, hoc, hT, hK, e3⟩ := hInv
    have hv0 : 0 ≤ v ∧ v ≤ 10 := by
      simp only [List.mem_cons, Prod.mk.injEq, List.not_mem_nil, or_false] at hv
      omega
    have N3 := News.sub2 N2 hsub
    have F3 := fr_two e3 F2
    clear N2 F2 e3 hv hsub
  case' done =>
    intro m2 news2 h2 tk2 hInv F2 N2
    obtain ⟨oc, v0, ps, tl, hsub, hoc, hT, hK, e3⟩ := hInv
    have N3 := News.sub1 N2 hsub
    have F3 := fr_two e3 F2
    clear N2 F2 e3 hsub
  all_goals (try k_fold)
  · have hcomm : n2 * n1 = n1 * n2 := Int.mul_comm _ _
    have habs : AbsFits (2 + r3) n1 n2 := fun n hn => abs_len (by omega) n10 n20 n11 n21 (by split at hn <;> omega)
    k_steps
  · k_steps
    refine Stop.mk ?_
    k_dflt (refine LCt.ListComp_T (F₀ := by k_asm) (by with_unfolding_all rfl) (by decide) (by rfl) (by decide) (by rfl) ?_)
    k_steps
    (rename PairsIn _ _ _ _ => pP); (rename Added _ _ _ _ _ => aA); (rename AllNe _ _ => hneT)
    have hg := added_good aA
    have hlenT := pairs_size pP aA (sizeLine_ge (by omega))
    have hpos := added_pos pP aA
    (refine LCt.CompSrcT.ledger (by rfl) (by k_asm) (by k_asm) (by k_mem) hlenT ?_; intro g')
    refine rest_T (.inr ⟨_, by k_mem, rfl, _, rfl⟩) ?tturn ?tfin _ _
    case tturn =>
      intro i v' hv' I2 oI C oC D m3 h3 tk3 E3 hC hx F4 N4
      obtain ⟨a, tx, ty, rfl, hi, hTu⟩ := pairs_tup pP F4 N4 (by intro q hq; (repeat (first | exact hq | refine List.mem_cons_of_mem _ ?_))) (by simpa using hv')
      obtain ⟨g1, g2, g3, g4, g5⟩ := hg i hi
      k_steps
      all_goals (first
        | ((rename News _ _ _ _ => nE); (rename Fr _ _ _ _ => fE); exact ⟨rfl, TurnE.intro fE nE (by intro q hq; (repeat (first | exact hq | refine List.mem_cons_of_mem _ ?_)))⟩)
        | (exfalso; omega)
        | (exfalso; (repeat' split at *) <;> omega)
        | skip)
    case tfin =>
      intro D h3 tk3 F4 N4 o1
      have hI0 : IntsAre ([] : List Value) [] := .nil
      k_steps
      refine Stop.mk ?_
      k_dflt (refine LCg.ListComp_U (F₀ := by k_asm) (by with_unfolding_all rfl) (by decide) (by rfl) (by decide) (by rfl) ?_)
      k_steps
      (refine LCg.CompSrc.ledger (by rfl) (by k_asm) (by k_asm) (by k_mem) hlenT ?_; intro g')
      refine rest_U (Mx := ((max zsA.length zsB.length : Nat) : Int)) (.inr ⟨_, by k_mem, rfl, _, rfl⟩) ?uturn ?ufin _ _ [] [] (Nat.zero_add _) .nil rfl (fun z hz => nomatch hz)
      case uturn =>
        intro i v' hv' I2 oI C oC D5 m3 h4 tk4 ys E4 hC hx F5 N5
        obtain ⟨a, tx, ty, rfl, hi, hTu⟩ := pairs_tup pP F5 N5 (by intro q hq; (repeat (first | exact hq | refine List.mem_cons_of_mem _ ?_))) (by simpa using hv')
        obtain ⟨g1, g2, g3, g4, g5⟩ := hg i hi
        k_steps
        all_goals ((rename News _ _ _ _ => nE); (rename Fr _ _ _ _ => fE))
        all_goals exact ⟨⟨_, _, rfl, by first | omega | (split <;> omega)⟩, TurnE.intro fE nE (by intro q hq; (repeat (first | exact hq | refine List.mem_cons_of_mem _ ?_)))⟩
      case ufin =>
        intro ys zs hIz hlz hz
        intro D5 h4 tk4 F5 N5 o2
        have hzpos : 0 < zs.length := by rw [hlz]; exact pos_of_bne hpos
        k_steps
        (rename News _ _ _ _ => nE); (rename Fr _ _ _ _ => fE)
        refine' linv_next fE nE ?hoc ?K ?hT ?sub ?mI ?m1 ?m2 ?m3 ?m4 ?m5 ?ms ?n1 ?n2 ?n3 ?n4 ?n5 ?e3
        case m1 => k_mem
        case hoc => assumption
        case K => assumption
        case hT => assumption
        case sub => assumption
        case mI => k_mem
        case m2 => k_mem
        case m3 => k_mem
        case m4 => k_mem
        case m5 => k_mem
        case ms => (intro q hq; (repeat (first | exact hq | refine List.mem_cons_of_mem _ ?_)))
        case n1 => omega
        case n2 => omega
        case n3 => omega
        case n4 => omega
        case n5 => omega
        case e3 => (intro z h1 h2; simp only [if_neg h1, if_neg h2])
end Mine

end
theorem PySem.Challenge.cw_nn0004_01_holds : PySem.Challenge.rw_nn0004_01.Holds := by
  exact Mine.law_holds
