import PyProof.Rows.All
import Wide.All
import OpenK.AllK
import Wide.FinOn
import HandS.ForMost
import HandS.Evl
import HandS.DictTup
import HandS.DictComp
import HandS.TupAny
import HandS.TupMul
import HandS.Zip
import HandS.Wide
import HandS.Style
import HandS.Walk
import HandS.Strs
import HandS.Flow
import HandS.SortKw
import HandS.Lambda
import HandS.EndTab
import HandS.HeadEnd
import HandS.HeadHook4
import HandS.Head2
import KE.SortKeyHeap
import KE.KTupSum
import KE.KDictKeyed
import KE.KDictZip
import KE.KDictWalk
import KE.KDictList
import KE.KDictCopyH
import KE.KDictDisplayH
import KE.KDictItemsList
import KE.SortLaws
import HandS.HeadWalk
import Wide.Once
import PySem.Challenge.RW_standingpowers_k71_whole_what_sentences
section
set_option linter.all false
namespace Z7
/-! points, monomials, values modulo p -/
abbrev Pt := List Int
abbrev Pol := List (Pt × Int)
def pts (p : Nat) : Nat → List Pt
  | 0 => [[]]
  | n + 1 => (pts p n).flatMap fun row => (List.range p).map fun (k : Nat) => row ++ [(k : Int)]
theorem pts_len {p : Nat} : ∀ {n : Nat} {x : Pt}, x ∈ pts p n → x.length = n
  | 0, x, h => by
    have e := List.mem_singleton.mp h
    rw [e]
    rfl
  | n + 1, x, h => by
    obtain ⟨r, hr, hx⟩ := List.mem_flatMap.mp h
    obtain ⟨k, _, rfl⟩ := List.mem_map.mp hx
    rw [List.length_append, pts_len hr]
    rfl
theorem pts_snoc {p n : Nat} {x : Pt} {k : Nat} (h : x ∈ pts p n) (hk : k < p) : x ++ [(k : Int)] ∈ pts p (n + 1) :=
  List.mem_flatMap.mpr ⟨x, h, List.mem_map.mpr ⟨k, List.mem_range.mpr hk, rfl⟩⟩
theorem pts_mem {p : Nat} : ∀ {n : Nat} {x : Pt}, x ∈ pts p n ↔ x.length = n ∧ ∀ e ∈ x, 0 ≤ e ∧ e < (p : Int)
  | 0, x => by
    constructor
    · intro h
      have e := List.mem_singleton.mp h
      rw [e]
      exact ⟨rfl, fun e he => by cases he⟩
    · rintro ⟨h, _⟩
      rw [List.length_eq_zero_iff.mp h]
      exact List.mem_singleton.mpr rfl
  | n + 1, x => by
    constructor
    · intro h
      obtain ⟨r, hr, hx⟩ := List.mem_flatMap.mp h
      obtain ⟨k, hk, rfl⟩ := List.mem_map.mp hx
      have h2 := pts_mem.mp hr
      have hk' := List.mem_range.mp hk
      refine ⟨by rw [List.length_append, h2.1]; rfl, fun e he => ?_⟩
      rcases List.mem_append.mp he with he | he
      · exact h2.2 e he
      · rw [List.mem_singleton.mp he]
        omega
    · rintro ⟨hl, hb⟩
      have hne : x ≠ [] := fun e => by rw [e] at hl; cases hl
      have hx := List.dropLast_concat_getLast hne
      have hlast := hb _ (List.getLast_mem hne)
      have hd : x.dropLast ∈ pts p n := pts_mem.mpr ⟨by rw [List.length_dropLast, hl]; rfl, fun e he => hb e (List.dropLast_subset x he)⟩
      have hk : (x.getLast hne).toNat < p := by omega
      have h3 := pts_snoc hd hk
      have e3 : (((x.getLast hne).toNat : Nat) : Int) = x.getLast hne := by omega
      rw [e3, hx] at h3
      exact h3
theorem nodup_map_inj {α β : Type} {f : α → β} (hf : ∀ a b, f a = f b → a = b) : ∀ {l : List α}, l.Nodup → (l.map f).Nodup
  | [], _ => List.nodup_nil
  | a :: l, h => by
    obtain ⟨h1, h2⟩ := List.nodup_cons.mp h
    refine List.nodup_cons.mpr ⟨fun m => ?_, nodup_map_inj hf h2⟩
    obtain ⟨b, hb, e⟩ := List.mem_map.mp m
    rw [hf b a e] at hb
    exact h1 hb
theorem nodup_append' {α : Type} : ∀ {l m : List α}, l.Nodup → m.Nodup → (∀ a ∈ l, ¬ a ∈ m) → (l ++ m).Nodup
  | [], _, _, h, _ => h
  | a :: l, m, h1, h2, h3 => by
    obtain ⟨h4, h5⟩ := List.nodup_cons.mp h1
    refine List.nodup_cons.mpr ⟨fun hm => ?_, nodup_append' h5 h2 fun b hb => h3 b (List.mem_cons_of_mem _ hb)⟩
    rcases List.mem_append.mp hm with q | q
    · exact h4 q
    · exact h3 a List.mem_cons_self q
theorem snoc_inj {r r' : Pt} {a b : Int} (h : r ++ [a] = r' ++ [b]) : r = r' ∧ a = b := by
  have h1 := congrArg List.dropLast h
  rw [List.dropLast_concat, List.dropLast_concat] at h1
  have h2 := congrArg (fun l => l.getLast?) h
  simp only [List.getLast?_concat] at h2
  exact ⟨h1, Option.some.inj h2⟩
theorem nodup_flat {p : Nat} : ∀ {l : List Pt}, l.Nodup → (l.flatMap fun row => (List.range p).map fun (k : Nat) => row ++ [(k : Int)]).Nodup
  | [], _ => List.nodup_nil
  | r :: l, h => by
    obtain ⟨h1, h2⟩ := List.nodup_cons.mp h
    rw [List.flatMap_cons]
    refine nodup_append' (nodup_map_inj (fun a b e => ?_) List.nodup_range) (nodup_flat h2) fun x hx hm => ?_
    · have := (snoc_inj e).2
      omega
    · obtain ⟨k, _, rfl⟩ := List.mem_map.mp hx
      obtain ⟨r', hr', hx'⟩ := List.mem_flatMap.mp hm
      obtain ⟨k', _, e⟩ := List.mem_map.mp hx'
      rw [(snoc_inj e).1] at hr'
      exact h1 hr'
theorem pts_nodup (p : Nat) : ∀ n : Nat, (pts p n).Nodup
  | 0 => by simp [pts]
  | n + 1 => nodup_flat (pts_nodup p n)

theorem mm1 (a b p : Int) : a % p * b % p = a * b % p := by rw [Int.mul_emod, Int.emod_emod, ← Int.mul_emod]
theorem mm2 (a b p : Int) : a * (b % p) % p = a * b % p := by rw [Int.mul_emod, Int.emod_emod, ← Int.mul_emod]
/-! powers modulo p: what raised_number, value_of do -/
def rn (p x : Int) : Nat → Int
  | 0 => 1
  | e + 1 => rn p x e * x % p
theorem rn_eq {p : Int} (hp : 1 < p) (x : Int) : ∀ e : Nat, rn p x e = x ^ e % p
  | 0 => by
    show (1 : Int) = x ^ 0 % p
    rw [Int.pow_zero, Int.emod_eq_of_lt (by decide) hp]
  | e + 1 => by
    show rn p x e * x % p = x ^ (e + 1) % p
    rw [rn_eq hp x e, Int.pow_succ, mm1]
theorem rn_bd {p : Int} (hp : 1 < p) (x : Int) (e : Nat) : 0 ≤ rn p x e ∧ rn p x e < p := by
  rw [rn_eq hp]
  exact ⟨Int.emod_nonneg _ (by omega), Int.emod_lt_of_pos _ (by omega)⟩
/-- the monomial with exponents e at x -/
def mon : Pt → Pt → Int
  | e :: es, x :: xs => x ^ e.toNat * mon es xs
  | _, _ => 1
theorem mon_nil (x : Pt) : mon [] x = 1 := by cases x <;> rfl
theorem mon_snoc : ∀ {es xs : Pt} (e x : Int), es.length = xs.length → mon (es ++ [e]) (xs ++ [x]) = mon es xs * x ^ e.toNat
  | [], [], e, x, _ => by
    show x ^ e.toNat * 1 = 1 * x ^ e.toNat
    rw [Int.mul_one, Int.one_mul]
  | a :: es, b :: xs, e, x, h => by
    have ih := mon_snoc (es := es) (xs := xs) e x (Nat.succ.inj h)
    show b ^ a.toNat * mon (es ++ [e]) (xs ++ [x]) = b ^ a.toNat * mon es xs * x ^ e.toNat
    rw [ih, Int.mul_assoc]
  | [], _ :: _, _, _, h => by cases h
  | _ :: _, [], _, _, h => by cases h
/-- what value_of reckons: a fold over the two tuples -/
def vof (p : Int) (es xs : Pt) (m : Nat) : Int := (mon (es.take m) (xs.take m)) % p
theorem vof_zero {p : Int} (hp : 1 < p) (es xs : Pt) : vof p es xs 0 = 1 := by
  unfold vof
  rw [List.take_zero, List.take_zero]
  exact Int.emod_eq_of_lt (by decide) hp
theorem vof_succ {p : Int} (hp : 1 < p) {es xs : Pt} {m : Nat} {e x : Int} (he : es[m]? = some e) (hx : xs[m]? = some x) :
    vof p es xs (m + 1) = vof p es xs m * rn p x e.toNat % p := by
  obtain ⟨h1, e1⟩ := List.getElem?_eq_some_iff.mp he
  obtain ⟨h2, e2⟩ := List.getElem?_eq_some_iff.mp hx
  unfold vof
  rw [List.take_add_one, List.take_add_one, he, hx]
  show mon (es.take m ++ [e]) (xs.take m ++ [x]) % p = _
  rw [mon_snoc e x (by rw [List.length_take, List.length_take]; omega), rn_eq hp, ← Int.mul_emod]
theorem vof_full {p : Int} {es xs : Pt} {m : Nat} (h1 : es.length ≤ m) (h2 : xs.length ≤ m) : vof p es xs m = mon es xs % p := by
  unfold vof
  rw [List.take_of_length_le h1, List.take_of_length_le h2]
theorem vof_bd {p : Int} (hp : 1 < p) (es xs : Pt) (m : Nat) : 0 ≤ vof p es xs m ∧ vof p es xs m < p :=
  ⟨Int.emod_nonneg _ (by omega), Int.emod_lt_of_pos _ (by omega)⟩

/-! the value of a polynomial -/
def psum (f : Pol) (x : Pt) : Int := (f.map fun t => t.2 * mon t.1 x).sum
def pev (p : Int) (f : Pol) (x : Pt) : Int := psum f x % p
theorem psum_nil (x : Pt) : psum [] x = 0 := rfl
theorem psum_cons (t : Pt × Int) (f : Pol) (x : Pt) : psum (t :: f) x = t.2 * mon t.1 x + psum f x := rfl
theorem psum_app (f g : Pol) (x : Pt) : psum (f ++ g) x = psum f x + psum g x := by
  unfold psum
  rw [List.map_append, List.sum_append_int]
theorem pev_bd {p : Int} (hp : 1 < p) (f : Pol) (x : Pt) : 0 ≤ pev p f x ∧ pev p f x < p :=
  ⟨Int.emod_nonneg _ (by omega), Int.emod_lt_of_pos _ (by omega)⟩
/-- the sum that value makes, term by term -/
theorem sum_mod {p : Int} : ∀ (f : Pol) (x : Pt), (f.map fun t => t.2 * (mon t.1 x % p)).sum % p = pev p f x
  | [], _ => rfl
  | t :: f, x => by
    have ih := sum_mod (p := p) f x
    unfold pev at ih ⊢
    rw [List.map_cons, List.sum_cons, psum_cons, Int.add_emod, ih, ← Int.add_emod_emod, Int.add_emod (t.2 * mon t.1 x), Int.mul_emod t.2 (mon t.1 x % p), Int.emod_emod_of_dvd _ (Int.dvd_refl p), ← Int.mul_emod]
    rw [Int.add_emod_emod]
theorem emod_sum_congr {α : Type} {p : Int} {F G : α → Int} : ∀ {l : List α}, (∀ a ∈ l, F a % p = G a % p) → (l.map F).sum % p = (l.map G).sum % p
  | [], _ => rfl
  | a :: l, h => by
    rw [List.map_cons, List.map_cons, List.sum_cons, List.sum_cons, Int.add_emod, h a List.mem_cons_self, emod_sum_congr (fun b hb => h b (List.mem_cons_of_mem _ hb)), ← Int.add_emod]
theorem sum_perm {l m : List Int} (h : l.Perm m) : l.sum = m.sum := by
  induction h with
  | nil => rfl
  | cons a _ ih => rw [List.sum_cons, List.sum_cons, ih]
  | swap a b l => rw [List.sum_cons, List.sum_cons, List.sum_cons, List.sum_cons]; omega
  | trans _ _ i1 i2 => exact i1.trans i2
theorem psum_perm {f g : Pol} (h : f.Perm g) (x : Pt) : psum f x = psum g x := sum_perm (h.map _)
/-- terms with the number 0 may be left out; numbers may be taken modulo p -/
theorem pev_filter (p : Int) (f : Pol) (x : Pt) : pev p ((f.map fun t => (t.1, t.2 % p)).filter fun t => t.2 != 0) x = pev p f x := by
  induction f with
  | nil => rfl
  | cons t f ih =>
    rw [List.map_cons, List.filter_cons]
    by_cases h : t.2 % p = 0
    · rw [if_neg (by simp [h])]
      rw [ih]
      unfold pev
      rw [psum_cons, Int.add_emod, Int.mul_emod, h, Int.zero_mul, Int.zero_emod, Int.zero_add, Int.emod_emod_of_dvd _ (Int.dvd_refl p)]
    · rw [if_pos (by simp [h])]
      unfold pev at ih ⊢
      rw [psum_cons, psum_cons, Int.add_emod, ih, Int.add_emod (t.2 * mon t.1 x), Int.mul_emod (t.2 % p), Int.emod_emod_of_dvd _ (Int.dvd_refl p), ← Int.mul_emod]
end Z7
end

section
set_option linter.all false
namespace Z7
/-! numbers_of: from the values of one unknown to its numbers -/
def dot (p : Nat) (vals : List Int) (F : Nat → Int) : Int := ((List.range p).map fun (x : Nat) => vals.getD x 0 * F x).sum
def nums (p : Nat) (vals : List Int) : List Int := vals.getD 0 0 :: (List.range (p - 1)).map fun (e : Nat) => (-(dot p vals fun x => rn p x (p - 1 - (e + 1)))) % (p : Int)
theorem nums_len {p : Nat} (hp : 0 < p) (vals : List Int) : (nums p vals).length = p := by
  unfold nums
  rw [List.length_cons, List.length_map, List.length_range]
  omega
def IsP (p : Nat) : Prop := p = 2 ∨ p = 3 ∨ p = 5 ∨ p = 7
theorem IsP.lt {p : Nat} (h : IsP p) : 1 < p := by rcases h with h | h | h | h <;> omega
theorem IsP.le {p : Nat} (h : IsP p) : p ≤ 7 := by rcases h with h | h | h | h <;> omega
theorem nums_bd {p : Nat} (hp : IsP p) {vals : List Int} (h : ∀ v ∈ vals, 0 ≤ v ∧ v < (p : Int)) : ∀ v ∈ nums p vals, 0 ≤ v ∧ v < (p : Int) := by
  have := hp.lt
  intro v hv
  unfold nums at hv
  rcases List.mem_cons.mp hv with e | hv
  · rw [e]
    cases vals with
    | nil => exact ⟨Int.le_refl 0, by show (0 : Int) < p; omega⟩
    | cons a l => exact h a List.mem_cons_self
  · obtain ⟨e, _, rfl⟩ := List.mem_map.mp hv
    exact ⟨Int.emod_nonneg _ (by omega), Int.emod_lt_of_pos _ (by omega)⟩
/-- one unknown is told by its numbers -/
theorem nums_val {p : Nat} (hp : IsP p) {vals : List Int} (hl : vals.length = p) {x : Nat} (hx : x < p) :
    ((List.range p).map fun (k : Nat) => (nums p vals).getD k 0 * (x : Int) ^ k).sum % (p : Int) = vals.getD x 0 % (p : Int) := by
  rcases hp with rfl | rfl | rfl | rfl
  · match vals, hl with
    | [a, b], _ =>
      match x, hx with
      | 0, _ => simp [nums, dot, rn, List.range_succ]
      | 1, _ => simp [nums, dot, rn, List.range_succ]; omega
  · match vals, hl with
    | [a, b, c], _ =>
      match x, hx with
      | 0, _ => simp [nums, dot, rn, List.range_succ]
      | 1, _ => simp [nums, dot, rn, List.range_succ]; omega
      | 2, _ => simp [nums, dot, rn, List.range_succ]; omega
  · match vals, hl with
    | [a, b, c, d, e], _ =>
      match x, hx with
      | 0, _ => simp [nums, dot, rn, List.range_succ]
      | 1, _ => simp [nums, dot, rn, List.range_succ]; omega
      | 2, _ => simp [nums, dot, rn, List.range_succ]; omega
      | 3, _ => simp [nums, dot, rn, List.range_succ]; omega
      | 4, _ => simp [nums, dot, rn, List.range_succ]; omega
  · match vals, hl with
    | [a, b, c, d, e, f, g], _ =>
      match x, hx with
      | 0, _ => simp [nums, dot, rn, List.range_succ]
      | 1, _ => simp [nums, dot, rn, List.range_succ]; omega
      | 2, _ => simp [nums, dot, rn, List.range_succ]; omega
      | 3, _ => simp [nums, dot, rn, List.range_succ]; omega
      | 4, _ => simp [nums, dot, rn, List.range_succ]; omega
      | 5, _ => simp [nums, dot, rn, List.range_succ]; omega
      | 6, _ => simp [nums, dot, rn, List.range_succ]; omega
end Z7
end

section
set_option linter.all false
namespace Z7
/-! polynomial_of: one unknown after the other -/
def stepW (p i : Nat) (W : Pt → Int) : Pt → Int := fun x => (nums p ((List.range p).map fun (k : Nat) => W (x.set i (k : Int)))).getD (x.getD i 0).toNat 0
def WW (p : Nat) (W : Pt → Int) : Nat → Pt → Int
  | 0 => W
  | i + 1 => stepW p i (WW p W i)
theorem sum_flat {α : Type} (F : α → List Int) : ∀ l : List α, (l.flatMap F).sum = (l.map fun a => (F a).sum).sum
  | [] => rfl
  | a :: l => by rw [List.flatMap_cons, List.sum_append_int, List.map_cons, List.sum_cons, sum_flat F l]
theorem map_flat {α β γ : Type} (G : β → γ) (F : α → List β) : ∀ l : List α, (l.flatMap F).map G = l.flatMap fun a => (F a).map G
  | [] => rfl
  | a :: l => by rw [List.flatMap_cons, List.map_append, List.flatMap_cons, map_flat G F l]
theorem sum_mul_left {α : Type} (c : Int) (F : α → Int) : ∀ l : List α, (l.map fun a => c * F a).sum = c * (l.map F).sum
  | [] => by simp
  | a :: l => by rw [List.map_cons, List.map_cons, List.sum_cons, List.sum_cons, sum_mul_left c F l, Int.mul_add]
theorem take_drop_at {x : Pt} {i : Nat} {v : Int} (h : x[i]? = some v) : x.take (i + 1) = x.take i ++ [v] ∧ x.drop i = v :: x.drop (i + 1) := by
  obtain ⟨h1, e⟩ := List.getElem?_eq_some_iff.mp h
  refine ⟨by rw [List.take_add_one, h]; rfl, ?_⟩
  rw [List.drop_eq_getElem_cons h1, e]
theorem set_mid {r s : Pt} {a b : Int} {i : Nat} (h : r.length = i) : (r ++ a :: s).set i b = r ++ b :: s := by
  subst h
  simp [List.set_append]
theorem getD_mid {r s : Pt} {a : Int} {i : Nat} (h : r.length = i) : (r ++ a :: s).getD i 0 = a := by
  subst h
  simp [List.getD_eq_getElem?_getD]
theorem WW_bd {p : Nat} (hp : IsP p) {W : Pt → Int} (h : ∀ x, 0 ≤ W x ∧ W x < (p : Int)) : ∀ (i : Nat) (x : Pt), 0 ≤ WW p W i x ∧ WW p W i x < (p : Int)
  | 0, x => h x
  | i + 1, x => by
    have hlt := hp.lt
    have hb : ∀ v ∈ (List.range p).map (fun (k : Nat) => WW p W i (x.set i (k : Int))), 0 ≤ v ∧ v < (p : Int) := fun v hv => by
      obtain ⟨k, _, rfl⟩ := List.mem_map.mp hv
      exact WW_bd hp h i _
    show 0 ≤ (nums p _).getD _ 0 ∧ (nums p _).getD _ 0 < (p : Int)
    rw [List.getD_eq_getElem?_getD]
    cases e : (nums p ((List.range p).map fun (k : Nat) => WW p W i (x.set i (k : Int))))[(x.getD i 0).toNat]? with
    | none =>
      refine ⟨Int.le_refl 0, ?_⟩
      show (0 : Int) < p
      omega
    | some v => exact nums_bd hp hb v (List.mem_of_getElem? e)
theorem interp_step {p : Nat} (hp : IsP p) (W : Pt → Int) {n : Nat} {x : Pt} (hx : x ∈ pts p n) : ∀ i : Nat, i ≤ n →
    ((pts p i).map fun e => WW p W i (e ++ x.drop i) * mon e (x.take i)).sum % (p : Int) = W x % (p : Int)
  | 0, _ => by
    show (W ([] ++ x.drop 0) * mon [] (x.take 0) + 0) % (p : Int) = _
    rw [mon_nil, Int.mul_one, Int.add_zero, List.nil_append, List.drop_zero]
  | i + 1, hi => by
    have ih := interp_step hp W hx i (by omega)
    rw [← ih]
    obtain ⟨hl, hb⟩ := pts_mem.mp hx
    have hix : i < x.length := by omega
    have hxi : x[i]? = some x[i] := List.getElem?_eq_getElem hix
    obtain ⟨et, ed⟩ := take_drop_at hxi
    have hbx := hb x[i] (List.getElem_mem hix)
    have eN : ((x[i].toNat : Nat) : Int) = x[i] := by omega
    show (((pts p i).flatMap fun row => (List.range p).map fun (k : Nat) => row ++ [(k : Int)]).map fun e => WW p W (i + 1) (e ++ x.drop (i + 1)) * mon e (x.take (i + 1))).sum % (p : Int) = _
    rw [map_flat, sum_flat]
    refine emod_sum_congr fun row hrow => ?_
    have hrl := pts_len hrow
    rw [List.map_map]
    have e1 : ((fun e => WW p W (i + 1) (e ++ x.drop (i + 1)) * mon e (x.take (i + 1))) ∘ fun (k : Nat) => row ++ [(k : Int)])
        = fun (k : Nat) => mon row (x.take i) * ((nums p ((List.range p).map fun (j : Nat) => WW p W i (row ++ ((j : Int) :: x.drop (i + 1))))).getD k 0 * ((x[i].toNat : Nat) : Int) ^ k) := by
      funext k
      show stepW p i (WW p W i) (row ++ [(k : Int)] ++ x.drop (i + 1)) * mon (row ++ [(k : Int)]) (x.take (i + 1)) = _
      rw [et, mon_snoc _ _ (by rw [hrl, List.length_take]; omega), List.append_assoc]
      show stepW p i (WW p W i) (row ++ ((k : Int) :: x.drop (i + 1))) * (mon row (x.take i) * x[i] ^ k) = _
      unfold stepW
      rw [getD_mid hrl]
      simp only [set_mid hrl]
      rw [eN, Int.toNat_natCast, ← Int.mul_assoc, Int.mul_comm _ (mon row (x.take i)), Int.mul_assoc]
    rw [e1, sum_mul_left, ← mm2, nums_val hp (by rw [List.length_map, List.length_range]) (by omega), mm2]
    rw [ed]
    have e2 : ((List.range p).map fun (j : Nat) => WW p W i (row ++ ((j : Int) :: x.drop (i + 1)))).getD x[i].toNat 0 = WW p W i (row ++ (x[i] :: x.drop (i + 1))) := by
      rw [List.getD_eq_getElem?_getD, List.getElem?_map, List.getElem?_range (by omega)]
      show WW p W i (row ++ (((x[i].toNat : Nat) : Int) :: x.drop (i + 1))) = _
      rw [eN]
    rw [e2, Int.mul_comm]
theorem interp {p : Nat} (hp : IsP p) (W : Pt → Int) {n : Nat} {x : Pt} (hx : x ∈ pts p n) : psum ((pts p n).map fun e => (e, WW p W n e)) x % (p : Int) = W x % (p : Int) := by
  have h := interp_step hp W hx n (Nat.le_refl _)
  have hl := pts_len hx
  rw [List.drop_eq_nil_of_le (by omega), List.take_of_length_le (by omega)] at h
  rw [← h]
  unfold psum
  rw [List.map_map]
  have e : ((fun t : Pt × Int => t.2 * mon t.1 x) ∘ fun e => (e, WW p W n e)) = fun e => WW p W n (e ++ []) * mon e x := by
    funext e
    show WW p W n e * mon e x = _
    rw [List.append_nil]
  rw [e]
end Z7
end

section
set_option linter.all false
namespace Z7
/-! ### polynomials as lists of a power and a number, no power twice -/
def gp (f : Pol) (k : Pt) : Option Int := (f.find? fun t => decide (t.1 = k)).map (·.2)
def pu (f : Pol) (k : Pt) (v : Int) : Pol := if (f.any fun t => decide (t.1 = k)) = true then f.map (fun t => if t.1 = k then (t.1, v) else t) else f ++ [(k, v)]
theorem gp_nil (k : Pt) : gp [] k = none := rfl
theorem gp_pos {t : Pt × Int} {f : Pol} {k : Pt} (h : t.1 = k) : gp (t :: f) k = some t.2 := by
  unfold gp
  rw [List.find?_cons, decide_eq_true h] <;> rfl
theorem gp_neg {t : Pt × Int} {f : Pol} {k : Pt} (h : ¬ t.1 = k) : gp (t :: f) k = gp f k := by
  unfold gp
  rw [List.find?_cons, decide_eq_false h]
theorem gp_none {k : Pt} : ∀ {f : Pol}, ¬ k ∈ f.map (·.1) → gp f k = none
  | [], _ => rfl
  | t :: f, h => by
    rw [List.map_cons, List.mem_cons, not_or] at h
    rw [gp_neg fun e => h.1 e.symm]
    exact gp_none h.2
theorem gp_some {k : Pt} : ∀ {f : Pol}, k ∈ f.map (·.1) → ∃ v, gp f k = some v
  | [], h => by cases h
  | t :: f, h => by
    by_cases e : t.1 = k
    · exact ⟨_, gp_pos e⟩
    · rw [gp_neg e]
      rw [List.map_cons, List.mem_cons] at h
      exact gp_some (h.resolve_left fun z => e z.symm)
theorem gp_mem {k : Pt} {v : Int} : ∀ {f : Pol}, gp f k = some v → (k, v) ∈ f
  | [], h => by cases h
  | t :: f, h => by
    by_cases e : t.1 = k
    · rw [gp_pos e] at h
      obtain ⟨a, b⟩ := t
      cases e
      cases h
      exact List.mem_cons_self
    · rw [gp_neg e] at h
      exact List.mem_cons_of_mem _ (gp_mem h)
theorem gp_of_mem : ∀ {f : Pol}, (f.map (·.1)).Nodup → ∀ {t : Pt × Int}, t ∈ f → gp f t.1 = some t.2
  | [], _, t, h => by cases h
  | u :: f, hn, t, h => by
    rw [List.map_cons, List.nodup_cons] at hn
    rcases List.mem_cons.mp h with h | h
    · rw [h]
      exact gp_pos rfl
    · rw [gp_neg fun e => hn.1 (by rw [e]; exact List.mem_map.mpr ⟨t, h, rfl⟩)]
      exact gp_of_mem hn.2 h
theorem any_iff {f : Pol} {k : Pt} : (f.any fun t => decide (t.1 = k)) = true ↔ k ∈ f.map (·.1) := by
  rw [List.any_eq_true, List.mem_map]
  exact ⟨fun ⟨t, h1, h2⟩ => ⟨t, h1, of_decide_eq_true h2⟩, fun ⟨t, h1, h2⟩ => ⟨t, h1, decide_eq_true h2⟩⟩
theorem pu_old {f : Pol} {k : Pt} {v : Int} (h : k ∈ f.map (·.1)) : pu f k v = f.map (fun t => if t.1 = k then (t.1, v) else t) := by
  unfold pu
  rw [if_pos (any_iff.mpr h)]
theorem pu_new {f : Pol} {k : Pt} {v : Int} (h : ¬ k ∈ f.map (·.1)) : pu f k v = f ++ [(k, v)] := by
  unfold pu
  rw [if_neg fun e => h (any_iff.mp e)]
theorem map_keys (k : Pt) (v : Int) : ∀ f : Pol, (f.map fun t => if t.1 = k then (t.1, v) else t).map (·.1) = f.map (·.1)
  | [] => rfl
  | t :: f => by
    rw [List.map_cons, List.map_cons, List.map_cons, map_keys k v f]
    congr 1
    split <;> rfl
theorem pu_keys {f : Pol} {k : Pt} {v : Int} : ∀ a, a ∈ (pu f k v).map (·.1) ↔ a = k ∨ a ∈ f.map (·.1) := fun a => by
  by_cases h : k ∈ f.map (·.1)
  · rw [pu_old h, map_keys]
    exact ⟨.inr, fun z => z.elim (fun e => by rw [e]; exact h) id⟩
  · rw [pu_new h, List.map_append, List.mem_append]
    show a ∈ f.map (·.1) ∨ a ∈ [k] ↔ _
    rw [List.mem_singleton, Or.comm]
theorem pu_nodup {f : Pol} {k : Pt} {v : Int} (h : (f.map (·.1)).Nodup) : ((pu f k v).map (·.1)).Nodup := by
  by_cases e : k ∈ f.map (·.1)
  · rw [pu_old e, map_keys]
    exact h
  · rw [pu_new e, List.map_append]
    refine nodup_append' h (by simp) fun a ha hb => e ?_
    have z : a = k := by simpa using hb
    rw [← z]
    exact ha
theorem psum_map_ne {k : Pt} {v : Int} {x : Pt} : ∀ {f : Pol}, ¬ k ∈ f.map (·.1) → psum (f.map fun t => if t.1 = k then (t.1, v) else t) x = psum f x
  | [], _ => rfl
  | t :: f, h => by
    rw [List.map_cons, List.mem_cons, not_or] at h
    rw [List.map_cons, if_neg fun e => h.1 e.symm, psum_cons, psum_cons, psum_map_ne h.2]
theorem psum_pu {f : Pol} {k : Pt} {v : Int} {x : Pt} (hn : (f.map (·.1)).Nodup) : psum (pu f k v) x = psum f x + (v - (gp f k).getD 0) * mon k x := by
  by_cases h : k ∈ f.map (·.1)
  · rw [pu_old h]
    induction f with
    | nil => cases h
    | cons t f ih =>
      rw [List.map_cons, List.nodup_cons] at hn
      rw [List.map_cons, psum_cons, psum_cons]
      by_cases e : t.1 = k
      · rw [if_pos e, gp_pos e, psum_map_ne (by rw [← e]; exact hn.1), e]
        show v * mon k x + psum f x = t.2 * mon k x + psum f x + (v - t.2) * mon k x
        rw [Int.sub_mul]
        omega
      · rw [if_neg e, gp_neg e, ih hn.2 ?_]
        · omega
        · rw [List.map_cons, List.mem_cons] at h
          exact h.resolve_left fun z => e z.symm
  · rw [pu_new h, psum_app, gp_none h, psum_cons, psum_nil]
    show psum f x + (v * mon k x + 0) = psum f x + (v - 0) * mon k x
    rw [Int.sub_zero, Int.add_zero]
/-- a list in another order with the powers' numbers modulo p, those other than 0 -/
def ordN (p : Int) (ks : List Pt) (f : Pol) : Pol := (ks.map fun k => (k, (gp f k).getD 0 % p)).filter fun t => t.2 != 0
theorem ordN_perm {p : Int} {ks : List Pt} {f : Pol} (hn : (f.map (·.1)).Nodup) (hk : ks.Perm (f.map (·.1))) : (ordN p ks f).Perm ((f.map fun t => (t.1, t.2 % p)).filter fun t => t.2 != 0) := by
  unfold ordN
  refine List.Perm.filter _ ?_
  refine (hk.map _).trans ?_
  rw [List.map_map]
  refine List.Perm.of_eq (List.map_congr_left fun t ht => ?_)
  show (t.1, (gp f t.1).getD 0 % p) = _
  rw [gp_of_mem hn ht]
  rfl
theorem ordN_pev {p : Int} {ks : List Pt} {f : Pol} (hn : (f.map (·.1)).Nodup) (hk : ks.Perm (f.map (·.1))) (x : Pt) : pev p (ordN p ks f) x = pev p f x := by
  rw [← pev_filter p f x]
  unfold pev
  rw [psum_perm (ordN_perm hn hk) x]
end Z7
end

section
set_option Elab.async false
set_option linter.all false
set_option maxRecDepth 100000
namespace Z7
open PySem L2
def topS (i : Nat) : Stmt := PySem.Challenge.pw_standingpowers_k71_whole_what_sentences.main.body.getD i (.Pass ⟨0, 0, 0, 0⟩)
abbrev sRaisedNumber : Stmt := topS 11
abbrev nRaisedNumber : List Str := ["prime", "number", "exponent", "found", "_"]
theorem scRaisedNumber : FnScope nRaisedNumber ["prime", "number", "exponent"] (defScope sRaisedNumber) := ⟨rfl, rfl, rfl, by decide +kernel, rfl, by decide +kernel, by decide +kernel⟩
abbrev sTuplesOf : Stmt := topS 12
abbrev nTuplesOf : List Str := ["prime", "count", "found", "_", "row", "number"]
theorem scTuplesOf : FnScope nTuplesOf ["prime", "count"] (defScope sTuplesOf) := ⟨rfl, rfl, rfl, by decide +kernel, rfl, by decide +kernel, by decide +kernel⟩
abbrev sInverse : Stmt := topS 13
abbrev nInverse : List Str := ["prime", "number"]
theorem scInverse : FnScope nInverse ["prime", "number"] (defScope sInverse) := ⟨rfl, rfl, rfl, by decide +kernel, rfl, by decide +kernel, by decide +kernel⟩
abbrev sIsName : Stmt := topS 14
abbrev nIsName : List Str := ["text", "char"]
theorem scIsName : FnScope nIsName ["text"] (defScope sIsName) := ⟨rfl, rfl, rfl, by decide +kernel, rfl, by decide +kernel, by decide +kernel⟩
abbrev sDegreeOf : Stmt := topS 15
abbrev nDegreeOf : List Str := ["power"]
theorem scDegreeOf : FnScope nDegreeOf ["power"] (defScope sDegreeOf) := ⟨rfl, rfl, rfl, by decide +kernel, rfl, by decide +kernel, by decide +kernel⟩
abbrev sDivides : Stmt := topS 16
abbrev nDivides : List Str := ["one", "other", "here", "there"]
theorem scDivides : FnScope nDivides ["one", "other"] (defScope sDivides) := ⟨rfl, rfl, rfl, by decide +kernel, rfl, by decide +kernel, by decide +kernel⟩
abbrev sKeyOf : Stmt := topS 17
abbrev nKeyOf : List Str := ["order", "power"]
theorem scKeyOf : FnScope nKeyOf ["order", "power"] (defScope sKeyOf) := ⟨rfl, rfl, rfl, by decide +kernel, rfl, by decide +kernel, by decide +kernel⟩
abbrev sAscending : Stmt := topS 18
abbrev nAscending : List Str := ["order", "powers", "power"]
theorem scAscending : FnScope nAscending ["order", "powers"] (defScope sAscending) := ⟨rfl, rfl, rfl, by decide +kernel, rfl, by decide +kernel, by decide +kernel⟩
abbrev sValueOf : Stmt := topS 19
abbrev nValueOf : List Str := ["space", "power", "point", "found", "exponent", "number"]
theorem scValueOf : FnScope nValueOf ["space", "power", "point"] (defScope sValueOf) := ⟨rfl, rfl, rfl, by decide +kernel, rfl, by decide +kernel, by decide +kernel⟩
abbrev sSpaceInit : Stmt := inClass (topS 20) 0
abbrev nSpaceInit : List Str := ["self", "prime", "names", "name"]
theorem scSpaceInit : FnScope nSpaceInit ["self", "prime", "names"] (defScope sSpaceInit) := ⟨rfl, rfl, rfl, by decide +kernel, rfl, by decide +kernel, by decide +kernel⟩
abbrev sSpacePoints : Stmt := inClass (topS 20) 1
abbrev nSpacePoints : List Str := ["self"]
theorem scSpacePoints : FnScope nSpacePoints ["self"] (defScope sSpacePoints) := ⟨rfl, rfl, rfl, by decide +kernel, rfl, by decide +kernel, by decide +kernel⟩
abbrev sSpacePowers : Stmt := inClass (topS 20) 2
abbrev nSpacePowers : List Str := ["self", "order"]
theorem scSpacePowers : FnScope nSpacePowers ["self", "order"] (defScope sSpacePowers) := ⟨rfl, rfl, rfl, by decide +kernel, rfl, by decide +kernel, by decide +kernel⟩
abbrev sFromNumbers : Stmt := topS 22
abbrev nFromNumbers : List Str := ["space", "numbers", "rest", "power", "number"]
theorem scFromNumbers : FnScope nFromNumbers ["space", "numbers"] (defScope sFromNumbers) := ⟨rfl, rfl, rfl, by decide +kernel, rfl, by decide +kernel, by decide +kernel⟩
abbrev sValue : Stmt := topS 23
abbrev nValue : List Str := ["space", "one", "point", "power", "number"]
theorem scValue : FnScope nValue ["space", "one", "point"] (defScope sValue) := ⟨rfl, rfl, rfl, by decide +kernel, rfl, by decide +kernel, by decide +kernel⟩
abbrev sNumbersOf : Stmt := topS 25
abbrev nNumbersOf : List Str := ["prime", "values", "found", "exponent", "total", "number"]
theorem scNumbersOf : FnScope nNumbersOf ["prime", "values"] (defScope sNumbersOf) := ⟨rfl, rfl, rfl, by decide +kernel, rfl, by decide +kernel, by decide +kernel⟩
abbrev sPolynomialOf : Stmt := topS 26
abbrev nPolynomialOf : List Str := ["space", "table", "work", "index", "fresh", "point", "rows", "row", "number", "k"]
theorem scPolynomialOf : FnScope nPolynomialOf ["space", "table"] (defScope sPolynomialOf) := ⟨rfl, rfl, rfl, by decide +kernel, rfl, by decide +kernel, by decide +kernel⟩
abbrev sSystemInit : Stmt := inClass (topS 28) 0
abbrev nSystemInit : List Str := ["self", "space", "equations"]
theorem scSystemInit : FnScope nSystemInit ["self", "space", "equations"] (defScope sSystemInit) := ⟨rfl, rfl, rfl, by decide +kernel, rfl, by decide +kernel, by decide +kernel⟩
abbrev sSystemIsSolution : Stmt := inClass (topS 28) 1
abbrev nSystemIsSolution : List Str := ["self", "point", "one"]
theorem scSystemIsSolution : FnScope nSystemIsSolution ["self", "point"] (defScope sSystemIsSolution) := ⟨rfl, rfl, rfl, by decide +kernel, rfl, by decide +kernel, by decide +kernel⟩
abbrev sSystemSolutions : Stmt := inClass (topS 28) 2
abbrev nSystemSolutions : List Str := ["self", "point"]
theorem scSystemSolutions : FnScope nSystemSolutions ["self"] (defScope sSystemSolutions) := ⟨rfl, rfl, rfl, by decide +kernel, rfl, by decide +kernel, by decide +kernel⟩
abbrev sFactors : Stmt := topS 29
abbrev nFactors : List Str := ["system", "one", "space", "tables", "point", "wanted", "equation", "table", "number", "share", "_"]
theorem scFactors : FnScope nFactors ["system", "one"] (defScope sFactors) := ⟨rfl, rfl, rfl, by decide +kernel, rfl, by decide +kernel, by decide +kernel⟩
abbrev sIsTrue : Stmt := topS 31
abbrev nIsTrue : List Str := ["space", "sentence", "point", "word", "first", "second"]
theorem scIsTrue : FnScope nIsTrue ["space", "sentence", "point"] (defScope sIsTrue) := ⟨rfl, rfl, rfl, by decide +kernel, rfl, by decide +kernel, by decide +kernel⟩
abbrev sPolynomialOfSentence : Stmt := topS 32
abbrev nPolynomialOfSentence : List Str := ["space", "sentence", "point"]
theorem scPolynomialOfSentence : FnScope nPolynomialOfSentence ["space", "sentence"] (defScope sPolynomialOfSentence) := ⟨rfl, rfl, rfl, by decide +kernel, rfl, by decide +kernel, by decide +kernel⟩
abbrev sSystemOf : Stmt := topS 33
abbrev nSystemOf : List Str := ["space", "sentences", "sentence"]
theorem scSystemOf : FnScope nSystemOf ["space", "sentences"] (defScope sSystemOf) := ⟨rfl, rfl, rfl, by decide +kernel, rfl, by decide +kernel, by decide +kernel⟩
abbrev sFollows : Stmt := topS 35
abbrev nFollows : List Str := ["system", "one", "parts", "points", "point"]
theorem scFollows : FnScope nFollows ["system", "one"] (defScope sFollows) := ⟨rfl, rfl, rfl, by decide +kernel, rfl, by decide +kernel, by decide +kernel⟩
abbrev sRowsInit : Stmt := inClass (topS 37) 0
abbrev nRowsInit : List Str := ["self", "space", "points"]
theorem scRowsInit : FnScope nRowsInit ["self", "space", "points"] (defScope sRowsInit) := ⟨rfl, rfl, rfl, by decide +kernel, rfl, by decide +kernel, by decide +kernel⟩
abbrev sRowsLessened : Stmt := inClass (topS 37) 1
abbrev nRowsLessened : List Str := ["self", "values", "numbers", "prime", "at", "row", "parts", "factor", "power", "here", "there"]
theorem scRowsLessened : FnScope nRowsLessened ["self", "values", "numbers"] (defScope sRowsLessened) := ⟨rfl, rfl, rfl, by decide +kernel, rfl, by decide +kernel, by decide +kernel⟩
abbrev sRowsKeep : Stmt := inClass (topS 37) 2
abbrev nRowsKeep : List Str := ["self", "values", "numbers", "prime", "at", "factor", "row", "k", "number", "power"]
theorem scRowsKeep : FnScope nRowsKeep ["self", "values", "numbers"] (defScope sRowsKeep) := ⟨rfl, rfl, rfl, by decide +kernel, rfl, by decide +kernel, by decide +kernel⟩
abbrev sRowsTake : Stmt := inClass (topS 37) 3
abbrev nRowsTake : List Str := ["self", "power", "values", "numbers", "point"]
theorem scRowsTake : FnScope nRowsTake ["self", "power"] (defScope sRowsTake) := ⟨rfl, rfl, rfl, by decide +kernel, rfl, by decide +kernel, by decide +kernel⟩
abbrev sWalk : Stmt := topS 38
abbrev nWalk : List Str := ["space", "points", "order", "rows", "kept", "found", "leads", "power", "one", "lead"]
theorem scWalk : FnScope nWalk ["space", "points", "order"] (defScope sWalk) := ⟨rfl, rfl, rfl, by decide +kernel, rfl, by decide +kernel, by decide +kernel⟩
abbrev sBasis : Stmt := topS 39
abbrev nBasis : List Str := ["space", "points", "order"]
theorem scBasis : FnScope nBasis ["space", "points", "order"] (defScope sBasis) := ⟨rfl, rfl, rfl, by decide +kernel, rfl, by decide +kernel, by decide +kernel⟩
abbrev sPaperInit : Stmt := inClass (topS 41) 0
abbrev nPaperInit : List Str := ["self", "order", "rows", "points", "one", "parts"]
theorem scPaperInit : FnScope nPaperInit ["self", "order", "rows", "points"] (defScope sPaperInit) := ⟨rfl, rfl, rfl, by decide +kernel, rfl, by decide +kernel, by decide +kernel⟩
abbrev sPaperOf : Stmt := topS 42
abbrev nPaperOf : List Str := ["system", "order", "points", "rows", "one"]
theorem scPaperOf : FnScope nPaperOf ["system", "order"] (defScope sPaperOf) := ⟨rfl, rfl, rfl, by decide +kernel, rfl, by decide +kernel, by decide +kernel⟩
abbrev sCompare : Stmt := topS 44
abbrev nCompare : List Str := ["one", "other", "point", "there", "equation"]
theorem scCompare : FnScope nCompare ["one", "other"] (defScope sCompare) := ⟨rfl, rfl, rfl, by decide +kernel, rfl, by decide +kernel, by decide +kernel⟩
abbrev sLawCell : Stmt := topS 46
abbrev nLawCell : List Str := ["_law_script", "_law_k"]
theorem scLawCell : FnScope nLawCell ["_law_script", "_law_k"] (defScope sLawCell) := ⟨rfl, rfl, rfl, by decide +kernel, rfl, by decide +kernel, by decide +kernel⟩
abbrev sLawDigits : Stmt := topS 47
abbrev nLawDigits : List Str := ["_law_cell_here", "_law_many", "_law_count", "_law_digits_here", "_law_rest", "_law_k", "_law_mixed"]
theorem scLawDigits : FnScope nLawDigits ["_law_cell_here", "_law_many", "_law_count"] (defScope sLawDigits) := ⟨rfl, rfl, rfl, by decide +kernel, rfl, by decide +kernel, by decide +kernel⟩
abbrev sLawShape : Stmt := topS 48
abbrev nLawShape : List Str := ["_law_cell_here", "_law_shapes"]
theorem scLawShape : FnScope nLawShape ["_law_cell_here"] (defScope sLawShape) := ⟨rfl, rfl, rfl, by decide +kernel, rfl, by decide +kernel, by decide +kernel⟩
abbrev sLawNames : Stmt := topS 49
abbrev nLawNames : List Str := ["_law_cell_here", "_law_count", "_law_menu", "_law_start", "_law_step", "_law_k"]
theorem scLawNames : FnScope nLawNames ["_law_cell_here", "_law_count"] (defScope sLawNames) := ⟨rfl, rfl, rfl, by decide +kernel, rfl, by decide +kernel, by decide +kernel⟩
abbrev sLawPoints : Stmt := topS 50
abbrev nLawPoints : List Str := ["_law_prime", "_law_count", "_law_found", "_law_k", "_law_longer", "_law_row", "_law_number"]
theorem scLawPoints : FnScope nLawPoints ["_law_prime", "_law_count"] (defScope sLawPoints) := ⟨rfl, rfl, rfl, by decide +kernel, rfl, by decide +kernel, by decide +kernel⟩
abbrev sLawMade : Stmt := topS 51
abbrev nLawMade : List Str := ["_law_prime", "_law_numbers", "_law_rows", "_law_power", "_law_row"]
theorem scLawMade : FnScope nLawMade ["_law_prime", "_law_numbers"] (defScope sLawMade) := ⟨rfl, rfl, rfl, by decide +kernel, rfl, by decide +kernel, by decide +kernel⟩
abbrev sLawDrawn : Stmt := topS 52
abbrev nLawDrawn : List Str := ["_law_prime", "_law_count", "_law_cell_here", "_law_digits_here", "_law_numbers", "_law_k", "_law_part", "_law_power", "_law_j"]
theorem scLawDrawn : FnScope nLawDrawn ["_law_prime", "_law_count", "_law_cell_here"] (defScope sLawDrawn) := ⟨rfl, rfl, rfl, by decide +kernel, rfl, by decide +kernel, by decide +kernel⟩
abbrev sLawPowerValue : Stmt := topS 53
abbrev nLawPowerValue : List Str := ["_law_prime", "_law_power", "_law_point", "_law_found", "_law_k", "_law_turn"]
theorem scLawPowerValue : FnScope nLawPowerValue ["_law_prime", "_law_power", "_law_point"] (defScope sLawPowerValue) := ⟨rfl, rfl, rfl, by decide +kernel, rfl, by decide +kernel, by decide +kernel⟩
abbrev sLawValue : Stmt := topS 54
abbrev nLawValue : List Str := ["_law_prime", "_law_one", "_law_point", "_law_total", "_law_power", "_law_number"]
theorem scLawValue : FnScope nLawValue ["_law_prime", "_law_one", "_law_point"] (defScope sLawValue) := ⟨rfl, rfl, rfl, by decide +kernel, rfl, by decide +kernel, by decide +kernel⟩
abbrev sLawConstant : Stmt := topS 55
abbrev nLawConstant : List Str := ["_law_prime", "_law_count", "_law_number"]
theorem scLawConstant : FnScope nLawConstant ["_law_prime", "_law_count", "_law_number"] (defScope sLawConstant) := ⟨rfl, rfl, rfl, by decide +kernel, rfl, by decide +kernel, by decide +kernel⟩
abbrev sLawUnknown : Stmt := topS 56
abbrev nLawUnknown : List Str := ["_law_count", "_law_index", "_law_k"]
theorem scLawUnknown : FnScope nLawUnknown ["_law_count", "_law_index"] (defScope sLawUnknown) := ⟨rfl, rfl, rfl, by decide +kernel, rfl, by decide +kernel, by decide +kernel⟩
abbrev sLawTake : Stmt := topS 57
abbrev nLawTake : List Str := ["_law_state", "_law_many"]
theorem scLawTake : FnScope nLawTake ["_law_state", "_law_many"] (defScope sLawTake) := ⟨rfl, rfl, rfl, by decide +kernel, rfl, by decide +kernel, by decide +kernel⟩
abbrev sLawSentence : Stmt := topS 58
abbrev nLawSentence : List Str := ["_law_prime", "_law_count", "_law_state", "_law_depth", "_law_choice", "_law_sides", "_law_k", "_law_cell_here", "_law_one", "_law_left"]
theorem scLawSentence : FnScope nLawSentence ["_law_prime", "_law_count", "_law_state", "_law_depth"] (defScope sLawSentence) := ⟨rfl, rfl, rfl, by decide +kernel, rfl, by decide +kernel, by decide +kernel⟩
abbrev sLawSomeSentence : Stmt := topS 59
abbrev nLawSomeSentence : List Str := ["_law_prime", "_law_count", "_law_cell_here", "_law_depth"]
theorem scLawSomeSentence : FnScope nLawSomeSentence ["_law_prime", "_law_count", "_law_cell_here", "_law_depth"] (defScope sLawSomeSentence) := ⟨rfl, rfl, rfl, by decide +kernel, rfl, by decide +kernel, by decide +kernel⟩
abbrev sLawTrue : Stmt := topS 60
abbrev nLawTrue : List Str := ["_law_prime", "_law_sentence_here", "_law_point", "_law_word", "_law_same", "_law_first", "_law_second"]
theorem scLawTrue : FnScope nLawTrue ["_law_prime", "_law_sentence_here", "_law_point"] (defScope sLawTrue) := ⟨rfl, rfl, rfl, by decide +kernel, rfl, by decide +kernel, by decide +kernel⟩
abbrev sLaw : Stmt := topS 61
abbrev nLaw : List Str := ["_law_script", "_law_prime", "_law_count", "_law_space", "_law_many", "_law_known", "_law_asked", "_law_points_here", "_law_due", "_law_system", "_law_against", "_law_rows", "_law_k", "_law_point", "_law_each", "_law_row"]
theorem scLaw : FnScope nLaw ["_law_script"] (defScope sLaw) := ⟨rfl, rfl, rfl, by decide +kernel, rfl, by decide +kernel, by decide +kernel⟩
end Z7
end

section
set_option Elab.async false
set_option linter.all false
set_option maxRecDepth 100000
namespace Z7
open PySem L2 Evl
abbrev Fg := PySem.W.Frag
/-! ### defs by name -/
abbrev FnP (K : Fg) (x qual : Str) (st : Stmt) (f : Addr) (fd : FuncData) : Prop := FunD K x qual (defArgs st) (defBody st) (defScope st) [] [] f fd
structure Cal (P : Program) (w : World) (K : Fg) (mg : Str → Option Value) (base : Heap) (k : Nat) (x : Str) (ps : List Str) (sp : Sp) : Prop where
  ex : ∃ f fd, FnOk P w K mg base CX0 k f fd ps sp ∧ mg x = some (.ref f) ∧ PySem.W.keepIn K (.ref f) = true ∧ Binds K fd ps []
/-- a method of the class at C -/
structure MCal (P : Program) (w : World) (K : Fg) (mg : Str → Option Value) (base : Heap) (k : Nat) (C : Addr) (m : Str) (ps : List Str) (sp : Sp) : Prop where
  ex : ∃ f fd, FnOk P w K mg base CX0 k f fd ps sp ∧ Meth K C m f ∧ Binds K fd ps []
/-- a class with its __init__ -/
structure CCal (P : Program) (w : World) (K : Fg) (mg : Str → Option Value) (base : Heap) (k : Nat) (C : Addr) (x : Str) (ps : List Str) (sp : Sp) : Prop where
  ex : ∃ f fd, FnOk P w K mg base CX0 k f fd ps sp ∧ Mk K C f ∧ mg x = some (.ref C) ∧ Binds K fd ps []
theorem Cal.mono {P : Program} {w : World} {K : Fg} {mg : Str → Option Value} {base : Heap} {j k : Nat} {x : Str} {ps : List Str} {sp : Sp} (C : Cal P w K mg base j x ps sp) (h : j ≤ k) : Cal P w K mg base k x ps sp := by
  obtain ⟨f, fd, G, r⟩ := C.ex
  exact ⟨f, fd, G.mono h, r⟩
section
variable {X : Cx} {j k : Nat} {x m : Str} {ps : List Str} {sp : Sp} {e o : Expr} {es : List Expr} {t : TA} {ta : TE} {p pos apos : Pos} {C : Addr}
theorem pe_cal (c : Cal X.prog X.w X.K X.mg X.base k x ps sp) (hr : Room j X.A) (hg : Gl X x) (ha : PA X (e :: es) t) (hk : k ≤ j := by decide) (hdb : (x == ("__debug__" : Str)) = false := by decide)
    (he : starEach (e :: es) X.env = (false, eval e X.env) :: starEach es X.env := by rfl) (hpl : (backTo pos (starEach es X.env)).any (·.1) = false := by rfl) : PE X (.Call (.Name x p) (e :: es) [] pos) (tCall sp [] E0 t) := by
  obtain ⟨f, fd, G, gm, kp, b⟩ := c.ex
  exact pe_call G (hr.mono hk) hg gm kp b .nil pass0 ha hdb he hpl
theorem pe_mcal {pl : Sem Bool} (he : PE X o ta) (c : Cls X.K C) (M : MCal X.prog X.w X.K X.mg X.base k C m ps sp) (hr : Room j X.A) (ha : PA X (e :: es) t) (hk : k ≤ j := by decide)
    (hst : starEach (e :: es) X.env = (false, eval e X.env) :: starEach es X.env := by rfl) (hpl : (backTo pos (starEach es X.env)).any (·.1) = false := by rfl)
    (ht : eval (.Call (.Attribute o m apos) (e :: es) [] pos) X.env = (do
      let ov ← eval o X.env; standAt apos.atName; let (f, first) ← holding [ov] (getMethod ov m pl)
      callWith pos f first (backTo pos (starEach (e :: es) X.env)) (backToKw pos (keywordEach [] X.env))) := by rfl) : PE X (.Call (.Attribute o m apos) (e :: es) [] pos) (tMeth C m sp [] E0 ta t) := by
  obtain ⟨f, fd, G, gm, b⟩ := M.ex
  exact pe_meth he c gm G (hr.mono hk) b .nil pass0 ha hst hpl ht
theorem pe_mcal0 {pl : Sem Bool} (he : PE X o ta) (c : Cls X.K C) (M : MCal X.prog X.w X.K X.mg X.base k C m ps sp) (hr : Room j X.A) (hk : k ≤ j := by decide)
    (ht : eval (.Call (.Attribute o m apos) [] [] pos) X.env = (do
      let ov ← eval o X.env; standAt apos.atName; let (f, first) ← holding [ov] (getMethod ov m pl)
      callWith pos f first (backTo pos (starEach [] X.env)) (backToKw pos (keywordEach [] X.env))) := by rfl) : PE X (.Call (.Attribute o m apos) [] [] pos) (tMeth C m sp [] E0 ta tNil) := by
  obtain ⟨f, fd, G, gm, b⟩ := M.ex
  exact pe_meth0 he c gm G (hr.mono hk) b .nil pass0 ht
theorem pe_ccal (M : CCal X.prog X.w X.K X.mg X.base k C x ps sp) (hr : Room j X.A) (hg : Gl X x) (ha : PA X (e :: es) t) (hk : k + 1 ≤ j := by decide) (hdb : (x == ("__debug__" : Str)) = false := by decide)
    (he : starEach (e :: es) X.env = (false, eval e X.env) :: starEach es X.env := by rfl) (hpl : (backTo pos (starEach es X.env)).any (·.1) = false := by rfl) : PE X (.Call (.Name x p) (e :: es) [] pos) (tMake C sp [] E0 t) := by
  obtain ⟨f, fd, G, gm, mgx, b⟩ := M.ex
  exact pe_make gm G (hr.mono hk) hg mgx b .nil pass0 ha hdb he hpl
end
/-! ### what the module leaves alone -/
structure Bi (mg : Str → Option Value) : Prop where
  range : mg "range" = none
  len : mg "len" = none
  zip : mg "zip" = none
  sum : mg "sum" = none
  all : mg "all" = none
  any : mg "any" = none
  tuple : mg "tuple" = none
  sorted : mg "sorted" = none
  dict : mg "dict" = none
  list : mg "list" = none
  set : mg "set" = none
  int : mg "int" = none
  enumerate : mg "enumerate" = none
/-! ### data on the heap -/
theorem dp_mono {K : Fg} {H H' : Hp} (e : Ex H H') {v : V} {d : PyData} (h : Dp K H v d) : Dp K H' v d := by
  refine Dp.rec (motive_1 := fun v d _ => Dp K H' v d) (motive_2 := fun vs ds _ => DpAll K H' vs ds) ?_ ?_ ?_ ?_ ?_ ?_ ?_ ?_ h
  · exact .non
  · exact fun b => .bl b
  · exact fun i => .int i
  · exact fun x => .str x
  · exact fun hs _ ih => .lst (ex_l e hs) ih
  · exact fun hs _ ih => .tup (ex_t e hs) ih
  · exact .nil
  · exact fun _ _ i1 i2 => .cons i1 i2
theorem dpa_mono {K : Fg} {H H' : Hp} (e : Ex H H') : ∀ {vs : List V} {ds : List PyData}, DpAll K H vs ds → DpAll K H' vs ds
  | _, _, .nil => .nil
  | _, _, .cons h t => .cons (dp_mono e h) (dpa_mono e t)
theorem dpa_get {K : Fg} {H : Hp} : ∀ {vs : List V} {ds : List PyData}, DpAll K H vs ds → ∀ {i : Nat} {v : V}, vs[i]? = some v → ∃ d, ds[i]? = some d ∧ Dp K H v d
  | _, _, .nil, i, v, h => by simp at h
  | _, _, .cons h1 _, 0, v, h => by
    simp only [List.getElem?_cons_zero] at h ⊢
    cases h
    exact ⟨_, rfl, h1⟩
  | _, _, .cons _ t, i + 1, v, h => by
    simp only [List.getElem?_cons_succ] at h ⊢
    exact dpa_get t h
theorem dpa_get' {K : Fg} {H : Hp} : ∀ {vs : List V} {ds : List PyData}, DpAll K H vs ds → ∀ {i : Nat} {d : PyData}, ds[i]? = some d → ∃ v, vs[i]? = some v ∧ Dp K H v d
  | _, _, .nil, i, v, h => by simp at h
  | _, _, .cons h1 _, 0, v, h => by
    simp only [List.getElem?_cons_zero] at h ⊢
    cases h
    exact ⟨_, rfl, h1⟩
  | _, _, .cons _ t, i + 1, v, h => by
    simp only [List.getElem?_cons_succ] at h ⊢
    exact dpa_get' t h
theorem dpa_len {K : Fg} {H : Hp} : ∀ {vs : List V} {ds : List PyData}, DpAll K H vs ds → vs.length = ds.length
  | _, _, .nil => rfl
  | _, _, .cons _ t => congrArg (· + 1) (dpa_len t)
theorem dpa_app {K : Fg} {H : Hp} : ∀ {vs ws : List V} {ds es : List PyData}, DpAll K H vs ds → DpAll K H ws es → DpAll K H (vs ++ ws) (ds ++ es)
  | _, _, _, _, .nil, s => s
  | _, _, _, _, .cons h t, s => .cons h (dpa_app t s)
theorem dpa_ints {K : Fg} {H : Hp} : ∀ (ns : List Int), DpAll K H (ns.map V.int) (ns.map PyData.int)
  | [] => .nil
  | n :: ns => .cons (.int n) (dpa_ints ns)
theorem dpa_ints_eq {K : Fg} {H : Hp} : ∀ {vs : List V} {ns : List Int}, DpAll K H vs (ns.map PyData.int) → vs = ns.map V.int
  | _, [], h => by cases h; rfl
  | _, n :: ns, h => by
    cases h with
    | cons h1 t =>
      cases h1
      rw [dpa_ints_eq t] <;> rfl
/-- a tuple of ints -/
def TI (K : Fg) (H : Hp) (a : Addr) (ns : List Int) : Prop := SqT K H a (ns.map V.int)
theorem dp_ti {K : Fg} {H : Hp} {v : V} {ns : List Int} (h : Dp K H v (.tuple (ns.map .int))) : ∃ a, v = .ref a ∧ TI K H a ns := by
  cases h with
  | tup hs ha =>
    rw [dpa_ints_eq ha] at hs
    exact ⟨_, rfl, hs⟩
theorem ti_dp {K : Fg} {H : Hp} {a : Addr} {ns : List Int} (h : TI K H a ns) : Dp K H (.ref a) (.tuple (ns.map .int)) := .tup h (dpa_ints ns)
theorem TI.mono {K : Fg} {H H' : Hp} {a : Addr} {ns : List Int} (h : TI K H a ns) (e : Ex H H') : TI K H' a ns := ex_t e h
/-! ### data that comes back -/
def EvD (K : Fg) (te : TE) (σ : L2.St) (H : Hp) (d : PyData) : Prop := ∀ H1, Ex H H1 → ∀ Q : VK, (∀ v H2, Ex H1 H2 → Dp K H2 v d → Q v H2) → te σ H1 Q
/-- a new list of data -/
def EvN (K : Fg) (te : TE) (σ : L2.St) (H : Hp) (ds : List PyData) : Prop := ∀ H1, Ex H H1 → ∀ Q : VK, (∀ p vs H2, H1 p = none → Ex H1 H2 → H2 p = some (.lst vs) → DpAll K H2 vs ds → Q (.ref p) H2) → te σ H1 Q
def RetD (K : Fg) (d : PyData) (H : Hp) (Q : VK) : Prop := ∀ v H2, Ex H H2 → Dp K H2 v d → Q v H2
def RetN (K : Fg) (ds : List PyData) (H : Hp) (Q : VK) : Prop := ∀ p vs H2, H p = none → Ex H H2 → H2 p = some (.lst vs) → DpAll K H2 vs ds → Q (.ref p) H2
def SpD (K : Fg) (sp : Sp) (vs : List V) (H : Hp) (d : PyData) : Prop := ∀ H1, Ex H H1 → ∀ Q : VK, RetD K d H1 Q → ∀ E : XK, sp vs H1 Q E
def SpN (K : Fg) (sp : Sp) (vs : List V) (H : Hp) (ds : List PyData) : Prop := ∀ H1, Ex H H1 → ∀ Q : VK, RetN K ds H1 Q → ∀ E : XK, sp vs H1 Q E
section
variable {K : Fg} {te ta : TE} {tas : TA} {σ : L2.St} {H H' : Hp} {d : PyData} {ds : List PyData} {v : V} {sp : Sp} {vs : List V} {E : XK}
theorem EvD.mono (e : Ex H H') (h : EvD K te σ H d) : EvD K te σ H' d := fun H1 a Q q => h H1 (e.trans a) Q q
theorem EvN.mono (e : Ex H H') (h : EvN K te σ H ds) : EvN K te σ H' ds := fun H1 a Q q => h H1 (e.trans a) Q q
theorem evd_ev (h : Ev te σ H v) (hd : Dp K H v d) : EvD K te σ H d := fun H1 a Q q => h H1 a Q fun H2 e2 => q v H2 e2 (dp_mono (a.trans e2) hd)
theorem evd_call (h : EvA tas σ H vs) (hs : SpD K sp (vs ++ []) H d) : EvD K (tCall sp [] E tas) σ H d := fun H1 e Q q =>
  h H1 e _ fun H2 e2 => hs H2 (e.trans e2) Q (fun v H3 e3 h3 => q v H3 (e2.trans e3) h3) E
theorem evn_call (h : EvA tas σ H vs) (hs : SpN K sp (vs ++ []) H ds) : EvN K (tCall sp [] E tas) σ H ds := fun H1 e Q q =>
  h H1 e _ fun H2 e2 => hs H2 (e.trans e2) Q (fun p vs H3 hp e3 h3 h4 => q p vs H3 (fresh_back e2 hp) (e2.trans e3) h3 h4) E
theorem RetD.go {Q : VK} (k : RetD K d H Q) (e : Ex H H') {v : V} {H2 : Hp} (e2 : Ex H' H2) (h : Dp K H2 v d) : Q v H2 := k v H2 (e.trans e2) h
end
end Z7
end

section
set_option Elab.async false
set_option linter.all false
set_option maxRecDepth 100000
set_option maxHeartbeats 4000000
namespace Z7
open PySem L2 Evl
section
variable {P : Program} {w : World} {K : Fg} {mg : Str → Option Value} {base : Heap} {f : Addr} {fd : FuncData}
/-! ### raised_number, inverse -/
def spRaised : Sp := fun vs H Q _ => ∃ p x e : Int, vs = [.int p, .int x, .int e] ∧ (1 < p ∧ p < 1000) ∧ (0 ≤ e ∧ e < 1000) ∧ RetV (.int (rn p x e.toNat)) H Q
theorem ok_raised (F : FnP K "raised_number" "raised_number" sRaisedNumber f fd) (B : Bi mg) : FnOk P w K mg base CX0 1 f fd ["prime", "number", "exponent"] spRaised := by
  refine F.ok scRaisedNumber (fun vs H Q E h => ?_) (fun cdv A outer s H vs Q E hr h => ?_)
  · obtain ⟨p, x, e, rfl, _⟩ := h
    rfl
  · obtain ⟨p, x, e, rfl, hp, he, k⟩ := h
    refine ⟨_, PSs.nox (pss_cons (ps_set (i := 3) scRaisedNumber.nd rfl (.inl rfl) pe_int)
      (pss_cons (ps_for PassesOwn.never rfl (pi_range1 rfl B.range (pa_cons (pv 2) pa_nil)) (pg_name (i := 4) scRaisedNumber.nd rfl (.inl rfl))
        (pss_one (ps_set (i := 3) scRaisedNumber.nd rfl (.inl rfl) (pe_op op_mod (pe_op op_mul (pv 3) (pv 1)) (pv 0)))))
      (pss_one (ps_ret (pv 3))))), ?_⟩
    refine q_asg ev_c fun H1 e1 => ?_
    refine q_forR1 (n := e) (ea_cons (ev_var rfl) ea_nil) ⟨he.1, by omega⟩ (fun i σ H' => Ex H H' ∧ ∃ z, σ = [some (.int p), some (.int x), some (.int e), some (.int (rn p x i)), z]) (fun H2 e2 => ⟨e1.trans e2, none, rfl⟩) ?_ ?_
    · rintro i σ H' hi ⟨ex, z, rfl⟩
      have hb := rn_bd hp.1 x i
      exact s_asg (ev_op (ev_op (ev_var rfl) (ev_var rfl) (rv_I (.inl ⟨by omega, by omega⟩))) (ev_var rfl) (rv_I (show 0 < p by omega))) fun H2 e2 => ⟨ex.trans e2, _, rfl⟩
    · rintro σ H' ⟨ex, z, rfl⟩
      exact s_ret (ev_var rfl) fun H2 e2 => k H2 (ex.trans e2)
def spInverse : Sp := fun vs H Q _ => ∃ p x : Int, vs = [.int p, .int x] ∧ (1 < p ∧ p < 1000) ∧ RetV (.int (rn p x (p - 2).toNat)) H Q
theorem ok_inverse (F : FnP K "inverse" "inverse" sInverse f fd) (C : Cal P w K mg base 1 "raised_number" ["prime", "number", "exponent"] spRaised) : FnOk P w K mg base CX0 2 f fd ["prime", "number"] spInverse := by
  refine F.ok scInverse (fun vs H Q E h => ?_) (fun cdv A outer s H vs Q E hr h => ?_)
  · obtain ⟨p, x, rfl, _⟩ := h
    rfl
  · obtain ⟨p, x, rfl, hp, k⟩ := h
    refine ⟨_, PSs.nox (pss_one (ps_ret (pe_cal C hr rfl (pa_cons (pv 0) (pa_cons (pv 1) (pa_cons (pe_op op_sub (pv 0) pe_int) pa_nil)))))), ?_⟩
    exact s_ret (ev_call (ea_cons (ev_var rfl) (ea_cons (ev_var rfl) (ea_cons (ev_op (ev_var rfl) ev_c rv_I0) ea_nil))) fun H1 e1 Q q E => ⟨p, x, p - 2, rfl, hp, by omega, q⟩) fun H2 e2 => k H2 e2
end
end Z7
end

section
set_option Elab.async false
set_option linter.all false
set_option maxRecDepth 100000
set_option maxHeartbeats 4000000
namespace Z7
open PySem L2 Evl
/-! ### what no store touches -/
def hard : HO → Bool
  | .lst _ => false
  | .dK _ => false
  | .dT _ => false
  | .set _ _ => false
  | _ => true
def TEx (H H' : Hp) : Prop := ∀ a o, H a = some o → hard o = true → H' a = some o
theorem TEx.of {H H' : Hp} (e : Ex H H') : TEx H H' := fun a o h _ => e a o h
theorem TEx.refl (H : Hp) : TEx H H := fun _ _ h _ => h
theorem TEx.trans {H H1 H2 : Hp} (a : TEx H H1) (b : TEx H1 H2) : TEx H H2 := fun x o h k => b x o (a x o h k) k
theorem TEx.upd {H : Hp} {D : Addr} {o o' : HO} (h : H D = some o) (hs : hard o = false) : TEx H (upd H D o') := fun a u e k => by
  rw [upd_ne (fun z => by
    rw [z, h] at e
    cases e
    rw [hs] at k
    cases k)]
  exact e
def Stab (P : V → Hp → Prop) : Prop := ∀ v H H', TEx H H' → P v H → P v H'
mutual
def noL : PyData → Bool
  | .list _ => false
  | .tuple ds => noLs ds
  | _ => true
def noLs : List PyData → Bool
  | [] => true
  | d :: ds => noL d && noLs ds
end
theorem tx_rd {H H' : Hp} (e : TEx H H') {a : Addr} {xs : List V} (h : Rd H a (.tup xs)) : Rd H' a (.tup xs) := by
  rcases h with h | ⟨o, h⟩
  · exact .inl (e a _ h rfl)
  · exact .inr ⟨o, e a _ h rfl⟩
theorem tx_t {K : Fg} {H H' : Hp} (e : TEx H H') {a : Addr} {xs : List V} (h : SqT K H a xs) : SqT K H' a xs := by
  rcases h with h | h
  · exact .inl (tx_rd e h)
  · exact .inr h
mutual
theorem dp_tex {K : Fg} {H H' : Hp} (e : TEx H H') : ∀ {v : V} (d : PyData), noL d = true → Dp K H v d → Dp K H' v d
  | _, .none, _, h => by cases h; exact .non
  | _, .bool b, _, h => by cases h; exact .bl b
  | _, .int i, _, h => by cases h; exact .int i
  | _, .str x, _, h => by cases h; exact .str x
  | _, .list _, n, _ => by simp [noL] at n
  | _, .tuple ds, n, h => by
    have n' : noLs ds = true := by
      rw [noL] at n
      exact n
    cases h with
    | tup hs ha => exact .tup (tx_t e hs) (dpa_tex e ds n' ha)
theorem dpa_tex {K : Fg} {H H' : Hp} (e : TEx H H') : ∀ {vs : List V} (ds : List PyData), noLs ds = true → DpAll K H vs ds → DpAll K H' vs ds
  | _, [], _, h => by cases h; exact .nil
  | _, d :: ds, n, h => by
    have n' : noL d = true ∧ noLs ds = true := by
      rw [noLs, Bool.and_eq_true] at n
      exact n
    cases h with
    | cons h1 h2 => exact .cons (dp_tex e d n'.1 h1) (dpa_tex e ds n'.2 h2)
end
theorem noLs_all : ∀ {ds : List PyData}, (∀ d ∈ ds, noL d = true) → noLs ds = true
  | [], _ => by rw [noLs]
  | d :: ds, h => by
    rw [noLs, h d List.mem_cons_self, noLs_all fun x hx => h x (List.mem_cons_of_mem _ hx)]
    rfl
theorem noLs_ints (ns : List Int) : noLs (ns.map .int) = true := noLs_all fun d hd => by
  obtain ⟨n, _, rfl⟩ := List.mem_map.mp hd
  simp [noL]
def ptD (x : Pt) : PyData := .tuple (x.map .int)
theorem noL_pt (x : Pt) : noL (ptD x) = true := by
  unfold ptD
  rw [noL]
  exact noLs_ints x
theorem stab_dp {K : Fg} {d : PyData} (h : noL d = true) : Stab fun v H => Dp K H v d := fun _ _ _ e k => dp_tex e d h k
/-! ### any property -/
def EvP (te : TE) (σ : L2.St) (H : Hp) (P : V → Hp → Prop) : Prop := ∀ H1, Ex H H1 → ∀ Q : VK, (∀ v H2, Ex H1 H2 → P v H2 → Q v H2) → te σ H1 Q
abbrev AllP (Ps : List (V → Hp → Prop)) (vs : List V) (H : Hp) : Prop := Paired (fun (P : V → Hp → Prop) v => P v H) Ps vs
theorem AllP.mono {H H' : Hp} (e : TEx H H') : ∀ {Ps : List (V → Hp → Prop)} {vs : List V}, (∀ P ∈ Ps, Stab P) → AllP Ps vs H → AllP Ps vs H'
  | _, _, _, .nil => .nil
  | _, _, hs, .cons h t => .cons (hs _ List.mem_cons_self _ _ _ e h) (AllP.mono e (fun P hP => hs P (List.mem_cons_of_mem _ hP)) t)
theorem AllP.snoc {H : Hp} {P : V → Hp → Prop} {v : V} (h : P v H) : ∀ {Ps : List (V → Hp → Prop)} {vs : List V}, AllP Ps vs H → AllP (Ps ++ [P]) (vs ++ [v]) H
  | _, _, .nil => .cons h .nil
  | _, _, .cons a t => .cons a (AllP.snoc h t)
theorem AllP.dp {K : Fg} {H : Hp} : ∀ {ds : List PyData} {vs : List V}, AllP (ds.map fun d v H => Dp K H v d) vs H → DpAll K H vs ds
  | [], _, h => by cases h; exact .nil
  | d :: ds, _, h => by
    cases h with
    | cons a t => exact .cons a (AllP.dp t)
theorem AllP.len {H : Hp} {Ps : List (V → Hp → Prop)} {vs : List V} (h : AllP Ps vs H) : Ps.length = vs.length := Paired.length h
def Evlp (te : TE) (σ : L2.St) (H : Hp) (Ps : List (V → Hp → Prop)) : Prop := ∀ H1, Ex H H1 → ∀ Q : VK, (∀ p vs H2, H1 p = none → Ex H1 H2 → H2 p = some (.lst vs) → AllP Ps vs H2 → Q (.ref p) H2) → te σ H1 Q
def gvn {α : Type} (n : Nat) (f : Nat → Bool) (F : Nat → α) : List α := ((List.range n).filter f).map F
theorem gvn_yes {α : Type} {n : Nat} {f : Nat → Bool} {F : Nat → α} (h : f n = true) : gvn (n + 1) f F = gvn n f F ++ [F n] := by
  unfold gvn
  rw [List.range_succ, List.filter_append, List.map_append, List.filter_cons, if_pos h] <;> rfl
theorem gvn_no {α : Type} {n : Nat} {f : Nat → Bool} {F : Nat → α} (h : f n = false) : gvn (n + 1) f F = gvn n f F := by
  unfold gvn
  rw [List.range_succ, List.filter_append, List.map_append, List.filter_cons, if_neg (by rw [h]; decide)]
  exact List.append_nil _
theorem gvn_len {α : Type} (n : Nat) (f : Nat → Bool) (F : Nat → α) : (gvn n f F).length ≤ n := by
  have h := List.length_filter_le f (List.range n)
  rw [List.length_range] at h
  unfold gvn
  rw [List.length_map]
  exact h
theorem gvn_all {α : Type} (n : Nat) (F : Nat → α) : gvn n (fun _ => true) F = (List.range n).map F := by
  unfold gvn
  rw [List.filter_eq_self.mpr fun _ _ => rfl]
theorem gvn_map {α β : Type} (n : Nat) (f : Nat → Bool) (F : Nat → α) (G : α → β) : (gvn n f F).map G = gvn n f fun i => G (F i) := by
  unfold gvn
  rw [List.map_map] <;> rfl
/-- the tail of a comprehension's reading, behind its source -/
def lcT (J : It) (g : L2.TG) (tt : TT) (te : TE) (vs : List Nat) (σ : L2.St) (H : Hp) (Q : VK) : Prop := ∀ D, H D = none → ∃ W : Nat → Nat → Hp → Prop, (∃ m, W 0 m (upd H D (.lst []))) ∧ ∀ i m H, W i m H →
  (J.stop i H ∧ Q (.ref D) H) ∨ (J.go i H ∧ ∃ Nx : Hp → Prop, (∀ H', Nx H' → ∃ m', m' < m ∧ W (i + 1) m' H') ∧ ∀ x H', J.yld i H x H' → g x (wipe σ vs) H' fun σ2 H2 => wipe σ2 vs = wipe σ vs ∧ tt σ2 H2 fun b H3 =>
    if b = true then te σ2 H3 fun y H4 => ∃ acc, H4 D = some (.lst acc) ∧ acc.length < sizeLine ∧ Nx (upd H4 D (.lst (acc ++ [y]))) else Nx H3)
theorem lc_go {J : It} {n : Nat} {G : Hp → Prop} {Y : Nat → Hp → V → Hp → Prop} {g : L2.TG} {t : TT} {te : TE} {vs : List Nat} {σ : L2.St} {H : Hp} (f : Nat → Bool) (Pr : Nat → V → Hp → Prop) (w : Walk J n G Y) (hn : n ≤ 40000)
    (hG : ∀ H', Ex H H' → G H') (hst : ∀ i, Stab (Pr i))
    (hb : ∀ i x H1 H2, i < n → Ex H H1 → Y i H1 x H2 → Ex H1 H2 ∧ ∃ σ2, (∀ R : L2.St → Hp → Prop, R σ2 H2 → g x (wipe σ vs) H2 R) ∧ wipe σ2 vs = wipe σ vs ∧ EvT t σ2 H2 (f i) ∧ (f i = true → EvP te σ2 H2 (Pr i)))
    {Q : VK} (k : ∀ p ws H2, H p = none → Ex H H2 → H2 p = some (.lst ws) → AllP (gvn n f Pr) ws H2 → Q (.ref p) H2) : lcT J g t te vs σ H Q := fun D hD => by
  refine lc_it w (fun i H' => Ex H H' ∧ ∃ acc, H' D = some (.lst acc) ∧ AllP (gvn i f Pr) acc H') ⟨Ex.new hD, [], upd_same, .nil⟩ (fun i H' _ p => hG H' p.1) (fun i x H1 H2 hi p hy => ?_) (fun H' p => ?_)
  · obtain ⟨e1, acc, ha, hp⟩ := p
    obtain ⟨e2, σ2, hg, hw, ht, he⟩ := hb i x H1 H2 hi e1 hy
    refine hg _ ⟨hw, ht H2 (Ex.refl H2) _ fun H3 e3 => ?_⟩
    have hS : ∀ i, ∀ P ∈ gvn i f Pr, Stab P := fun i P hP => by
      obtain ⟨j, _, rfl⟩ := List.mem_map.mp hP
      exact hst j
    cases hf : f i with
    | true =>
      rw [if_pos rfl]
      refine he hf H3 e3 _ fun v H4 e4 hv => ?_
      have e14 : Ex H1 H4 := (e2.trans e3).trans e4
      have hl := hp.len
      have hgl := gvn_len i f Pr
      refine ⟨acc, e14 D _ ha, sz_lt (by omega), Ex.mut (e1.trans e14) hD, acc ++ [v], upd_same, ?_⟩
      have tu : TEx H4 (upd H4 D (.lst (acc ++ [v]))) := TEx.upd (e14 D _ ha) rfl
      rw [gvn_yes hf]
      exact AllP.snoc (hst i _ _ _ tu hv) (hp.mono ((TEx.of e14).trans tu) (hS i))
    | false =>
      rw [if_neg (by decide)]
      rw [gvn_no hf]
      exact ⟨(e1.trans e2).trans e3, acc, e3 D _ (e2 D _ ha), hp.mono (TEx.of (e2.trans e3)) (hS i)⟩
  · obtain ⟨e1, acc, ha, hp⟩ := p
    exact k D acc H' hD e1 ha hp
/-- a pair into two names -/
theorem gtup2 {K : Fg} {H : Hp} {a : Addr} {x y : V} {i j : Nat} {σ : L2.St} {R : L2.St → Hp → Prop} (h : SqT K H a [x, y]) (r : R ((σ.set i (some x)).set j (some y)) H) : gTup K 2 (gCons (gName i) (gCons (gName j) gNil)) (.ref a) σ H R :=
  ⟨a, [x, y], rfl, h, rfl, x, [y], rfl, y, [], rfl, rfl, r⟩
theorem gtup3 {K : Fg} {H : Hp} {a : Addr} {x y z : V} {i j l : Nat} {σ : L2.St} {R : L2.St → Hp → Prop} (h : SqT K H a [x, y, z]) (r : R (((σ.set i (some x)).set j (some y)).set l (some z)) H) : gTup K 3 (gCons (gName i) (gCons (gName j) (gCons (gName l) gNil))) (.ref a) σ H R :=
  ⟨a, [x, y, z], rfl, h, rfl, x, [y, z], rfl, y, [z], rfl, z, [], rfl, rfl, r⟩
/-- no test -/
theorem et_yes {σ : L2.St} {H : Hp} : EvT tYes σ H true := fun H1 _ _ q => q H1 (Ex.refl H1)
end Z7
end

section
set_option Elab.async false
set_option linter.all false
set_option maxRecDepth 100000
set_option maxHeartbeats 4000000
namespace Z7
open PySem PySem.Spec PyProof.Rows L2
/-! ### any(..) of ints -/
theorem truthI {prog : Program} {w : World} {A : Around} : ∀ {ns : List Int} {its : List Value}, Vals (ns.map V.int) its → TruthOf prog w A (fun i v => its.toArray[i]? = some v) (fun i => ns.getD i 0 != 0) := fun {ns its} r i v s Q E hv hq => by
  have g1 : its[i]? = some v := by simpa using hv
  cases hn : ns[i]? with
  | none =>
    have g2 : (ns.map V.int)[i]? = none := by rw [List.getElem?_map, hn]; rfl
    rw [Vals.none_of r g2] at g1
    cases g1
  | some n =>
    have g2 : (ns.map V.int)[i]? = some (.int n) := by rw [List.getElem?_map, hn]; rfl
    obtain ⟨u, g3, t, rfl⟩ := Vals.get r g2
    rw [g3] at g1
    cases g1
    have g4 : ns.getD i 0 = n := by rw [List.getD_eq_getElem?_getD, hn]; rfl
    have hq2 : Q (ns.getD i 0 != 0) s := hq
    rw [g4] at hq2
    exact PySem.P.truthy_int hq2
theorem any_rangeI : ∀ ns : List Int, (List.range ns.length).any (fun i => ns.getD i 0 != 0) = ns.any fun n => n != 0
  | [] => rfl
  | n :: ns => by
    rw [List.length_cons, List.range_succ_eq_map, List.any_cons, List.any_map, List.any_cons, ← any_rangeI ns]
    rfl
def rAnyI (K : Fg) : List V → Hp → VK → Prop := fun vs H Q => ∃ (a : Addr) (ns : List Int), vs = [V.ref a] ∧ SqL K H a (ns.map V.int) ∧ Q (.bl (ns.any fun n => n != 0)) H
theorem cr_anyI {X : Cx} (hc : X.calm = true) : CallR X (.builtin "any") (rAnyI X.K) := by
  intro pins s σ H vs us Q I r h
  obtain ⟨a, ns, rfl, hs, q⟩ := h
  obtain ⟨its, rv, hl, _⟩ := I.list hs
  rw [Vals.ref1 r]
  refine call_any_walk (iter_any hl.isList fun z e2 st hne => ?_)
  subst e2
  have hw := Walks.list (prog := X.prog) (w := X.w) (A := X.A.in1) (I.ok.hd hc) s.heap.objs.size a hne its.toArray
  refine ⟨_, _, _, _, _, _, _, rfl, hw, st, truthI rv, fun h' tk hk => ⟨.bl _, H, I.kept fun b o eo => hk b o (fun hm => ?_) (Heap.get?_push_of_some _ eo), ?_, q⟩⟩
  · rcases List.mem_cons.mp hm with e1 | hm
    · exact Nat.lt_irrefl _ (e1 ▸ Heap.lt_size eo)
    · cases hm
  · show Value.bool _ = Value.bool _
    have hlen : its.toArray.size = ns.length := by rw [List.size_toArray, ← rv.length, List.length_map]
    rw [hlen, any_rangeI]

/-! ### a dict whose keys are tuples, walked by its items -/
theorem frzT2 {X : Cx} {pins : List (Addr × Obj)} {σ : L2.St} {H : Hp} {s : Shared} {d : Addr} {o : Obj} {kvs : List (List Key × V)} (I : Inv X pins σ H s) (h : H d = some (.frz o (.dT kvs))) :
    (d == sysModules) = false ∧ ∃ (es : Array DictEntry) (ep : Nat), o.data = .dict es ep ∧ es.size = kvs.length ∧ DT.Raw s.heap d es ep ∧
      ∀ (i : Nat) (k : List Key) (v : V), kvs[i]? = some (k, v) → ∃ (en : DictEntry) (q : Addr), es[i]? = some en ∧ en.key = .ref q ∧ H q = some (.tup (k.map kV)) ∧ RelV v en.val := by
  obtain ⟨hd, z, hs, xs, pr, o', es, ep, ho, hx, hdt, he, _⟩ := I.hok d _ h
  rw [hd] at ho
  cases ho
  have l1 : es.size = xs.length := size_of_entries he
  have l2 : kvs.length = xs.length := Paired.length pr
  refine ⟨hs, es, ep, hdt, by omega, ⟨o, hd, hx, hdt⟩, fun i k v e => ?_⟩
  obtain ⟨b, hb, e1, e2, e3⟩ := paired_get pr e
  have q := entry_at he i
  rw [hb] at q
  exact ⟨_, b.2.1, q, rfl, e2, e3⟩
/-- the items of the locked dict at d: each a new pair of the key's own tuple and the value -/
def ItiT (d : Addr) (o : Obj) (kvs : List (List Key × V)) : It :=
  ⟨fun i H => H d = some (.frz o (.dT kvs)) ∧ i < kvs.length,
   fun i H x H' => ∃ (T q : Addr) (k : List Key) (v : V), kvs[i]? = some (k, v) ∧ x = .ref T ∧ H q = some (.tup (k.map kV)) ∧ H T = none ∧ H' = upd H T (.tup [.ref q, v]),
   fun i H => H d = some (.frz o (.dT kvs)) ∧ kvs.length ≤ i⟩
theorem turn_itemsT {P : Program} {w : World} {K : Fg} {d : Addr} {o : Obj} {es : Array DictEntry} {ep : Nat} {kvs : List (List Key × V)} {elts : List Expr} {kk : Nat} {tpos : Pos} (it : Addr) (hod : o.data = .dict es ep) :
    Turn P w K (.Tuple elts kk tpos) (ItiT d o kvs) [it] it (fun i h => ∃ ok ov, IsItemIter h it d i kvs.length ep ok ov) where
  mem := List.mem_singleton.mpr rfl
  obj := fun i h st b hb => by
    rw [List.mem_singleton.mp hb]
    obtain ⟨ok, ov, e⟩ := st
    exact ⟨_, e, fun v z => nomatch z⟩
  keep := fun i h h' st k => let ⟨ok, ov, e⟩ := st; ⟨ok, ov, k it (List.mem_singleton.mpr rfl) _ e⟩
  item := by
    intro X hP hw hK hc i pins s σ H E I hf st hg
    subst hP hw hK
    obtain ⟨hd, hi⟩ := hg
    obtain ⟨hs, es', ep', hdt, hsz, raw, ent⟩ := frzT2 I hd
    obtain ⟨rfl, rfl⟩ := dict_ep hod hdt
    obtain ⟨⟨k, v⟩, hkv⟩ : ∃ z, kvs[i]? = some z := ⟨kvs[i], List.getElem?_eq_getElem hi⟩
    obtain ⟨en, q, hen, hkey, hq, rv⟩ := ent i k v hkv
    obtain ⟨ok, ov, he⟩ := st
    have hlt : it < s.heap.objs.size := Heap.lt_size he
    have his : i < es'.size := by omega
    have een : es'[i] = en := by
      rw [Array.getElem?_eq_getElem his] at hen
      exact Option.some.inj hen
    rw [← hsz] at he
    refine DT.nextI he raw his fun h' ho hT hz hk => ⟨_, rfl, wpAny_letOwnedTupleGo_items (s := { s with heap := h' }) ho fun h2 he' sb => ?_⟩
    have hT2 : h2.get? s.heap.objs.size = some { cls := .type "tuple", data := .seq #[.ref q, en.val] } := by
      have z := (sb.2 _ (Nat.ne_of_gt hlt)).trans hT
      rw [een, hkey] at z
      exact z
    have ob : ObjOk X.prog X.w (upd H s.heap.objs.size (.tup [.ref q, v])) h2 s.heap.objs.size (.tup [.ref q, v]) :=
      ⟨by show 2 ≤ sizeLine; decide, [.ref q, en.val], .cons rfl (.cons rv .nil), ⟨_, hT2, rfl, _, rfl⟩⟩
    have J := I.turnedNew (t' := s.toks) (h' := h2) (ch := [it]) (fun b u hb e => (sb.2 b (fun z => hb (List.mem_singleton.mpr z))).trans (hk b u (fun z => hb (List.mem_singleton.mpr z)) e)) hf (Nat.le_refl _) ob
    refine ⟨.ref s.heap.objs.size, _, J, rfl, ⟨_, q, k, v, hkv, rfl, hq, I.hok.fresh (Nat.le_refl _), rfl⟩, ⟨_, _, by rw [← hsz]; exact he'⟩, fun b hb => ?_⟩
    rw [List.mem_singleton.mp hb, upd_ne (Nat.ne_of_lt hlt)]
    exact (hf it (List.mem_singleton.mpr rfl)).1
  done := by
    intro X hP hw hK hc i pins s σ H E I hf st hg
    subst hP hw hK
    obtain ⟨hd, hi⟩ := hg
    obtain ⟨f0, f1, f2, f3, f4, f5⟩ := hf it (List.mem_singleton.mpr rfl)
    obtain ⟨hs, es', ep', hdt, hsz, raw, ent⟩ := frzT2 I hd
    obtain ⟨rfl, rfl⟩ := dict_ep hod hdt
    obtain ⟨ok, ov, he⟩ := st
    rw [← hsz] at he
    exact DT.endI (I.ok.hd hc) he raw (by omega) fun h' eb => ⟨rfl, I.turned (t' := s.toks) (fun b u hb e => eb b u hb e) f0 f1 f3 f4 f5⟩
  self := fun A i s Q E st h => let ⟨_, _, e⟩ := st; PySem.W.kcp_self e h
def iItemsT (td : TE) : L2.TI := fun σ H R => td σ H fun x H1 => ∃ d o kvs, x = .ref d ∧ H1 d = some (.frz o (.dT kvs)) ∧ R (ItiT d o kvs) H1
theorem pi_itemsT {X : Cx} {e : Expr} {td : TE} {apos cpos tpos : Pos} {elts : List Expr} {kk : Nat} (he : PE X e td) (hbase : attributeBase e "items" X.env (eval e X.env) = eval e X.env := by rfl) (hline : (apos.endLine == cpos.line) = true := by rfl) :
    PI X (.Tuple elts kk tpos) (.Call (.Attribute e "items" apos) [] [] cpos) (iItemsT td) := by
  refine ⟨fun pins s σ H R I h => wpAny_Call_method (T := "dict") (id := "dict.items") hbase rfl hline F.plainAttrs_dict F.slot_dict_items F.type_dict_items (thn (he.run pins s σ H _ I h) fun u s1 ⟨x, H1, I1, rx, d, o, kvs, ex, hd, q⟩ => ?_)⟩
  subst ex
  cases (show u = Value.ref d from rx)
  obtain ⟨hs, es, ep, hdt, hsz, raw, ent⟩ := frzT2 I1 hd
  refine ⟨raw.typeIs, fun b e2 => ?_, ?_⟩
  · cases e2
    obtain ⟨o', ho', hx, _⟩ := id raw
    exact ⟨o', ho', hx.2.1⟩
  · have I2 : Inv X pins σ H1 { s1 with heap := s1.heap.push { cls := .type "dict_items", data := .fields #[.ref d] } } := I1.kept (t' := s1.toks) fun b u z => Heap.get?_push_of_some _ z
    have fin : wpAny (model X.prog X.w) X.A (pyIter (.ref s1.heap.objs.size)) (PIE X pins σ (.Tuple elts kk tpos) R) X.xe { s1 with heap := s1.heap.push { cls := .type "dict_items", data := .fields #[.ref d] } } := by
      refine DT.iterI (d := d) ⟨_, Heap.get?_push_size _ rfl, rfl, rfl⟩ (raw.push _) (pi_one (tk := s1.toks) I2 _ (turn_itemsT _ hdt) ⟨.none, .none, ?_⟩ q)
      rw [← hsz]
      exact Heap.get?_push_size _ rfl
    show wpAny _ _ (callWith cpos (.builtin "dict.items") [.ref d] [] []) _ X.xe s1
    exact method_meetsIn F.slot_dict_items F.entry_dict_items rfl (PySem.evalArgs_none ⟨rfl, raw.typeIs, F.args_dict_items_1 _, _, DT.meetsItems (es := es) (ep := ep) hs, ⟨raw, fin⟩⟩)
end Z7
end

section
set_option Elab.async false
set_option linter.all false
set_option maxRecDepth 100000
set_option maxHeartbeats 4000000
namespace Z7
open PySem PySem.Spec PyProof.Rows L2
/-! ### {k: v for .. in ..}, the keys tuples -/
theorem dt_set {X : Cx} {A : Around} {pins : List (Addr × Obj)} {σ : L2.St} {H : Hp} {s : Shared} {E : Value → Shared → Prop} {D b : Addr} {kvs : List (List Key × V)} {k : List Key} {v : V} {u r : Value} {Q : Unit → Shared → Prop} (hu : A.units < cLine) (I : Inv X pins σ H s)
    (hD : H D = some (.dT kvs)) (hb : H b = some (.tup (k.map kV))) (hz : kvs.length < sizeLine) (ry : RelV (.ref b) u) (rv : RelV v r) (h : ∀ s', Inv X pins σ (upd H D (.dT (putK kvs k v))) s' → Q () s') : wpAny (model X.prog X.w) A (dictSet D u r) Q E s := by
  cases (show u = Value.ref b from ry)
  obtain ⟨z, hd, xs, rel, dd⟩ := dt_of I.hok hD
  have l1 : xs.length ≤ sizeLine := by
    rw [← Paired.length rel]
    exact z
  have l2 : (putK kvs k v).length ≤ sizeLine := by
    have := length_putK kvs k v
    omega
  refine wpAny_dictSet_heap (hsz := l1) (knd := tupleKind (mixKind X.prog X.w)) (show A.units < cLine from hu) (key_of I.hok hb) dd fun h' d2 hs => h _ ?_
  obtain ⟨q, es, ep, hq, h2, h3, h4, _, h5⟩ := d2
  refine d_write I (by rw [hD]; exact True.intro) hs ⟨q, hq⟩ ⟨l2, hd, _, (rel.put k hb rv).keeps fun c ys ec => ?_, q, es, ep, hq, h2, h3, h4, h5⟩
  rw [upd_ne (ne_of ec hD fun z => nomatch z)]
  exact ec
section
variable {X : Cx}
/-- the tail of the reading, behind the source -/
def dcTail (J : It) (g : L2.TG) (tk tv : TE) (vs : List Nat) (σ : L2.St) (H : Hp) (Q : VK) : Prop := ∀ D, H D = none → ∃ W : Nat → Nat → Hp → Prop, (∃ m, W 0 m (upd H D (.dT []))) ∧ ∀ i m H, W i m H →
  (J.stop i H ∧ Q (.ref D) H) ∨ (J.go i H ∧ ∃ N : Hp → Prop, (∀ H', N H' → ∃ m', m' < m ∧ W (i + 1) m' H') ∧ ∀ x H', J.yld i H x H' → g x (wipe σ vs) H' fun σ2 H2 => wipe σ2 vs = wipe σ vs ∧
    tk σ2 H2 fun y H3 => tv σ2 H3 fun z H4 => ∃ kvs k b, y = .ref b ∧ H4 b = some (.tup (k.map kV)) ∧ H4 D = some (.dT kvs) ∧ kvs.length < sizeLine ∧ N (upd H4 D (.dT (putK kvs k z))))
def tDcT (wi : L2.TI) (g : L2.TG) (tk tv : TE) (vs : List Nat) : TE := fun σ H Q => wi σ H fun J H1 => dcTail J g tk tv vs σ H1 Q
theorem pe_dcT {kx vx tg iter : Expr} {scope : Scope} {own : List (Str × Nat)} {pos : Pos} {wi : L2.TI} {g : L2.TG} {tk tv : TE} (hc : X.calm = true) (hu : X.A.units < cLine) (hN : X.N.Nodup) (hi : PI X tg iter wi) (ok : BlkOk X.N X.env.scope scope own)
    (hg : ∀ (s : Shared) (H : Hp) (C : Addr) (cl : List (Str × Addr)) (fp : List Addr), PG (X.blk s H scope (compEnvC scope cl C X.env) fp) tg g)
    (hk : ∀ (s : Shared) (H : Hp) (C : Addr) (cl : List (Str × Addr)) (fp : List Addr), PE (X.blk s H scope (compEnvC scope cl C X.env) fp) kx tk)
    (he : ∀ (s : Shared) (H : Hp) (C : Addr) (cl : List (Str × Addr)) (fp : List Addr), PE (X.blk s H scope (compEnvC scope cl C X.env) fp) vx tv) (hs : ∀ x, foldedSetIterable iter X.env x = pure x := by intro _; rfl) :
    PE X (.DictComp kx vx [⟨tg, iter, [], 0⟩] scope pos) (tDcT wi g tk tv (own.map (·.2))) := by
  refine ⟨fun pins s σ H Q I h => ?_⟩
  rw [arm_eval_DictComp]
  have fr : ∀ y ∈ scope.names, y.2 = .free → ∃ c, X.env.cells.lookup y.1 = some c := fun y hy e => (ok.free y hy e).elim (fun z => I.ok.has _ (.inl z)) fun z => I.ok.has _ (.inr z)
  refine wpAny_comprehension_free (use := none) rfl hs (closure_ok fr) ok.kind (fun y hy e => by rw [ok.uniq y hy, e]) (thn (hi.run pins s σ H _ I h) fun xv s1 hx => thn hx fun itv s2 ⟨it, fp, tn, J, H2, e, I2, T, t2, f2, q⟩ => ?_)
  subst e
  refine wpAny_newObj_type (newEnv_comp ?_)
  generalize hD : s2.heap.objs.size = D
  have dn : H2 D = none := I2.hok.fresh (Nat.le_of_eq hD)
  obtain ⟨W, ⟨m0, w0⟩, turn⟩ := q D dn
  generalize e3 : ({ s2 with heap := s2.heap.push { cls := .type "dict", data := .dict #[] } } : Shared) = t3
  have hp3 : t3.heap = s2.heap.push { cls := .type "dict", data := .dict #[] } := by rw [← e3]
  generalize eH : upd H2 D (.dT []) = G at w0
  have J3 : Inv X pins σ G t3 := by
    rw [← e3, ← eH]
    refine I2.laid (t' := s2.toks) (fun b o z => Heap.get?_push_of_some _ z) (Nat.le_of_eq hD) ?_
    rw [← hD]
    exact dt_empty s2.heap I2.big
  have small : ∀ b ∈ fp, b < s2.heap.objs.size := fun b hb => let ⟨o, z, _⟩ := T.obj _ _ t2 b hb; Heap.lt_size z
  have f3 : ∀ b ∈ fp, FpOk X pins G b ∧ b < t3.heap.objs.size := fun b hb => by
    have lt := small b hb
    have gb : G b = none := by
      rw [← eH, upd_ne (by rw [← hD]; exact Nat.ne_of_lt lt)]
      exact (f2 b hb).1
    exact ⟨⟨gb, (f2 b hb).2⟩, by rw [hp3, Heap.size_push]; exact Nat.lt_succ_of_lt lt⟩
  have t3' : tn 0 t3.heap := T.keep _ _ _ t2 fun b _ o z => by rw [hp3]; exact Heap.get?_push_of_some _ z
  have J4 := block_start J3 ok hN f3
  have PGb := hg t3 G t3.heap.objs.size (cellsFrom (t3.heap.objs.size + 1) scope.names (cloFrom X.env.cells scope.names [])) fp
  have PKb := hk t3 G t3.heap.objs.size (cellsFrom (t3.heap.objs.size + 1) scope.names (cloFrom X.env.cells scope.names [])) fp
  have PEb := he t3 G t3.heap.objs.size (cellsFrom (t3.heap.objs.size + 1) scope.names (cloFrom X.env.cells scope.names [])) fp
  show codeAny _ _ (.compStart (.DictComp kx vx [⟨tg, iter, [], 0⟩] scope pos) 0 (.ref it) (.ref D) (compEnvC scope (cellsFrom (t3.heap.objs.size + 1) scope.names (cloFrom X.env.cells scope.names [])) t3.heap.objs.size X.env)) (compPost (model X.prog X.w) X.A X.xe none (EP X pins σ Q) (.ref D) t3.heap.objs.size) { t3 with heap := pushCells (t3.heap.push { cls := .type "dict", data := .dict #[] }) scope.names }
  have nf3 : ∀ b ∈ fp, G b = none := fun b hb => (f3 b hb).1.1
  generalize hce : compEnvC scope (cellsFrom (t3.heap.objs.size + 1) scope.names (cloFrom X.env.cells scope.names [])) t3.heap.objs.size X.env = ce at J4 PGb PKb PEb ⊢
  have cL : ce.locals = t3.heap.objs.size := by rw [← hce]; rfl
  generalize e4 : ({ t3 with heap := pushCells (t3.heap.push { cls := .type "dict", data := .dict #[] }) scope.names } : Shared) = t4 at J4 ⊢
  have t4' : tn 0 t4.heap := T.keep _ _ _ t3' fun b _ o z => by rw [← e4]; exact pushCells_keeps _ _ _ _ (Heap.get?_push_of_some _ z)
  have own_ : ∀ {σ' : L2.St} {H' : Hp} {s' : Shared}, Inv (X.blk t3 G scope ce fp) [] σ' H' s' → (∀ b ∈ fp, H' b = none) → ∀ b ∈ fp, FpOk (X.blk t3 G scope ce fp) [] H' b := fun {σ' H' s'} J' n b hb =>
    ⟨n b hb, (J'.ok.exf b hb).1, J'.ok.exfs b hb, .inl hb, fun x c z => (J'.ok.exf b hb).2 x c z, fun z hz => (List.not_mem_nil hz).elim⟩
  have loop : codeAny (model X.prog X.w) X.A (.compLoop (.DictComp kx vx [⟨tg, iter, [], 0⟩] scope pos) 0 (.ref it) (.ref D) ce) (compPost (model X.prog X.w) X.A X.xe none (EP X pins σ Q) (.ref D) t3.heap.objs.size) t4 := by
    refine compLoop_anyD (fun n s' => ∃ i H', Inv (X.blk t3 G scope ce fp) [] (wipe σ (own.map (·.2))) H' s' ∧ tn i s'.heap ∧ (∀ b ∈ fp, H' b = none) ∧ W i n H') ?_ m0 ⟨0, G, J4, t4', nf3, w0⟩
    rintro n u5 ⟨i, G5, J5, t5, n5, w5⟩
    rcases turn i n G5 w5 with ⟨stop, done⟩ | ⟨go, N, hN', step⟩
    · refine thnF (T.done (X.blk t3 G scope ce fp) rfl rfl rfl hc i [] u5 _ G5 (fun _ _ => False) J5 (own_ J5 n5) t5 stop) fun r u6 ⟨hr, J6⟩ => ?_
      subst hr
      have J7 : Inv X pins σ G5 u6 := J3.call' (ch := fp) J6.os J6.base J6.hok J6.bare fun b hb => ⟨(f3 b hb).1.2.2.2.1, (f3 b hb).1.2.1, (f3 b hb).1.2.2.2.2.1, (f3 b hb).1.2.2.2.2.2⟩
      have nC : G5 t3.heap.objs.size = none := by
        have z : G5 ce.locals = none := J6.free
        rw [cL] at z
        exact z
      obtain ⟨m, hm, _⟩ := J6.loc
      have hm : u6.heap.Ns ce.locals m := hm
      rw [cL] at hm
      obtain ⟨g0, g1, g2, g3, g4, g5⟩ := J3.fpOk (Nat.le_refl _) nC
      exact ⟨m, hm, fun h2 sb => ⟨.ref D, G5, J7.turned (t' := u6.toks) (fun b o hb z => (sb.2 b hb).trans z) g0 g1 g3 g4 g5, rfl, done⟩⟩
    · refine thnF (T.item (X.blk t3 G scope ce fp) rfl rfl rfl hc i [] u5 _ G5 (fun _ _ => False) J5 (own_ J5 n5) t5 go) fun r u6 ⟨u, hr, k6⟩ => ?_
      subst hr
      refine thnF k6 fun _ u7 ⟨x, G7, J7, r7, y7, t7, n7⟩ => ?_
      refine thnF (PGb.run _ u7 _ G7 x u _ (J7.pinned (own_ J7 n7) (T.obj _ _ t7)) r7 (step x G7 y7)) fun _ u8 ⟨σ8, G8, J8, hw8, q8⟩ => ?_
      refine wpAny_tests_nil ?_
      rw [if_pos rfl]
      refine thnF (PKb.run _ u8 σ8 G8 _ J8 q8) fun zk u9 ⟨yk, G9, J9, r9, q9⟩ => ?_
      refine thnF (PEb.run _ u9 σ8 G9 _ J9 q9) fun zv u10 ⟨yv, G10, J10, r10, kvs, k, b, ek, hb, hD10, hz, nx⟩ => ?_
      subst ek
      refine dt_set (X := X.blk t3 G scope ce fp) hu J10 hD10 hb hz r9 r10 fun u11 J11 => ?_
      obtain ⟨m', hm, w'⟩ := hN' _ nx
      have pn : ∀ b ∈ fp, ∀ o, u7.heap.get? b = some o → u11.heap.get? b = some o ∧ upd G10 D (.dT (putK kvs k yv)) b = none := fun b hb o z =>
        let y := J11.pin (b, o) (List.mem_append_right _ (List.mem_append_right _ (mem_pinsAt hb z)))
        ⟨y.1, y.2.1⟩
      have lw : (wipe σ (own.map (·.2))).length = σ8.length := by rw [← hw8, wipe_length]
      refine ⟨m', hm, i + 1, _, (J11.unpinned (pins := [])).weak lw (fun j v z => ?_), T.keep _ _ _ t7 fun b hb o z => (pn b hb o z).1, fun b hb => ?_, w'⟩
      · rw [← hw8] at z
        exact (wipe_some z).1
      · obtain ⟨o, z, _⟩ := T.obj _ _ t7 b hb
        exact (pn b hb o z).2
  exact codeAny_compStart_dict loop (T.self X.A 0 _ _ _ t4' loop)
end
end Z7
end

section
set_option Elab.async false
set_option linter.all false
set_option maxRecDepth 100000
set_option maxHeartbeats 4000000
namespace Z7
open PySem PySem.Spec PyProof.Rows L2
/-! ### dict(zip(keys, values)), the keys tuples -/
theorem kt_zip {H : Hp} : ∀ {ks : List (List Key)} {as : List Addr} {ys : List V} {its : List Value}, Paired (fun q (k : List Key) => H q = some (.tup (k.map kV))) as ks → Vals ys its → as.length = ys.length →
    KT H (ks.zip ys) (ks.zip (as.zip its))
  | _, _, _, _, .nil, _, _ => .nil
  | _, _, _, _, .cons a b, .nil, h => by cases h
  | k :: ks, a :: as, y :: ys, u :: us, .cons ha ta, .cons hy ty, h => .cons ⟨rfl, ha, hy⟩ (kt_zip ta ty (Nat.succ.inj h))
theorem paired_len' {α β : Type} {F : α → β → Prop} {l : List α} {m : List β} (h : Paired F l m) : l.length = m.length := Paired.length h
theorem paired_mem_r {α β : Type} {F : α → β → Prop} : ∀ {l : List α} {m : List β}, Paired F l m → ∀ (i : Nat) (b : β), m[i]? = some b → ∃ a, l[i]? = some a ∧ F a b
  | _, _, .nil, i, b, h => by simp at h
  | _, _, .cons f _, 0, b, h => by
    simp only [List.getElem?_cons_zero] at h ⊢
    cases h
    exact ⟨_, rfl, f⟩
  | _, _, .cons _ t, i + 1, b, h => by
    simp only [List.getElem?_cons_succ] at h ⊢
    exact paired_mem_r t i b h
def tDictZip (K : Fg) (ta : TA) : TE := fun σ H Q => ta σ H fun vs H1 => ∃ (a b : Addr) (as : List Addr) (ks : List (List Key)) (ys : List V), vs = [.ref a, .ref b] ∧ SqL K H1 a (as.map V.ref) ∧ SqL K H1 b ys ∧ as.length = ys.length ∧ ys.length ≤ 1000 ∧
  Paired (fun q (k : List Key) => H1 q = some (.tup (k.map kV))) as ks ∧ ks.Nodup ∧ ∀ p, H1 p = none → Q (.ref p) (upd H1 p (.dT (ks.zip ys)))
theorem pe_dictzip {X : Cx} {e e2 : Expr} {ta : TA} {p p2 pos pos2 : Pos} (hr : X.A.units + 64 < cLine) (hg : Gl X "dict") (hm : X.mg "dict" = none) (hgz : Gl X "zip") (hmz : X.mg "zip" = none) (ha : PA X [e, e2] ta) (hc : X.calm = true := by rfl)
    (hs : starEach [e, e2] X.env = (false, eval e X.env) :: starEach [e2] X.env := by rfl) (hpl : (backTo pos2 (starEach [e2] X.env)).any (·.1) = false := by rfl)
    (na : starEach [.Call (.Name "zip" p2) [e, e2] [] pos2] X.env = (false, eval (.Call (.Name "zip" p2) [e, e2] [] pos2) X.env) :: starEach [] X.env := by rfl) :
    PE X (.Call (.Name "dict" p) [.Call (.Name "zip" p2) [e, e2] [] pos2] [] pos) (tDictZip X.K ta) := by
  refine ⟨fun pins s σ H Q I h => ?_⟩
  refine Call_ (ld_blt I hg hm PyProof.Rows.boot_dict ?_)
  refine PyProof.Rows.callWith_type1 (PyProof.Rows.args_cons ?_ na) na rfl
  refine Call_ (ld_blt I hgz hmz PyProof.Rows.boot_zip (PyProof.Rows.callWith_type1 (thn (ha.run pos2 pins s σ H _ I h) fun us s1 ⟨vs, H1, I1, r1, q1⟩ => ?_) hs hpl))
  obtain ⟨a, b, as, ks, ys, rfl, hqa, hqb, hl, hn, hp, hnd, q⟩ := q1
  cases r1 with
  | cons r rr =>
    cases rr with
    | cons r' rr =>
      cases rr
      cases r
      cases r'
      obtain ⟨ia, rva, p1, _⟩ := I1.list hqa
      obtain ⟨ib, rvb, p2, _⟩ := I1.list hqb
      have eia := refs_at rva
      have hlb := rvb.length
      have hlk := paired_len' hp
      refine call_zip_2 p1.isList p2.isList fun h' hz hTI hTO h1 h2 hsz hk => PyProof.Rows.args_nil ?_
      have low : ∀ c o, s1.heap.get? c = some o → c < s1.heap.objs.size := fun c o z => Heap.lt_size z
      have nw : ∀ c o, s1.heap.get? c = some o → c ∉ [s1.heap.objs.size + 4, s1.heap.objs.size + 3, s1.heap.objs.size, s1.heap.objs.size + 1] := fun c o z hc => by
        have lt : Nat.lt c s1.heap.objs.size := low c o z
        have e' : c = s1.heap.objs.size + 4 ∨ c = s1.heap.objs.size + 3 ∨ c = s1.heap.objs.size ∨ c = s1.heap.objs.size + 1 := by simpa using hc
        have lt' : (c : Nat) < s1.heap.objs.size := lt
        rcases e' with y | y | y | y <;> rw [y] at lt' <;> exact absurd lt' (by simp)
      have nd : ∀ c o, s1.heap.get? c = some o → c ≠ h'.objs.size := fun c o z y => by
        have lt : c < s1.heap.objs.size := low c o z
        rw [y, hsz] at lt
        exact absurd lt (by simp)
      have len3 : (ks.zip (as.zip ib)).length = min ia.toArray.size ib.toArray.size := by
        rw [List.length_zip, List.length_zip, List.size_toArray, List.size_toArray, eia, List.length_map]
        omega
      have keys : (ks.zip (as.zip ib)).map (·.1) = ks := by
        have z : ks.length ≤ (as.zip ib).length := by rw [List.length_zip]; omega
        exact List.map_fst_zip z
      refine call_dict_pairsH (knd := tupleKind (mixKind X.prog X.w)) (ps := ks.zip (as.zip ib)) (PairArg.zip (s1.heap.objs.size + 4) (s1.heap.objs.size + 2) (s1.heap.objs.size + 3) s1.heap.objs.size (s1.heap.objs.size + 1) a b (PySem.W.ktu_apart s1.heap.objs.size a b p1.lt p2.lt) ia.toArray ib.toArray)
        (I1.ok.hd hc) (show X.A.in1.in1.units < cLine from ?_) ⟨hz, hTI, ⟨_, _, hTO⟩, h1, h2, p1.isList.at fun o z => hk _ o z, p2.isList.at fun o z => hk _ o z⟩ ⟨len3, fun i key v ⟨g1, g2⟩ => ?_⟩ (fun h2 kp x hx => ?_) ?_ fun h2 tk dd kp => ?_
      · have : X.A.in1.in1.units = X.A.units + 2 := rfl
        omega
      · have g1' : (as.map Value.ref)[i]? = some key := by
          rw [eia] at g1
          simpa using g1
        have g2' : ib[i]? = some v := by simpa using g2
        rw [List.getElem?_map] at g1'
        obtain ⟨c, hc1, rfl⟩ := Option.map_eq_some_iff.mp g1'
        have lt : i < ks.length := by
          have := (List.getElem?_eq_some_iff.mp hc1).1
          omega
        refine ⟨ks[i], c, ?_, rfl⟩
        rw [List.getElem?_zip_eq_some]
        exact ⟨List.getElem?_eq_getElem lt, List.getElem?_zip_eq_some.mpr ⟨hc1, g2'⟩⟩
      · obtain ⟨i, hi⟩ := List.mem_iff_getElem?.mp hx
        obtain ⟨g1, g2⟩ := List.getElem?_zip_eq_some.mp hi
        obtain ⟨g3, g4⟩ := List.getElem?_zip_eq_some.mp g2
        obtain ⟨c, hc1, hc2⟩ := paired_mem_r hp i _ g1
        rw [hc1] at g3
        have ec : c = x.2.1 := Option.some.inj g3
        rw [← ec]
        exact key_of (I1.hok.kept fun b o z => kp b o (nd b o z) (nw b o z) (hk b o z)) hc2
      · have z : min ia.toArray.size ib.toArray.size ≤ 1000 := by
          rw [List.size_toArray, List.size_toArray]
          omega
        exact Nat.le_trans z (by decide)
      · rw [storedAllH_nil_of_nodup _ (by rw [keys]; exact hnd)] at dd
        have kept : ∀ c o, s1.heap.get? c = some o → h2.get? c = some o := fun c o z => kp c o (nw c o z) (hk c o z)
        have hge : s1.heap.objs.size ≤ h'.objs.size := by rw [hsz]; exact Nat.le_add_right _ _
        have fre : H1 h'.objs.size = none := I1.hok.fresh hge
        have len4 : (ks.zip ys).length ≤ sizeLine := by
          have z : (ks.zip ys).length ≤ 1000 := by
            rw [List.length_zip]
            omega
          exact Nat.le_trans z (by decide)
        have sysn : (h'.objs.size == sysModules) = false := beq_eq_false_iff_ne.mpr (Ne.symm (Nat.ne_of_lt (Nat.lt_of_lt_of_le I1.big hge)))
        obtain ⟨o, es, ep, z1, z2, z3, z4, _, z5⟩ := dd
        have I2 : Inv X pins σ (upd H1 h'.objs.size (.dT (ks.zip ys))) { s1 with heap := h2, toks := tk } := by
          refine I1.laid (h' := h2) (t' := tk) kept hge ⟨len4, sysn, _, ?_, o, es, ep, z1, z2, z3, z4, z5⟩
          refine L2.Paired.mapP (kt_zip hp rvb hl) fun p q z => ⟨z.1, ?_, z.2.2⟩
          rw [upd_ne (ne_of_none z.2.1 fre)]
          exact z.2.1
        exact ⟨.ref h'.objs.size, _, I2, rfl, q _ fre⟩
end Z7
end

section
set_option Elab.async false
set_option linter.all false
set_option maxRecDepth 100000
set_option maxHeartbeats 4000000
namespace Z7
open PySem PySem.Spec PyProof.Rows L2
/-! ### {k: v}, the key a tuple -/
def tDisp1T (tk tv : TE) : TE := fun σ H Q => ∀ p, H p = none → tk σ (upd H p (.dT [])) fun x H1 => tv σ H1 fun v H2 => ∃ b k, x = .ref b ∧ H2 b = some (.tup (k.map kV)) ∧ H2 p = some (.dT []) ∧ Q (.ref p) (upd H2 p (.dT [(k, v)]))
theorem pe_disp1T {X : Cx} {pos : Pos} {ke ve : Expr} {tk tv : TE} (hr : X.A.units + 64 < cLine) (hk : PE X ke tk) (hv : PE X ve tv) : PE X (.Dict [some ke] [ve] pos) (tDisp1T tk tv) := by
  refine ⟨fun pins s σ H Q I h => ?_⟩
  have hn := I.hok.fresh (Nat.le_refl s.heap.objs.size)
  have I1 := I.laid (a := s.heap.objs.size) (o := .dT []) (h' := s.heap.push { cls := .type "dict", data := .dict #[] }) (t' := s.toks) (fun b o z => Heap.get?_push_of_some _ z) (Nat.le_refl _) (dt_empty s.heap I.big)
  have hq := h _ hn
  have hne : pairTrees [some ke] [ve] X.env pos ≠ [] := fun z => by cases z
  rw [arm_eval_Dict, zip_pairTrees [some ke] [ve] X.env pos rfl rfl, dictDisplay_pairs _ hne (show 1 < 17 by decide)]
  refine wpAny_bind (wpAny_standAt (wpAny_bind (wpAny_subDictH (knd := tupleKind (mixKind X.prog X.w)) (show X.A.units < cLine by omega) (show 1 ≤ 15 by decide) ?_)))
  refine pairTrees_cons_walk (thn (hk.run pins _ σ _ _ I1 hq) fun u s2 ⟨x, H2, I2, rx, q2⟩ => thn (hv.run pins s2 σ H2 _ I2 q2) fun u3 s3 ⟨v, H3, I3, rv, b, k, ex, hb, hp, q3⟩ => pairTrees_nil_walk ?_)
  subst ex
  cases (show u = Value.ref b from rx)
  obtain ⟨z, hd, xs, rel, dd⟩ := dt_of I3.hok hp
  cases rel
  refine ⟨[(k, b, u3)], ⟨rfl, rfl, key_of I3.hok hb, True.intro⟩, dd, fun h' tk dd' hs => wpAny_pure ⟨.ref s.heap.objs.size, _, ?_, rfl, q3⟩⟩
  rw [storedAllH_nil_of_nodup _ (by simp)] at dd'
  obtain ⟨q, es, ep, e1, e2, e3, e4, _, e5⟩ := dd'
  refine d_write I3 (by rw [hp]; exact True.intro) hs ⟨q, e1⟩ ⟨by show 1 ≤ sizeLine; decide, hd, _, .cons ⟨rfl, ?_, rv⟩ .nil, q, es, ep, e1, e2, e3, e4, e5⟩
  rw [upd_ne (ne_of hb hp fun z => nomatch z)]
  exact hb
end Z7
end

section
set_option Elab.async false
set_option linter.all false
set_option maxRecDepth 100000
set_option maxHeartbeats 4000000
namespace Z7
open PySem PySem.Spec PyProof.Rows L2
open PySem.W (EachIs dataLe AllAlike Sortable)
abbrev kp (x : Pt) : List Key := x.map Sum.inl
theorem kp_kV (x : Pt) : (kp x).map kV = x.map V.int := by
  unfold kp
  rw [List.map_map]
  rfl
/-- a tuple of the ints x that is known by its place -/
def PtA (H : Hp) (q : Addr) (x : Pt) : Prop := H q = some (.tup (x.map V.int))
theorem PtA.dp {K : Fg} {H : Hp} {q : Addr} {x : Pt} (h : PtA H q x) : Dp K H (.ref q) (ptD x) := ti_dp (.inl (.inl h))
def SortB (P : Program) (w : World) (kw : List (Str × Value)) (b : Bool) : Prop := ∀ (A : Around) (s : Shared) (a : Addr) (n : Nat) (vs : List Value) (ps : List Pt) (R : Value → Pt → Prop) (Q E : Value → Shared → Prop),
  s.heap.get? a = some (seqObj "list" vs.toArray n) → EachIs R vs ps → EachIs (fun v b => ∃ as, Reads s.heap v (ptD b) as ∧ a ∉ as) vs ps → AllAlike (ps.map ptD) → Sortable (ps.map ptD) → ps.length ≤ sizeLine →
  (∀ x, x ∈ ps → A.units + 1 + (ptD x).depth < cLine) → (∀ out, out.length = ps.length → EachIs R out (ps.mergeSort (dataLe b ptD)) → Q .none { s with heap := sortedHeap s.heap a vs (List.toArray out) }) →
  wpAny (model P w) A (call (.builtin "list.sort") [.ref a] kw) Q E s
theorem sortB_no {P : Program} {w : World} : SortB P w [] false := fun A s a n vs ps R Q E ho e er hal hk hL hu h => PySem.W.list_sort_data ho e er hal hk hL hu h
theorem sortB_rev {P : Program} {w : World} (b : Bool) : SortB P w [(Str.ofString "reverse", .bool b)] b := fun A s a n vs ps R Q E ho e er hal hk hL hu h => PySem.W.list_sort_rev_data ho e er hal hk hL hu h
theorem alike_pts (ps : List Pt) : AllAlike (ps.map ptD) := AllAlike.of fun b b' => by
  unfold ptD
  rw [PySem.W.alike]
  exact PySem.W.alike_ints b b'
theorem ptD_depth (x : Pt) : (ptD x).depth ≤ 1 := by
  unfold ptD
  rw [PyData.depth, PySem.W.depth_ints]
  exact Nat.le_refl _
theorem sortable_pts {ps : List Pt} (h : ∀ x ∈ ps, x ≠ []) : Sortable (ps.map ptD) := .inl fun d hd => by
  obtain ⟨b, hb, rfl⟩ := List.mem_map.mp hd
  cases b with
  | nil => exact absurd rfl (h _ hb)
  | cons x r => exact ⟨.int x, r.map .int, rfl⟩
theorem each_of_nth {α β : Type} {R : α → β → Prop} : ∀ {us : List α} {bs : List β}, us.length = bs.length → (∀ (j : Nat) (v : α), us[j]? = some v → ∃ x, bs[j]? = some x ∧ R v x) → EachIs R us bs
  | [], [], _, _ => .nil
  | u :: us, k :: ks, hl, h => by
    obtain ⟨x, e1, e2⟩ := h 0 u rfl
    have e1' : k = x := Option.some.inj e1
    subst e1'
    refine .cons e2 (each_of_nth (by simpa using hl) fun j v e => ?_)
    obtain ⟨x, a, b⟩ := h (j + 1) v (by simpa using e)
    exact ⟨x, by simpa using a, b⟩
  | [], _ :: _, hl, _ => by simp at hl
  | _ :: _, [], hl, _ => by simp at hl
theorem each_addrs {H : Hp} : ∀ {us : List Value} {bs : List Pt}, EachIs (fun v b => ∃ q, v = .ref q ∧ PtA H q b) us bs → ∃ as : List Addr, us = as.map Value.ref ∧ Paired (fun q b => PtA H q b) as bs
  | _, _, .nil => ⟨[], rfl, .nil⟩
  | _, _, .cons h t => by
    obtain ⟨q, rfl, hq⟩ := h
    obtain ⟨as, rfl, hp⟩ := each_addrs t
    exact ⟨q :: as, rfl, .cons hq hp⟩
theorem vals_refs : ∀ as : List Addr, Vals (as.map V.ref) (as.map Value.ref)
  | [] => .nil
  | a :: as => .cons rfl (vals_refs as)
theorem readsAll_ints {h : Heap} : ∀ {x : Pt} {its : List Value}, Vals (x.map V.int) its → ReadsAll h its (x.map .int) []
  | [], _, r => by
    cases r
    exact .nil
  | n :: x, _, r => by
    cases r with
    | cons r1 r2 =>
      obtain ⟨t, rfl⟩ := r1
      exact .cons (as := []) (.int n t) (readsAll_ints r2)
/-- what sorted(d) gives -/
def rSortT (b : Bool) (vs : List V) (H : Hp) (Q : VK) : Prop := ∃ (a : Addr) (kvs : List (List Key × V)) (ps : List Pt), vs = [.ref a] ∧ H a = some (.dT kvs) ∧ kvs.map (·.1) = ps.map kp ∧ (∀ x ∈ ps, x ≠ []) ∧
  ∀ p as, H p = none → Paired (fun q b => PtA H q b) as (ps.mergeSort (dataLe b ptD)) → Q (.ref p) (upd H p (.lst (as.map V.ref)))
theorem sortT_run {X : Cx} {pins : List (Addr × Obj)} {s : Shared} {σ : L2.St} {H : Hp} {a : Addr} {kvs : List (List Key × V)} {ps : List Pt} {kw : List (Str × Value)} {b : Bool} {Q : VK} (hc : X.calm = true) (hr : X.A.units + 64 < cLine) (hB : SortB X.prog X.w kw b)
    (ha1 : argsOk "sorted" ⟨[.ref a], kw⟩) (ha2 : ∀ x, argsOk "list.sort" ⟨[.ref x], kw⟩) (I : Inv X pins σ H s) (h : H a = some (.dT kvs)) (hks : kvs.map (·.1) = ps.map kp) (hne : ∀ x ∈ ps, x ≠ [])
    (k : ∀ p as, H p = none → Paired (fun q b => PtA H q b) as (ps.mergeSort (dataLe b ptD)) → Q (.ref p) (upd H p (.lst (as.map V.ref)))) :
    wpAny (model X.prog X.w) X.A (call (.builtin "sorted") [.ref a] kw) (EP X pins σ Q) X.xe s := by
  obtain ⟨z, hsys, xs, pr, o, es, ep, ho, hx, hdt, he, hnd⟩ := I.hok a _ h
  have l1 : es.size = xs.length := size_of_entries he
  have l2 : kvs.length = xs.length := Paired.length pr
  have l3 : kvs.length = ps.length := by
    have e := congrArg List.length hks
    rw [List.length_map, List.length_map] at e
    exact e
  refine call_function_entry_kw kind_sorted plain_sorted entry_sorted ha1 ?_
  unfold Builtin.«sorted»
  refine wpAny_bind (m := checkCount "sorted" 1 1 _) (wpAny_pure ?_)
  refine wpAny_bind (PySem.W.kdu_collect (A := X.A.in1) (KdlSrc.rawDict (es := es) (ep := ep) hsys) (I.ok.hd hc) ⟨o, ho, hx, hdt⟩ (by omega) fun h' tk acc hk hacc => ?_)
  have hal : acc.toList.length = ps.length := by rw [Array.length_toList, hacc.1, l1, ← l2, l3]
  have hE : EachIs (fun v b => ∃ q, v = .ref q ∧ PtA H q b) acc.toList ps := each_of_nth hal fun j v e => by
    obtain ⟨hi, ev⟩ := hacc.2 j v (by rw [← Array.getElem?_toList]; exact e)
    obtain ⟨⟨kk, y⟩, hkv⟩ : ∃ z, kvs[j]? = some z := ⟨kvs[j]'(by omega), List.getElem?_eq_getElem (by omega)⟩
    obtain ⟨c, hb, e1, e2, e3⟩ := paired_get pr hkv
    have q := entry_at he j
    rw [hb] at q
    have e4 : es[j]? = some es[j] := Array.getElem?_eq_getElem hi
    rw [e4] at q
    have e5 : (kvs.map (·.1))[j]? = some kk := by rw [List.getElem?_map, hkv] <;> rfl
    rw [hks, List.getElem?_map] at e5
    obtain ⟨x, hx1, hx2⟩ := Option.map_eq_some_iff.mp e5
    refine ⟨x, hx1, c.2.1, ?_, ?_⟩
    · rw [ev, Option.some.inj q] <;> rfl
    · have e2' : H c.2.1 = some (.tup (kk.map kV)) := e2
      rw [← hx2, kp_kV] at e2'
      exact e2'
  obtain ⟨us, eus, hpa⟩ := each_addrs hE
  have I1 : Inv X pins σ H { s with heap := h', toks := tk } := I.kept hk
  have hz' : acc.toList.length ≤ sizeLine := by rw [hal]; omega
  refine wpAny_bind (wpAny_newList ?_ hz')
  have hoL : (h'.push (seqObj "list" acc.toList.toArray 0)).get? h'.objs.size = some (seqObj "list" acc.toList.toArray 0) := Heap.get?_push_size _ rfl
  have I2 : Inv X pins σ H { s with heap := h'.push (seqObj "list" acc.toList.toArray 0), toks := tk } := I1.kept (t' := tk) fun b u e => Heap.get?_push_of_some _ e
  show wpAny _ _ _ _ _ { s with heap := h'.push (seqObj "list" acc.toList.toArray 0), toks := tk }
  refine wpAny_bind (wpAny_holding (hB X.A.in1 { s with heap := h'.push (seqObj "list" acc.toList.toArray 0), toks := tk } h'.objs.size 0 acc.toList ps (fun v b => ∃ q, v = .ref q ∧ PtA H q b) _ _ hoL hE ?_ (alike_pts ps) (sortable_pts hne) (by omega) ?_ fun out hol hou => ?_))
  · refine hE.mono fun v x ⟨q, ev, hq⟩ => ?_
    subst ev
    obtain ⟨_, its, rv, t⟩ := I2.hok q _ hq
    obtain ⟨ot, hot, hcl, n, hdt'⟩ := t
    exact ⟨[], Reads.tuple hot hcl hdt' (readsAll_ints rv), List.not_mem_nil⟩
  · intro x _
    have d := ptD_depth x
    have u1 : X.A.in1.units = X.A.units + 1 := rfl
    omega
  · obtain ⟨as, rfl, hpo⟩ := each_addrs hou
    obtain ⟨e', he'⟩ := PyProof.Rows.sortedHeap_at (vs := acc.toList) (out := (as.map Value.ref).toArray) hoL
    have hlen : (as.map V.ref).length ≤ sizeLine := by
      rw [List.length_map] at hol ⊢
      omega
    refine wpAny_pure ⟨_, rfl, .ref h'.objs.size, upd H h'.objs.size (.lst (as.map V.ref)), I1.laid (t' := tk) (fun b u e => ?_) (Nat.le_refl _)
      (show ObjOk X.prog X.w _ _ _ (.lst (as.map V.ref)) from ⟨hlen, as.map Value.ref, e', vals_refs as, he'⟩), rfl, k _ as (I1.hok.fresh (Nat.le_refl _)) hpo⟩
    have hb : b < h'.objs.size := Heap.lt_size e
    rw [PyProof.Rows.sortedHeap_old (Nat.ne_of_lt hb) (by rw [size_push']; exact Nat.lt_succ_of_lt hb)]
    exact Heap.get?_push_of_some _ e
theorem cr_sortT {X : Cx} (hc : X.calm = true) (hr : X.A.units + 64 < cLine) : CallR X (.builtin "sorted") (rSortT false) := by
  intro pins s σ H vs us Q I r h
  obtain ⟨a, kvs, ps, rfl, hd, hks, hne, q⟩ := h
  obtain rfl := Vals.ref1 r
  exact sortT_run hc hr sortB_no (args_sorted1 _) (fun _ => args_list_sort _) I hd hks hne q
theorem cr_sortTR {X : Cx} {b : Bool} (hc : X.calm = true) (hr : X.A.units + 64 < cLine) : CallRK X (.builtin "sorted") [Str.ofString "reverse"] (fun vs zs H Q => zs = [.bl b] ∧ rSortT b vs H Q) := by
  intro pins s σ H vs zs us ws Q I r rz h
  obtain ⟨rfl, a, kvs, ps, rfl, hd, hks, hne, q⟩ := h
  obtain rfl := Vals.ref1 r
  obtain ⟨w1, rfl, e1⟩ := vals1 rz
  obtain rfl : w1 = Value.bool b := e1
  exact sortT_run hc hr (sortB_rev b) (args_sorted_rev _ _) (fun _ => args_list_sort_rev _ _) I hd hks hne q
end Z7
end

section
set_option Elab.async false
set_option linter.all false
set_option maxRecDepth 100000
set_option maxHeartbeats 4000000
namespace Z7
open PySem PySem.Spec PyProof.Rows L2
open PySem.W (EachIs dataLe AllAlike Sortable)
/-! ### a lambda with one parameter x, called by a built-in -/
structure Lam1 (sc scope : Scope) (x : Str) : Prop where
  kind : scope.kind = .function
  co : scope.isCoroutine = false
  gen : scope.isGenerator = false
  own : ∀ y ∈ scope.names, y.2 ≠ .cell ∧ (y.2 = .local → y.1 = x)
  par : scope.names.lookup x = some .local
  free : ∀ y ∈ scope.names, y.2 = .free → sc.names.lookup y.1 = some .cell ∨ sc.names.lookup y.1 = some .free
def lam1B (sc scope : Scope) (x : Str) : Bool :=
  decide (scope.kind = .function) && !scope.isCoroutine && !scope.isGenerator && (scope.names.all fun y => !decide (y.2 = .cell) && (!decide (y.2 = .local) || decide (y.1 = x)) && (!decide (y.2 = .free) || decide (sc.names.lookup y.1 = some .cell) || decide (sc.names.lookup y.1 = some .free))) &&
  decide (scope.names.lookup x = some .local)
theorem lam1_by {sc scope : Scope} {x : Str} (h : lam1B sc scope x = true) : Lam1 sc scope x := by
  unfold lam1B at h
  simp only [Bool.and_eq_true, Bool.or_eq_true, Bool.not_eq_true', decide_eq_true_eq, decide_eq_false_iff_not, List.all_eq_true] at h
  obtain ⟨⟨⟨⟨h1, h2⟩, h3⟩, h4⟩, h5⟩ := h
  refine ⟨h1, h2, h3, fun y hy => ⟨(h4 y hy).1.1, fun e => ?_⟩, h5, fun y hy e => ?_⟩
  · rcases (h4 y hy).1.2 with z | z
    · exact absurd e z
    · exact z
  · rcases (h4 y hy).2 with (z | z) | z
    · exact absurd e z
    · exact .inl z
    · exact .inr z
theorem Lam1.has {X : Cx} {scope : Scope} {x : Str} (L : Lam1 X.env.scope scope x) (ok : X.Ok) : ∀ y ∈ scope.names, y.2 = .free → ∃ c, X.env.cells.lookup y.1 = some c := fun y hy e => by
  rcases L.free y hy e with k | k
  · exact ok.has _ (.inl k)
  · exact ok.has _ (.inr k)
/-- the context of the lambda's body -/
def lamC (X : Cx) (A : Around) (s : Shared) (H : Hp) (scope : Scope) (f c' : Addr) (x : Str) : Cx where
  prog := X.prog
  w := X.w
  K := X.K
  mg := X.mg
  base := X.base
  A := A.deeper (LamX.lamEnv X scope s.heap.objs.size f c')
  N := X.N ++ [x]
  s_0 := s
  H_0 := H
  env := LamX.lamEnv X scope s.heap.objs.size f c'
  outer := X.stack
  stack := LamX.lamEnv X scope s.heap.objs.size f c' :: X.stack
  ex := []
  fn := fun _ => false
  calm := true
  pn := []
  xe := fun _ _ => False
section
variable {X : Cx} {pins : List (Addr × Obj)} {σ : L2.St} {H : Hp} {s : Shared}
theorem lam_start1 {A : Around} {scope : Scope} {x : Str} {f c' : Addr} {h₁ : Heap} {tk : Nat} {v : V} {u : Value} (I : Inv X pins σ H s) (L : Lam1 X.env.scope scope x) (hx : x ∉ X.N) (e0 : Env0 X.prog X.w X.K X.mg X.base A X.stack s H) (hd : A.handled = none)
    (rv : RelV v u) (hns : h₁.Ns s.heap.objs.size fun y => [(x, u)].reverse.lookup y) (kp : ∀ b o, s.heap.get? b = some o → h₁.get? b = some o) :
    Inv (lamC X A s H scope f c' x) [] (σ ++ [some v]) H { s with heap := h₁, toks := tk } := by
  have hfree := L.has I.ok
  have cm : ∀ {y c}, (cloFrom X.env.cells scope.names []).lookup y = some c → X.env.cells.lookup y = some c := fun {y c} e => by
    rcases cloFrom_mem (PySem.mem_of_lookup e) with hm | ⟨h1, h2⟩
    · cases hm
    · obtain ⟨c1, hc⟩ := hfree _ h1 rfl
      have hc : X.env.cells.lookup y = some c1 := hc
      have e2 : c = c1 := by
        rw [h2, hc] <;> rfl
      rw [e2]
      exact hc
  have look : ∀ {y}, scope.names.lookup y = some .free → ∃ c, (cloFrom X.env.cells scope.names []).lookup y = some c := fun {y} hl => by
    have hy : (y, NameKind.free) ∈ scope.names := PySem.mem_of_lookup hl
    exact mem_lookup (cloFrom_has (cells := X.env.cells) (acc := []) hy)
  have cellK : ∀ {c : Addr} {v : Option Value}, s.heap.IsCell c v → h₁.IsCell c v := fun {c v} ⟨o, ho, hd⟩ => ⟨_, kp _ _ ho, hd⟩
  have noA : ∀ b : Addr, b ∉ (lamC X A s H scope f c' x).ex := fun b z => absurd (show b ∈ ([] : List Addr) from z) (by simp)
  refine ⟨⟨e0.mod, L.kind, rfl, rfl, Nat.le_refl _, fun y z c e1 e2 => I.ok.inj y z c (cm e1) (cm e2), fun y hy => ?_, fun y c z _ => ?_, fun _ => hd, Around.frames_deeper e0.frames, .inr ⟨rfl, rfl⟩, fun b z => absurd z (noA b), e0.bs, e0.bsz, fun b _ _ => noA b,
      fun b z => absurd z (noA b), e0.funs, e0.frf⟩,
    rfl, e0.bare, Un.kept kp, ⟨_, hns, fun i y v e1 e2 e3 => ?_⟩, fun y c e => ?_, e0.hok.fresh (Nat.le_refl _), fun y c e => ?_, fun q hq => absurd (show q ∈ ([] : List (Addr × Obj)) ++ [] from hq) (by simp), e0.hok.kept kp, ?_⟩
  · have hy : scope.names.lookup y = some .cell ∨ scope.names.lookup y = some .free := hy
    rcases hy with hy | hy
    · exact absurd rfl (L.own _ (PySem.mem_of_lookup hy)).1
    · exact look hy
  · have z : false = true := z
    cases z
  · have e1 : (X.N ++ [x])[i]? = some y := e1
    have e3 : Vis scope y := e3
    by_cases hi : i < X.N.length
    · rw [List.getElem?_append_left hi] at e1
      rw [List.getElem?_append_left (by rw [I.len]; exact hi)] at e2
      rcases e3 with k | k | k
      · have z := (L.own _ (PySem.mem_of_lookup k)).2 rfl
        have z' : y = x := z
        rw [z'] at e1
        exact absurd (List.mem_of_getElem? e1) hx
      · exact absurd rfl (L.own _ (PySem.mem_of_lookup k)).1
      · obtain ⟨m, hn, hl⟩ := I.loc
        have hvis : Vis X.env.scope y := (L.free _ (PySem.mem_of_lookup k) rfl).elim (fun k => .inr (.inl k)) (fun k => .inr (.inr k))
        obtain ⟨w', r, q⟩ := hl i y v e1 e2 hvis
        obtain ⟨c2, h2⟩ := look k
        refine ⟨w', r, .inr ⟨.inr k, c2, h2, ?_⟩⟩
        have c1 := cm h2
        rcases q with ⟨k', _⟩ | ⟨_, c3, e', z⟩
        · have k' : X.env.scope.names.lookup y = some .local := k'
          rcases L.free _ (PySem.mem_of_lookup k) rfl with k2 | k2 <;> rw [show X.env.scope.names.lookup y = _ from k2] at k' <;> cases k'
        · rw [c1] at e'
          cases e'
          exact cellK z
    · have hi' : X.N.length ≤ i := Nat.le_of_not_lt hi
      rw [List.getElem?_append_right hi'] at e1
      rw [List.getElem?_append_right (by rw [I.len]; exact hi'), I.len] at e2
      cases hz : i - X.N.length with
      | succ n =>
        rw [hz] at e1
        simp at e1
      | zero =>
        rw [hz] at e1 e2
        have e1' : x = y := by simpa using e1
        have e2' := Option.some.inj (Option.some.inj (show (some (some _) : Option (Option V)) = some (some v) from e2))
        cases e1'
        cases e2'
        exact ⟨u, rv, .inl ⟨L.par, by simp⟩⟩
  · obtain ⟨w', z⟩ := I.cell y c (cm e)
    exact ⟨w', cellK z⟩
  · exact I.freeC y c (cm e)
  · show (σ ++ [some v]).length = (X.N ++ [x]).length
    rw [List.length_append, List.length_append, I.len]
    rfl
theorem lam_turn {A : Around} {k : Nat} {f c' : Addr} {q x : Str} {params : Arguments} {body : Expr} {scope : Scope} {pm ctv : Value} {tb : TE} {v : V} {u : Value} {Q : VK} (I : Inv X pins σ H s) (L : Lam1 X.env.scope scope x) (hx : x ∉ X.N)
    (hf : s.heap.get? f = some (PySem.W.kla_obj "<lambda>" q params body scope (cloFrom X.env.cells scope.names []) pm c' ctv)) (hq : q = X.env.qual ++ "<lambda>") (hc : H c' = some (LamX.CodeO c' q)) (hr : Room (k + 1) A) (hA : A.frames = some X.stack)
    (hbind : bindArgs (PySem.W.kla_fn "<lambda>" q params body scope (cloFrom X.env.cells scope.names []) pm (.ref c') ctv) ⟨[u], []⟩ = pure [(x, u)]) (rv : RelV v u)
    (hbody : Room k (A.deeper (LamX.lamEnv X scope s.heap.objs.size f c')) → PE (lamC X A s H scope f c' x) body tb) (ht : tb (σ ++ [some v]) H Q) :
    wpAny (model X.prog X.w) A (call (.ref f) [u]) (EP X pins σ Q) (fun _ _ => False) s := by
  subst hq
  have e0 : Env0 X.prog X.w X.K X.mg X.base A X.stack s H := by
    have z := I.env0
    exact ⟨hA, z.mod, z.bs, z.bsz, z.funs, z.frf, z.hok, z.bare⟩
  obtain ⟨⟨oc, vs, t, hoc, hdc, hvc⟩, _, _⟩ := I.hok c' _ hc
  have rc : codeAny (model X.prog X.w) A (.call (.ref f) ⟨[u], []⟩) (CR C8.CX0 X.stack X.prog X.w H s Q C8.E0) s := by
    refine PySem.W.kla_callFunE hr.depth hf rfl L.co L.gen rfl ⟨c', oc, vs, t, rfl, hoc, hdc, hvc⟩ ?_
    rw [hbind]
    refine wpAny_pure (wpAny_newFunctionEnv (fun y hy => (L.own y hy).1) (fun y hy => ?_) (fun h₁ hns hsb => ⟨I.nolimit.fresh _ hsb, ?_⟩) L.kind)
    · have e : y = (x, u) := by simpa using hy
      rw [e]
      exact L.par
    · show codeAny _ _ (.expr body (LamX.lamEnv X scope s.heap.objs.size f c')) _ _
      have kp : ∀ b o, s.heap.get? b = some o → h₁.get? b = some o := fun b o e => hsb.extBut b o (Nat.ne_of_lt (Heap.lt_size e)) (Heap.get?_push_of_some _ e)
      have J : Inv (lamC X A s H scope f c' x) [] (σ ++ [some v]) H { s with heap := h₁, toks := s.toks + ([(x, u)] : List (Str × Value)).length } := lam_start1 I L hx e0 hr.hd rv hns kp
      refine PySem.W.kla_codeExpr (wpAny_mono ((hbody (hr.deeper _)).run [] _ _ H Q J ht) (fun v s' hq => ?_) fun e s' hq => hq.elim)
      obtain ⟨w', H', J', rv, q⟩ := hq
      exact ⟨w', H', J'.os, J'.bare, J'.base, J'.hok, rv, q⟩
  refine wpAny_call (codeAny_mono rc fun r s' hq => ?_)
  cases r with
  | error e => exact (show False from hq)
  | ok fl =>
    cases fl with
    | ret u => exact I.after hq
    | next => exact False.elim hq
    | brk => exact False.elim hq
    | cont => exact False.elim hq
end
end Z7
end

section
set_option Elab.async false
set_option linter.all false
set_option maxRecDepth 100000
set_option maxHeartbeats 4000000
namespace Z7
open PySem PySem.Spec PyProof.Rows L2
open Evl
open PySem.W (EachIs dataLe AllAlike Sortable)
section
variable {X : Cx} {pins : List (Addr × Obj)} {σ : L2.St} {H : Hp} {s : Shared}
theorem hide_get {h : Heap} {a b : Addr} {o : Obj} (e : h.get? b = some o) (n : b ≠ a) : (PySem.W.hideAll h [a]).get? b = some o := by
  exact PySem.W.hideAll_get _ e (by simpa using n)
/-- sorted(xs, key=f), f a call that the def proves of each -/
theorem sortKey_run {f l : Addr} {fo : Obj} {as : List Addr} {ps : List Pt} {k : Pt → PyData} {kw : List (Str × Value)} {Q : VK} (hc : X.calm = true) (hr : X.A.units + 80 < cLine) (hk64 : ∀ x ∈ ps, (k x).depth ≤ 8) (I : Inv X ((f, fo) :: pins) σ H s) (hl : SqL X.K H l (as.map V.ref)) (hp : Paired (fun q b => PtA H q b) as ps)
    (hal : AllAlike (ps.map k)) (hsk : Sortable (ps.map k)) (ha1 : argsOk "sorted" ⟨[.ref l], kw⟩) (ha2 : ∀ x, argsOk "list.sort" ⟨[.ref x], kw⟩) (ht : ∀ x, Builtin.«list.sort» ⟨[.ref x], kw⟩ = ksk_tree x (.ref f) false)
    (turn : ∀ (q : Addr) (x : Pt) (pl : List (Addr × Obj)) (s' : Shared) (H' : Hp), x ∈ ps → PtA H' q x → Ex H H' → Inv X ((f, fo) :: pl) σ H' s' →
      wpAny (model X.prog X.w) X.A.in1.in1 (call (.ref f) [.ref q]) (EP X ((f, fo) :: pl) σ fun v H2 => Ex H' H2 ∧ Dp X.K H2 v (k x)) (fun _ _ => False) s')
    (fin : ∀ p out H2, H p = none → Ex H H2 → H2 p = some (.lst (out.map V.ref)) → Paired (fun q b => PtA H q b) out (ps.mergeSort (dataLe false k)) → Q (.ref p) H2) :
    wpAny (model X.prog X.w) X.A (call (.builtin "sorted") [.ref l] kw) (EP X pins σ Q) X.xe s := by
  obtain ⟨its, rv, pl, hz⟩ := I.list hl
  have eia := refs_at rv
  have hlen : its.length = ps.length := by
    have z := Paired.length hp
    rw [eia, List.length_map]
    exact z
  have hzi : its.length ≤ sizeLine := by
    rw [List.length_map] at hz
    rw [eia, List.length_map]
    exact hz
  have hE : EachIs (fun v b => ∃ q, v = .ref q ∧ PtA H q b) its ps := each_of_nth hlen fun j v e => by
    rw [eia, List.getElem?_map] at e
    obtain ⟨q, hq, rfl⟩ := Option.map_eq_some_iff.mp e
    obtain ⟨b, hb, hpb⟩ := paired_get hp hq
    exact ⟨b, hb, q, rfl, hpb⟩
  refine PySem.W.sorted_of_sort pl.isList hzi ha1 ha2 fun E' => ?_
  rw [ht]
  -- the tree
  generalize ea : s.heap.objs.size + 1 = a
  have ho : (PySem.W.copyHeap s.heap its).get? a = some (seqObj "list" its.toArray 0) := by
    rw [← ea]
    exact PySem.W.copyHeap_at s.heap its
  obtain ⟨e1, ho1⟩ : ∃ e1, ((PySem.W.copyHeap s.heap its).update a (Obj.mapSeq fun _ => (#[] : Array Value))).get? a = some (seqObj "list" #[] e1) := ⟨_, get?_update_seq ho fun _ => #[]⟩
  unfold ksk_tree
  refine wpAny_bind (listItems_at (s := { s with heap := PySem.W.copyHeap s.heap its }) ho rfl ?_)
  refine wpAny_bind (listUpdate_at (s := { s with heap := PySem.W.copyHeap s.heap its }) ho rfl ?_ (by rw [List.size_toArray]; exact hzi) (Nat.zero_le _))
  refine wpAny_bind (seqEpoch_at ho1 rfl ?_)
  refine wpAny_bind (wpAny_newTuple ?_ (by show its.length ≤ _; exact hzi))
  refine wpAny_bind (wpAny_newList ?_ (Nat.zero_le _))
  refine wpAny_holding ?_
  generalize ek : (((PySem.W.copyHeap s.heap its).update a (Obj.mapSeq fun _ => (#[] : Array Value))).push (seqObj "tuple" its.toArray 0)).objs.size = kS
  have up : ∀ b o, s.heap.get? b = some o → (((PySem.W.copyHeap s.heap its).update a (Obj.mapSeq fun _ => (#[] : Array Value))).push (seqObj "tuple" its.toArray 0)).get? b = some o := fun b o e => by
    have hb : b < s.heap.objs.size := Heap.lt_size e
    refine Heap.get?_push_of_some _ ?_
    rw [Heap.get?_update_ne _ _ _ _ (by rw [← ea]; exact Nat.ne_of_lt (Nat.lt_succ_of_lt hb))]
    exact PySem.W.copyHeap_old e
  have hka : a < kS := by
    rw [← ek, size_push', Heap.size_update]
    exact Nat.lt_succ_of_lt (Heap.lt_size ho)
  have hs_a : s.heap.objs.size ≤ a := by rw [← ea]; exact Nat.le_succ _
  have hs_k : s.heap.objs.size ≤ kS := Nat.le_of_lt (Nat.lt_of_le_of_lt hs_a hka)
  have fa : FpOk X ((f, fo) :: pins) H a := I.fpOk hs_a (I.hok.fresh hs_a)
  have fk : FpOk X ((f, fo) :: pins) H kS := I.fpOk hs_k (I.hok.fresh hs_k)
  have o2 : ((((PySem.W.copyHeap s.heap its).update a (Obj.mapSeq fun _ => (#[] : Array Value))).push (seqObj "tuple" its.toArray 0)).push (seqObj "list" #[] 0)).get? kS = some (seqObj "list" #[] 0) := by
    rw [← ek]
    exact Heap.get?_push_size _ rfl
  have o1 : ((((PySem.W.copyHeap s.heap its).update a (Obj.mapSeq fun _ => (#[] : Array Value))).push (seqObj "tuple" its.toArray 0)).push (seqObj "list" #[] 0)).get? a = some (seqObj "list" #[] e1) :=
    Heap.get?_push_of_some _ (Heap.get?_push_of_some _ ho1)
  have I1 : Inv X ((f, fo) :: pins) σ H { s with heap := (((PySem.W.copyHeap s.heap its).update a (Obj.mapSeq fun _ => (#[] : Array Value))).push (seqObj "tuple" its.toArray 0)).push (seqObj "list" #[] 0) } :=
    I.kept (t' := s.toks) fun b o e => Heap.get?_push_of_some _ (up b o e)
  -- pins
  have pinok : ∀ {s' : Shared} {H' : Hp} {kA : Array Value} {n : Nat}, Inv X ((f, fo) :: pins) σ H' s' → H' a = none → H' kS = none → s'.heap.get? kS = some (seqObj "list" kA n) → s'.heap.get? a = some (seqObj "list" #[] e1) →
      Inv X ((f, fo) :: ((kS, seqObj "list" kA n) :: (a, seqObj "list" #[] e1) :: pins)) σ H' s' := fun {s' H' kA n} J na nk hk ha => J.pins_of fun p hp => by
    rcases List.mem_cons.mp hp with e | hp
    · rw [e]
      exact J.pin _ (List.mem_append_right _ List.mem_cons_self)
    · rcases List.mem_cons.mp hp with e | hp
      · rw [e]
        exact ⟨hk, nk, fk.2.1, fk.2.2.1, fun v z => nomatch z⟩
      · rcases List.mem_cons.mp hp with e | hp
        · rw [e]
          exact ⟨ha, na, fa.2.1, fa.2.2.1, fun v z => nomatch z⟩
        · exact J.pin _ (List.mem_append_right _ (List.mem_cons_of_mem _ hp))
  unfold ksk_rest
  refine wpAny_bind (wpAny_rule ?_)
  first
    | rw [List.forIn_toArray]
    | (rw [← Array.forIn_toList]; simp only [List.toList_toArray])
    | rw [← Array.forIn_toList]
  refine wpAny_bind (ksk_fold (fun i s' => ∃ (H' : Hp) (kA : Array Value) (n : Nat) (ws : List V), Inv X ((f, fo) :: pins) σ H' s' ∧ Ex H H' ∧ H' a = none ∧ H' kS = none ∧ s'.heap.get? kS = some (seqObj "list" kA n) ∧
      s'.heap.get? a = some (seqObj "list" #[] e1) ∧ Vals ws kA.toList ∧ DpAll X.K H' ws ((ps.map k).take i)) its 0 _
    ⟨H, #[], 0, [], I1, Ex.refl H, fa.1, fk.1, o2, o1, .nil, by rw [List.take_zero]; exact .nil⟩ ?step ?done)
  case step =>
    rintro j x s' hx ⟨H', kA, n, ws, J, ex, na, nk, hk, ha, hv, hd⟩
    simp only [Nat.zero_add] at hd ⊢
    have hj : j < its.length := (List.getElem?_eq_some_iff.mp hx).1
    obtain ⟨pt, hpt⟩ : ∃ pt, ps[j]? = some pt := ⟨_, List.getElem?_eq_getElem (by omega)⟩
    have hz2 : (x, pt) ∈ its.zip ps := List.mem_of_getElem? (i := j) (by rw [List.getElem?_zip_eq_some]; exact ⟨hx, hpt⟩)
    obtain ⟨q, rfl, hq⟩ := hE.zip _ hz2
    have hzk : kA.size ≤ its.length := by
      have h1 := dpa_len hd
      have h2 := hv.length
      have h3 : kA.toList.length = kA.size := Array.length_toList
      rw [List.length_take, List.length_map] at h1
      omega
    have Jp := pinok J na nk hk ha
    refine wpAny_bind (wpAny_attempt (wpAny_mono (turn q pt _ s' H' (List.mem_of_getElem? hpt) (ex q _ hq) ex Jp) (fun v s2 he => ?_) fun _ _ hF => hF.elim))
    obtain ⟨y, H2, J2, ry, ex2, dy⟩ := he
    have pk := J2.pin _ (List.mem_append_right _ (List.mem_cons_of_mem _ List.mem_cons_self))
    have pa := J2.pin _ (List.mem_append_right _ (List.mem_cons_of_mem _ (List.mem_cons_of_mem _ List.mem_cons_self)))
    have J3 : Inv X ((f, fo) :: pins) σ H2 s2 := J2.pins_of fun p hp => by
      rcases List.mem_cons.mp hp with e | hp
      · rw [e]
        exact J2.pin _ (List.mem_append_right _ List.mem_cons_self)
      · exact J2.pin _ (List.mem_append_right _ (List.mem_cons_of_mem _ (List.mem_cons_of_mem _ (List.mem_cons_of_mem _ hp))))
    have s1 := Heap.SameBut.update s2.heap kS (Obj.mapSeq (·.push v))
    obtain ⟨c2, hc2⟩ : ∃ c2, (s2.heap.update kS (Obj.mapSeq (·.push v))).get? kS = some (seqObj "list" (kA.push v) c2) := ⟨_, get?_update_seq pk.1 (·.push v)⟩
    try dsimp only
    refine wpAny_bind (listUpdate_at pk.1 rfl ?_ (Nat.le_trans hzk hzi) (Nat.le_trans (Nat.le_of_eq (Array.size_push ..)) (Nat.succ_le_succ (Nat.le_trans hzk hzi))))
    have J4 : Inv X ((f, fo) :: pins) σ H2 { s2 with heap := s2.heap.update kS (Obj.mapSeq (·.push v)) } :=
      J3.turned (t' := s2.toks) (it := kS) (fun b o hb e => (s1.2 b hb).trans e) pk.2.1 fk.2.1 fk.2.2.2.1 fk.2.2.2.2.1 fk.2.2.2.2.2
    have ekk : (ps.map k).take (j + 1) = (ps.map k).take j ++ [k pt] := by
      rw [List.take_add_one, List.getElem?_map, hpt]
      rfl
    refine wpAny_pure ⟨rfl, H2, kA.push v, c2, ws ++ [y], J4, ex.trans ex2, pa.2.1, pk.2.1, hc2, (s1.2 a (Nat.ne_of_lt hka)).trans pa.1, ?_, ?_⟩
    · rw [Array.toList_push]
      exact hv.append (.cons ry .nil)
    · rw [ekk]
      exact dpa_app (dpa_mono ex2 hd) (.cons dy .nil)
  case done =>
    rintro s' ⟨H', kA, n, ws, J, ex, na, nk, hk, ha, hv, hd⟩
    rw [List.take_of_length_le (by rw [List.length_map]; omega)] at hd
    obtain ⟨ds, hds⟩ := Dp.readsAll J _ _ _ hd hv
    have hR : EachIs (fun v d => ∃ as, Reads s'.heap v d as) kA.toList (ps.map k) := PySem.W.each_map (R := fun v d => ∃ as, Reads s'.heap v d as) k (PySem.W.readsAll_each k hds)
    have hsz : kA.size = its.length := by
      have h1 := dpa_len hd
      have h2 := hv.length
      have h3 : kA.toList.length = kA.size := Array.length_toList
      rw [List.length_map] at h1
      omega
    try dsimp only
    refine wpAny_bind (listItems_at hk rfl ?_)
    have hu : ∀ d, d ∈ ps.map k → X.A.in1.in1.units + d.depth < cLine := fun d hd => by
      obtain ⟨x, hx, rfl⟩ := List.mem_map.mp hd
      have z := hk64 x hx
      have y : X.A.in1.in1.units = X.A.units + 2 := rfl
      omega
    refine PySem.W.keyH_end (κ := PySem.W.dataKind s'.heap (ps.map k)) (h₁ := PySem.W.hideAll s'.heap [kS]) (fun b o hb e => ?_) ?_ hk ha (Nat.ne_of_gt hka) (PySem.W.SortsAt.data (s := s') hR hal hsk hu) hsz hzi fun h3 tk3 c k3 n3 => ⟨rfl, ?_⟩
    · exact PySem.W.of_hideAll _ e
    · exact PySem.W.hideAll_none _ (by simp)
    · have hout : EachIs (fun v b => ∃ q, v = .ref q ∧ PtA H q b) (PySem.W.sortVals (PySem.W.dataKind s'.heap (ps.map k)) false kA.toList its) (ps.mergeSort (dataLe false k)) :=
        PySem.W.keyedOut_each k ⟨s'.heap, kA.toList, hal, rfl, hR⟩ hE
      obtain ⟨out, eo, hpo⟩ := each_addrs hout
      rw [eo] at n3
      have kp : ∀ b o, b ≠ a → b ≠ kS → s'.heap.get? b = some o → h3.get? b = some o := fun b o n1 n2 e => k3 b o n1 (hide_get e n2)
      have nb : ∀ b u, H' b = some u → b ≠ a ∧ b ≠ kS := fun b u e => ⟨ne_of_none e na, ne_of_none e nk⟩
      have J2 : Inv X pins σ H' s' := J.pins_of fun p hp => J.pin p (List.mem_append_right _ (List.mem_cons_of_mem _ hp))
      have ch : ∀ b, b ∈ [kS, a] → (b ∈ X.ex ∨ X.s_0.heap.objs.size ≤ b) ∧ b ≠ X.env.locals ∧ (∀ x c, X.env.cells.lookup x = some c → c ≠ b) ∧ ∀ p ∈ X.pn ++ pins, p.1 ≠ b := fun b hb => by
        have nop : ∀ p ∈ X.pn ++ pins, p ∈ X.pn ++ ((f, fo) :: pins) := fun p hp => (List.mem_append.mp hp).elim (fun z => List.mem_append_left _ z) fun z => List.mem_append_right _ (List.mem_cons_of_mem _ z)
        rcases List.mem_cons.mp hb with e | hb
        · rw [e]
          exact ⟨fk.2.2.2.1, fk.2.1, fk.2.2.2.2.1, fun p hp => fk.2.2.2.2.2 p (nop p hp)⟩
        · rw [List.mem_singleton.mp hb]
          exact ⟨fa.2.2.2.1, fa.2.1, fa.2.2.2.2.1, fun p hp => fa.2.2.2.2.2 p (nop p hp)⟩
      have nin : ∀ b, b ∉ [kS, a] → b ≠ a ∧ b ≠ kS := fun b hb => ⟨fun z => hb (by simp [z]), fun z => hb (by simp [z])⟩
      have ut : ∀ b u, H' b = some u → upd H' a (.lst (out.map V.ref)) b = some u := fun b u e => by
        rw [upd_ne (nb b u e).1]
        exact e
      have hol : (out.map V.ref).length ≤ sizeLine := by
        have z := Paired.length hpo
        rw [List.length_mergeSort] at z
        rw [List.length_map]
        omega
      have I5 : Inv X pins σ (upd H' a (.lst (out.map V.ref))) { s' with heap := h3, gens := s'.gens, drawn := s'.drawn, toks := tk3 } := by
        refine J2.step (ch := [kS, a]) ch (fun b o _ _ hb e _ => kp b o (nin b hb).1 (nin b hb).2 e) (fun b o _ _ hb e _ => ⟨o.slots, kp b o (nin b hb).1 (nin b hb).2 e⟩) (fun b o hb e n => ?_) (fun b o hb e => ⟨o, kp b o (nin b hb).1 (nin b hb).2 e⟩)
          (fun b xs e => ut b _ e) (fun b o u e => ut b _ e) (fun b qs e => ⟨#[], by rw [ut b _ e]; simp⟩) (fun m hm => ?_) (fun b u e => ?_) J2.bare
        · rw [upd_ne (nin b hb).1]
          exact n
        · obtain ⟨ob, es, ep, ho, r⟩ := hm
          exact ⟨ob, es, ep, kp _ ob (fun z => fa.2.1 z.symm) (fun z => fk.2.1 z.symm) ho, r⟩
        · by_cases hb : b = a
          · rw [hb, upd_same] at e
            cases e
            rw [hb]
            exact ⟨hol, out.map Value.ref, c, vals_refs out, n3⟩
          · rw [upd_ne hb] at e
            refine (J2.hok b u e).stay (fun d v hd q => ?_) (fun d q => ut d _ q) fun d xs q => ut d _ q
            rcases hd with z | z
            · rw [z] at q ⊢
              exact kp b v hb (nb b u e).2 q
            · exact kp d v (nb d _ z).1 (nb d _ z).2 q
      refine ⟨.ref a, _, I5, rfl, fin a out _ fa.1 (fun b u e => ut b u (ex b u e)) upd_same hpo⟩
end
end Z7
end

section
set_option Elab.async false
set_option linter.all false
set_option maxRecDepth 100000
set_option maxHeartbeats 4000000
namespace Z7
open PySem PySem.Spec PyProof.Rows L2
open Evl
open PySem.W (EachIs dataLe AllAlike Sortable)
abbrev ExN (H H' : Hp) : Prop := LamX.ExtN H H'
theorem exn_rd {H H' : Hp} (e : ExN H H') {a : Addr} {o : HO} (ht : ∀ ps, o ≠ .tbl ps) (h : Rd H a o) : Rd H' a o := by
  rcases h with h | ⟨ob, h⟩
  · exact .inl (e a _ h ht)
  · exact .inr ⟨ob, e a _ h fun ps z => nomatch z⟩
theorem exn_l {K : Fg} {H H' : Hp} (e : ExN H H') {a : Addr} {xs : List V} (h : SqL K H a xs) : SqL K H' a xs := by
  rcases h with h | h
  · exact .inl (exn_rd e (fun ps z => nomatch z) h)
  · exact .inr h
theorem exn_t {K : Fg} {H H' : Hp} (e : ExN H H') {a : Addr} {xs : List V} (h : SqT K H a xs) : SqT K H' a xs := by
  rcases h with h | h
  · exact .inl (exn_rd e (fun ps z => nomatch z) h)
  · exact .inr h
theorem exn_pt {H H' : Hp} (e : ExN H H') {q : Addr} {x : Pt} (h : PtA H q x) : PtA H' q x := e q _ h fun ps z => nomatch z
theorem ex_pt {H H' : Hp} (e : Ex H H') {q : Addr} {x : Pt} (h : PtA H q x) : PtA H' q x := e q _ h
theorem exn_pts {H H' : Hp} (e : ExN H H') {as : List Addr} {ps : List Pt} (h : Paired (fun q b => PtA H q b) as ps) : Paired (fun q b => PtA H' q b) as ps := L2.Paired.mapP h fun _ _ z => exn_pt e z
theorem ex_pts {H H' : Hp} (e : Ex H H') {as : List Addr} {ps : List Pt} (h : Paired (fun q b => PtA H q b) as ps) : Paired (fun q b => PtA H' q b) as ps := L2.Paired.mapP h fun _ _ z => ex_pt e z
theorem dp_exn {K : Fg} {H H' : Hp} (e : ExN H H') {v : V} {d : PyData} (h : Dp K H v d) : Dp K H' v d := by
  refine Dp.rec (motive_1 := fun v d _ => Dp K H' v d) (motive_2 := fun vs ds _ => DpAll K H' vs ds) ?_ ?_ ?_ ?_ ?_ ?_ ?_ ?_ h
  · exact .non
  · exact fun b => .bl b
  · exact fun i => .int i
  · exact fun x => .str x
  · exact fun hs _ ih => .lst (exn_l e hs) ih
  · exact fun hs _ ih => .tup (exn_t e hs) ih
  · exact .nil
  · exact fun _ _ i1 i2 => .cons i1 i2
theorem exn_of {H H' : Hp} (e : Ex H H') : ExN H H' := LamX.ExtN.of e
/-- sorted(e, key=lambda x: body) -/
def tSortLam (K : Fg) (T : List (Addr × Str)) (tb : TE) (tas : TA) : TE := fun σ H Q => tas σ H fun vs H1 => ∃ (l : Addr) (as : List Addr) (ps : List Pt) (k : Pt → PyData), vs = [.ref l] ∧ SqL K H1 l (as.map V.ref) ∧ Paired (fun q b => PtA H1 q b) as ps ∧
  AllAlike (ps.map k) ∧ Sortable (ps.map k) ∧ (∀ x ∈ ps, (k x).depth ≤ 8) ∧ LamX.Tabs T H1 ∧
  (∀ (q : Addr) (x : Pt) (H' : Hp), x ∈ ps → PtA H' q x → ExN H1 H' → tb (σ ++ [some (.ref q)]) H' fun v H2 => Ex H' H2 ∧ Dp K H2 v (k x)) ∧
  ∀ p out H2, ExN H1 H2 → H2 p = some (.lst (out.map V.ref)) → Paired (fun q b => PtA H2 q b) out (ps.mergeSort (dataLe false k)) → Q (.ref p) H2
theorem pe_sortLam {X : Cx} {T : List (Addr × Str)} {c P : Addr} {k : Nat} {x : Str} {e : Expr} {tas : TA} {params : Arguments} {body : Expr} {scope : Scope} {tb : TE} {p lpos kpos pos : Pos} (hr : Room (k + 3) X.A) (hg : Gl X "sorted") (hm : X.mg "sorted" = none) (ha : PA X [e] tas)
    (TB : LamX.TabB X.base X.mg c P) (hcode : X.env.code = .ref c) (hmT : (P, X.env.qual ++ "<lambda>") ∈ T) (hu : ∀ p ∈ T, p.1 = P → p.2 = X.env.qual ++ "<lambda>") (L : Lam1 X.env.scope scope x) (hx : x ∉ X.N) (hdef : defaultsOf params X.env = ([], []))
    (hbind : ∀ (q : Str) (cl : List (Str × Addr)) (pm cv ctv u : Value), bindArgs (PySem.W.kla_fn "<lambda>" q params body scope cl pm cv ctv) ⟨[u], []⟩ = pure [(x, u)])
    (hbody : ∀ (A : Around) (s : Shared) (H : Hp) (f c' : Addr), Room k (A.deeper (LamX.lamEnv X scope s.heap.objs.size f c')) → PE (lamC X A s H scope f c' x) body tb) (hc : X.calm = true := by rfl)
    (he : backTo pos (starEach [e] X.env) = (false, eval e X.env) :: backTo pos (starEach [] X.env) := by rfl) (hpl : (backTo pos (starEach [e] X.env)).any (·.1) = false := by rfl) :
    PE X (.Call (.Name "sorted" p) [e] [⟨some "key", .Lambda params body scope lpos, kpos⟩] pos) (tSortLam X.K T tb tas) := by
  refine ⟨fun pins s σ H Q I h => ?_⟩
  refine wpAny_Call_Name_kw (ld_blt I hg hm (show bootBuiltins "sorted" = some (.builtin "sorted") from by rfl) ?_)
  refine PyProof.Rows.callWith_kw (thn (ha.run pos pins s σ H _ I h) fun us s1 ⟨vs, H1, I1, r1, q1⟩ => ?_) he hpl (by rfl) (by rfl)
  obtain ⟨l, as, ps, kk, rfl, hl, hp, hal, hsk, hk8, hT, hturn, fin⟩ := q1
  obtain rfl := Vals.ref1 r1
  show wpAny _ _ (evalAll ((do let v ← eval (.Lambda params body scope lpos) X.env; standAt pos; pure v) :: [])) _ _ s1
  refine wpAny_evalAll_cons (wpAny_bind ?_)
  refine LamX.lam_make2 I1 TB hcode hmT hu hT hdef (L.has I1.ok) fun f c' pm ctv H2 s2 I2 eN T2 hf hfn hfr hco => ?_
  refine wpAny_bind (wpAny_standAt (wpAny_pure (wpAny_evalAll_nil ?_)))
  have fne : f ≠ X.env.locals := fun z => by
    obtain ⟨m, ⟨o', es, ep, ho', hd', _⟩, _⟩ := I2.loc
    rw [z, ho'] at hf
    cases hf
    cases hd'
  have ffs : f ∉ X.fs := fun hb => by
    rcases I2.ok.stk with e | ⟨e, hfr'⟩
    · exact hfr (by rw [e]; exact hb)
    · refine hfr ?_
      rw [e]
      unfold frs
      rw [List.filterMap_cons, hfr']
      exact List.mem_cons_of_mem _ hb
  have I3 : Inv X ((f, PySem.W.kla_obj "<lambda>" (X.env.qual ++ "<lambda>") params body scope (cloFrom X.env.cells scope.names []) pm c' ctv) :: pins) σ H2 s2 := I2.pins_of fun p hp => by
    rcases List.mem_cons.mp hp with e | hp
    · rw [e]
      exact ⟨hf, hfn, fne, ffs, fun v z => nomatch z⟩
    · exact I2.pin p (List.mem_append_right _ hp)
  refine sortKey_run (k := kk) hc (by have := hr.un; omega) hk8 I3 (exn_l eN hl) (exn_pts eN hp) hal hsk (PyProof.Rows.ksk_s1 _ _) (fun _ => PyProof.Rows.ksk_l1 _ _) (fun y => PyProof.Rows.ksk_t1 f y) (fun q y pl s' H' hy hq ex J => ?_) fun p' out H3 hn ex hH hpo => ?_
  · have hfo := (J.pin _ (List.mem_append_right _ List.mem_cons_self)).1
    exact lam_turn (v := .ref q) J L hx hfo rfl (ex c' _ hco) (hr.in1.in1) J.ok.frames (hbind _ _ _ _ _ _) rfl (fun hrr => hbody _ _ _ _ _ hrr) (hturn q y H' hy hq (eN.trans (exn_of ex)))
  · exact fin p' out H3 (eN.trans (exn_of ex)) hH (ex_pts ex hpo)
end Z7
end

section
set_option Elab.async false
set_option linter.all false
set_option maxRecDepth 100000
set_option maxHeartbeats 4000000
namespace Z7
open PySem L2 Evl
theorem pts_count (p : Nat) : ∀ n : Nat, (pts p n).length = p ^ n
  | 0 => rfl
  | n + 1 => by
    have ih := pts_count p n
    show ((pts p n).flatMap fun row => (List.range p).map fun (k : Nat) => row ++ [(k : Int)]).length = p ^ (n + 1)
    generalize pts p n = l at ih
    rw [Nat.pow_succ, ← ih]
    clear ih
    induction l with
    | nil => simp
    | cons a l ih => rw [List.flatMap_cons, List.length_append, ih, List.length_map, List.length_range, List.length_cons, Nat.succ_mul, Nat.add_comm]
abbrev PtsA (H : Hp) (as : List Addr) (ps : List Pt) : Prop := Paired (fun q b => PtA H q b) as ps
theorem PtsA.snoc {H : Hp} {as : List Addr} {ps : List Pt} {q : Addr} {x : Pt} (h : PtsA H as ps) (k : PtA H q x) : PtsA H (as ++ [q]) (ps ++ [x]) := by
  induction h with
  | nil => exact .cons k .nil
  | cons a _ ih => exact .cons a ih
theorem PtsA.len {H : Hp} {as : List Addr} {ps : List Pt} (h : PtsA H as ps) : as.length = ps.length := Paired.length h
theorem pt_tex {H H' : Hp} (e : TEx H H') {q : Addr} {x : Pt} (h : PtA H q x) : PtA H' q x := e q _ h rfl
theorem pts_tex {H H' : Hp} (e : TEx H H') {as : List Addr} {ps : List Pt} (h : PtsA H as ps) : PtsA H' as ps := L2.Paired.mapP h fun _ _ z => pt_tex e z
/-- a new list of tuples -/
def RetP (ps : List Pt) (H : Hp) (Q : VK) : Prop := ∀ l as H2, H l = none → Ex H H2 → H2 l = some (.lst (as.map V.ref)) → PtsA H2 as ps → Q (.ref l) H2
section
variable {P : Program} {w : World} {K : Fg} {mg : Str → Option Value} {base : Heap} {f : Addr} {fd : FuncData}
def spTuples : Sp := fun vs H Q _ => ∃ p n : Nat, vs = [.int (p : Int), .int (n : Int)] ∧ (0 < p ∧ p ≤ 7) ∧ n ≤ 8 ∧ p ^ n ≤ 1000 ∧ RetP (pts p n) H Q
abbrev tupRow (p : Nat) (x : Pt) (j : Nat) : List Pt := (List.range j).map fun (k : Nat) => x ++ [(k : Int)]
theorem ok_tuples (F : FnP K "tuples_of" "tuples_of" sTuplesOf f fd) (B : Bi mg) : FnOk P w K mg base CX0 1 f fd ["prime", "count"] spTuples := by
  refine F.ok scTuplesOf (fun vs H Q E h => ?_) (fun cdv A outer s H vs Q E hr h => ?_)
  · obtain ⟨p, n, rfl, _⟩ := h
    rfl
  · obtain ⟨p, n, rfl, hp, hn8, hpn, k⟩ := h
    refine ⟨_, PSs.nox (pss_cons (ps_set (i := 2) scTuplesOf.nd rfl (.inl rfl) (pe_lst (pa_cons (pe_tup pa_nil) pa_nil)))
      (pss_cons (ps_for PassesOwn.never rfl (pi_range1 rfl B.range (pa_cons (pv 1) pa_nil)) (pg_name (i := 3) scTuplesOf.nd rfl (.inl rfl))
        (pss_one (ps_setLc2 (i := 2) (own := [("row", 4), ("number", 5)]) (vs1 := [5]) (g := gName 4) (g1 := gName 5) (tt := tYes) (tt1 := tYes) rfl scTuplesOf.nd rfl rfl (sw_true rfl rfl rfl (by decide +kernel)) (pi_list (pv 2)) (blkOk_by (N := nTuplesOf) (sc := defScope sTuplesOf) (by decide +kernel)) (by decide)
          (fun _ _ _ _ _ => pg_name (i := 4) scTuplesOf.nd rfl (.inl rfl)) (fun _ _ _ _ _ => pts_nil) (fun _ _ _ _ _ => pi_range1 rfl B.range (pa_cons (pv 0) pa_nil)) (fun _ _ _ _ _ => pg_name (i := 5) scTuplesOf.nd rfl (.inl rfl)) (fun _ _ _ _ _ => pts_nil)
          (fun _ _ _ _ _ => pe_op (r := rCatA K) op_catA (pv 4) (pe_tup (pa_cons (pv 5) pa_nil))))))
      (pss_one (ps_ret (pv 2))))), ?_⟩
    refine ⟨by show 0 ≤ sizeLine; exact Nat.zero_le _, fun t ht => ⟨by show 1 ≤ sizeLine; exact sz_of (by decide), fun l hl => ?_⟩⟩
    have hlt : l ≠ t := fun z => by
      rw [z, upd_same] at hl
      cases hl
    have e0 : Ex H (upd (upd H t (.tup [])) l (.lst [.ref t])) := (Ex.new ht).trans (Ex.new hl)
    refine q_forR1 (n := (n : Int)) (ea_cons (ev_var rfl) ea_nil) ⟨by omega, by omega⟩ (fun i σ H' => Ex H H' ∧ ∃ l as z, σ = [some (.int p), some (.int n), some (.ref l), z, none, none] ∧ H l = none ∧ H' l = some (.lst (as.map V.ref)) ∧ PtsA H' as (pts p i))
      (fun H2 e2 => ⟨e0.trans e2, l, [t], none, rfl, fresh_back (Ex.new ht) hl, e2 l _ upd_same, .cons (e2 t _ (by rw [upd_ne (Ne.symm hlt)]; exact upd_same)) .nil⟩) ?_ ?_
    · rintro i σ H1 hi ⟨ex, l, as, z, rfl, nl, hl, ha⟩
      have hlen : as.length = p ^ i := by rw [ha.len, pts_count]
      have hpi : p ^ (i + 1) ≤ 1000 := Nat.le_trans (Nat.pow_le_pow_right hp.1 (by omega)) hpn
      have hpi' : p ^ i ≤ 1000 := Nat.le_trans (Nat.pow_le_pow_right hp.1 (by omega)) hpn
      refine ⟨.ref l, rfl, l, rfl, ⟨_, sq_of hl⟩, fun D hD => ⟨fun a m H2 => m = as.length - a ∧ a ≤ as.length ∧ Ex H1 H2 ∧ ∃ bs, H2 D = some (.lst (bs.map V.ref)) ∧ PtsA H2 bs (((pts p i).take a).flatMap fun x => tupRow p x p), ⟨_, rfl, Nat.zero_le _, Ex.new hD, [], upd_same, .nil⟩, ?_⟩⟩
      rintro a m H2 ⟨rfl, ha2, ex2, bs, hb, hpb⟩
      by_cases hlt2 : a < as.length
      · refine .inr ⟨⟨_, .ref as[a], sq_of (ex2 l _ hl), by simp [hlt2]⟩, fun H3 => Ex H1 H3 ∧ ∃ bs, H3 D = some (.lst (bs.map V.ref)) ∧ PtsA H3 bs (((pts p i).take (a + 1)).flatMap fun x => tupRow p x p), fun H3 h3 => ⟨as.length - (a + 1), by omega, rfl, hlt2, h3⟩, ?_⟩
        rintro x H3 ⟨rfl, hx⟩
        have hx' := hx _ (sq_of (ex2 l _ hl))
        have hxe : x = .ref as[a] := by
          rw [List.getElem?_map, List.getElem?_eq_getElem hlt2] at hx'
          exact (Option.some.inj hx').symm
        subst hxe
        obtain ⟨pt, hpt, hpa⟩ := paired_get ha (List.getElem?_eq_getElem hlt2)
        have hptm : pt ∈ pts p i := List.mem_of_getElem? hpt
        have etk : ∀ G : Pt → List Pt, ((pts p i).take (a + 1)).flatMap G = ((pts p i).take a).flatMap G ++ G pt := fun G => by
          rw [List.take_add_one, hpt, List.flatMap_append]
          simp
        refine ⟨rfl, ?_⟩
        refine ⟨.int (p : Int), rfl, (p : Int), rfl, by omega, by omega, fun b c H4 => c = p - b ∧ b ≤ p ∧ Ex H1 H4 ∧ ∃ bs, H4 D = some (.lst (bs.map V.ref)) ∧ PtsA H4 bs (((pts p i).take a).flatMap (fun x => tupRow p x p) ++ tupRow p pt b), ⟨_, rfl, Nat.zero_le _, ex2, bs, hb, by rw [show tupRow p pt 0 = [] from rfl, List.append_nil]; exact hpb⟩, ?_⟩
        rintro b c H4 ⟨rfl, hb2, ex4, bs4, hb4, hpb4⟩
        by_cases hlt4 : b < p
        · refine .inr ⟨by show b < (p : Int).toNat; rw [Int.toNat_natCast]; exact hlt4, fun H5 => Ex H1 H5 ∧ ∃ bs, H5 D = some (.lst (bs.map V.ref)) ∧ PtsA H5 bs (((pts p i).take a).flatMap (fun x => tupRow p x p) ++ tupRow p pt (b + 1)), fun H5 h5 => ⟨p - (b + 1), by omega, rfl, hlt4, h5⟩, ?_⟩
          rintro x H5 ⟨rfl, rfl⟩
          refine ⟨rfl, ?_⟩
          have e00 : (0 : Int) + (b : Int) = (b : Int) := Int.zero_add _
          rw [e00]
          refine ⟨.ref as[a], rfl, .int (b : Int), rfl, by show 1 ≤ sizeLine; exact sz_of (by decide), fun u hu => ?_⟩
          have hq5 : PtA H5 as[a] pt := ex4 _ _ hpa
          have eu : Ex H5 (upd H5 u (.tup [.int (b : Int)])) := Ex.new hu
          have hqu : PtA (upd H5 u (.tup [.int (b : Int)])) as[a] pt := eu _ _ hq5
          have hmul : bs4.length < sizeLine := by
            have z := hpb4.len
            have z1 : (((pts p i).take a).flatMap (fun x => tupRow p x p) ++ tupRow p pt b).length ≤ p ^ i * p := by
              have y : ∀ l : List Pt, (l.flatMap fun x => tupRow p x p).length = l.length * p := fun l => by
                induction l with
                | nil => simp
                | cons a l ih => rw [List.flatMap_cons, List.length_append, ih, List.length_map, List.length_range, List.length_cons, Nat.succ_mul, Nat.add_comm]
              rw [List.length_append, y, List.length_take, pts_count, List.length_map, List.length_range]
              have y2 : min a (p ^ i) = a := by omega
              rw [y2]
              have y3 : (a + 1) * p ≤ p ^ i * p := Nat.mul_le_mul_right p (by omega)
              rw [Nat.succ_mul] at y3
              omega
            rw [← Nat.pow_succ] at z1
            exact sz_lt (Nat.lt_of_le_of_lt (Nat.le_trans (Nat.le_trans (Nat.le_of_eq z) z1) hpi) (by decide))
          have fin : ∀ (q : Addr) (H6 : Hp), Ex H5 H6 → PtA H6 q (pt ++ [(b : Int)]) → ∃ acc, H6 D = some (.lst acc) ∧ acc.length < sizeLine ∧ (fun H5 => Ex H1 H5 ∧ ∃ bs, H5 D = some (.lst (bs.map V.ref)) ∧ PtsA H5 bs (((pts p i).take a).flatMap (fun x => tupRow p x p) ++ tupRow p pt (b + 1))) (upd H6 D (.lst (acc ++ [.ref q]))) := fun q H6 e6 hq => by
            refine ⟨bs4.map V.ref, e6 D _ hb4, by rw [List.length_map]; exact hmul, Ex.mut (ex4.trans e6) hD, bs4 ++ [q], ?_, ?_⟩
            · rw [upd_same, List.map_append] <;> rfl
            · have tx : TEx H6 (upd H6 D (.lst (bs4.map V.ref ++ [.ref q]))) := TEx.upd (e6 D _ hb4) rfl
              have er : tupRow p pt (b + 1) = tupRow p pt b ++ [pt ++ [(b : Int)]] := by
                unfold tupRow
                rw [List.range_succ, List.map_append] <;> rfl
              rw [er, ← List.append_assoc]
              exact (pts_tex ((TEx.of e6).trans tx) hpb4).snoc (pt_tex tx hq)
          refine ⟨as[a], u, pt.map V.int, [.int (b : Int)], rfl, rfl, .inl (.inl hqu), .inl (.inl upd_same), ?_, fun hnil => ?_, fun _ z => (by cases z), fun _ _ q hq => ?_⟩
          · rw [List.length_map, pts_len hptm]
            exact sz_of (show i + 1 ≤ 100000 by omega)
          · refine fin u _ eu ?_
            have z : pt = [] := List.map_eq_nil_iff.mp hnil
            rw [z]
            exact upd_same
          · refine fin q _ (eu.trans (Ex.new hq)) ?_
            show upd _ q _ q = _
            rw [upd_same, List.map_append] <;> rfl
        · refine .inl ⟨by show (p : Int).toNat ≤ b; rw [Int.toNat_natCast]; omega, ex4, bs4, hb4, ?_⟩
          have hbp : b = p := by omega
          rw [hbp] at hpb4
          rw [etk]
          exact hpb4
      · refine .inl ⟨⟨_, sq_of (ex2 l _ hl), by rw [List.length_map]; omega⟩, ?_⟩
        have haa : a = as.length := by omega
        have zl := ha.len
        rw [haa, List.take_of_length_le (by omega)] at hpb
        exact ⟨ex.trans ex2, D, bs, some (.int (i : Int)), rfl, fresh_back ex hD, hb, hpb⟩
    · rintro σ H1 ⟨ex, l, as, z, rfl, nl, hl, ha⟩
      rw [Int.toNat_natCast] at ha
      exact s_ret (ev_var rfl) fun H2 e2 => k l as H2 nl (ex.trans e2) (e2 l _ hl) (ex_pts e2 ha)
end
end Z7
end

section
set_option Elab.async false
set_option linter.all false
set_option maxRecDepth 100000
set_option maxHeartbeats 4000000
namespace Z7
open PySem L2 Evl
open PySem.W (dataLe AllAlike Sortable)
section
open PySem.Spec PySem.Calls PyProof.Rows PyProof.V
/-- sum(t) of a tuple of ints -/
def rSumT (K : Fg) : List V → Hp → VK → Prop := fun vs H Q => ∃ (a : Addr) (ns : List Int), vs = [V.ref a] ∧ SqT K H a (ns.map V.int) ∧ Q (.int ns.sum) H
theorem cr_sumT {X : Cx} (hc : X.calm = true) : CallR X (.builtin "sum") (rSumT X.K) := by
  intro pins s σ H vs us Q I r h
  obtain ⟨a, ns, rfl, hs, q⟩ := h
  obtain ⟨its, rv, hl, _⟩ := I.tuple hs
  rw [Vals.ref1 r]
  have hi := rv.ints
  obtain ⟨xs, hx⟩ := hi.allInts.items
  have hn : numsOf its.toArray.toList = ns := by rw [show its.toArray.toList = its from rfl]; exact hi.numsOf
  rw [hx] at hl hn
  rw [nums_intItems] at hn
  refine PySem.W.ktm_sumG (I.ok.hd hc) hl fun h' tk t' hk => ?_
  rw [preSum_eq, List.take_of_length_le (by simp), hn]
  exact ⟨.int _, H, I.kept hk, ⟨_, rfl⟩, q⟩
end
def kD (x : Pt) : PyData := .tuple [.int x.sum, ptD x]
theorem kD_alike (ps : List Pt) : AllAlike (ps.map kD) := AllAlike.of fun b b' => by
  unfold kD ptD
  rw [PySem.W.alike, PySem.W.alikeAll, PySem.W.alikeAll, PySem.W.alike, PySem.W.alike, PySem.W.alike_ints]
  simp [PySem.W.alike, PySem.W.alikeAll]
theorem kD_sortable (ps : List Pt) : Sortable (ps.map kD) := Sortable.tuples fun b => ⟨_, _, rfl⟩
theorem kD_depth (x : Pt) : (kD x).depth ≤ 8 := by
  unfold kD ptD
  rw [PyData.depth, PyData.depthAll, PyData.depthAll, PyData.depthAll, PyData.depth, PyData.depth, PySem.W.depth_ints]
  decide
section
variable {P : Program} {w : World} {K : Fg} {mg : Str → Option Value} {base : Heap} {f : Addr} {fd : FuncData}
def spDegree (K : Fg) : Sp := fun vs H Q _ => ∃ (a : Addr) (x : Pt), vs = [.ref a] ∧ TI K H a x ∧ RetV (.int x.sum) H Q
theorem ok_degree (F : FnP K "degree_of" "degree_of" sDegreeOf f fd) (B : Bi mg) : FnOk P w K mg base CX0 1 f fd ["power"] (spDegree K) := by
  refine F.ok scDegreeOf (fun vs H Q E h => ?_) (fun cdv A outer s H vs Q E hr h => ?_)
  · obtain ⟨a, x, rfl, _⟩ := h
    rfl
  · obtain ⟨a, x, rfl, hx, k⟩ := h
    refine ⟨_, PSs.nox (pss_one (ps_ret (pe_callB (cr_sumT rfl) rfl B.sum PyProof.Rows.boot_sum (pa_cons (pv 0) pa_nil)))), ?_⟩
    exact ⟨.ref a, rfl, a, x, rfl, hx, k H (Ex.refl H)⟩
def spKeyOf (K : Fg) : Sp := fun vs H Q _ => ∃ (a : Addr) (x : Pt), vs = [.str "degree", .ref a] ∧ TI K H a x ∧ RetD K (kD x) H Q
theorem ok_keyof (F : FnP K "key_of" "key_of" sKeyOf f fd) (C : Cal P w K mg base 1 "degree_of" ["power"] (spDegree K)) : FnOk P w K mg base CX0 2 f fd ["order", "power"] (spKeyOf K) := by
  refine F.ok scKeyOf (fun vs H Q E h => ?_) (fun cdv A outer s H vs Q E hr h => ?_)
  · obtain ⟨a, x, rfl, _⟩ := h
    rfl
  · obtain ⟨a, x, rfl, hx, k⟩ := h
    refine ⟨_, PSs.nox (pss_cons (ps_if (pt_cmpR op_eq (pv 0) pe_str (nomark _)) (pss_one (ps_ret (pe_tup (pa_cons (pe_cal C hr rfl (pa_cons (pv 1) pa_nil)) (pa_cons (pv 1) pa_nil))))) pss_nil)
      (pss_one (ps_ret (pe_tup (pa_cons pe_int (pa_cons (pv 1) pa_nil)))))), ?_⟩
    refine q_when (et_test (ev_op (ev_var rfl) ev_c (rv_eq rfl))) (fun _ H1 e1 => ?_) (fun hb => by simp at hb)
    have hx1 := hx.mono e1
    refine s_retU (eu_tup (ea_cons (ev_call (ea_cons (ev_var rfl) ea_nil) fun H2 e2 Q q E => ⟨a, x, rfl, hx1.mono e2, q⟩) (ea_cons (ev_var rfl) ea_nil)) (show 2 ≤ 100000 by decide)) fun p H2 hp e2 h2 => ?_
    exact k _ _ (e1.trans e2) (.tup (.inl (.inl h2)) (.cons (.int _) (.cons (ti_dp (hx1.mono e2)) .nil)))
/-! ### ascending -/
structure FnC (K : Fg) (x : Str) (st : Stmt) (c f : Addr) (fd : FuncData) : Prop where
  ex : ∃ (oc : Value) (od : Option Addr) (dV kV doc pm : Value) (an : Option Addr) (ct : Value) (osl : Array (Option Value)),
    fd = PySem.W.fnOf x x (defArgs st) (defBody st) (defScope st) dV kV doc pm an (.ref c) ct ∧ K.lookup f = some ⟨oc, od, .func fd, osl⟩ ∧ PySem.W.codeIn K (.ref c) x = true
abbrev nAsc : List Str := ["order", "powers"]
theorem scAsc : FnScope nAsc ["order", "powers"] (defScope sAscending) := ⟨rfl, rfl, rfl, by decide +kernel, rfl, by decide +kernel, by decide +kernel⟩
def spAscending (K : Fg) (T : Addr) : Sp := fun vs H Q _ => ∃ (l : Addr) (as : List Addr) (ps : List Pt), vs = [.str "degree", .ref l] ∧ SqL K H l (as.map V.ref) ∧ PtsA H as ps ∧ H T = some (.tbl #[]) ∧
  ∀ p out H2, ExN H H2 → H2 p = some (.lst (out.map V.ref)) → PtsA H2 out (ps.mergeSort (dataLe false kD)) → Q (.ref p) H2
theorem ok_ascending {c T : Addr} (F : FnC K "ascending" sAscending c f fd) (B : Bi mg) (TB : LamX.TabB base mg c T) (C : Cal P w K mg base 2 "key_of" ["order", "power"] (spKeyOf K)) : FnOk P w K mg base CX0 7 f fd ["order", "powers"] (spAscending K T) := by
  obtain ⟨oc, od, dV, kV, doc, pm, an, ct, osl, rfl, lk, hcd⟩ := F.ex
  refine fn_of lk hcd scAsc (fun vs H Q E h => ?_) (fun A outer s H vs Q E hr h => ?_)
  · obtain ⟨l, as, ps, rfl, _⟩ := h
    rfl
  · obtain ⟨l, as, ps, rfl, hl, hp, hT, k⟩ := h
    refine ⟨_, PSs.nox (pss_one (ps_ret (pe_sortLam (T := [(T, (("ascending" : Str) ++ (".<locals>." : Str)) ++ ("<lambda>" : Str))]) (c := c) (P := T) (k := 2) (x := "power") (tb := tCall (spKeyOf K) [] E0 (tCons (tVar 0) (tCons (tVar 2) tNil))) (hr.mono (by decide)) rfl B.sorted (pa_cons (pv 1) pa_nil) TB rfl (List.mem_singleton.mpr rfl) (fun p hp _ => by rw [List.mem_singleton.mp hp] <;> rfl) (lam1_by (show lam1B (defScope sAscending) _ _ = true by decide +kernel)) (show ¬ ("power" : Str) ∈ nAsc by decide +kernel) rfl ?_ ?_))), ?_⟩
    · intro q cl pm cv ctv u
      exact rfl
    · intro A2 s2 H2 f2 c2 hrr
      exact pe_cal C hrr rfl (pa_cons (pv 0) (pa_cons (pv 2) pa_nil))
    · refine ⟨.ref l, rfl, l, as, ps, kD, rfl, hl, hp, kD_alike ps, kD_sortable ps, fun x _ => kD_depth x, fun p hp => ?_, fun q x H2 hx hq e2 => ?_, fun p out H2 e2 h2 hpo => k p out H2 e2 h2 hpo⟩
      · rw [List.mem_singleton.mp hp]
        exact LamX.TabS.nil hT
      · refine ⟨.str "degree", rfl, .ref q, rfl, q, x, rfl, .inl (.inl hq), fun v H3 e3 h3 => ⟨e3, h3⟩⟩
end
end Z7
end

section
set_option Elab.async false
set_option linter.all false
set_option maxRecDepth 100000
set_option maxHeartbeats 4000000
namespace Z7
section
open PySem PySem.Spec PyProof.Rows
/-! ### set(xs) of different texts (the kit's proof for at most one text, turned to several) -/
section
variable {prog : Program} {w : World} {A : Around} {R : Result → Shared → Prop} {I : Addr} {fp wr : List Addr} {G : Array GenState → Array GenState → Prop} {n : Nat} {P : Nat → Value → Prop} {St : Nat → Shared → Prop}
theorem loopStrN (W : WalksS prog w A.in1 I fp wr G n P St) (S : Addr) (hSf : S ∉ fp) (xs : List Str) (hsz : xs.length = n) (hn1 : n ≤ 64) (hnd : xs.Nodup)
    (hval : ∀ i v, P i v → ∃ t, v = .str (xs.getD i Str.empty) t) :
    ∀ (k i : Nat) (s : Shared), n - i = k → i ≤ n → St i s →
      s.heap.SetOf (PySem.strKind prog w) S (fun k' => (xs.take i).any (· == k')) i →
      (∀ s', Moved (S :: wr) G s s' → s'.heap.SetOf (PySem.strKind prog w) S (fun k' => (xs.take n).any (· == k')) n → R (.ok (.ret .none)) s') →
      codeAny (model prog w) A (.builtin "set.update.loop" ⟨[.ref S, .ref I], []⟩) R s := by
  have hSw : S ∉ wr := fun h => hSf (W.sub _ h)
  have hsub : ∀ b ∈ wr, b ∈ S :: wr := fun b hb => List.mem_cons_of_mem _ hb
  intro k
  induction k with
  | zero =>
    intro i s hk hi hst hS hR
    have hin : i = n := by omega
    subst hin
    refine codeAny_builtin PyProof.Rows.F.entry_set_update_loop ?_
    rw [Around.under_plainId PyProof.Rows.F.plain_set_update_loop _]
    show wpAny _ A.in1 (pyNext (.ref I) >>= _) _ _ s
    refine wpAny_bind (W.done s _ _ hst fun s' hm => ?_)
    show wpAny _ A.in1 (ret Value.none) _ _ s'
    exact wpAny_pure (hR s' (hm.mono hsub) (by
      obtain ⟨o, es, ep, t, ho, rest⟩ := hS
      exact ⟨o, es, ep, t, hm.heap S _ hSw ho, rest⟩))
  | succ k ih =>
    intro i s hk hi hst hS hR
    have hlt : i < n := by omega
    refine codeAny_builtin PyProof.Rows.F.entry_set_update_loop ?_
    rw [Around.under_plainId PyProof.Rows.F.plain_set_update_loop _]
    show wpAny _ A.in1 (pyNext (.ref I) >>= _) _ _ s
    refine wpAny_bind (W.item i s _ _ hlt hst fun v s' hP hst' hm => ?_)
    obtain ⟨t, rfl⟩ := hval i v hP
    have hS' : s'.heap.SetOf (PySem.strKind prog w) S (fun k' => (xs.take i).any (· == k')) i := by
      obtain ⟨o, es, ep, tb, ho, rest⟩ := hS
      exact ⟨o, es, ep, tb, hm.heap S _ hSw ho, rest⟩
    show wpAny _ A.in1 (holding [Value.str (xs.getD i Str.empty) t] (setAdd S (.str (xs.getD i Str.empty) t)) >>= _) _ _ s'
    refine wpAny_bind (wpAny_holding ?_)
    unfold setAdd
    refine wpAny_holding ?_
    refine wpAny_bind ((PySem.strKind prog w).pyHash (k := xs.getD i Str.empty) (strKind_is _ _ _ _) ?_)
    refine wpAny_setAddHashed_of (knd := PySem.strKind prog w) (s := { s' with toks := s'.toks + 1 }) (strKind_is _ _ _ _) rfl hS' (by unfold scanBound; omega) fun h' hsb hS2 => ?_
    have hSi : h'.SetOf (PySem.strKind prog w) S (fun k' => (xs.take (i + 1)).any (· == k')) (i + 1) := by
      have hx : xs[i]? = some (xs.getD i Str.empty) := by
        rw [List.getD_eq_getElem?_getD, List.getElem?_eq_getElem (by omega)]
        rfl
      have hnot : (xs.take i).any (· == xs.getD i Str.empty) = false := by
        rw [List.any_eq_false]
        intro y hy hyx
        rw [beq_iff_eq] at hyx
        obtain ⟨j, hj⟩ := List.mem_iff_getElem?.mp hy
        rw [List.getElem?_take] at hj
        split at hj
        · rename_i hji
          rw [hyx] at hj
          obtain ⟨z1, z2⟩ := List.getElem?_eq_some_iff.mp hj
          obtain ⟨z3, z4⟩ := List.getElem?_eq_some_iff.mp hx
          exact absurd (z2.trans z4.symm) (List.pairwise_iff_getElem.mp hnd j i z1 z3 hji)
        · cases hj
      refine SetOf_congr hS2 (fun k' => ?_) (by rw [if_neg (by rw [hnot]; decide)])
      rw [List.take_add_one, hx, List.any_append]
      show _ = ((xs.take i).any (· == k') || [xs.getD i Str.empty].any (· == k'))
      congr 1
      by_cases e : k' = xs.getD i Str.empty
      · subst e; simp
      · have hb : (xs.getD i Str.empty == k') = false := by simpa [beq_iff_eq] using (fun h' : xs.getD i Str.empty = k' => e h'.symm)
        rw [List.any_cons, hb, decide_eq_false e]
        rfl
    refine wpAny_pure ⟨plainId_quiet PyProof.Rows.F.plain_set_update_loop _, ih (i + 1) _ (by omega) hlt (W.frame _ s' _ _ hst' (Nat.le_succ _) fun b hb o e => ?_) hSi fun s'' hm'' hS'' => ?_⟩
    · rw [hsb.2 b (fun h : b = S => hSf (by rw [← h]; exact hb))]; exact e
    · refine hR s'' (Moved.trans W.gtrans ((hm.mono hsub).then_heap (Nat.le_succ _) fun b o hb e => ?_) hm'') hS''
      rw [hsb.2 b (fun h : b = S => hb (by rw [h]; exact List.mem_cons_self))]; exact e
end

section
variable {prog : Program} {w : World} {A : Around} {E : Value → Shared → Prop} {s : Shared}
theorem call_set_listN {l : Addr} {items : Array Value} {xs : List Str} {Q : Value → Shared → Prop}
    (hh : A.handled = none) (hl : s.heap.IsList l items) (hi : PyProof.Rows.StrsAre items.toList xs) (hn1 : xs.length ≤ 64) (hnd : xs.Nodup)
    (h : ∀ (h' : Heap) (tk : Nat), h'.SetOf (PySem.strKind prog w) s.heap.objs.size (fun k' => (xs.take items.size).any (· == k')) items.size →
      (∀ b o, b < s.heap.objs.size → s.heap.get? b = some o → h'.get? b = some o) → Q (.ref s.heap.objs.size) { s with heap := h', toks := tk }) :
    wpAny (model prog w) A (call (.type "set") [.ref l]) Q E s := by
  obtain ⟨c, tl, hmro⟩ := PySem.F.called_set.mro
  have hmade := PySem.F.called_set.made
  have hsub := PySem.F.called_set.sub
  refine wpAny_call (codeAny_of_tree ?_)
  show wpAny _ _ (callAny (.type "set") _) _ _ _
  refine wpAny_pure ⟨Code.quiet_builtin _ (by decide +kernel), codeAny_builtin PySem.F.entry_type_call ?_⟩
  rw [Around.under_plain (weight_type_call_type "set" [.ref l] []) rfl]
  have h1 := PySem.F.called_set.notType
  have h2 := PySem.F.called_set.canCreate
  have hct := PySem.F.typeCall_set_1 (.ref l)
  repeat (any_goals (first | assumption | wp_step))

  refine codeAny_mono (code_set_new_1 (.ref l) (E := E) (Q₁ := fun obj s₁ => ∃ led : Bool, obj = .ref s.heap.objs.size ∧ s₁ = { s with heap := s.heap.push { cls := .type "set", dict := none, data := .set #[] 0 (.fresh 0 0 led) } }) fun led => ⟨led, rfl, rfl⟩) fun r s₁ hr => ?_
  cases r with
  | error e => exact hr
  | ok fl =>
    cases fl with
    | ret obj =>
      obtain ⟨led, rfl, rfl⟩ := hr
      have hS : (s.heap.push { cls := .type "set", dict := none, data := .set #[] 0 (.fresh 0 0 led) }).get? s.heap.objs.size = some { cls := .type "set", dict := none, data := .set #[] 0 (.fresh 0 0 led) } := Heap.get?_push_size _ rfl
      have hT : Shared.TypeIs { s with heap := s.heap.push { cls := .type "set", dict := none, data := .set #[] 0 (.fresh 0 0 led) } } (.ref s.heap.objs.size) "set" := ⟨_, hS, rfl⟩
      have hli := PySem.F.called_set.init.lookup
      have hbi := PySem.F.called_set.init.bind (.ref s.heap.objs.size)
      repeat (any_goals (first | assumption | wp_step))

      refine codeAny_mono (codeAny_call_builtin (R := wants (fun r s₂ => r = .none ∧ ∃ h' tk, s₂ = { s with heap := h', toks := tk } ∧
          h'.SetOf (PySem.strKind prog w) s.heap.objs.size (fun k' => (xs.take items.size).any (· == k')) items.size ∧
          (∀ b o, b < s.heap.objs.size → s.heap.get? b = some o → h'.get? b = some o)) E) PySem.F.called_set.init.plain PySem.F.entry_set_init (check_set_init_1 hT ?_)) fun r₂ s₂ hr₂ => ?_
      · obtain ⟨ol, hol, hcl, nl, hdl⟩ := hl
        obtain ⟨ocls, odict, odata, oslots⟩ := ol
        simp only at hcl hdl
        subst hcl; subst hdl
        have hol' : (s.heap.push { cls := .type "set", dict := none, data := .set #[] 0 (.fresh 0 0 led) }).get? l = some { cls := .type "list", dict := odict, data := .seq items nl, slots := oslots } := Heap.get?_push_of_some _ hol
        have hsls := PySem.F.sub_list_set
        have hslf := PySem.F.sub_list_frozenset
        have hne : (Value.type "list" == Value.type "dict") = false := by decide
        have hl1 : (s.heap.push { cls := .type "set", dict := none, data := .set #[] 0 (.fresh 0 0 led) }).IsList l items := ⟨_, hol', rfl, nl, rfl⟩
        unfold Builtin.«set.__init__» noKeywords Builtin.Frozenset.updateFrom
        generalize hPI : pyIter = PI
        wp_walk
        subst hPI

        refine wpAny_pyIter_list hl1 ?_
        refine wpAny_bind (wpAny_runValue ?_)
        have hlS : l < s.heap.objs.size := Heap.lt_size hol
        have hh3 : A.in1.in1.in1.handled = none := by simp [hh]
        have hneI : l ≠ (s.heap.push { cls := .type "set", dict := none, data := .set #[] 0 (.fresh 0 0 led) }).objs.size := by
          rw [Heap.size_push]; exact Nat.ne_of_lt (Nat.lt_succ_of_lt hlS)
        have hSf : s.heap.objs.size ∉ [(s.heap.push { cls := .type "set", dict := none, data := .set #[] 0 (.fresh 0 0 led) }).objs.size, l] := by
          rw [Heap.size_push]; simp only [List.mem_cons, List.mem_singleton, List.not_mem_nil, or_false, not_or]
          exact ⟨Nat.ne_of_lt (Nat.lt_succ_self _), Nat.ne_of_gt hlS⟩
        have hsz : xs.length = items.size := by rw [← StrsAre.len_eq hi, Array.length_toList]
        have hval : ∀ (i : Nat) (v : Value), items[i]? = some v → ∃ t, v = .str (xs.getD i Str.empty) t := fun i v hv => SS.strs_at hi i v (by rw [Array.getElem?_toList]; exact hv)
        refine loopStrN ((Walks.list hh3 _ l hneI items).toS) s.heap.objs.size
          hSf xs hsz (by rw [← hsz]; exact hn1) hnd hval (items.size - 0) 0 _ (by omega) (Nat.zero_le _)
          ⟨⟨_, Heap.get?_push_size _ rfl, rfl, rfl⟩, (hl1.push _)⟩ ?hS0 ?hR
        case hS0 =>
          have hget : ((s.heap.push { cls := .type "set", dict := none, data := .set #[] 0 (.fresh 0 0 led) }).push { cls := .type "list_iterator", data := .fields #[.ref l, .int 0 0] }).get? s.heap.objs.size
              = some { cls := .type "set", dict := none, data := .set #[] 0 (.fresh 0 0 led) } := Heap.get?_push_of_some _ hS
          exact PyProof.Rows.SetOf_congr ((PyProof.Rows.setObjOf_fresh (knd := PySem.strKind prog w) led).setOf hget (by unfold scanBound; omega)) (fun _ => rfl) rfl
        case hR =>
          intro s' hm hS'
          obtain ⟨h', g', d', tk', os'⟩ := s'
          have eg : g' = s.gens := hm.gens
          have ed : d' = s.drawn := hm.drawn
          have eo : os' = s.os := hm.os
          subst eg; subst ed; subst eo
          show wpAny _ _ _ _ _ _
          refine wpAny_pure ?_
          show wpAny _ _ (ret Value.none) _ _ _
          refine wpAny_pure ⟨rfl, h', tk', rfl, hS', fun b o hb e => ?_⟩
          have hb1 : b ≠ s.heap.objs.size := Nat.ne_of_lt hb
          have hb2 : b ≠ (s.heap.push { cls := .type "set", dict := none, data := .set #[] 0 (.fresh 0 0 led) }).objs.size := by
            rw [Heap.size_push]; exact Nat.ne_of_lt (Nat.lt_succ_of_lt hb)
          exact hm.heap b o (by simp only [List.mem_cons, List.mem_singleton, List.not_mem_nil, or_false, not_or]; exact ⟨hb1, hb2⟩) (Heap.get?_push_of_some _ (Heap.get?_push_of_some _ e))

      · cases r₂ with
        | error e => exact hr₂
        | ok fl₂ =>
          cases fl₂ with
          | ret r =>
            obtain ⟨rfl, h', tk, rfl, hS', hk'⟩ := hr₂
            repeat (any_goals (first | assumption | wp_step))
            exact h _ _ hS' hk'
          | _ => exact hr₂.elim
    | _ => exact hr.elim

end
end
section
open PySem PySem.Spec PyProof.Rows L2
variable {X : Cx}
/-- len(set(xs)), xs a list of different texts -/
def tLenSetN (K : Fg) (ta : TE) : TE := fun σ H Q => ta σ H fun x H1 => ∃ l, ∃ xs : List Str, x = .ref l ∧ SqL K H1 l (xs.map V.str) ∧ xs.length ≤ 60 ∧ xs.Nodup ∧ Q (.int xs.length) H1
theorem pe_lenSetN {a : Expr} {ta : TE} {p p2 q pos : Pos} (hc : X.calm = true) (hg : Gl X "len") (hm : X.mg "len" = none) (hg2 : Gl X "set") (hm2 : X.mg "set" = none) (ha : PE X a ta)
    (na : starEach [a] X.env = (false, eval a X.env) :: starEach [] X.env := by rfl) : PE X (.Call (.Name "len" p) [.Call (.Name "set" p2) [a] [] q] [] pos) (tLenSetN X.K ta) := by
  refine ⟨fun pins s σ H Q I h => ?_⟩
  refine Call_ (ld_blt I hg hm boot_len ?_)
  refine PyProof.Rows.callWith_builtin1 (PyProof.Rows.args_cons ?_ rfl) rfl rfl
  refine Call_ (ld_blt I hg2 hm2 boot_set ?_)
  refine PyProof.Rows.callWith_type1 (PyProof.Rows.args_cons (thn (ha.run pins s σ H _ I h) fun v s1 ⟨x, H1, I1, r1, q1⟩ => PyProof.Rows.args_nil ?_) na) na rfl
  obtain ⟨l, xs, rfl, hq, h1, hnd, q1⟩ := q1
  cases r1
  obtain ⟨its, r, pl, hz⟩ := I1.list hq
  refine call_set_listN (I1.ok.hd hc) pl.isList (by simpa using strsAre_of r) (by omega) hnd fun h' tk hS hk => ?_
  refine PyProof.Rows.args_nil ?_
  have hl : its.toArray.size = xs.length := by rw [List.size_toArray, ← r.length, List.length_map]
  rw [hl] at hS
  obtain ⟨o, es, ep, t, ho, hex, hd, _, _, _, hf, hn⟩ := hS
  have I2 : Inv X pins σ H1 { s1 with heap := h', toks := tk } := I1.kept fun b o e => hk b o (Heap.lt_size e) e
  exact call_len_set ho hex hd hf (by rw [hn] <;> omega) ⟨.int xs.length, H1, I2.tok _, ⟨_, by rw [hn]⟩, q1⟩
end
end Z7
end

section
set_option Elab.async false
set_option linter.all false
set_option maxRecDepth 100000
set_option maxHeartbeats 4000000
namespace Z7
section
open PySem PySem.Spec PyProof.Rows L2
/-! ### a written dict of ints -/
def intKeysB (es : Array DictEntry) : Bool := es.toList.all fun e => match e.key with
  | .int k _ => e.hash == hashInt k
  | _ => false
def atIntB (es : Array DictEntry) (p m : Int) : Bool := match findBy Value.isInt es p with
  | some (.int i _) => i == m
  | _ => false
/-- at p it has m -/
def MoP (K : Fg) (d : Addr) (p m : Int) : Prop := ∃ es n, K.lookup d = some ⟨.type "dict", none, .dict es n, #[]⟩ ∧ intKeysB es = true ∧ atIntB es p m = true
def rMop (K : Fg) : R2 := fun x y H Q => ∃ d p m, x = V.ref d ∧ y = .int p ∧ MoP K d p m ∧ Q (.int m) H
theorem ix_mop {X : Cx} : IxR X (rMop X.K) := by
  intro value slice pins s σ H x y v u Q I rx ry h hs
  obtain ⟨d, p, m, rfl, rfl, ⟨es, n, hl, hk, ha⟩, q⟩ := h
  obtain rfl : v = Value.ref d := rx
  obtain ⟨t, rfl⟩ := ry
  have hko : PySem.KeysOf (PySem.intKind X.prog X.w) es := fun e he => by
    have z : (match e.key with
      | .int k _ => e.hash == hashInt k
      | _ => false) = true := List.all_eq_true.mp hk e (Array.mem_toList_iff.mpr he)
    split at z
    · rename_i k tk hek
      refine ⟨k, ?_, (by simpa using z : e.hash = hashInt k)⟩
      rw [hek]
      exact PySem.intKind_is X.prog X.w k tk
    · cases z
  have hm : s.heap.MapOf (PySem.intKind X.prog X.w) d (fun k => findBy Value.isInt es k) := ⟨_, es, n, I.kIn _ _ hl, ⟨rfl, rfl, rfl⟩, rfl, hko, fun _ => rfl⟩
  unfold atIntB at ha
  cases hf : findBy Value.isInt es p with
  | none =>
    rw [hf] at ha
    cases ha
  | some v =>
    rw [hf] at ha
    cases v with
    | int i ti =>
      have e : i = m := by simpa using ha
      subst e
      exact tail_any hm.typeIs slot_dict_getitem.lookup (wpAny_getItem_of (PySem.intKind_is X.prog X.w p t) hm hf ⟨.int i, H, I.tok _, ⟨ti, rfl⟩, q⟩) hs
    | _ => cases ha
end
open PySem L2
/-- the module's written values -/
structure Gc (K : Fg) (mg : Str → Option Value) : Prop where
  longest : ∃ t, mg "LONGEST_NAME" = some (.int 12 t)
  mostn : ∃ t, mg "MOST_NAMES" = some (.int 8 t)
  letters : ∃ t, mg "LETTERS" = some (.str "abcdefghijklmnopqrstuvwxyz" t)
  digits : ∃ t, mg "DIGITS" = some (.str "0123456789" t)
  primes : ∃ a, mg "PRIMES" = some (.ref a) ∧ ∀ H, SqT K H a [.int 2, .int 3, .int 5, .int 7]
  most : ∃ d, mg "MOST_OF_PRIME" = some (.ref d) ∧ MoP K d 2 8 ∧ MoP K d 3 5 ∧ MoP K d 5 3 ∧ MoP K d 7 2
end Z7
end

section
set_option Elab.async false
set_option linter.all false
set_option maxRecDepth 100000
set_option maxHeartbeats 4000000
namespace Z7
open PySem L2 Evl RZ
theorem walk_zipT {K : Fg} {a b : Addr} {xs ys : List V} {n : Nat} (hn : n = min xs.length ys.length) : Walk (ItzT K a b) n (fun H => SqT K H a xs ∧ SqT K H b ys) (YPair (fun i => xs[i]?) (fun i => ys[i]?)) := by
  subst hn
  refine ⟨fun i _ hi q => ?_, fun _ q => ⟨xs, ys, q.1, q.2, by omega⟩, fun i H v H' _ q y => ?_⟩
  · have h1 : i < xs.length := by omega
    have h2 : i < ys.length := by omega
    exact ⟨xs, ys, xs[i], ys[i], q.1, q.2, by simp [h1], by simp [h2]⟩
  · obtain ⟨T, x, z, h1, h2, h3, h4, h5⟩ := y
    exact ⟨T, x, z, h1, h2, h3, h4 xs q.1, h5 ys q.2⟩
/-- a new list of these bools is all true, any true .. -/
theorem allp_bl {H : Hp} : ∀ {bs : List Bool} {ws : List V}, AllP (bs.map fun b v _ => v = V.bl b) ws H → ws = bs.map V.bl
  | [], _, h => by cases h; rfl
  | b :: bs, _, h => by
    cases h with
    | cons h1 t =>
      rw [h1, allp_bl t]
      rfl
theorem allp_int {H : Hp} : ∀ {bs : List Int} {ws : List V}, AllP (bs.map fun b v _ => v = V.int b) ws H → ws = bs.map V.int
  | [], _, h => by cases h; rfl
  | b :: bs, _, h => by
    cases h with
    | cons h1 t =>
      rw [h1, allp_int t]
      rfl
section
variable {K : Fg} {σ : L2.St} {H : Hp} {ta tb tc : TE} {x y z : V} {r r' : R2}
theorem ev_chain {a b : Bool} (ha : Ev ta σ H x) (hb : Ev tb σ H y) (hr : RV r x y H (.bl a)) (hc : a = true → Ev tc σ H z) (hr' : a = true → RV r' y z H (.bl b)) : Ev (tChain r r' ta tb tc) σ H (.bl (a && b)) := fun H1 e Q q =>
  ha H1 e _ fun H2 e2 => hb H2 (e.trans e2) _ fun H3 e3 => hr H3 ((e.trans e2).trans e3) _ fun H4 e4 => ⟨a, rfl, by
    have e04 := ((e.trans e2).trans e3).trans e4
    have e14 := (e2.trans e3).trans e4
    cases a with
    | true =>
      rw [if_pos rfl]
      exact hc rfl H4 e04 _ fun H5 e5 => hr' rfl H5 (e04.trans e5) Q fun H6 e6 => q H6 ((e14.trans e5).trans e6)
    | false =>
      rw [if_neg (by decide)]
      exact q H4 e14⟩
theorem rv_I0b {g : Int → Int → V} {i j : Int} (h : g i j = z) : RV (rI0 g) (.int i) (.int j) H z := by
  rw [← h]
  exact rv_I0
end
section
variable {K : Fg} {σ : L2.St} {H : Hp} {te : TE} {wi : L2.TI} {g : L2.TG} {t : TT} {vs : List Nat} {J : It} {n : Nat} {G : Hp → Prop} {Y : Nat → Hp → V → Hp → Prop}
/-- a comprehension by a walk -/
theorem evlp_lc (hw : ∀ H1, Ex H H1 → ∀ R : It → Hp → Prop, (∀ H2, Ex H1 H2 → R J H2) → wi σ H1 R) (w : Walk J n G Y) (hn : n ≤ 40000) (hG : ∀ H', Ex H H' → G H') (f : Nat → Bool) (Pr : Nat → V → Hp → Prop) (hst : ∀ i, Stab (Pr i))
    (hb : ∀ i x H1 H2, i < n → Ex H H1 → Y i H1 x H2 → Ex H1 H2 ∧ ∃ σ2, (∀ R : L2.St → Hp → Prop, R σ2 H2 → g x (wipe σ vs) H2 R) ∧ wipe σ2 vs = wipe σ vs ∧ EvT t σ2 H2 (f i) ∧ (f i = true → EvP te σ2 H2 (Pr i))) :
    Evlp (tLc wi g t te vs) σ H (gvn n f Pr) := fun H1 e Q q => by
  refine hw H1 e _ fun H2 e2 => ?_
  show lcT J g t te vs σ H2 Q
  exact lc_go f Pr w hn (fun H' e' => hG H' ((e.trans e2).trans e')) hst (fun i x H3 H4 hi e3 hy => hb i x H3 H4 hi ((e.trans e2).trans e3) hy)
    fun p ws H3 hp e3 h3 ha => q p ws H3 (fresh_back e2 hp) (e2.trans e3) h3 ha
theorem gvn_bl (n : Nat) (F : Nat → Bool) : gvn n (fun _ => true) (fun i (v : V) (_ : Hp) => v = V.bl (F i)) = ((List.range n).map F).map fun b (v : V) (_ : Hp) => v = V.bl b := by
  rw [gvn_all, List.map_map]
  rfl
theorem gvn_int (n : Nat) (f : Nat → Bool) (F : Nat → Int) : gvn n f (fun i (v : V) (_ : Hp) => v = V.int (F i)) = (gvn n f F).map fun b (v : V) (_ : Hp) => v = V.int b := by
  rw [gvn_map]
theorem gvn_dp (K : Fg) (n : Nat) (f : Nat → Bool) (F : Nat → PyData) : gvn n f (fun i (v : V) (H : Hp) => Dp K H v (F i)) = (gvn n f F).map fun d (v : V) (H : Hp) => Dp K H v d := by
  rw [gvn_map]
theorem evp_ev {v : V} {P : V → Hp → Prop} (h : Ev te σ H v) (hp : ∀ H1, Ex H H1 → P v H1) : EvP te σ H P := fun H1 e Q q => h H1 e Q fun H2 e2 => q v H2 e2 (hp H2 (e.trans e2))
theorem evp_d {d : PyData} (h : EvD K te σ H d) : EvP te σ H fun v H => Dp K H v d := fun H1 e Q q => h H1 e Q fun v H2 e2 hd => q v H2 e2 hd
theorem ev_all {bs : List Bool} (h : Evlp te σ H (bs.map fun b v _ => v = V.bl b)) : Ev (tCB (rAll K) (tCons te tNil)) σ H (.bl (bs.all id)) := fun H1 e Q q => h H1 e _ fun p ws H2 hp e2 h2 ha => by
  rw [allp_bl ha] at h2
  exact ⟨p, bs, rfl, sq_of h2, q H2 e2⟩
theorem ev_any {bs : List Bool} (h : Evlp te σ H (bs.map fun b v _ => v = V.bl b)) : Ev (tCB (rAny K) (tCons te tNil)) σ H (.bl (bs.any id)) := fun H1 e Q q => h H1 e _ fun p ws H2 hp e2 h2 ha => by
  rw [allp_bl ha] at h2
  exact ⟨p, bs, rfl, sq_of h2, q H2 e2⟩
theorem ev_sum {ns : List Int} (h : Evlp te σ H (ns.map fun b v _ => v = V.int b)) : Ev (tCB (rSum K) (tCons te tNil)) σ H (.int ns.sum) := fun H1 e Q q => h H1 e _ fun p ws H2 hp e2 h2 ha => by
  rw [allp_int ha] at h2
  exact ⟨p, ns, rfl, sq_of h2, q H2 e2⟩
theorem all_range {n : Nat} {F : Nat → Bool} : ((List.range n).map F).all id = true ↔ ∀ i, i < n → F i = true := by
  rw [List.all_map, List.all_eq_true]
  exact ⟨fun h i hi => h i (List.mem_range.mpr hi), fun h i hi => h i (List.mem_range.mp hi)⟩
end
end Z7
end

section
set_option Elab.async false
set_option linter.all false
set_option maxRecDepth 100000
set_option maxHeartbeats 4000000
namespace Z7
open PySem L2 Evl RZ
def letS : Str := "abcdefghijklmnopqrstuvwxyz"
def digS : Str := "0123456789"
def nameB (x : Str) : Bool := decide (1 ≤ x.length ∧ x.length ≤ 12) && (match x.cps.toList with
  | c :: _ => decide (c ∈ letS.cps.toList)
  | [] => false) && x.cps.toList.all fun c => decide (c ∈ letS.cps.toList) || decide (c ∈ digS.cps.toList)
section
variable {P : Program} {w : World} {K : Fg} {mg : Str → Option Value} {base : Heap} {f : Addr} {fd : FuncData}
def spIsName : Sp := fun vs H Q _ => ∃ x : Str, vs = [.str x] ∧ nameB x = true ∧ RetV (.bl true) H Q
theorem ok_isname (F : FnP K "is_name" "is_name" sIsName f fd) (B : Bi mg) (G : Gc K mg) : FnOk P w K mg base CX0 1 f fd ["text"] spIsName := by
  refine F.ok scIsName (fun vs H Q E h => ?_) (fun cdv A outer s H vs Q E hr h => ?_)
  · obtain ⟨x, rfl, _⟩ := h
    rfl
  · obtain ⟨x, rfl, hx, k⟩ := h
    obtain ⟨t1, g1⟩ := G.longest
    obtain ⟨t2, g2⟩ := G.letters
    obtain ⟨t3, g3⟩ := G.digits
    refine ⟨_, PSs.nox (pss_cons (ps_if (PW.pt (pw_or (pt_not (pt_chain op_le op_le pe_int (pe_callB call_len_str rfl B.len PySem.boot_len (pa_cons (pv 0) pa_nil)) (pe_glob (v := .int 12) rfl g1 ⟨_, rfl⟩))) (pw_or1 (pt_cmpR op_notIn_sign (pe_ix ix_str (pv 0) pe_int (fun _ _ => rfl)) (pe_glob (v := .str letS) rfl g2 ⟨_, rfl⟩) (by rfl)))))
        (pss_one (ps_ret pe_bl)) pss_nil)
      (pss_one (ps_ret (pe_callB (cr_all rfl) rfl B.all PyProof.Rows.boot_all (pa_cons (pe_lc (own := [("char", 1)]) (g := gName 1) (tt := tYes) rfl scIsName.nd (pi_str (pv 0)) (blkOk_by (N := nIsName) (sc := defScope sIsName) (by decide +kernel))
        (fun _ _ _ _ _ => pg_name (i := 1) scIsName.nd rfl (.inl rfl)) (fun _ _ _ _ _ => pts_nil)
        (fun _ _ _ _ _ => pe_or (pe_cmpR (r := fun x y H Q => ∃ (c : Nat) (z : Str), x = .str ⟨#[c]⟩ ∧ y = .str z ∧ Q (.bl (decide (c ∈ z.cps.toList))) H) op_in_sign (pv 1) (pe_glob (v := .str letS) rfl g2 ⟨_, rfl⟩) (by rfl))
          (pe_one (pe_cmpR (r := fun x y H Q => ∃ (c : Nat) (z : Str), x = .str ⟨#[c]⟩ ∧ y = .str z ∧ Q (.bl (decide (c ∈ z.cps.toList))) H) op_in_sign (pv 1) (pe_glob (v := .str digS) rfl g3 ⟨_, rfl⟩) (by rfl))))) pa_nil))))), ?_⟩
    unfold nameB at hx
    rw [Bool.and_eq_true, Bool.and_eq_true, decide_eq_true_eq] at hx
    obtain ⟨⟨hl, hc⟩, hall⟩ := hx
    obtain ⟨c, cs, hcs⟩ : ∃ c cs, x.cps.toList = c :: cs := by
      cases e : x.cps.toList with
      | nil =>
        rw [e] at hc
        cases hc
      | cons c cs => exact ⟨c, cs, rfl⟩
    rw [hcs] at hc
    have hz : x.length ≤ 100000 := by omega
    have hd : ∀ c : Nat, (decide (c ∈ letS.cps.toList) || decide (c ∈ digS.cps.toList)) = true → True := fun _ _ => trivial
    have hc' : decide (c ∈ letS.cps.toList) = true := hc
    refine q_when (b := false) (et_is (et_or (a := false) (b := false) (et_is (et_not (a := true) (et_test (ev_is (ev_chain (a := true) (b := true) (x := .int 1) (y := .int x.length) (z := .int 12) ev_c (fun H1 e1 Q q => ⟨.str x, rfl, x, rfl, sz_of hz, q H1 (Ex.refl H1)⟩)
      (rv_I0b (congrArg V.bl (decide_eq_true (by omega)))) (fun _ => ev_c) (fun _ => rv_I0b (congrArg V.bl (decide_eq_true (by omega))))) rfl))) rfl)
        (fun _ => et_test (ev_op (x := .str ⟨#[c]⟩) (ev_op (ev_var rfl) ev_c (rv_ixS hz ?_)) ev_c (fun H1 e1 Q q => ⟨c, letS, rfl, rfl, by rw [hc']; exact q H1 (Ex.refl H1)⟩)))) rfl) (fun hb => nomatch hb) (fun _ H1 e1 => ?_)
    · rw [hcs]
      exact atI_nat (j := 0) rfl
    · refine s_ret (v := .bl true) (ev_is (ev_all (bs := (List.range x.cps.size).map fun _ => true) ?_) (congrArg V.bl (all_range.mpr fun _ _ => rfl))) (fun H2 e2 => k H2 (e1.trans e2))
      rw [← gvn_bl]
      refine evlp_lc (J := Its x) (fun H1 e1 R r => ⟨.str x, rfl, x, rfl, r H1 (Ex.refl H1)⟩) walk_str (by have : x.cps.size = x.length := rfl; omega) (fun _ _ => trivial) _ _ (fun _ _ _ _ _ h => h) (fun i y H3 H4 hi e3 hy => ?_)
      obtain ⟨rfl, c2, hc2, rfl⟩ := hy
      have hm : c2 ∈ x.cps.toList := by
        rw [Array.mem_toList_iff]
        exact Array.mem_of_getElem? hc2
      have h2 := List.all_eq_true.mp hall c2 hm
      refine ⟨Ex.refl _, _, fun R r => r, rfl, et_yes, fun _ => evp_ev (ev_is (ev_orV (a := decide (c2 ∈ letS.cps.toList)) (b := decide (c2 ∈ digS.cps.toList)) (ev_op (ev_var rfl) ev_c (fun H1 e1 Q q => ⟨c2, letS, rfl, rfl, q H1 (Ex.refl H1)⟩)) (fun _ => (ev_op (ev_var rfl) ev_c (fun H1 e1 Q q => ⟨c2, digS, rfl, rfl, q H1 (Ex.refl H1)⟩)))) (congrArg V.bl h2)) fun _ _ => rfl⟩
end
end Z7
end

section
set_option Elab.async false
set_option linter.all false
set_option maxRecDepth 100000
set_option maxHeartbeats 4000000
namespace Z7
open PySem L2 Evl RZ
section
variable {σ : L2.St} {H : Hp} {wi : L2.TI} {g : L2.TG} {tu tz : TS} {D : Ends} {J : It} {n : Nat} {G : Hp → Prop} {Y : Nat → Hp → V → Hp → Prop}
theorem s_forIt (hw : ∀ H1, Ex H H1 → ∀ R : It → Hp → Prop, (∀ H2, Ex H1 H2 → R J H2) → wi σ H1 R) (w : Walk J n G Y) (Pv : Nat → L2.St → Hp → Prop) (h0 : ∀ H1, Ex H H1 → Pv 0 σ H1) (hG : ∀ i σ H, i ≤ n → Pv i σ H → G H)
    (hs : ∀ i x σ H H', i < n → Pv i σ H → Y i H x H' → g x σ H' fun σ2 H2 => tu { D with nx := Pv (i + 1), ct := Pv (i + 1), bk := D.nx } σ2 H2) (hd : ∀ σ H, Pv n σ H → D.nx σ H) : tFor wi g tu D σ H :=
  hw H (Ex.refl H) _ fun H2 e2 => for_it w Pv (h0 H2 e2) hG hs hd
theorem q_forIt (hw : ∀ H1, Ex H H1 → ∀ R : It → Hp → Prop, (∀ H2, Ex H1 H2 → R J H2) → wi σ H1 R) (w : Walk J n G Y) (Pv : Nat → L2.St → Hp → Prop) (h0 : ∀ H1, Ex H H1 → Pv 0 σ H1) (hG : ∀ i σ H, i ≤ n → Pv i σ H → G H)
    (hs : ∀ i x σ H H', i < n → Pv i σ H → Y i H x H' → g x σ H' fun σ2 H2 => tu { D with nx := Pv (i + 1), ct := Pv (i + 1), bk := tz D } σ2 H2) (hd : ∀ σ H, Pv n σ H → tz D σ H) : tSeq (tFor wi g tu) tz D σ H :=
  s_forIt (D := { D with nx := tz D }) hw w Pv h0 hG hs hd
end
/-- an instance of Space at a -/
def SpA (C : Addr) (H : Hp) (a : Addr) (p n : Nat) : Prop := ∃ dx nm, H a = some (.ins C dx [("prime", .int (p : Int)), ("names", nm), ("count", .int (n : Int))])
theorem SpA.mono {C : Addr} {H H' : Hp} {a : Addr} {p n : Nat} (h : SpA C H a p n) (e : Ex H H') : SpA C H' a p n := by
  obtain ⟨dx, nm, h⟩ := h
  exact ⟨dx, nm, e a _ h⟩
/-- the facts of a class -/
structure ClsF (K : Fg) (C : Addr) (fs : List Str) : Prop where
  cl : Cls K C
  no : ∀ f ∈ fs, NoAttr K C f
abbrev SpF (K : Fg) (C : Addr) : Prop := ClsF K C ["prime", "names", "count"]
/-- e.f within a comprehension -/
theorem pe_fldB {X : Cx} {e : Expr} {ta : TE} {f : Str} {pos : Pos} (K : Fg) (he : PE X e ta) (hb : attributeBase e f X.env (eval e X.env) = eval e X.env) (hK : X.K = K := by rfl) : PE X (.Attribute e f pos) (tFld K ta f) := by
  subst hK
  exact pe_fld he hb
section
variable {K : Fg} {C : Addr} {σ : L2.St} {H : Hp} {ta : TE} {a : Addr} {p n : Nat}
theorem ev_fld {f : Str} {dx : Addr} {fs : List (Str × V)} {v : V} (h : Ev ta σ H (.ref a)) (hc : Cls K C) (hn : NoAttr K C f) (hi : H a = some (.ins C dx fs)) (hl : fs.lookup f = some v) : Ev (tFld K ta f) σ H v := fun H1 e Q q =>
  h H1 e _ fun H2 e2 => ⟨a, C, dx, fs, v, rfl, (e.trans e2) a _ hi, hc, hn, hl, q H2 e2⟩
theorem ev_prime (F : SpF K C) (h : Ev ta σ H (.ref a)) (s : SpA C H a p n) : Ev (tFld K ta "prime") σ H (.int (p : Int)) := by
  obtain ⟨dx, nm, hi⟩ := s
  exact ev_fld h F.cl (F.no _ (by decide)) hi rfl
theorem ev_count (F : SpF K C) (h : Ev ta σ H (.ref a)) (s : SpA C H a p n) : Ev (tFld K ta "count") σ H (.int (n : Int)) := by
  obtain ⟨dx, nm, hi⟩ := s
  exact ev_fld h F.cl (F.no _ (by decide)) hi rfl
end
section
variable {P : Program} {w : World} {K : Fg} {mg : Str → Option Value} {base : Heap} {f : Addr} {fd : FuncData}
def divB (x y : Pt) : Bool := ((List.range (min x.length y.length)).map fun i => decide (x.getD i 0 ≤ y.getD i 0)).all id
def spDivides (K : Fg) : Sp := fun vs H Q _ => ∃ (a b : Addr) (x y : Pt), vs = [.ref a, .ref b] ∧ TI K H a x ∧ TI K H b y ∧ x.length ≤ 100 ∧ RetV (.bl (divB x y)) H Q
theorem ok_divides (F : FnP K "divides" "divides" sDivides f fd) (B : Bi mg) : FnOk P w K mg base CX0 1 f fd ["one", "other"] (spDivides K) := by
  refine F.ok scDivides (fun vs H Q E h => ?_) (fun cdv A outer s H vs Q E hr h => ?_)
  · obtain ⟨a, b, x, y, rfl, _⟩ := h
    rfl
  · obtain ⟨a, b, x, y, rfl, hx, hy, hz, k⟩ := h
    refine ⟨_, PSs.nox (pss_one (ps_ret (pe_callB (cr_all rfl) rfl B.all PyProof.Rows.boot_all (pa_cons (pe_lc (own := [("here", 2), ("there", 3)]) (g := gTup K 2 (gCons (gName 2) (gCons (gName 3) gNil))) (tt := tYes) rfl scDivides.nd (pi_zipA rfl B.zip (pa_cons (pv 0) (pa_cons (pv 1) pa_nil))) (blkOk_by (N := nDivides) (sc := defScope sDivides) (by decide +kernel))
      (fun _ _ _ _ _ => pg_tup rfl (pgs_cons (pg_name (i := 2) scDivides.nd rfl (.inl rfl)) (pgs_cons (pg_name (i := 3) scDivides.nd rfl (.inl rfl)) pgs_nil))) (fun _ _ _ _ _ => pts_nil) (fun _ _ _ _ _ => pe_cmpR op_le (pv 2) (pv 3) (nomark _))) pa_nil)))), ?_⟩
    refine s_ret (ev_all ?_) (fun H2 e2 => k H2 e2)
    rw [← gvn_bl]
    refine evlp_lc (J := ItzT K a b) (fun H1 e1 R r => ⟨.ref a, rfl, .ref b, rfl, a, b, _, _, rfl, .inr ⟨hx.mono e1, hy.mono e1, r H1 (Ex.refl H1)⟩⟩) (walk_zipT (xs := x.map V.int) (ys := y.map V.int) (by rw [List.length_map, List.length_map])) (by omega) (fun H' e => ⟨hx.mono e, hy.mono e⟩) _ _ (fun _ _ _ _ _ h => h) (fun i v H3 H4 hi e3 hv => ?_)
    obtain ⟨T, u1, u2, rfl, hT, rfl, h1, h2⟩ := hv
    have hix : i < x.length := by omega
    have hiy : i < y.length := by omega
    have z1 : u1 = .int (x.getD i 0) := by
      have h1 : (x.map V.int)[i]? = some u1 := h1
      rw [List.getElem?_map, List.getElem?_eq_getElem hix] at h1
      rw [List.getD_eq_getElem?_getD, List.getElem?_eq_getElem hix]
      exact (Option.some.inj h1).symm
    have z2 : u2 = .int (y.getD i 0) := by
      have h2 : (y.map V.int)[i]? = some u2 := h2
      rw [List.getElem?_map, List.getElem?_eq_getElem hiy] at h2
      rw [List.getD_eq_getElem?_getD, List.getElem?_eq_getElem hiy]
      exact (Option.some.inj h2).symm
    subst z1 z2
    exact ⟨Ex.new hT, _, fun R r => gtup2 (st_of upd_same) r, rfl, et_yes, fun _ => evp_ev (ev_op (ev_var rfl) (ev_var rfl) rv_I0) fun _ _ => rfl⟩
def spValueOf (K : Fg) (C : Addr) : Sp := fun vs H Q _ => ∃ (sp a b : Addr) (p n : Nat) (es xs : Pt), vs = [.ref sp, .ref a, .ref b] ∧ SpA C H sp p n ∧ TI K H a es ∧ TI K H b xs ∧ es ∈ pts p n ∧ xs.length = n ∧ (1 < p ∧ p ≤ 7) ∧ n ≤ 100 ∧ RetV (.int (mon es xs % (p : Int))) H Q
theorem ok_valueof {C : Addr} (F : FnP K "value_of" "value_of" sValueOf f fd) (B : Bi mg) (S : SpF K C) (R : Cal P w K mg base 1 "raised_number" ["prime", "number", "exponent"] spRaised) : FnOk P w K mg base CX0 2 f fd ["space", "power", "point"] (spValueOf K C) := by
  refine F.ok scValueOf (fun vs H Q E h => ?_) (fun cdv A outer s H vs Q E hr h => ?_)
  · obtain ⟨sp, a, b, p, n, es, xs, rfl, _⟩ := h
    rfl
  · obtain ⟨sp, a, b, p, n, es, xs, rfl, hs, ha, hb, hes, hxs, hp, hn, k⟩ := h
    have hp1 : (1 : Int) < (p : Int) := by omega
    have hl : es.length = n := pts_len hes
    refine ⟨_, PSs.nox (pss_cons (ps_set (i := 3) scValueOf.nd rfl (.inl rfl) pe_int)
      (pss_cons (ps_for PassesOwn.never rfl (pi_zipA rfl B.zip (pa_cons (pv 1) (pa_cons (pv 2) pa_nil))) (pg_tup rfl (pgs_cons (pg_name (i := 4) scValueOf.nd rfl (.inl rfl)) (pgs_cons (pg_name (i := 5) scValueOf.nd rfl (.inl rfl)) pgs_nil)))
        (pss_one (ps_set (i := 3) scValueOf.nd rfl (.inl rfl) (pe_op op_mod (pe_op op_mul (pv 3) (pe_cal R hr rfl (pa_cons (pe_fld (pv 0) rfl) (pa_cons (pv 5) (pa_cons (pv 4) pa_nil))))) (pe_fld (pv 0) rfl)))))
      (pss_one (ps_ret (pv 3))))), ?_⟩
    refine q_asg ev_c fun H1 e1 => ?_
    refine q_forIt (J := ItzT K a b) (fun H2 e2 R r => ⟨.ref a, rfl, .ref b, rfl, a, b, _, _, rfl, .inr ⟨ha.mono (e1.trans e2), hb.mono (e1.trans e2), r H2 (Ex.refl H2)⟩⟩) (walk_zipT (n := n) (xs := es.map V.int) (ys := xs.map V.int) (by rw [List.length_map, List.length_map]; omega))
      (fun i σ H' => Ex H H' ∧ ∃ y z, σ = [some (.ref sp), some (.ref a), some (.ref b), some (.int (vof p es xs i)), y, z]) (fun H2 e2 => ⟨e1.trans e2, none, none, by rw [vof_zero hp1] <;> rfl⟩) (fun i σ H' _ pv => ⟨ha.mono pv.1, hb.mono pv.1⟩) ?_ ?_
    · rintro i v σ H2 H3 hi ⟨ex, y, z, rfl⟩ ⟨T, u1, u2, rfl, hT, rfl, h1, h2⟩
      have hie : i < es.length := by omega
      have hix : i < xs.length := by omega
      have h1 : (es.map V.int)[i]? = some u1 := h1
      have h2 : (xs.map V.int)[i]? = some u2 := h2
      rw [List.getElem?_map, List.getElem?_eq_getElem hie] at h1
      rw [List.getElem?_map, List.getElem?_eq_getElem hix] at h2
      cases h1
      cases h2
      have hb1 := vof_bd hp1 es xs i
      have he := (pts_mem.mp hes).2 es[i] (List.getElem_mem hie)
      have hs3 := hs.mono (ex.trans (Ex.new (o := .tup [.int es[i], .int xs[i]]) hT))
      refine gtup2 (st_of upd_same) ?_
      refine s_asg (ev_op (ev_op (ev_var rfl) (ev_call (z := .int (rn p xs[i] es[i].toNat)) (ea_cons (ev_prime S (ev_var rfl) hs3) (ea_cons (ev_var rfl) (ea_cons (ev_var rfl) ea_nil))) fun H4 e4 Q q E => ⟨p, xs[i], es[i], rfl, by omega, by omega, q⟩) (rv_I (.inl ⟨by omega, by omega⟩))) (ev_prime S (ev_var rfl) hs3) (rv_I (show (0 : Int) < (p : Int) by omega))) fun H4 e4 => ?_
      refine ⟨(ex.trans (Ex.new hT)).trans e4, some (.int es[i]), some (.int xs[i]), ?_⟩
      have hv : vof p es xs (i + 1) = (vof p es xs i * rn p xs[i] es[i].toNat) % (p : Int) := vof_succ hp1 (List.getElem?_eq_getElem hie) (List.getElem?_eq_getElem hix)
      rw [hv]
      rfl
    · rintro σ H2 ⟨ex, y, z, rfl⟩
      have hv : vof p es xs n = mon es xs % (p : Int) := vof_full (by omega) (by omega)
      refine s_ret (ev_var rfl) fun H3 e3 => ?_
      rw [hv]
      exact k H3 (ex.trans e3)
end
end Z7
end

section
set_option Elab.async false
set_option linter.all false
set_option maxRecDepth 100000
set_option maxHeartbeats 4000000
namespace Z7
open PySem L2 Evl RZ
/-- all but the object at a stay -/
def ExB (a : Addr) (H H' : Hp) : Prop := ∀ b o, b ≠ a → H b = some o → H' b = some o
theorem ExB.of {a : Addr} {H H' : Hp} (e : Ex H H') : ExB a H H' := fun b o _ h => e b o h
theorem ExB.trans {a : Addr} {H H1 H2 : Hp} (x : ExB a H H1) (y : ExB a H1 H2) : ExB a H H2 := fun b o n h => y b o n (x b o n h)
theorem ExB.upd {a : Addr} {H : Hp} {o : HO} : ExB a H (upd H a o) := fun b u n h => by
  rw [upd_ne n]
  exact h
theorem exb_l {K : Fg} {H H' : Hp} {x l C dx : Addr} {fs : List (Str × V)} {xs : List V} (e : ExB x H H') (hx : H x = some (.ins C dx fs)) (h : SqL K H l xs) : SqL K H' l xs := by
  rcases h with (h | ⟨o, h⟩) | h
  · exact .inl (.inl (e l _ (fun z => by rw [z, hx] at h; cases h) h))
  · exact .inl (.inr ⟨o, e l _ (fun z => by rw [z, hx] at h; cases h) h⟩)
  · exact .inr h
theorem exb_t {K : Fg} {H H' : Hp} {x l C dx : Addr} {fs : List (Str × V)} {xs : List V} (e : ExB x H H') (hx : H x = some (.ins C dx fs)) (h : SqT K H l xs) : SqT K H' l xs := by
  rcases h with (h | ⟨o, h⟩) | h
  · exact .inl (.inl (e l _ (fun z => by rw [z, hx] at h; cases h) h))
  · exact .inl (.inr ⟨o, e l _ (fun z => by rw [z, hx] at h; cases h) h⟩)
  · exact .inr h
section
variable {K : Fg} {σ : L2.St} {H : Hp} {ta tv : TE} {tz : TS} {D : Ends} {a C dx : Addr} {fs : List (Str × V)} {f : Str} {v : V}
theorem s_fldP {Pr : V → Hp → Prop} (hv : EvP tv σ H Pr) (ho : Ev ta σ H (.ref a)) (hi : H a = some (.ins C dx fs)) (hc : Cls K C) (hn : NoAttr K C f) (hl : fs.length < 1000) (st : ∀ v H1 H2, Ex H1 H2 → Pr v H1 → Pr v H2) (k : ∀ v H1, Ex H H1 → Pr v H1 → D.nx σ (upd H1 a (.ins C dx (putF f v fs)))) : sFld K ta tv f D σ H :=
  hv H (Ex.refl H) _ fun v H1 e1 hp => ho H1 e1 _ fun H2 e2 => ⟨a, C, dx, fs, rfl, (e1.trans e2) a _ hi, hc, hn, hl, k v H2 (e1.trans e2) (st v H1 H2 e2 hp)⟩
theorem q_fldP {Pr : V → Hp → Prop} (hv : EvP tv σ H Pr) (ho : Ev ta σ H (.ref a)) (hi : H a = some (.ins C dx fs)) (hc : Cls K C) (hn : NoAttr K C f) (hl : fs.length < 1000) (st : ∀ v H1 H2, Ex H1 H2 → Pr v H1 → Pr v H2) (k : ∀ v H1, Ex H H1 → Pr v H1 → tz D σ (upd H1 a (.ins C dx (putF f v fs)))) : tSeq (sFld K ta tv f) tz D σ H :=
  s_fldP (D := { D with nx := tz D }) hv ho hi hc hn hl st k
theorem s_fld (hv : Ev tv σ H v) (ho : Ev ta σ H (.ref a)) (hi : H a = some (.ins C dx fs)) (hc : Cls K C) (hn : NoAttr K C f) (hl : fs.length < 1000) (k : ∀ H1, Ex H H1 → D.nx σ (upd H1 a (.ins C dx (putF f v fs)))) : sFld K ta tv f D σ H :=
  s_fldP (Pr := fun u _ => u = v) (evp_ev hv fun _ _ => rfl) ho hi hc hn hl (fun _ _ _ _ h => h) fun u H1 e h => by
    subst h
    exact k H1 e
theorem q_fld (hv : Ev tv σ H v) (ho : Ev ta σ H (.ref a)) (hi : H a = some (.ins C dx fs)) (hc : Cls K C) (hn : NoAttr K C f) (hl : fs.length < 1000) (k : ∀ H1, Ex H H1 → tz D σ (upd H1 a (.ins C dx (putF f v fs)))) : tSeq (sFld K ta tv f) tz D σ H :=
  s_fld (D := { D with nx := tz D }) hv ho hi hc hn hl k
theorem s_fldL {xs : List V} (hv : EvL tv σ H xs) (ho : Ev ta σ H (.ref a)) (hi : H a = some (.ins C dx fs)) (hc : Cls K C) (hn : NoAttr K C f) (hl : fs.length < 1000) (k : ∀ p H1, H p = none → Ex H H1 → H1 p = some (.lst xs) → D.nx σ (upd H1 a (.ins C dx (putF f (.ref p) fs)))) : sFld K ta tv f D σ H :=
  hv H (Ex.refl H) _ fun p H1 hp e1 h1 => ho H1 e1 _ fun H2 e2 => ⟨a, C, dx, fs, rfl, (e1.trans e2) a _ hi, hc, hn, hl, k p H2 hp (e1.trans e2) (e2 p _ h1)⟩
theorem q_fldL {xs : List V} (hv : EvL tv σ H xs) (ho : Ev ta σ H (.ref a)) (hi : H a = some (.ins C dx fs)) (hc : Cls K C) (hn : NoAttr K C f) (hl : fs.length < 1000) (k : ∀ p H1, H p = none → Ex H H1 → H1 p = some (.lst xs) → tz D σ (upd H1 a (.ins C dx (putF f (.ref p) fs)))) : tSeq (sFld K ta tv f) tz D σ H :=
  s_fldL (D := { D with nx := tz D }) hv ho hi hc hn hl k
end
theorem s_retCall {sp : Sp} {dvs vs : List V} {E : XK} {ta : TA} {σ : L2.St} {H : Hp} {D : Ends} (h : EvA ta σ H vs) (k : ∀ H1, Ex H H1 → sp (vs ++ dvs) H1 D.rt E) : tRet (tCall sp dvs E ta) D σ H := h H (Ex.refl H) _ fun H1 e => k H1 e
theorem et_truthB {K : Fg} {te : TE} {σ : L2.St} {H : Hp} {b : Bool} (h : Ev te σ H (.bl b)) : EvT (fun σ H Q => te σ H fun x H' => ∃ k, TruV K x H' k ∧ Q k H') σ H b := fun H1 e _ q => h H1 e _ fun H2 e2 => ⟨b, rfl, q H2 e2⟩
def shapeOk (p n : Nat) : Prop := 1 ≤ n ∧ (p = 2 ∧ n ≤ 8 ∨ p = 3 ∧ n ≤ 5 ∨ p = 5 ∧ n ≤ 3 ∨ p = 7 ∧ n ≤ 2)
theorem shapeOk.isP {p n : Nat} (h : shapeOk p n) : IsP p := by
  rcases h.2 with h | h | h | h
  · exact .inl h.1
  · exact .inr (.inl h.1)
  · exact .inr (.inr (.inl h.1))
  · exact .inr (.inr (.inr h.1))
theorem shapeOk.n8 {p n : Nat} (h : shapeOk p n) : n ≤ 8 := by
  rcases h.2 with h | h | h | h <;> omega
theorem le_pow8 {a n : Nat} (ha : 1 ≤ a) {m : Nat} (h : n ≤ m) : a ^ n ≤ a ^ m := Nat.pow_le_pow_right ha h
theorem shapeOk.small {p n : Nat} (h : shapeOk p n) : p ^ n ≤ 1000 := by
  rcases h.2 with h | h | h | h
  · rw [h.1]; exact Nat.le_trans (le_pow8 (by decide) h.2) (by decide)
  · rw [h.1]; exact Nat.le_trans (le_pow8 (by decide) h.2) (by decide)
  · rw [h.1]; exact Nat.le_trans (le_pow8 (by decide) h.2) (by decide)
  · rw [h.1]; exact Nat.le_trans (le_pow8 (by decide) h.2) (by decide)
section
variable {P : Program} {w : World} {K : Fg} {mg : Str → Option Value} {base : Heap} {f : Addr} {fd : FuncData}
def spSpaceI (K : Fg) (C : Addr) : Sp := fun vs H Q _ => ∃ (x dx l : Addr) (p n : Nat) (ns : List Str), vs = [.ref x, .int (p : Int), .ref l] ∧ H x = some (.ins C dx []) ∧ SqL K H l (ns.map V.str) ∧ ns.length = n ∧ shapeOk p n ∧ ns.Nodup ∧ (∀ y ∈ ns, nameB y = true) ∧
  ∀ H', ExB x H H' → SpA C H' x p n → Q .non H'
theorem ok_spaceI {C : Addr} (F : FnP K "__init__" "Space.__init__" sSpaceInit f fd) (B : Bi mg) (G : Gc K mg) (S : SpF K C) (N : Cal P w K mg base 1 "is_name" ["text"] spIsName) : FnOk P w K mg base CX0 2 f fd ["self", "prime", "names"] (spSpaceI K C) := by
  refine F.ok scSpaceInit (fun vs H Q E h => ?_) (fun cdv A outer s H vs Q E hr h => ?_)
  · obtain ⟨x, dx, l, p, n, ns, rfl, _⟩ := h
    rfl
  · obtain ⟨x, dx, l, p, n, ns, rfl, hx, hl, hn, hsh, hnd, hnm, k⟩ := h
    obtain ⟨ap, g1, hpr⟩ := G.primes
    obtain ⟨t2, g2⟩ := G.mostn
    obtain ⟨d, g3, m2, m3, m5, m7⟩ := G.most
    refine ⟨_, PSs.nox (pss_cons (ps_if (PW.pt (pw_or (pt_cmpR op_notIn_seq (pv 1) (pe_glob (v := .ref ap) rfl g1 rfl) (by rfl)) (pw_or1 (pt_not (pt_chain op_le op_le pe_int (pe_callB call_len_seq rfl B.len PySem.boot_len (pa_cons (pv 2) pa_nil)) (pe_glob (v := .int 8) rfl g2 ⟨_, rfl⟩)))))) pss_never pss_nil)
      (pss_cons (ps_if (PW.pt (pw_or (pt_not (pt_truth (pe_callB (cr_all rfl) rfl B.all PyProof.Rows.boot_all (pa_cons (pe_lc (own := [("name", 3)]) (g := gName 3) (tt := tYes) rfl scSpaceInit.nd (pi_list (pv 2)) (blkOk_by (N := nSpaceInit) (sc := defScope sSpaceInit) (by decide +kernel))
          (fun _ _ _ _ _ => pg_name (i := 3) scSpaceInit.nd rfl (.inl rfl)) (fun _ _ _ _ _ => pts_nil) (fun _ _ _ _ _ => pe_cal N hr rfl (pa_cons (pv 3) pa_nil))) pa_nil)) (fun _ => rfl))) 
          (pw_or1 (pt_cmpR op_lt (pe_lenSetN rfl rfl B.len rfl B.set (pv 2)) (pe_callB call_len_seq rfl B.len PySem.boot_len (pa_cons (pv 2) pa_nil)) (nomark _))))) pss_never pss_nil)
      (pss_cons (ps_if (pt_cmpR op_gt (pe_callB call_len_seq rfl B.len PySem.boot_len (pa_cons (pv 2) pa_nil)) (pe_ix ix_mop (pe_glob (v := .ref d) rfl g3 rfl) (pv 1) (fun _ _ => rfl)) (nomark _)) pss_never pss_nil)
      (pss_cons (ps_fld (pv 0) (pv 1) rfl) (pss_cons (ps_fld (pv 0) (pe_callTy call_list_of rfl B.list PyProof.Rows.boot_list (pa_cons (pv 2) pa_nil)) rfl) (pss_one (ps_fld (pv 0) (pe_callB call_len_seq rfl B.len PySem.boot_len (pa_cons (pv 2) pa_nil)) rfl))))))), ?_⟩
    have hlen : (ns.map V.str).length = n := by rw [List.length_map]; exact hn
    have hn8 := hsh.n8
    have hn1 := hsh.1
    have hL : ∀ H1, Ex H H1 → Ev (tCB (fun xs H Q => ∃ p ys, xs = [V.ref p] ∧ (SqL K H p ys ∨ SqT K H p ys) ∧ Q (.int ys.length) H) (tCons (tVar 2) tNil)) (L2.start nSpaceInit [.ref x, .int (p : Int), .ref l]) H1 (.int (n : Int)) := fun H1 e1 H2 e2 Q q =>
      ⟨.ref l, rfl, l, _, rfl, .inl (ex_l (e1.trans e2) hl), by rw [hlen]; exact q H2 (Ex.refl H2)⟩
    refine q_when (b := false) (et_is (et_or (a := false) (b := false) (et_test (ev_is (ev_op (ev_var rfl) ev_c (rv_niT (hpr H) rfl rfl)) ?_))
      (fun _ => et_is (et_not (a := true) (et_test (ev_is (ev_chain (a := true) (b := true) (x := .int 1) (y := .int (n : Int)) (z := .int 8) ev_c (hL H (Ex.refl H))
      (rv_I0b (congrArg V.bl (decide_eq_true (by omega)))) (fun _ => ev_c) (fun _ => rv_I0b (congrArg V.bl (decide_eq_true (by omega))))) rfl))) rfl)) rfl) (fun hb => nomatch hb) (fun _ H1 e1 => ?_)
    · rcases hsh.isP with h | h | h | h <;> rw [h] <;> rfl
    refine q_when (b := false) (et_is (et_or (a := false) (b := false) (et_is (et_not (a := true) ?_) rfl) (fun _ => ?_)) rfl) (fun hb => nomatch hb) (fun _ H2 e2 => ?_)
    · refine et_truthB (ev_is (ev_all (bs := (List.range n).map fun _ => true) ?_) (congrArg V.bl (all_range.mpr fun _ _ => rfl)))
      rw [← gvn_bl]
      refine evlp_lc (J := Itl K l) (fun H2 e2 R r => ⟨.ref l, rfl, l, rfl, ⟨_, ex_l (e1.trans e2) hl⟩, r H2 (Ex.refl H2)⟩) (by have z := walk_list (K := K) (a := l) (xs := ns.map V.str); rw [hlen] at z; exact z) (by omega) (fun H' e => ex_l (e1.trans e) hl) _ _ (fun _ _ _ _ _ h => h) (fun i y H3 H4 hi e3 hy => ?_)
      obtain ⟨rfl, hy⟩ := hy
      rw [List.getElem?_map] at hy
      obtain ⟨z, hz, rfl⟩ := Option.map_eq_some_iff.mp hy
      exact ⟨Ex.refl _, _, fun R r => r, rfl, et_yes, fun _ => evp_ev (ev_call (ea_cons (ev_var rfl) ea_nil) fun H5 e5 Q q E => ⟨z, rfl, hnm z (List.mem_of_getElem? hz), q⟩) fun _ _ => rfl⟩
    · refine et_test (ev_op (x := .int (n : Int)) (y := .int (n : Int)) (fun H2 e2 Q q => ⟨.ref l, rfl, l, ns, rfl, ex_l (e1.trans e2) hl, by omega, hnd, by rw [hn]; exact q H2 (Ex.refl H2)⟩) (hL H1 e1) (rv_I0b (congrArg V.bl (decide_eq_false (by omega)))))
    have hm : ∃ m : Int, MoP K d (p : Int) m ∧ (n : Int) ≤ m := by
      rcases hsh.2 with h | h | h | h
      · rw [h.1]; exact ⟨8, m2, by omega⟩
      · rw [h.1]; exact ⟨5, m3, by omega⟩
      · rw [h.1]; exact ⟨3, m5, by omega⟩
      · rw [h.1]; exact ⟨2, m7, by omega⟩
    obtain ⟨m, hm1, hm2⟩ := hm
    refine q_when (b := false) (et_test (ev_op (x := .int (n : Int)) (y := .int m) (hL H2 (e1.trans e2)) (ev_op ev_c (ev_var rfl) (fun H3 e3 Q q => ⟨d, p, m, rfl, rfl, hm1, q H3 (Ex.refl H3)⟩)) (rv_I0b (congrArg V.bl (decide_eq_false (by omega)))))) (fun hb => nomatch hb) (fun _ H3 e3 => ?_)
    have e03 := (e1.trans e2).trans e3
    refine q_fld (ev_var rfl) (ev_var rfl) (e03 x _ hx) S.cl (S.no _ (by decide)) (by decide) fun H4 e4 => ?_
    have b4 : ExB x H _ := ((ExB.of (e03.trans e4)).trans (ExB.upd (a := x) (H := H4) (o := .ins C dx (putF "prime" (.int (p : Int)) []))))
    have l4 := exb_l b4 hx hl
    refine q_fldL (xs := ns.map V.str) (fun H5 e5 Q q => ⟨.ref l, rfl, l, _, rfl, .inl (ex_l e5 l4), fun z hz => q z _ hz (Ex.new hz) upd_same⟩) (ev_var rfl) upd_same S.cl (S.no _ (by decide)) (show 1 < 1000 by decide) fun q H5 hq e5 h5 => ?_
    have b5 := (b4.trans (ExB.of e5)).trans (ExB.upd (a := x) (H := H5) (o := .ins C dx (putF "names" (.ref q) (putF "prime" (.int (p : Int)) []))))
    have l5 := exb_l b5 hx hl
    refine s_fld (v := .int (n : Int)) (a := x) (C := C) (dx := dx) (fun H6 e6 Q q => ⟨.ref l, rfl, l, _, rfl, .inl (ex_l e6 l5), by rw [hlen]; exact q H6 (Ex.refl H6)⟩) (ev_var rfl) upd_same S.cl (S.no _ (by decide)) (show 2 < 1000 by decide) fun H6 e6 => ?_
    exact k _ ((b5.trans (ExB.of e6)).trans ExB.upd) ⟨dx, .ref q, upd_same⟩
/-- the Space that is made -/
def spPoints (C : Addr) : Sp := fun vs H Q _ => ∃ (x : Addr) (p n : Nat), vs = [.ref x] ∧ SpA C H x p n ∧ shapeOk p n ∧ RetP (pts p n) H Q
theorem ok_points {C : Addr} (F : FnP K "points" "Space.points" sSpacePoints f fd) (S : SpF K C) (T : Cal P w K mg base 1 "tuples_of" ["prime", "count"] spTuples) : FnOk P w K mg base CX0 2 f fd ["self"] (spPoints C) := by
  refine F.ok scSpacePoints (fun vs H Q E h => ?_) (fun cdv A outer s H vs Q E hr h => ?_)
  · obtain ⟨x, p, n, rfl, _⟩ := h
    rfl
  · obtain ⟨x, p, n, rfl, hx, hsh, k⟩ := h
    have hp := hsh.isP
    refine ⟨_, PSs.nox (pss_one (ps_ret (pe_cal T hr rfl (pa_cons (pe_fld (pv 0) rfl) (pa_cons (pe_fld (pv 0) rfl) pa_nil))))), ?_⟩
    refine s_retCall (ea_cons (ev_prime S (ev_var rfl) hx) (ea_cons (ev_count S (ev_var rfl) hx) ea_nil)) fun H1 e1 => ?_
    exact ⟨p, n, rfl, ⟨by have := hp.lt; omega, hp.le⟩, hsh.n8, hsh.small, fun l as H2 hl e2 h2 ha => k l as H2 (fresh_back e1 hl) (e1.trans e2) h2 ha⟩
def spPowers (K : Fg) (C T : Addr) : Sp := fun vs H Q _ => ∃ (x : Addr) (p n : Nat), vs = [.ref x, .str "degree"] ∧ SpA C H x p n ∧ shapeOk p n ∧ H T = some (.tbl #[]) ∧
  ∀ l out H2, ExN H H2 → H2 l = some (.lst (out.map V.ref)) → PtsA H2 out ((pts p n).mergeSort (PySem.W.dataLe false kD)) → Q (.ref l) H2
theorem ok_powers {C T : Addr} (F : FnP K "powers" "Space.powers" sSpacePowers f fd) (S : SpF K C) (hc : Cls K C) (M : MCal P w K mg base 2 C "points" ["self"] (spPoints C)) (Ac : Cal P w K mg base 7 "ascending" ["order", "powers"] (spAscending K T)) :
    FnOk P w K mg base CX0 8 f fd ["self", "order"] (spPowers K C T) := by
  refine F.ok scSpacePowers (fun vs H Q E h => ?_) (fun cdv A outer s H vs Q E hr h => ?_)
  · obtain ⟨x, p, n, rfl, _⟩ := h
    rfl
  · obtain ⟨x, p, n, rfl, hx, hsh, hT, k⟩ := h
    refine ⟨_, PSs.nox (pss_one (ps_ret (pe_cal Ac hr rfl (pa_cons (pv 1) (pa_cons (pe_mcal0 (pv 0) hc M hr) pa_nil))))), ?_⟩
    obtain ⟨dx, nm, hx'⟩ := hx
    refine ⟨.str "degree", rfl, .ref x, rfl, x, dx, _, rfl, hx', rfl, x, p, n, rfl, ⟨dx, nm, hx'⟩, hsh, fun l as H2 hl e2 h2 ha => ?_⟩
    exact ⟨l, as, pts p n, rfl, sq_of h2, ha, e2 T _ hT, fun q out H3 e3 h3 hp => k q out H3 ((exn_of e2).trans e3) h3 hp⟩
end
end Z7
end

section
set_option Elab.async false
set_option linter.all false
set_option maxRecDepth 100000
set_option maxHeartbeats 4000000
namespace Z7
open PySem L2 Evl RZ
/-! ### dicts from powers to numbers -/
def dE (f : Pol) : List (List Key × V) := f.map fun t => (kp t.1, .int t.2)
theorem kp_inj {a b : Pt} (h : kp a = kp b) : a = b := by
  unfold kp at h
  induction a generalizing b with
  | nil => cases b with
    | nil => rfl
    | cons y b => cases h
  | cons x a ih => cases b with
    | nil => cases h
    | cons y b =>
      rw [List.map_cons, List.map_cons] at h
      injection h with h1 h2
      cases h1
      rw [ih h2]
theorem valV_dE (k : Pt) : ∀ f : Pol, valV (dE f) (kp k) = (gp f k).map V.int
  | [] => rfl
  | t :: f => by
    show valV ((kp t.1, V.int t.2) :: dE f) (kp k) = _
    by_cases e : t.1 = k
    · rw [gp_pos e, valV_pos (show (kp t.1, V.int t.2).1 = kp k from congrArg kp e)] <;> rfl
    · rw [gp_neg e, valV_neg (show ¬ (kp t.1, V.int t.2).1 = kp k from fun z => e (kp_inj z)), valV_dE k f]
theorem putK_dE (f : Pol) (k : Pt) (v : Int) : putK (dE f) (kp k) (.int v) = dE (pu f k v) := by
  have e : ((dE f).any fun kv => decide (kv.1 = kp k)) = f.any fun t => decide (t.1 = k) := by
    unfold dE
    rw [List.any_map]
    congr 1
    funext t
    show decide (kp t.1 = kp k) = decide (t.1 = k)
    by_cases h : t.1 = k
    · rw [h, decide_eq_true rfl, decide_eq_true rfl]
    · rw [decide_eq_false h, decide_eq_false fun z => h (kp_inj z)]
  unfold putK pu
  rw [e]
  split
  · unfold dE
    rw [List.map_map, List.map_map]
    refine List.map_congr_left fun t _ => ?_
    show (if kp t.1 = kp k then (kp t.1, V.int v) else (kp t.1, V.int t.2)) = (fun t : Pt × Int => (kp t.1, V.int t.2)) (if t.1 = k then (t.1, v) else t)
    by_cases h : t.1 = k
    · rw [if_pos h, if_pos (congrArg kp h)]
    · rw [if_neg h, if_neg fun z => h (kp_inj z)]
  · unfold dE
    rw [List.map_append] <;> rfl
theorem dE_keys (f : Pol) : (dE f).map (·.1) = (f.map (·.1)).map kp := by
  unfold dE
  rw [List.map_map, List.map_map] <;> rfl
theorem dE_len (f : Pol) : (dE f).length = f.length := by
  unfold dE
  rw [List.length_map]
theorem pta_kp {H : Hp} {q : Addr} {x : Pt} (h : PtA H q x) : H q = some (.tup ((kp x).map kV)) := by
  rw [kp_kV]
  exact h
theorem kp_pta {H : Hp} {q : Addr} {x : Pt} (h : H q = some (.tup ((kp x).map kV))) : PtA H q x := by
  rw [kp_kV] at h
  exact h
section
variable {K : Fg} {σ : L2.St} {H : Hp} {td ty tx : TE} {d q : Addr} {f : Pol} {k : Pt} {v : Int}
theorem ev_dget (hd : Ev td σ H (.ref d)) (hy : Ev ty σ H (.ref q)) (h : Rd H d (.dT (dE f))) (hq : PtA H q k) (hv : gp f k = some v) : Ev (tDGet td ty) σ H (.int v) := fun H1 e Q r =>
  hd H1 e _ fun H2 e2 => hy H2 (e.trans e2) _ fun H3 e3 => ⟨d, .int v, rfl, .inr ⟨dE f, kp k, q, ex_rd ((e.trans e2).trans e3) h, rfl, pta_kp (ex_pt ((e.trans e2).trans e3) hq), by rw [valV_dE, hv] <;> rfl⟩, r H3 (e2.trans e3)⟩
/-- the dict comprehension -/
theorem dc_go {J : It} {n : Nat} {G : Hp → Prop} {Y : Nat → Hp → V → Hp → Prop} {g : L2.TG} {tk tv : TE} {vs : List Nat} (ks : Nat → Pt) (vl : Nat → Int) (w : Walk J n G Y) (hn : n ≤ 40000) (hG : ∀ H', Ex H H' → G H') (hinj : ((List.range n).map ks).Nodup)
    (hb : ∀ i x H1 H2, i < n → Ex H H1 → Y i H1 x H2 → Ex H1 H2 ∧ ∃ σ2 b, (∀ R : L2.St → Hp → Prop, R σ2 H2 → g x (wipe σ vs) H2 R) ∧ wipe σ2 vs = wipe σ vs ∧ Ev tk σ2 H2 (.ref b) ∧ PtA H2 b (ks i) ∧ Ev tv σ2 H2 (.int (vl i)))
    {Q : VK} (k : ∀ p H2, H p = none → Ex H H2 → H2 p = some (.dT (dE ((List.range n).map fun i => (ks i, vl i)))) → Q (.ref p) H2) : dcTail J g tk tv vs σ H Q := fun D hD => by
  refine ⟨fun i m H' => m = n - i ∧ i ≤ n ∧ Ex H H' ∧ H' D = some (.dT (dE ((List.range i).map fun i => (ks i, vl i)))), ⟨_, rfl, Nat.zero_le _, Ex.new hD, upd_same⟩, ?_⟩
  rintro i m H1 ⟨rfl, hi, e1, h1⟩
  by_cases hlt : i < n
  · refine .inr ⟨w.goes i H1 hlt (hG H1 e1), fun H' => Ex H H' ∧ H' D = some (.dT (dE ((List.range (i + 1)).map fun i => (ks i, vl i)))), fun H' h' => ⟨n - (i + 1), by omega, rfl, hlt, h'⟩, fun x H2 hy => ?_⟩
    obtain ⟨e2, σ2, b, hg, hw, htk, hb2, htv⟩ := hb i x H1 H2 hlt e1 (w.yields i H1 x H2 hlt (hG H1 e1) hy)
    refine hg _ ⟨hw, htk H2 (Ex.refl H2) _ fun H3 e3 => htv H3 e3 _ fun H4 e4 => ?_⟩
    have e14 := (e2.trans e3).trans e4
    refine ⟨_, kp (ks i), b, rfl, pta_kp (ex_pt (e3.trans e4) hb2), e14 D _ h1, ?_, Ex.mut (e1.trans e14) hD, ?_⟩
    · rw [dE_len, List.length_map, List.length_range]
      exact sz_lt (by omega)
    · rw [upd_same, putK_dE, pu_new, List.range_succ, List.map_append]
      · rfl
      · rw [List.map_map]
        intro z
        obtain ⟨j, hj, ej⟩ := List.mem_map.mp z
        have hj' := List.mem_range.mp hj
        have hh := List.pairwise_iff_getElem.mp hinj j i (by simp; omega) (by simp; omega) hj'
        rw [List.getElem_map, List.getElem_map, List.getElem_range, List.getElem_range] at hh
        exact hh ej
  · have e : i = n := by omega
    subst e
    exact .inl ⟨w.stops H1 (hG H1 e1), k D H1 hD e1 h1⟩
theorem walk_itemsT {o : Obj} {kvs : List (List Key × V)} : Walk (ItiT d o kvs) kvs.length (fun H => H d = some (.frz o (.dT kvs)))
    (fun i H x H' => ∃ (T q : Addr) (k : List Key) (v : V), kvs[i]? = some (k, v) ∧ x = .ref T ∧ H q = some (.tup (k.map kV)) ∧ H T = none ∧ H' = upd H T (.tup [.ref q, v])) :=
  ⟨fun _ _ hi q => ⟨q, hi⟩, fun _ q => ⟨q, Nat.le_refl _⟩, fun _ _ _ _ _ _ y => y⟩
theorem upd_back {H : Hp} {a : Addr} {o : HO} (h : H a = some o) : upd H a o = H := by
  funext b
  by_cases e : b = a
  · rw [e, upd_same, h]
  · rw [upd_ne e]
theorem lock_ex {H' : Hp} {u z : HO} (hd : H d = some u) (e : Ex (upd H d z) H') : Ex H (upd H' d u) ∧ H' d = some z := by
  refine ⟨fun b o h => ?_, e d _ upd_same⟩
  by_cases hb : b = d
  · rw [hb, upd_same]
    rw [hb, hd] at h
    exact h
  · rw [upd_ne hb]
    refine e b o ?_
    rw [upd_ne hb]
    exact h
theorem lock_none {u : HO} {p : Addr} (hd : H d = some u) (hp : upd H d u p = none) : H p = none ∧ p ≠ d := by
  by_cases hb : p = d
  · rw [hb, upd_same] at hp
    cases hp
  · rw [upd_ne hb] at hp
    exact ⟨hp, hb⟩
theorem lock_fresh {z : HO} {p : Addr} (hp : upd H d z p = none) : H p = none ∧ p ≠ d := by
  by_cases hb : p = d
  · rw [hb, upd_same] at hp
    cases hp
  · rw [upd_ne hb] at hp
    exact ⟨hp, hb⟩
/-- {k: F(k, v) for k, v in d.items()} -/
theorem dc_items {i j : Nat} {vs : List Nat} {tv : TE} {F : Pt × Int → Int} {Q : VK} (hd : ∀ H1, Ev td σ H1 (.ref d)) (h : H d = some (.dT (dE f))) (hn : (f.map (·.1)).Nodup) (hz : f.length ≤ 40000)
    (hw : ∀ x y, wipe (((wipe σ vs).set i (some x)).set j (some y)) vs = wipe σ vs) (hi : ∀ x y : V, (((wipe σ vs).set i (some x)).set j (some y))[i]? = some (some x))
    (hv : ∀ (t : Pt × Int) q H2, t ∈ f → ExB d H H2 → Ev tv (((wipe σ vs).set i (some (.ref q))).set j (some (.int t.2))) H2 (.int (F t)))
    (k : ∀ p H2, H p = none → Ex H H2 → H2 p = some (.dT (dE (f.map fun t => (t.1, F t)))) → Q (.ref p) H2) : tLockE (tDcT (iItemsT td) (gTup K 2 (gCons (gName i) (gCons (gName j) gNil))) (tVar i) tv vs) σ H Q := by
  refine ⟨d, .dT (dE f), h, True.intro, fun od => ?_⟩
  refine hd _ _ (Ex.refl _) _ fun H1 e1 => ⟨d, od, dE f, rfl, e1 d _ upd_same, ?_⟩
  have hmap : ∀ {α : Type} (G : Pt × Int → α), (List.range f.length).map (fun i => G (f.getD i ([], 0))) = f.map G := fun G => by
    refine List.ext_getElem (by simp) fun m h1 h2 => ?_
    have hm : m < f.length := by simpa using h1
    simp [hm]
  refine dc_go (n := (dE f).length) (fun i => (f.getD i ([], 0)).1) (fun i => F (f.getD i ([], 0))) walk_itemsT (by rw [dE_len]; omega) (fun H' e => e d _ (e1 d _ upd_same)) (by rw [dE_len, hmap]; exact hn) (fun m x H2 H3 hm e2 hy => ?_) (fun p H2 hp e2 h2 => ?_)
  · obtain ⟨T, q, kk, v, h1, rfl, hq, hT, rfl⟩ := hy
    rw [dE_len] at hm
    have ef : f[m]? = some f[m] := List.getElem?_eq_getElem hm
    have e3 : (dE f)[m]? = some (kp f[m].1, .int f[m].2) := by
      unfold dE
      rw [List.getElem?_map, ef] <;> rfl
    rw [e3] at h1
    cases h1
    have eg : f.getD m ([], 0) = f[m] := by
      rw [List.getD_eq_getElem?_getD, ef] <;> rfl
    have ex3 : ExB d H (upd H2 T (.tup [.ref q, .int f[m].2])) := fun b o hb ho => (e1.trans (e2.trans (Ex.new hT))) b o (by rw [upd_ne hb]; exact ho)
    refine ⟨Ex.new hT, _, q, fun R r => gtup2 (st_of upd_same) r, hw _ _, ev_var (hi _ _), ?_, ?_⟩
    · rw [eg]
      exact ex_pt (Ex.new hT) (kp_pta hq)
    · rw [eg]
      exact hv f[m] q _ (List.getElem_mem hm) ex3
  · obtain ⟨e3, e4⟩ := lock_ex h (e1.trans e2)
    have hp' := lock_fresh (fresh_back e1 hp)
    refine ⟨e4, k p _ hp'.1 e3 ?_⟩
    rw [upd_ne hp'.2, h2, dE_len, hmap fun t => (t.1, F t)]
end
/-- a polynomial as data -/
def polD (f : Pol) : PyData := .tuple (f.map fun t => .tuple [ptD t.1, .int t.2])
theorem noL_pol (f : Pol) : noL (polD f) = true := by
  unfold polD
  rw [noL]
  refine noLs_all fun d hd => ?_
  obtain ⟨t, _, rfl⟩ := List.mem_map.mp hd
  rw [noL, noLs, noLs, noLs, noL_pt]
  simp [noL]
end Z7
end

section
set_option Elab.async false
set_option linter.all false
set_option maxRecDepth 100000
set_option maxHeartbeats 4000000
namespace Z7
open PySem L2 Evl RZ
theorem nodup_len {α : Type} [DecidableEq α] : ∀ {l m : List α}, l.Nodup → (∀ a ∈ l, a ∈ m) → l.length ≤ m.length
  | [], _, _, _ => Nat.zero_le _
  | a :: l, m, hn, hs => by
    rw [List.nodup_cons] at hn
    have ha := hs a List.mem_cons_self
    have ih := nodup_len (m := m.erase a) hn.2 fun b hb => (List.mem_erase_of_ne fun e => hn.1 (by rw [← e]; exact hb)).mpr (hs b (List.mem_cons_of_mem _ hb))
    rw [List.length_erase_of_mem ha] at ih
    have hpos : 0 < m.length := List.length_pos_of_mem ha
    rw [List.length_cons]
    omega
/-- what from_numbers makes of a dict -/
def fromN (p : Nat) (f : Pol) : Pol := ordN p ((f.map (·.1)).mergeSort (PySem.W.dataLe true ptD)) f
theorem fromN_pev {p : Nat} {f : Pol} (hn : (f.map (·.1)).Nodup) (x : Pt) : pev p (fromN p f) x = pev p f x := ordN_pev hn (List.mergeSort_perm _ _) x
theorem fromN_perm {p : Nat} {f : Pol} (hn : (f.map (·.1)).Nodup) : (fromN p f).Perm ((f.map fun t => (t.1, t.2 % (p : Int))).filter fun t => t.2 != 0) := ordN_perm hn (List.mergeSort_perm _ _)
/-- a polynomial of a space -/
def PolOk (p n : Nat) (f : Pol) : Prop := (f.map (·.1)).Nodup ∧ (∀ t ∈ f, t.1 ∈ pts p n ∧ 0 ≤ t.2 ∧ t.2 < (p : Int))
theorem fromN_ok {p n : Nat} {f : Pol} (hp : 0 < p) (hn : (f.map (·.1)).Nodup) (hk : ∀ t ∈ f, t.1 ∈ pts p n) : PolOk p n (fromN p f) := by
  have pm := fromN_perm (p := p) hn
  refine ⟨?_, fun t ht => ?_⟩
  · have z := (pm.map (·.1)).nodup_iff.mpr
    refine z ?_
    have y : (((f.map fun t => (t.1, t.2 % (p : Int))).filter fun t => t.2 != 0).map (·.1)).Sublist (f.map (·.1)) := by
      have e : f.map (·.1) = (f.map fun t => (t.1, t.2 % (p : Int))).map (·.1) := by
        rw [List.map_map] <;> rfl
      rw [e]
      exact (List.filter_sublist).map _
    exact y.nodup hn
  · have z := List.mem_filter.mp (pm.mem_iff.mp ht)
    obtain ⟨u, hu, rfl⟩ := List.mem_map.mp z.1
    exact ⟨hk u hu, Int.emod_nonneg _ (by omega), Int.emod_lt_of_pos _ (by omega)⟩
theorem PolOk.len {p n : Nat} {f : Pol} (h : PolOk p n f) : f.length ≤ p ^ n := by
  have z : (f.map (·.1)).length ≤ (pts p n).length := by
    exact nodup_len h.1 fun a ha => by
      obtain ⟨t, ht, rfl⟩ := List.mem_map.mp ha
      exact (h.2 t ht).1
  rw [List.length_map, pts_count] at z
  exact z
theorem range_getD {α β : Type} (d : α) (G : α → β) (l : List α) : (List.range l.length).map (fun i => G (l.getD i d)) = l.map G := by
  refine List.ext_getElem (by simp) fun m h1 h2 => ?_
  have hm : m < l.length := by simpa using h1
  simp [hm]
theorem gvn_filter {α β : Type} (d : α) (b : α → Bool) (F : α → β) (l : List α) : gvn l.length (fun i => b (l.getD i d)) (fun i => F (l.getD i d)) = (l.filter b).map F := by
  unfold gvn
  have e := range_getD d id l
  have e2 : l = (List.range l.length).map fun i => l.getD i d := by
    rw [List.map_id] at e
    exact e.symm
  have e3 : l.filter b = ((List.range l.length).filter fun i => b (l.getD i d)).map fun i => l.getD i d := by
    have z := congrArg (List.filter b) e2
    rw [List.filter_map] at z
    exact z
  rw [e3, List.map_map]
  rfl
theorem s_retCbLc {wi : L2.TI} {g : L2.TG} {t : TT} {te : TE} {vs : List Nat} {r : List V → Hp → VK → Prop} {σ : L2.St} {H : Hp} {D : Ends} (h : wi σ H fun J H1 => lcT J g t te vs σ H1 fun x H2 => r [x] H2 D.rt) : tRet (tCB r (tCons (tLc wi g t te vs) tNil)) D σ H := h
theorem q_asg0 {i : Nat} {te : TE} {tz : TS} {σ : L2.St} {H : Hp} {D : Ends} (h : te σ H fun v H1 => tz D (σ.set i (some v)) H1) : tSeq (tAsg te (gName i)) tz D σ H := h
theorem ordN_eq (p : Int) (ks : List Pt) (f : Pol) : ordN p ks f = (ks.filter fun k => (gp f k).getD 0 % p != 0).map fun k => (k, (gp f k).getD 0 % p) := by
  unfold ordN
  rw [List.filter_map]
  rfl
section
variable {P : Program} {w : World} {K : Fg} {mg : Str → Option Value} {base : Heap} {f : Addr} {fd : FuncData}
def spFromN (K : Fg) (C : Addr) : Sp := fun vs H Q _ => ∃ (sp d : Addr) (p n : Nat) (g : Pol), vs = [.ref sp, .ref d] ∧ SpA C H sp p n ∧ 0 < p ∧ 0 < n ∧ H d = some (.dT (dE g)) ∧ (g.map (·.1)).Nodup ∧ (∀ t ∈ g, t.1 ∈ pts p n) ∧ g.length ≤ 1000 ∧ RetD K (polD (fromN p g)) H Q
theorem ok_fromn {C : Addr} (F : FnP K "from_numbers" "from_numbers" sFromNumbers f fd) (B : Bi mg) (S : SpF K C) : FnOk P w K mg base CX0 1 f fd ["space", "numbers"] (spFromN K C) := by
  refine F.ok scFromNumbers (fun vs H Q E h => ?_) (fun cdv A outer s H vs Q E hr h => ?_)
  · obtain ⟨sp, d, p, n, g, rfl, _⟩ := h
    rfl
  · obtain ⟨sp, d, p, n, g, rfl, hs, hp, hn, hd, hnd, hk, hz, k⟩ := h
    have hu := hr.units
    have hu1 : (A.deeper (PyProof.Rows.envOfC "from_numbers" (defScope sFromNumbers) s.heap.objs.size f cdv)).units + 1 < cLine := by omega
    refine ⟨_, PSs.nox (pss_cons (ps_set (i := 2) scFromNumbers.nd rfl (.inr rfl) (pe_lock (pe_dcT (own := [("power", 3), ("number", 4)]) (g := gTup K 2 (gCons (gName 3) (gCons (gName 4) gNil))) rfl hr.units0 scFromNumbers.nd (pi_itemsT (pv 1)) (blkOk_by (N := nFromNumbers) (sc := defScope sFromNumbers) (by decide +kernel))
        (fun _ _ _ _ _ => pg_tup rfl (pgs_cons (pg_name (i := 3) scFromNumbers.nd rfl (.inl rfl)) (pgs_cons (pg_name (i := 4) scFromNumbers.nd rfl (.inl rfl)) pgs_nil))) (fun _ _ _ _ _ => pv 3) (fun _ _ _ _ _ => pe_op op_mod (pv 4) (pe_fldB K (pv 0) rfl)))))
      (pss_one (ps_ret (pe_callTy call_tuple_of rfl B.tuple PyProof.Rows.boot_tuple (pa_cons (pe_lc (own := [("power", 3)]) (g := gName 3) (tt := tTest (tOp rNe (tDGet (tVar 2) (tVar 3)) (tC (.int 0)))) rfl scFromNumbers.nd (pi_list (pe_callBK (cr_sortTR (b := true) rfl hu) rfl B.sorted PyProof.Rows.boot_sorted (pa_cons (pv 2) pa_nil) (pk_cons pe_bl pk_nil))) (blkOk_by (N := nFromNumbers) (sc := defScope sFromNumbers) (by decide +kernel))
        (fun _ _ _ _ _ => pg_name (i := 3) scFromNumbers.nd rfl (.inl rfl)) (fun _ _ _ _ _ => pts_one (pt_cmpR op_ne (pe_dget hu1 (pv 2) (pv 3) (fun _ _ => rfl)) pe_int (nomark _))) (fun _ _ _ _ _ => pe_tup (pa_cons (pv 3) (pa_cons (pe_dget hu1 (pv 2) (pv 3) (fun _ _ => rfl)) pa_nil)))) pa_nil))))), ?_⟩
    have hsd : sp ≠ d := fun z => by
      obtain ⟨dx, nm, hs⟩ := hs
      rw [z, hd] at hs
      cases hs
    have hpp : (0 : Int) < (p : Int) := by omega
    refine q_asg0 ?_
    refine dc_items (d := d) (f := g) (F := fun t => t.2 % (p : Int)) (fun H1 => ev_var rfl) hd hnd (by omega) (fun _ _ => rfl) (fun _ _ => rfl) (fun t q H2 ht e2 => ?_) (fun r H1 hr1 e1 h1 => ?_)
    · obtain ⟨dx, nm, hs⟩ := hs
      exact ev_op (ev_var rfl) (ev_prime S (ev_var rfl) ⟨dx, nm, e2 sp _ hsd hs⟩) (rv_I hpp)
    · generalize hrest : g.map (fun t => (t.1, t.2 % (p : Int))) = rest at h1
      have hrk : rest.map (·.1) = g.map (·.1) := by
        rw [← hrest, List.map_map] <;> rfl
      refine s_retCbLc ?_
      refine ⟨.ref r, rfl, rfl, r, dE rest, rest.map (·.1), rfl, h1, dE_keys rest, fun x hx => ?_, fun l as hl hpa => ⟨l, rfl, ⟨_, sq_of upd_same⟩, ?_⟩⟩
      · rw [hrk] at hx
        obtain ⟨t, ht, rfl⟩ := List.mem_map.mp hx
        have z := pts_len (hk t ht)
        intro e
        rw [e] at z
        exact absurd z (by simp; omega)
      · generalize hks : (rest.map (·.1)).mergeSort (PySem.W.dataLe true ptD) = ks at hpa
        have hkp : ks.Perm (g.map (·.1)) := by
          rw [← hks, ← hrk]
          exact List.mergeSort_perm _ _
        have hfe : fromN p g = ordN p ks g := by
          unfold fromN
          rw [← hks, hrk]
        have hal : as.length = ks.length := Paired.length hpa
        have hkl : ks.length ≤ 1000 := by
          rw [hkp.length_eq, List.length_map]
          exact hz
        have hlr : l ≠ r := fun z => by
          rw [z, h1] at hl
          cases hl
        have hgp : ∀ kk, kk ∈ ks → gp rest kk = some ((gp g kk).getD 0 % (p : Int)) := fun kk hkk => by
          have hkg := hkp.mem_iff.mp hkk
          obtain ⟨v, hv⟩ := gp_some hkg
          have hm := gp_mem hv
          have hrm : (kk, v % (p : Int)) ∈ rest := by
            rw [← hrest]
            exact List.mem_map.mpr ⟨(kk, v), hm, rfl⟩
          have z := gp_of_mem (by rw [hrk]; exact hnd) hrm
          rw [hv]
          exact z
        refine lc_go (n := (as.map V.ref).length) (fun i => (gp g (ks.getD i [])).getD 0 % (p : Int) != 0) (fun i v H => Dp K H v (.tuple [ptD (ks.getD i []), .int ((gp g (ks.getD i [])).getD 0 % (p : Int))])) (walk_list (K := K) (a := l) (xs := as.map V.ref)) (by rw [List.length_map]; omega) (fun H' e => ex_l e (sq_of upd_same)) (fun i => stab_dp (by
          rw [noL, noLs, noLs, noLs, noL_pt]
          simp [noL])) (fun i x H3 H4 hi e3 hx => ?_) (fun q ws H3 hq e3 h3 ha => ?_)
        · obtain ⟨rfl, hx⟩ := hx
          rw [List.getElem?_map] at hx
          obtain ⟨qa, hqa, rfl⟩ := Option.map_eq_some_iff.mp hx
          obtain ⟨kk, hkk, hkq⟩ := paired_get hpa hqa
          have eg : ks.getD i [] = kk := by
            rw [List.getD_eq_getElem?_getD, hkk] <;> rfl
          rw [eg]
          have e13 : Ex H1 H4 := (Ex.new hl).trans e3
          have hgk := hgp kk (List.mem_of_getElem? hkk)
          have hev : ∀ H5, Ex H4 H5 → Ev (tDGet (tVar 2) (tVar 3)) [some (.ref sp), some (.ref d), some (.ref r), some (.ref qa), none] H5 (.int ((gp g kk).getD 0 % (p : Int))) := fun H5 e5 =>
            ev_dget (ev_var rfl) (ev_var rfl) (.inl (e5 r _ (e13 r _ h1))) (ex_pt (e13.trans e5) hkq) hgk
          refine ⟨Ex.refl _, _, fun R rr => rr, rfl, et_is (et_test (ev_op (hev H4 (Ex.refl H4)) ev_c (rv_ne rfl))) ?_, fun _ => ?_⟩
          · by_cases z : (gp g kk).getD 0 % (p : Int) = 0
            · rw [z]
              rfl
            · have y1 : ((gp g kk).getD 0 % (p : Int) != 0) = true := by simpa using z
              rw [y1, decide_eq_false (fun y => z (V.int.inj y))]
              rfl
          · intro H5 e5 Q2 q2
            refine eu_tup (ea_cons (ev_var rfl) (ea_cons (hev H5 e5) ea_nil)) (show 2 ≤ 100000 by decide) H5 (Ex.refl H5) Q2 fun u H6 hu6 e6 h6 => ?_
            exact q2 _ H6 e6 (.tup (st_of h6) (.cons (ex_pt ((e13.trans e5).trans e6) hkq).dp (.cons (.int _) .nil)))
        · rw [List.length_map, hal, gvn_filter [] (fun kk => (gp g kk).getD 0 % (p : Int) != 0) (fun kk (v : V) (H : Hp) => Dp K H v (.tuple [ptD kk, .int ((gp g kk).getD 0 % (p : Int))]))] at ha
          have ha2 : DpAll K H3 ws ((fromN p g).map fun t => .tuple [ptD t.1, .int t.2]) := by
            refine AllP.dp ?_
            rw [hfe, ordN_eq, List.map_map, List.map_map]
            exact ha
          have e13 : Ex H H3 := (e1.trans (Ex.new hl)).trans e3
          exact ⟨q, ws, rfl, .inl ⟨sq_of h3, fun u hu => k _ _ (e13.trans (Ex.new hu)) (.tup (st_of upd_same) (dpa_mono (Ex.new hu) ha2))⟩⟩
end
end Z7
end

section
set_option Elab.async false
set_option linter.all false
set_option maxRecDepth 100000
set_option maxHeartbeats 4000000
namespace Z7
open PySem L2 Evl RZ
/-- the items of a polynomial on the heap -/
theorem dp_pol {K : Fg} {H : Hp} {v : V} {f : Pol} (h : Dp K H v (polD f)) : ∃ (a : Addr) (vs : List V), v = .ref a ∧ SqT K H a vs ∧ vs.length = f.length ∧ ∀ (i : Nat) (u : V), vs[i]? = some u → ∃ (t : Pt × Int) (T a1 : Addr), f[i]? = some t ∧ u = .ref T ∧ SqT K H T [.ref a1, .int t.2] ∧ TI K H a1 t.1 := by
  unfold polD at h
  cases h with
  | tup hs ha =>
    refine ⟨_, _, rfl, hs, by rw [dpa_len ha, List.length_map], fun i u hu => ?_⟩
    obtain ⟨d, hd, hdp⟩ := dpa_get ha hu
    rw [List.getElem?_map] at hd
    obtain ⟨t, ht, rfl⟩ := Option.map_eq_some_iff.mp hd
    cases hdp with
    | tup hs2 ha2 =>
      cases ha2 with
      | cons h1 h2 =>
        cases h2 with
        | cons h3 h4 =>
          cases h4
          obtain ⟨a1, rfl, hti⟩ := dp_ti h1
          cases h3
          exact ⟨t, _, a1, ht, rfl, hs2, hti⟩
section
variable {P : Program} {w : World} {K : Fg} {mg : Str → Option Value} {base : Heap} {f : Addr} {fd : FuncData}
def spValue (K : Fg) (C : Addr) : Sp := fun vs H Q _ => ∃ (sp b : Addr) (o : V) (p n : Nat) (g : Pol) (xs : Pt), vs = [.ref sp, o, .ref b] ∧ SpA C H sp p n ∧ Dp K H o (polD g) ∧ TI K H b xs ∧ (∀ t ∈ g, t.1 ∈ pts p n) ∧ (∀ t ∈ g, 0 ≤ t.2 ∧ t.2 < 1000) ∧ g.length ≤ 1000 ∧ xs.length = n ∧ (1 < p ∧ p ≤ 7) ∧ n ≤ 100 ∧ RetV (.int (pev p g xs)) H Q
theorem ok_value {C : Addr} (F : FnP K "value" "value" sValue f fd) (B : Bi mg) (S : SpF K C) (R : Cal P w K mg base 2 "value_of" ["space", "power", "point"] (spValueOf K C)) : FnOk P w K mg base CX0 3 f fd ["space", "one", "point"] (spValue K C) := by
  refine F.ok scValue (fun vs H Q E h => ?_) (fun cdv A outer s H vs Q E hr h => ?_)
  · obtain ⟨sp, b, o, p, n, g, xs, rfl, _⟩ := h
    rfl
  · obtain ⟨sp, b, o, p, n, g, xs, rfl, hs, ho, hb, hk, hv, hz, hxs, hp, hn, k⟩ := h
    obtain ⟨a, us, rfl, hus, hul, hit⟩ := dp_pol ho
    have hp1 : (0 : Int) < (p : Int) := by omega
    refine ⟨_, PSs.nox (pss_one (ps_ret (pe_op op_mod (pe_callB (cr_sum rfl) rfl B.sum PyProof.Rows.boot_sum (pa_cons (pe_lc (own := [("power", 3), ("number", 4)]) (g := gTup K 2 (gCons (gName 3) (gCons (gName 4) gNil))) (tt := tYes) rfl scValue.nd (pi_tup (pv 1)) (blkOk_by (N := nValue) (sc := defScope sValue) (by decide +kernel))
        (fun _ _ _ _ _ => pg_tup rfl (pgs_cons (pg_name (i := 3) scValue.nd rfl (.inl rfl)) (pgs_cons (pg_name (i := 4) scValue.nd rfl (.inl rfl)) pgs_nil))) (fun _ _ _ _ _ => pts_nil)
        (fun _ _ _ _ _ => pe_op op_mul (pv 4) (pe_cal R hr rfl (pa_cons (pv 0) (pa_cons (pv 3) (pa_cons (pv 2) pa_nil)))))) pa_nil)) (pe_fld (pv 0) rfl)))), ?_⟩
    refine s_ret (ev_op (ev_sum (ns := gvn us.length (fun _ => true) fun i => (g.getD i ([], 0)).2 * (mon (g.getD i ([], 0)).1 xs % (p : Int))) ?_) (ev_prime S (ev_var rfl) hs) (rv_I hp1)) fun H1 e1 => ?_
    · rw [← gvn_int]
      refine evlp_lc (J := Itt K a) (fun H1 e1 R r => ⟨.ref a, rfl, a, rfl, ⟨us, ex_t e1 hus⟩, r H1 (Ex.refl H1)⟩) (walk_tup (K := K) (a := a) (xs := us)) (by omega) (fun H' e => ex_t e hus) _ _ (fun _ _ _ _ _ h => h) (fun i x H3 H4 hi e3 hx => ?_)
      obtain ⟨rfl, hx⟩ := hx
      obtain ⟨t, T, a1, ht, rfl, hT, hti⟩ := hit i x hx
      have eg : g.getD i ([], 0) = t := by
        rw [List.getD_eq_getElem?_getD, ht] <;> rfl
      rw [eg]
      have htm := List.mem_of_getElem? ht
      have hm0 := Int.emod_nonneg (mon t.1 xs) (show (p : Int) ≠ 0 by omega)
      have hm1 := Int.emod_lt_of_pos (mon t.1 xs) hp1
      have hv2 := hv t htm
      refine ⟨Ex.refl _, _, fun R r => gtup2 (ex_t e3 hT) r, rfl, et_yes, fun _ => evp_ev (ev_op (ev_var rfl) (ev_call (z := .int (mon t.1 xs % (p : Int))) (ea_cons (ev_var rfl) (ea_cons (ev_var rfl) (ea_cons (ev_var rfl) ea_nil))) fun H5 e5 Q q E => ⟨sp, a1, b, p, n, t.1, xs, rfl, hs.mono (e3.trans e5), hti.mono (e3.trans e5), hb.mono (e3.trans e5), hk t htm, hxs, hp, hn, q⟩) (rv_I (.inl ⟨by omega, by omega⟩))) fun _ _ => rfl⟩
    · have e : (gvn us.length (fun _ => true) fun i => (g.getD i ([], 0)).2 * (mon (g.getD i ([], 0)).1 xs % (p : Int))) = g.map fun t => t.2 * (mon t.1 xs % (p : Int)) := by
        rw [gvn_all, hul]
        exact range_getD ([], 0) (fun t : Pt × Int => t.2 * (mon t.1 xs % (p : Int))) g
      rw [e, sum_mod]
      exact k H1 e1
end
end Z7
end

section
set_option Elab.async false
set_option linter.all false
set_option maxRecDepth 100000
set_option maxHeartbeats 4000000
namespace Z7
open PySem L2 Evl RZ
section
variable {P : Program} {w : World} {K : Fg} {mg : Str → Option Value} {base : Heap} {f : Addr} {fd : FuncData}
def spNumbersOf (K : Fg) : Sp := fun vs H Q _ => ∃ (l : Addr) (p : Nat) (vals : List Int), vs = [.int (p : Int), .ref l] ∧ SqL K H l (vals.map V.int) ∧ vals.length = p ∧ (1 < p ∧ p ≤ 7) ∧ (∀ v ∈ vals, 0 ≤ v ∧ v < (p : Int)) ∧ RetL ((nums p vals).map V.int) H Q
theorem ok_numbersof (F : FnP K "numbers_of" "numbers_of" sNumbersOf f fd) (B : Bi mg) (R : Cal P w K mg base 1 "raised_number" ["prime", "number", "exponent"] spRaised) : FnOk P w K mg base CX0 2 f fd ["prime", "values"] (spNumbersOf K) := by
  refine F.ok scNumbersOf (fun vs H Q E h => ?_) (fun cdv A outer s H vs Q E hr h => ?_)
  · obtain ⟨l, p, vals, rfl, _⟩ := h
    rfl
  · obtain ⟨l, p, vals, rfl, hl, hlen, hp, hv, k⟩ := h
    have hp1 : (1 : Int) < (p : Int) := by omega
    have hat : ∀ i : Nat, i < p → (vals.map V.int)[i]? = some (.int (vals.getD i 0)) := fun i hi => by
      rw [List.getElem?_map, List.getD_eq_getElem?_getD, List.getElem?_eq_getElem (by omega)] <;> rfl
    refine ⟨_, PSs.nox (pss_cons (ps_set (i := 2) scNumbersOf.nd rfl (.inl rfl) (pe_lst (pa_cons (pe_ix ix_list (pv 1) pe_int (fun _ _ => rfl)) pa_nil)))
      (pss_cons (ps_for PassesOwn.never rfl (pi_range2 rfl B.range (pa_cons pe_int (pa_cons (pv 0) pa_nil))) (pg_name (i := 3) scNumbersOf.nd rfl (.inl rfl))
        (pss_cons (ps_set (i := 4) scNumbersOf.nd rfl (.inl rfl) pe_int)
        (pss_cons (ps_for PassesOwn.never rfl (pi_range1 rfl B.range (pa_cons (pv 0) pa_nil)) (pg_name (i := 5) scNumbersOf.nd rfl (.inl rfl))
          (pss_one (ps_aug (i := 4) scNumbersOf.nd rfl (.inl rfl) (pe_op op_mul (pe_ix ix_list (pv 1) (pv 5) (fun _ _ => rfl)) (pe_cal R hr rfl (pa_cons (pv 0) (pa_cons (pv 5) (pa_cons (pe_op op_sub (pe_op op_sub (pv 0) pe_int) (pv 3)) pa_nil))))) ip_add)))
        (pss_one (ps_expr (pe_bm PySem.F.plainAttrs_list PySem.F.slot_list_append PySem.F.type_list_append mt_append (pv 2) (pa_cons (pe_op op_mod (pe_un un_neg (pv 4)) (pv 0)) pa_nil)))))))
      (pss_one (ps_ret (pv 2))))), ?_⟩
    refine q_asgL (el_lst (ea_cons (ev_op (ev_var rfl) ev_c (rv_ixL (v := .int (vals.getD 0 0)) hl (atI_nat (j := 0) (hat 0 (by omega))))) ea_nil) (show 1 ≤ 100000 by decide)) fun q H1 hq e1 h1 => ?_
    refine q_forR2 (lo := 1) (n := (p : Int)) (ea_cons ev_c (ea_cons (ev_var rfl) ea_nil)) ⟨by omega, by omega, by omega, by omega⟩
      (fun i σ H' => Ex H H' ∧ (∃ x y z, σ = [some (.int (p : Int)), some (.ref l), some (.ref q), x, y, z]) ∧ H' q = some (.lst (((nums p vals).take (i + 1)).map V.int))) (fun H2 e2 => ⟨e1.trans e2, ⟨none, none, none, rfl⟩, e2 q _ h1⟩) ?_ ?_
    · rintro i σ H2 hi ⟨ex, ⟨x, y, z, rfl⟩, h2⟩
      refine q_asg ev_c fun H3 e3 => ?_
      refine q_forR1 (n := (p : Int)) (ea_cons (ev_var rfl) ea_nil) ⟨by omega, by omega⟩ (fun j σ H' => Ex H2 H' ∧ ∃ z, σ = [some (.int (p : Int)), some (.ref l), some (.ref q), some (.int (1 + (i : Int))), some (.int (((List.range j).map fun (x : Nat) => vals.getD x 0 * rn p x (p - 1 - (i + 1))).sum)), z])
        (fun H4 e4 => ⟨e3.trans e4, z, rfl⟩) ?_ ?_
      · rintro j σ H4 hj ⟨ex4, z, rfl⟩
        have hjp : j < p := by omega
        have hvj : 0 ≤ vals.getD j 0 ∧ vals.getD j 0 < (p : Int) := by
          have z := hat j hjp
          rw [List.getElem?_map] at z
          obtain ⟨v, hv1, hv2⟩ := Option.map_eq_some_iff.mp z
          cases hv2
          exact hv _ (List.mem_of_getElem? hv1)
        have hrb := rn_bd hp1 (j : Int) (p - 1 - (i + 1))
        have hex : ((p : Int) - 1 - (1 + (i : Int))).toNat = p - 1 - (i + 1) := by omega
        refine s_aug rfl (ev_op (ev_op (ev_var rfl) (ev_var rfl) (rv_ixL (v := .int (vals.getD j 0)) (ex_l (ex.trans ex4) hl) (atI_nat (hat j hjp)))) (ev_call (z := .int (rn p j (p - 1 - (i + 1)))) (ea_cons (ev_var rfl) (ea_cons (ev_var rfl) (ea_cons (ev_op (ev_op (ev_var rfl) ev_c rv_I0) (ev_var rfl) rv_I0) ea_nil))) fun H5 e5 Q q E => ⟨p, j, _, rfl, by omega, by omega, by rw [hex]; exact q⟩) (rv_I (.inl ⟨by omega, by omega⟩))) fun H5 e5 => ?_
        refine ⟨ex4.trans e5, some (.int (j : Int)), ?_⟩
        rw [List.range_succ, List.map_append, List.sum_append_int]
        show _ = [_, _, _, _, some (V.int (_ + ((vals.getD j 0 * rn p j (p - 1 - (i + 1))) + 0))), _]
        rw [Int.add_zero]
        rfl
      · rintro σ H4 ⟨ex4, z, rfl⟩
        have h4 := ex4 q _ h2
        refine s_app h4 (ev_var rfl) (ev_op (ev_un (ev_var rfl) ru_neg) (ev_var rfl) (rv_I (show (0 : Int) < (p : Int) by omega))) ?_ fun H5 e5 => ?_
        · rw [List.length_map, List.length_take, nums_len (by omega)]
          omega
        · refine ⟨Ex.mut ((ex.trans ex4).trans e5) hq, ⟨_, _, _, rfl⟩, ?_⟩
          rw [upd_same]
          have ei : (nums p vals)[i + 1]? = some ((-(dot p vals fun x => rn p x (p - 1 - (i + 1)))) % (p : Int)) := by
            unfold nums
            rw [List.getElem?_cons_succ, List.getElem?_map, List.getElem?_range (by omega)]
            rfl
          rw [List.take_add_one (i := i + 1), ei, List.map_append]
          rfl
    · rintro σ H2 ⟨ex, ⟨x, y, z, rfl⟩, h2⟩
      have ht : ((nums p vals).take (((p : Int) - 1).toNat + 1)) = nums p vals := List.take_of_length_le (by rw [nums_len (by omega)]; omega)
      rw [ht] at h2
      exact s_ret (ev_var rfl) fun H3 e3 => k q H3 hq (ex.trans e3) (e3 q _ h2)
end
end Z7
end

section
set_option Elab.async false
set_option linter.all false
set_option maxRecDepth 100000
set_option maxHeartbeats 4000000
namespace Z7
open PySem L2 Evl RZ
/-! ### tuples by their place -/
def IsPt (x : Pt) (v : V) (H : Hp) : Prop := ∃ q, v = .ref q ∧ PtA H q x
theorem IsPt.mono {x : Pt} {v : V} {H H' : Hp} (e : Ex H H') (h : IsPt x v H) : IsPt x v H' := let ⟨q, a, b⟩ := h; ⟨q, a, ex_pt e b⟩
theorem stab_pt (x : Pt) : Stab (IsPt x) := fun _ _ _ e ⟨q, a, b⟩ => ⟨q, a, pt_tex e b⟩
theorem allp_pts {H : Hp} : ∀ {ps : List Pt} {ws : List V}, AllP (ps.map IsPt) ws H → ∃ as : List Addr, ws = as.map V.ref ∧ PtsA H as ps
  | [], _, h => by
    cases h
    exact ⟨[], rfl, .nil⟩
  | x :: ps, _, h => by
    cases h with
    | cons h1 t =>
      obtain ⟨q, rfl, hq⟩ := h1
      obtain ⟨as, rfl, ha⟩ := allp_pts t
      exact ⟨q :: as, rfl, .cons hq ha⟩
theorem EvP.mono' {te : TE} {σ : L2.St} {H H' : Hp} {P : V → Hp → Prop} (e : Ex H H') (h : EvP te σ H P) : EvP te σ H' P := fun H1 a Q q => h H1 (e.trans a) Q q
section
variable {K : Fg} {σ : L2.St} {H : Hp} {ta tb : TE} {x y : Pt} {tl th : TO}
theorem pt_len {K : Fg} {H : Hp} {a : Addr} {x : Pt} (h : PtA H a x) : SqT K H a (x.map V.int) := .inl (.inl h)
theorem evp_cat (ha : EvP ta σ H (IsPt x)) (hb : EvP tb σ H (IsPt y)) (hl : x.length + y.length ≤ 1000) : EvP (tOp (rCatA K) ta tb) σ H (IsPt (x ++ y)) := fun H1 e Q q =>
  ha H1 e _ fun u H2 e2 ⟨a, eu, hqa⟩ => hb H2 (e.trans e2) _ fun v H3 e3 ⟨b, ev, hqb⟩ => by
    subst eu ev
    have hqa3 := ex_pt e3 hqa
    refine ⟨a, b, _, _, rfl, rfl, pt_len hqa3, pt_len hqb, ?_, fun hx => q _ H3 (e2.trans e3) ⟨b, rfl, ?_⟩, fun _ hy => q _ H3 (e2.trans e3) ⟨a, rfl, ?_⟩, fun _ _ p hp => q _ _ ((e2.trans e3).trans (Ex.new hp)) ⟨p, rfl, ?_⟩⟩
    · rw [List.length_map, List.length_map]
      exact sz_of (by omega)
    · rw [List.map_eq_nil_iff.mp hx]
      exact hqb
    · rw [List.map_eq_nil_iff.mp hy, List.append_nil]
      exact hqa3
    · show upd H3 p _ p = _
      rw [upd_same, List.map_append]
theorem evp_one {i : Nat} {k : Int} (h : σ[i]? = some (some (.int k))) : EvP (tTup (tCons (tVar i) tNil)) σ H (IsPt [k]) := fun H1 e Q q =>
  ⟨.int k, h, by show 1 ≤ sizeLine; exact sz_of (by decide), fun p hp => q _ _ (Ex.new hp) ⟨p, rfl, upd_same⟩⟩
theorem evp_take {i : Nat} {a : Addr} (ha : Ev ta σ H (.ref a)) (h : PtA H a x) (hh : EvO th σ H (some (i : Int))) : EvP (tSl (rSlA K) ta tNoPart th) σ H (IsPt (x.take i)) := fun H1 e Q q =>
  ha H1 e _ fun H2 e2 => hh H2 (e.trans e2) _ fun H3 e3 => by
    have e03 := (e.trans e2).trans e3
    refine ⟨a, x.map V.int, rfl, pt_len (ex_pt e03 h), fun hw => q _ H3 (e2.trans e3) ⟨a, rfl, ?_⟩, fun _ p hp => q _ _ ((e2.trans e3).trans (Ex.new hp)) ⟨p, rfl, ?_⟩⟩
    · have z := hw.2
      rw [HT.sIx_nat, List.length_map] at z
      rw [List.take_of_length_le (by omega)]
      exact ex_pt e03 h
    · show upd H3 p _ p = _
      rw [upd_same]
      unfold cutV
      rw [HT.sIx_none, HT.sIx_nat, List.drop_zero, Nat.sub_zero, List.length_map, List.map_take]
      by_cases hi : i ≤ x.length
      · rw [Nat.min_eq_left hi]
      · rw [Nat.min_eq_right (by omega), List.take_of_length_le (by rw [List.length_map]; exact Nat.le_refl _), List.take_of_length_le (by rw [List.length_map]; omega)]
theorem evp_drop {i : Nat} {a : Addr} (ha : Ev ta σ H (.ref a)) (h : PtA H a x) (hh : EvO tl σ H (some (i : Int))) : EvP (tSl (rSlA K) ta tl tNoPart) σ H (IsPt (x.drop i)) := fun H1 e Q q =>
  ha H1 e _ fun H2 e2 => hh H2 (e.trans e2) _ fun H3 e3 => by
    have e03 := (e.trans e2).trans e3
    refine ⟨a, x.map V.int, rfl, pt_len (ex_pt e03 h), fun hw => q _ H3 (e2.trans e3) ⟨a, rfl, ?_⟩, fun _ p hp => q _ _ ((e2.trans e3).trans (Ex.new hp)) ⟨p, rfl, ?_⟩⟩
    · have z := hw.1
      rw [HT.sIx_nat, List.length_map] at z
      by_cases hx : x = []
      · rw [hx] at h ⊢
        rw [List.drop_nil]
        exact ex_pt e03 h
      · have hxl := List.length_pos_iff.mpr hx
        have hi : i = 0 := by omega
        rw [hi, List.drop_zero]
        exact ex_pt e03 h
    · show upd H3 p _ p = _
      rw [upd_same]
      unfold cutV
      rw [HT.sIx_none, HT.sIx_nat, List.length_map, List.map_drop]
      by_cases hi : i ≤ x.length
      · rw [Nat.min_eq_left hi, List.take_of_length_le (by rw [List.length_drop, List.length_map]; exact Nat.le_refl _)]
      · rw [Nat.min_eq_right (by omega), Nat.sub_self, List.take_zero, List.drop_of_length_le (by rw [List.length_map]; omega)]
end
theorem cut_set {x : Pt} {i : Nat} {k : Int} (h : i < x.length) : x.take i ++ [k] ++ x.drop (i + 1) = x.set i k := by
  rw [List.set_eq_take_append_cons_drop, if_pos h, List.append_assoc]
  rfl
def ForB (J : It) (g : L2.TG) (tb : TS) (D : Ends) (σ : L2.St) (H : Hp) : Prop := ∃ W : Nat → Nat → L2.St → Hp → Prop, (∃ m, W 0 m σ H) ∧ ∀ i m σ H, W i m σ H →
  (J.stop i H ∧ D.nx σ H) ∨ (J.go i H ∧ ∃ N : L2.St → Hp → Prop, (∀ σ' H', N σ' H' → ∃ m', m' < m ∧ W (i + 1) m' σ' H') ∧ ∀ x H', J.yld i H x H' → g x σ H' fun σ2 H2 => tb { D with nx := N, ct := N, bk := D.nx } σ2 H2)
theorem q_for0 {wi : L2.TI} {g : L2.TG} {tu tz : TS} {D : Ends} {σ : L2.St} {H : Hp} (h : wi σ H fun J H1 => ForB J g tu { D with nx := tz D } σ H1) : tSeq (tFor wi g tu) tz D σ H := h
theorem s_for0 {wi : L2.TI} {g : L2.TG} {tu : TS} {D : Ends} {σ : L2.St} {H : Hp} (h : wi σ H fun J H1 => ForB J g tu D σ H1) : tFor wi g tu D σ H := h
theorem forB_go {J : It} {n : Nat} {G : Hp → Prop} {Y : Nat → Hp → V → Hp → Prop} (w : Walk J n G Y) {g : L2.TG} {tb : TS} {D : Ends} {σ : L2.St} {H : Hp} (Pv : Nat → L2.St → Hp → Prop) (h0 : Pv 0 σ H) (hG : ∀ i σ H, i ≤ n → Pv i σ H → G H)
    (hs : ∀ i x σ H H', i < n → Pv i σ H → Y i H x H' → g x σ H' fun σ2 H2 => tb { D with nx := Pv (i + 1), ct := Pv (i + 1), bk := D.nx } σ2 H2) (hd : ∀ σ H, Pv n σ H → D.nx σ H) : ForB J g tb D σ H := for_it w Pv h0 hG hs hd
end Z7
end

section
set_option Elab.async false
set_option linter.all false
set_option maxRecDepth 100000
set_option maxHeartbeats 4000000
namespace Z7
open PySem L2 Evl RZ
theorem gp_pu (g : Pol) (k : Pt) (v : Int) (x : Pt) : gp (pu g k v) x = if x = k then some v else gp g x := by
  have h := valV_put (dE g) (kp k) (kp x) (.int v)
  rw [putK_dE, valV_dE, valV_dE] at h
  by_cases e : x = k
  · rw [if_pos e]
    rw [if_pos (congrArg kp e)] at h
    obtain ⟨y, hy, hv⟩ := Option.map_eq_some_iff.mp h
    rw [hy]
    cases hv
    rfl
  · rw [if_neg e]
    rw [if_neg fun z => e (kp_inj z)] at h
    cases h1 : gp g x with
    | none =>
      rw [h1] at h
      exact Option.map_eq_none_iff.mp h
    | some y =>
      rw [h1] at h
      obtain ⟨z, hz, hv⟩ := Option.map_eq_some_iff.mp h
      rw [hz]
      cases hv
      rfl
/-- a dict that has F at the powers in S -/
structure GOk (g : Pol) (S : Pt → Prop) (F : Pt → Int) : Prop where
  nd : (g.map (·.1)).Nodup
  ks : ∀ x, x ∈ g.map (·.1) ↔ S x
  vl : ∀ x, S x → gp g x = some (F x)
theorem GOk.nil {F : Pt → Int} : GOk [] (fun _ => False) F := ⟨List.Pairwise.nil, fun x => ⟨fun h => absurd h List.not_mem_nil, fun h => False.elim h⟩, fun x h => False.elim h⟩
theorem GOk.iff {g : Pol} {S S' : Pt → Prop} {F : Pt → Int} (h : GOk g S F) (e : ∀ x, S x ↔ S' x) : GOk g S' F := ⟨h.nd, fun x => (h.ks x).trans (e x), fun x hx => h.vl x ((e x).mpr hx)⟩
theorem GOk.put {g : Pol} {S : Pt → Prop} {F : Pt → Int} (h : GOk g S F) (k : Pt) : GOk (pu g k (F k)) (fun x => x = k ∨ S x) F := by
  refine ⟨pu_nodup h.nd, fun x => ?_, fun x hx => ?_⟩
  · rw [pu_keys, h.ks]
  · rw [gp_pu]
    by_cases e : x = k
    · rw [if_pos e, e]
    · rw [if_neg e]
      exact h.vl x (hx.resolve_left e)
theorem GOk.map {l : List Pt} {F : Pt → Int} (h : l.Nodup) : GOk (l.map fun x => (x, F x)) (· ∈ l) F := by
  have e : (l.map fun x => (x, F x)).map (·.1) = l := by
    rw [List.map_map]
    exact List.map_id' l
  refine ⟨by rw [e]; exact h, fun x => by rw [e], fun x hx => ?_⟩
  exact gp_of_mem (t := (x, F x)) (by rw [e]; exact h) (List.mem_map.mpr ⟨x, hx, rfl⟩)
theorem perm_of_nodup {α : Type} [DecidableEq α] {l m : List α} (hl : l.Nodup) (hm : m.Nodup) (h : ∀ a, a ∈ l ↔ a ∈ m) : l.Perm m := (List.perm_ext_iff_of_nodup hl hm).mpr h
theorem GOk.psum {g : Pol} {l : List Pt} {F : Pt → Int} (h : GOk g (· ∈ l) F) (hl : l.Nodup) (x : Pt) : psum g x = psum (l.map fun e => (e, F e)) x := by
  have hp : (g.map (·.1)).Perm l := perm_of_nodup h.nd hl h.ks
  have e : g = (g.map (·.1)).map fun e => (e, F e) := by
    rw [List.map_map]
    have z : g.map id = g.map ((fun e => (e, F e)) ∘ fun t => t.1) := List.map_congr_left fun t ht => by
      have y := gp_of_mem h.nd ht
      rw [h.vl t.1 ((h.ks t.1).mp (List.mem_map.mpr ⟨t, ht, rfl⟩))] at y
      show t = (t.1, F t.1)
      rw [Option.some.inj y]
    rw [List.map_id] at z
    exact z
  exact psum_perm (by
    have y := hp.map fun e => (e, F e)
    rw [← e] at y
    exact y) x
theorem GOk.len {g : Pol} {l : List Pt} {F : Pt → Int} (h : GOk g (· ∈ l) F) : g.length ≤ l.length := by
  have z := nodup_len h.nd fun a ha => (h.ks a).mp ha
  rw [List.length_map] at z
  exact z
theorem GOk.sub {g : Pol} {S : Pt → Prop} {l : List Pt} {F : Pt → Int} (h : GOk g S F) (hs : ∀ x, S x → x ∈ l) : g.length ≤ l.length := by
  have z := nodup_len (m := l) h.nd fun a ha => hs a ((h.ks a).mp ha)
  rw [List.length_map] at z
  exact z
/-- a polynomial that has the values F -/
def PolV (K : Fg) (p n : Nat) (F : Pt → Int) (v : V) (H : Hp) : Prop := ∃ g, PolOk p n g ∧ (∀ x ∈ pts p n, pev p g x = F x) ∧ Dp K H v (polD g)
theorem stab_polv {K : Fg} {p n : Nat} {F : Pt → Int} : Stab (PolV K p n F) := fun v H H' e ⟨g, a, b, c⟩ => ⟨g, a, b, dp_tex e (polD g) (noL_pol g) c⟩
theorem PolV.mono {K : Fg} {p n : Nat} {F : Pt → Int} {v : V} {H H' : Hp} (e : Ex H H') (h : PolV K p n F v H) : PolV K p n F v H' := let ⟨g, a, b, c⟩ := h; ⟨g, a, b, dp_mono e c⟩
theorem PolV.exn {K : Fg} {p n : Nat} {F : Pt → Int} {v : V} {H H' : Hp} (e : ExN H H') (h : PolV K p n F v H) : PolV K p n F v H' := let ⟨g, a, b, c⟩ := h; ⟨g, a, b, dp_exn e c⟩
theorem exb_pt {H H' : Hp} {r : Addr} {o : HO} (e : ExB r H H') (hr : H r = some o) (ho : ∀ xs, o ≠ .tup xs) {q : Addr} {x : Pt} (h : PtA H q x) : PtA H' q x := e q _ (fun z => by
  have h : H q = some _ := h
  rw [z, hr] at h
  exact ho _ (Option.some.inj h)) h
theorem exb_sp {H H' : Hp} {r : Addr} {o : HO} (e : ExB r H H') (hr : H r = some o) (ho : ∀ C dx fs, o ≠ .ins C dx fs) {C a : Addr} {p n : Nat} (h : SpA C H a p n) : SpA C H' a p n := by
  obtain ⟨dx, nm, h⟩ := h
  exact ⟨dx, nm, e a _ (fun z => by
    rw [z, hr] at h
    exact ho _ _ _ (Option.some.inj h)) h⟩
theorem set_mem {p n : Nat} {x : Pt} {i k : Nat} (h : x ∈ pts p n) (hk : k < p) : x.set i (k : Int) ∈ pts p n := by
  obtain ⟨h1, h2⟩ := pts_mem.mp h
  refine pts_mem.mpr ⟨by rw [List.length_set]; exact h1, fun e he => ?_⟩
  rcases List.mem_or_eq_of_mem_set he with z | z
  · exact h2 e z
  · rw [z]
    omega
theorem set_back {x y : Pt} {i : Nat} {b : Int} (h : y.set i b = x) : y = x.set i (y.getD i 0) := by
  rw [← h, List.set_set]
  refine List.ext_getElem (by rw [List.length_set]) fun m h1 h2 => ?_
  rw [List.getElem_set]
  split
  · rename_i e
    subst e
    rw [List.getD_eq_getElem?_getD, List.getElem?_eq_getElem h1] <;> rfl
  · rfl
theorem getD_bd {p n : Nat} {x : Pt} {i : Nat} (h : x ∈ pts p n) (hi : i < n) : 0 ≤ x.getD i 0 ∧ x.getD i 0 < (p : Int) ∧ x[i]? = some (x.getD i 0) := by
  obtain ⟨h1, h2⟩ := pts_mem.mp h
  have e : x[i]? = some x[i] := List.getElem?_eq_getElem (by omega)
  rw [List.getD_eq_getElem?_getD, e]
  exact ⟨(h2 _ (List.getElem_mem _)).1, (h2 _ (List.getElem_mem _)).2, rfl⟩
theorem set_same {x : Pt} {i : Nat} {v : Int} (h : x[i]? = some v) : x.set i v = x := by
  refine List.ext_getElem (by rw [List.length_set]) fun m h1 h2 => ?_
  rw [List.getElem_set]
  split
  · rename_i e
    subst e
    rw [List.getElem?_eq_getElem h2] at h
    exact (Option.some.inj h).symm
  · rfl
section
variable {K : Fg} {σ : L2.St} {H : Hp} {ta tb te : TE} {tu tz : TS} {D : Ends} {g : L2.TG}
theorem q_asgLp {i : Nat} {Ps : List (V → Hp → Prop)} (h : Evlp te σ H Ps) (k : ∀ p ws H1, H p = none → Ex H H1 → H1 p = some (.lst ws) → AllP Ps ws H1 → tz D (σ.set i (some (.ref p))) H1) : tSeq (tAsg te (gName i)) tz D σ H :=
  h H (Ex.refl H) _ fun p ws H1 hp e1 h1 ha => k p ws H1 hp e1 h1 ha
theorem s_forZipL {a : Addr} {xs ys : List V} (h : Ev ta σ H (.ref a)) (hx : SqL K H a xs) (hb : EvL tb σ H ys) (k : ∀ b H1, H b = none → Ex H H1 → H1 b = some (.lst ys) → ForB (Itz K a b) g tu D σ H1) : tFor (iZipA K (tCons ta (tCons tb tNil))) g tu D σ H := s_for0 (
  h H (Ex.refl H) _ fun H1 e1 => hb H1 e1 _ fun b H2 hb2 e2 h2 => ⟨a, b, xs, ys, rfl, .inl ⟨ex_l (e1.trans e2) hx, sq_of h2, k b H2 (fresh_back e1 hb2) (e1.trans e2) h2⟩⟩)
theorem el_numbers {p : Nat} {vals : List Int} (hp : Ev ta σ H (.int (p : Int))) (hl : Evlp tb σ H (vals.map fun b v _ => v = V.int b)) (hlen : vals.length = p) (hp7 : 1 < p ∧ p ≤ 7) (hv : ∀ v ∈ vals, 0 ≤ v ∧ v < (p : Int)) :
    EvL (tCall (spNumbersOf K) [] E0 (tCons ta (tCons tb tNil))) σ H ((nums p vals).map V.int) := fun H1 e Q q =>
  hp H1 e _ fun H2 e2 => hl H2 (e.trans e2) _ fun l ws H3 hl3 e3 h3 ha => by
    rw [allp_int ha] at h3
    exact ⟨l, p, vals, rfl, sq_of h3, hlen, hp7, hv, fun q2 H4 hq e4 h4 => q q2 H4 (fresh_back (e2.trans e3) hq) ((e2.trans e3).trans e4) h4⟩
end
theorem pts_kt {H : Hp} {as : List Addr} {ps : List Pt} (h : PtsA H as ps) : Paired (fun q (k : List Key) => H q = some (.tup (k.map kV))) as (ps.map kp) := by
  induction h with
  | nil => exact .nil
  | cons h _ ih => exact .cons (pta_kp h) ih
/-- something of which Pr holds -/
def RetP2 (Pr : V → Hp → Prop) (H : Hp) (Q : VK) : Prop := ∀ v H2, Ex H H2 → Pr v H2 → Q v H2
section
variable {P : Program} {w : World} {K : Fg} {mg : Str → Option Value} {base : Heap} {f : Addr} {fd : FuncData}
def spPolyOf (K : Fg) (C : Addr) : Sp := fun vs H Q _ => ∃ (sp t : Addr) (p n : Nat) (F : Pt → Int), vs = [.ref sp, .ref t] ∧ SpA C H sp p n ∧ shapeOk p n ∧ SqL K H t (((pts p n).map F).map V.int) ∧ (∀ x ∈ pts p n, 0 ≤ F x ∧ F x < (p : Int)) ∧ RetP2 (PolV K p n F) H Q
theorem ok_polyof {C : Addr} (F : FnP K "polynomial_of" "polynomial_of" sPolynomialOf f fd) (B : Bi mg) (S : SpF K C) (M : MCal P w K mg base 2 C "points" ["self"] (spPoints C)) (N : Cal P w K mg base 2 "numbers_of" ["prime", "values"] (spNumbersOf K))
    (FN : Cal P w K mg base 1 "from_numbers" ["space", "numbers"] (spFromN K C)) : FnOk P w K mg base CX0 3 f fd ["space", "table"] (spPolyOf K C) := by
  refine F.ok scPolynomialOf (fun vs H Q E h => ?_) (fun cdv A outer s H vs Q E hr h => ?_)
  · obtain ⟨sp, t, p, n, G, rfl, _⟩ := h
    rfl
  · obtain ⟨sp, t, p, n, G, rfl, hs, hsh, ht, hG, k⟩ := h
    have hu := hr.units
    have hu1 : (A.deeper (PyProof.Rows.envOfC "polynomial_of" (defScope sPolynomialOf) s.heap.objs.size f cdv)).units + 1 < cLine := by omega
    refine ⟨_, PSs.nox (pss_cons (ps_set (i := 2) scPolynomialOf.nd rfl (.inr rfl) (pe_dictzip hu rfl B.dict rfl B.zip (pa_cons (pe_mcal0 (pv 0) S.cl M hr) (pa_cons (pv 1) pa_nil))))
      (pss_cons (ps_for PassesOwn.never rfl (pi_range1 rfl B.range (pa_cons (pe_fld (pv 0) rfl) pa_nil)) (pg_name (i := 3) scPolynomialOf.nd rfl (.inr rfl))
        (pss_cons (ps_set (i := 4) scPolynomialOf.nd rfl (.inl rfl) pe_dnewT)
        (pss_cons (ps_for PassesOwn.never rfl (pi_list (pe_mcal0 (pv 0) S.cl M hr)) (pg_name (i := 5) scPolynomialOf.nd rfl (.inr rfl))
          (pss_one (ps_if (pt_cmpR op_eq (pe_ix ix_tup (pv 5) (pv 3) (fun _ _ => rfl)) pe_int (nomark _))
            (pss_cons (ps_setLc (i := 6) (own := [("k", 9)]) (g := gName 9) (tt := tYes) rfl scPolynomialOf.nd rfl rfl (sw_true rfl rfl rfl (by decide +kernel)) (pi_range1 rfl B.range (pa_cons (pe_fld (pv 0) rfl) pa_nil)) (blkOk_by (N := nPolynomialOf) (sc := defScope sPolynomialOf) (by decide +kernel))
                (fun _ _ _ _ _ => pg_name (i := 9) scPolynomialOf.nd rfl (.inl rfl)) (fun _ _ _ _ _ => pts_nil) (fun _ _ _ _ _ => pe_op (r := rCatA K) op_catA (pe_op (r := rCatA K) op_catA (pe_slice (r := rSlA K) sl_tupA (pv 5) po_none (po_some (pv 3))) (pe_tup (pa_cons (pv 9) pa_nil))) (pe_slice (r := rSlA K) sl_tupA (pv 5) (po_some (pe_op op_add (pv 3) pe_int)) po_none)))
            (pss_one (ps_for PassesOwn.never rfl (pi_zipA rfl B.zip (pa_cons (pv 6) (pa_cons (pe_cal N hr rfl (pa_cons (pe_fld (pv 0) rfl) (pa_cons (pe_lc (own := [("row", 7)]) (g := gName 7) (tt := tYes) rfl scPolynomialOf.nd (pi_list (pv 6)) (blkOk_by (N := nPolynomialOf) (sc := defScope sPolynomialOf) (by decide +kernel))
                  (fun _ _ _ _ _ => pg_name (i := 7) scPolynomialOf.nd rfl (.inl rfl)) (fun _ _ _ _ _ => pts_nil) (fun _ _ _ _ _ => pe_dget hu1 (pv 2) (pv 7) (fun _ _ => rfl))) pa_nil))) pa_nil)))
                (pg_tup rfl (pgs_cons (pg_name (i := 7) scPolynomialOf.nd rfl (.inl rfl)) (pgs_cons (pg_name (i := 8) scPolynomialOf.nd rfl (.inl rfl)) pgs_nil)))
                (pss_one (ps_dput hu1 (pv 4) (pv 7) (pv 8) rfl))))) pss_nil)))
        (pss_one (ps_set (i := 2) scPolynomialOf.nd rfl (.inr rfl) (pv 4))))))
      (pss_one (ps_ret (pe_cal FN hr rfl (pa_cons (pv 0) (pa_cons (pv 2) pa_nil))))))), ?_⟩
    have hP := hsh.isP
    have hp7 : 1 < p ∧ p ≤ 7 := ⟨hP.lt, hP.le⟩
    have hpp : (0 : Int) < (p : Int) := by omega
    have hn8 := hsh.n8
    have hsm := hsh.small
    have hs0 := hs
    obtain ⟨dx, nm, hsi⟩ := hs
    -- the values
    have hW0 : ∀ x : Pt, 0 ≤ (if x ∈ pts p n then G x else 0) ∧ (if x ∈ pts p n then G x else 0) < (p : Int) := fun x => by
      by_cases hx : x ∈ pts p n
      · rw [if_pos hx]
        exact hG x hx
      · rw [if_neg hx]
        omega
    generalize eW : (fun x : Pt => if x ∈ pts p n then G x else 0) = W
    have hWb : ∀ x, 0 ≤ W x ∧ W x < (p : Int) := fun x => by
      rw [← eW]
      exact hW0 x
    have hWG : ∀ x ∈ pts p n, W x = G x := fun x hx => by
      rw [← eW]
      exact if_pos hx
    refine q_asg0 ?_
    refine ⟨.ref sp, rfl, sp, dx, _, rfl, hsi, rfl, sp, p, n, rfl, ⟨dx, nm, hsi⟩, hsh, fun l as H1 hl e1 h1 ha => ⟨.ref t, rfl, l, t, as, (pts p n).map kp, ((pts p n).map G).map V.int, rfl, sq_of h1, ex_l e1 ht, ?_, ?_, ?_, ?_, fun wd hwd => ?_⟩⟩
    · rw [List.length_map, List.length_map]
      exact ha.len
    · rw [List.length_map, List.length_map, pts_count]
      exact hsm
    · exact pts_kt ha
    · exact nodup_map_inj (fun a b => kp_inj) (pts_nodup p n)
    have ezip : (((pts p n).map kp).zip (((pts p n).map G).map V.int)) = dE ((pts p n).map fun x => (x, G x)) := by
      unfold dE
      rw [List.map_map, List.map_map, List.zip_map'] <;> rfl
    rw [ezip]
    have e2 : Ex H (upd H1 wd (.dT (dE ((pts p n).map fun x => (x, G x))))) := e1.trans (Ex.new hwd)
    have g0 : GOk ((pts p n).map fun x => (x, G x)) (· ∈ pts p n) (WW p W 0) := by
      have z := GOk.map (F := G) (pts_nodup p n)
      exact ⟨z.nd, z.ks, fun x hx => by rw [z.vl x hx]; exact congrArg some (hWG x hx).symm⟩
    refine q_forR1 (n := (n : Int)) (ea_cons (ev_count S (ev_var rfl) ⟨dx, nm, e2 sp _ hsi⟩) ea_nil) ⟨by omega, by omega⟩
      (fun i σ H' => Ex H H' ∧ (∃ wd g, (∃ z3 z4 z5 z6 z7 z8, σ = [some (.ref sp), some (.ref t), some (.ref wd), z3, z4, z5, z6, z7, z8, none]) ∧ H' wd = some (.dT (dE g)) ∧ GOk g (· ∈ pts p n) (WW p W i)))
      (fun H2 e3 => ⟨e2.trans e3, wd, _, ⟨none, none, none, none, none, none, rfl⟩, e3 wd _ upd_same, g0⟩) ?_ ?_
    · rintro i σ H2 hi ⟨ex, wd, g, ⟨z3, z4, z5, z6, z7, z8, rfl⟩, hwd, hg⟩
      have hin : i < n := by omega
      have hWi := WW_bd hP hWb i
      generalize eWi : WW p W i = Wi at hg hWi
      have eWs : WW p W (i + 1) = stepW p i Wi := by
        show stepW p i (WW p W i) = _
        rw [eWi]
      rw [eWs]
      clear eWs eWi
      refine q_asg0 ?_
      intro fr hfr
      have hfw : fr ≠ wd := fun z => by
        rw [z, hwd] at hfr
        cases hfr
      have s3 : Ex H2 (upd H2 fr (.dT [])) := Ex.new hfr
      refine q_for0 ⟨.ref sp, rfl, sp, dx, _, rfl, s3 sp _ (ex sp _ hsi), rfl, sp, p, n, rfl, ⟨dx, nm, s3 sp _ (ex sp _ hsi)⟩, hsh, fun l as H3 hl e3 h3 ha => ⟨l, rfl, ⟨_, sq_of h3⟩, ?_⟩⟩
      have hfr3 : H3 fr = some (.dT []) := e3 fr _ upd_same
      have e23 : Ex H2 H3 := s3.trans e3
      have hal : as.length = (pts p n).length := ha.len
      have hlf : l ≠ fr := fun z => by
        rw [z, upd_same] at hl
        cases hl
      have back : ∀ {H'}, ExB fr H3 H' → Ex H2 H' := fun {H'} e b o hb => e b o (ne_of_none hb hfr) (e23 b o hb)
      refine forB_go (n := (as.map V.ref).length) (walk_list (K := K) (a := l) (xs := as.map V.ref)) (fun j σ H' => ExB fr H3 H' ∧ (∃ z5 z6 z7 z8, σ = [some (.ref sp), some (.ref t), some (.ref wd), some (.int (i : Int)), some (.ref fr), z5, z6, z7, z8, none]) ∧
          ∃ ff, H' fr = some (.dT (dE ff)) ∧ GOk ff (fun y => y ∈ pts p n ∧ y.set i 0 ∈ (pts p n).take j) (stepW p i Wi)) ?_ ?_ ?_ ?_
      · exact ⟨ExB.of (Ex.refl _), ⟨z5, z6, z7, z8, rfl⟩, [], hfr3, GOk.nil.iff fun y => ⟨fun h => h.elim, fun h => by rw [List.take_zero] at h; exact absurd h.2 List.not_mem_nil⟩⟩
      · rintro j σ H' _ ⟨eb, _⟩
        exact .inl (.inl (eb l _ hlf h3))
      · rintro j v σ H4 H5 hj ⟨eb, ⟨z5, z6, z7, z8, rfl⟩, ff, hff, hgk⟩ ⟨rfl, hv⟩
        rw [List.getElem?_map] at hv
        obtain ⟨q, hq, rfl⟩ := Option.map_eq_some_iff.mp hv
        obtain ⟨x, hx, hqx⟩ := paired_get ha hq
        have hxm : x ∈ pts p n := List.mem_of_getElem? hx
        have hq4 : PtA H5 q x := exb_pt eb hfr3 (fun _ z => nomatch z) hqx
        have hsp4 : SpA C H5 sp p n := exb_sp eb hfr3 (fun _ _ _ z => nomatch z) ⟨dx, nm, e23 sp _ (ex sp _ hsi)⟩
        have hwd4 : H5 wd = some (.dT (dE g)) := eb wd _ (Ne.symm hfw) (e23 wd _ hwd)
        obtain ⟨xb1, xb2, xat⟩ := getD_bd hxm hin
        have etk : (pts p n).take (j + 1) = (pts p n).take j ++ [x] := by
          rw [List.take_add_one, hx]
          rfl
        have hxl := pts_len hxm
        refine s_when (b := decide (x.getD i 0 = 0)) (et_is (et_test (ev_op (ev_op (ev_var rfl) (ev_var rfl) (rv_ixT (v := .int (x.getD i 0)) (pt_len hq4) (atI_nat (by rw [List.getElem?_map, xat]; rfl)))) ev_c (rv_eq rfl))) ?_) (fun hb H6 e6 => ?_) (fun hb H6 e6 => ?_)
        · by_cases z : x.getD i 0 = 0
          · rw [z]
            rfl
          · rw [decide_eq_false z, decide_eq_false fun y => z (V.int.inj y)]
        · have hx0 : x.getD i 0 = 0 := of_decide_eq_true hb
          have hset0 : x.set i 0 = x := by
            rw [hx0] at xat
            exact set_same xat
          have hfr6 : H6 fr = some (.dT (dE ff)) := e6 fr _ hff
          -- the rows
          refine q_asgLp (Ps := ((List.range p).map fun (k : Nat) => IsPt (x.set i (k : Int)))) ?_ fun rl ws H7 hrl e7 h7 hrows => ?_
          · rw [← gvn_all]
            refine evlp_lc (J := Itr 0 p) (fun H7 e7 R r => (ev_prime S (ev_var rfl) (hsp4.mono (e6.trans e7))) H7 (Ex.refl H7) _ fun H8 e8 => ⟨(p : Int), rfl, by omega, by omega, by rw [Int.toNat_natCast]; exact r H8 e8⟩) (walk_range (lo := 0) (n := p)) (by omega) (fun _ _ => trivial) _ _ (fun _ => stab_pt _) (fun m v H7 H8 hm e7 hv => ?_)
            obtain ⟨rfl, hv⟩ := hv
            have e0m : v = .int (m : Int) := by
              rw [hv]
              show V.int ((0 : Int) + (m : Int)) = _
              rw [Int.zero_add]
            subst e0m
            have hq8 : PtA H8 q x := ex_pt (e6.trans e7) hq4
            refine ⟨Ex.refl _, _, fun R r => r, rfl, et_yes, fun _ => ?_⟩
            have z := evp_cat (K := K) (evp_cat (K := K) (evp_take (K := K) (i := i) (ev_var (σ := [some (.ref sp), some (.ref t), some (.ref wd), some (.int (i : Int)), some (.ref fr), some (.ref q), z6, z7, z8, some (.int (m : Int))]) (i := 5) rfl) hq8 (eo_some (ev_var (i := 3) rfl))) (evp_one (i := 9) (k := (m : Int)) rfl) (by rw [List.length_take]; simp; omega))
              (evp_drop (K := K) (i := i + 1) (ev_var (i := 5) rfl) hq8 (eo_some (i := ((i + 1 : Nat) : Int)) (ev_op (ev_var (i := 3) rfl) (ev_c (v := .int 1)) (rv_I0b (g := fun i j => .int (i + j)) (by show V.int ((i : Int) + 1) = _; rfl))))) (by rw [List.length_append, List.length_take, List.length_drop]; simp; omega)
            rw [cut_set (by omega)] at z
            exact z
          · obtain ⟨ras, rfl, hra⟩ := allp_pts (ps := (List.range p).map fun (k : Nat) => x.set i (k : Int)) (by rw [List.map_map]; exact hrows)
            have hsp7 := hsp4.mono (e6.trans e7)
            have hwd7 := e7 wd _ (e6 wd _ hwd4)
            have hfr7 := e7 fr _ hfr6
            have hral : ras.length = p := by
              rw [hra.len, List.length_map, List.length_range]
            have hvals : ∀ v ∈ (List.range p).map (fun (k : Nat) => Wi (x.set i (k : Int))), 0 ≤ v ∧ v < (p : Int) := fun v hv => by
              obtain ⟨k, _, rfl⟩ := List.mem_map.mp hv
              exact hWi _
            refine s_forZipL (a := rl) (ev_var rfl) (sq_of h7) (el_numbers (p := p) (vals := (List.range p).map fun (k : Nat) => Wi (x.set i (k : Int))) (ev_prime S (ev_var rfl) hsp7) ?_ (by simp) hp7 hvals) fun nl H8 hnl e8 h8 => ?_
            · rw [List.map_map, ← gvn_all]
              refine evlp_lc (n := p) (J := Itl K rl) (fun H8 e8 R r => ⟨.ref rl, rfl, rl, rfl, ⟨_, sq_of (e8 rl _ h7)⟩, r H8 (Ex.refl H8)⟩) (by have z := walk_list (K := K) (a := rl) (xs := ras.map V.ref); rw [List.length_map, hral] at z; exact z) (by omega) (fun H' e => sq_of (e rl _ h7)) _ _ (fun _ _ _ _ _ h => h) (fun m v H8 H9 hm e8 hv => ?_)
              obtain ⟨rfl, hv⟩ := hv
              rw [List.getElem?_map] at hv
              obtain ⟨qm, hqm, rfl⟩ := Option.map_eq_some_iff.mp hv
              obtain ⟨y, hy, hqy⟩ := paired_get hra hqm
              rw [List.getElem?_map, List.getElem?_range hm] at hy
              cases hy
              exact ⟨Ex.refl _, _, fun R r => r, rfl, et_yes, fun _ => evp_ev (ev_dget (ev_var rfl) (ev_var rfl) (.inl (e8 wd _ hwd7)) (ex_pt e8 hqy) (hg.vl _ (set_mem hxm hm))) fun _ _ => rfl⟩
            · have hnlen : (nums p ((List.range p).map fun (k : Nat) => Wi (x.set i (k : Int)))).length = p := nums_len (by omega) _
              have hfr8 := e8 fr _ hfr7
              have hrlf : rl ≠ fr := fun z => by
                rw [z, hfr7] at h7
                cases h7
              have hnlf : nl ≠ fr := fun z => by
                rw [z, hfr8] at h8
                cases h8
              refine forB_go (n := p) (walk_zip (K := K) (a := rl) (b := nl) (xs := ras.map V.ref) (ys := (nums p ((List.range p).map fun (k : Nat) => Wi (x.set i (k : Int)))).map V.int) (by rw [List.length_map, List.length_map, hral, hnlen, Nat.min_self]))
                (fun m σ H' => ExB fr H8 H' ∧ (∃ z7 z8, σ = [some (.ref sp), some (.ref t), some (.ref wd), some (.int (i : Int)), some (.ref fr), some (.ref q), some (.ref rl), z7, z8, none]) ∧
                  ∃ ff, H' fr = some (.dT (dE ff)) ∧ GOk ff (fun y => (y ∈ pts p n ∧ y.set i 0 ∈ (pts p n).take j) ∨ ∃ k, k < m ∧ y = x.set i ((k : Nat) : Int)) (stepW p i Wi)) ?_ ?_ ?_ ?_
              · exact ⟨ExB.of (Ex.refl _), ⟨z7, z8, rfl⟩, ff, hfr8, hgk.iff fun y => ⟨.inl, fun h => h.elim id fun ⟨k, hk, _⟩ => absurd hk (Nat.not_lt_zero _)⟩⟩
              · rintro m σ H' _ ⟨eb9, _⟩
                exact ⟨.inl (.inl (eb9 rl _ hrlf (e8 rl _ h7))), .inl (.inl (eb9 nl _ hnlf h8))⟩
              · rintro m v σ H9 H10 hm ⟨eb9, ⟨y7, y8, rfl⟩, f9, hf9, hg9⟩ ⟨T, u1, u2, rfl, hT, rfl, h1, h2⟩
                have h1 : (ras.map V.ref)[m]? = some u1 := h1
                have h2 : ((nums p ((List.range p).map fun (k : Nat) => Wi (x.set i (k : Int)))).map V.int)[m]? = some u2 := h2
                rw [List.getElem?_map] at h1 h2
                obtain ⟨qm, hqm, rfl⟩ := Option.map_eq_some_iff.mp h1
                obtain ⟨nv, hnv, rfl⟩ := Option.map_eq_some_iff.mp h2
                obtain ⟨y, hy, hqy⟩ := paired_get hra hqm
                rw [List.getElem?_map, List.getElem?_range hm] at hy
                cases hy
                have hTf : fr ≠ T := ne_of_none hf9 hT
                have hfT : upd H9 T (.tup [.ref qm, .int nv]) fr = some (.dT (dE f9)) := by
                  rw [upd_ne hTf]
                  exact hf9
                have hqT : PtA (upd H9 T (.tup [.ref qm, .int nv])) qm (x.set i (m : Int)) := ex_pt (Ex.new hT) (exb_pt eb9 hfr8 (fun _ z => nomatch z) (ex_pt e8 hqy))
                have hstep : stepW p i Wi (x.set i (m : Int)) = nv := by
                  unfold stepW
                  have e1 : (fun (k : Nat) => Wi ((x.set i (m : Int)).set i (k : Int))) = fun (k : Nat) => Wi (x.set i (k : Int)) := by
                    funext k
                    rw [List.set_set]
                  have e2 : (x.set i (m : Int)).getD i 0 = (m : Int) := by
                    rw [List.getD_eq_getElem?_getD, List.getElem?_set_self (by omega)] <;> rfl
                  rw [e1, e2, Int.toNat_natCast, List.getD_eq_getElem?_getD, hnv] <;> rfl
                have hlen9 : f9.length ≤ (pts p n).length := hg9.sub fun y hy => hy.elim (fun z => z.1) fun ⟨k, hk, e⟩ => by
                  rw [e]
                  exact set_mem hxm (by omega)
                rw [pts_count] at hlen9
                refine gtup2 (st_of upd_same) ⟨.int nv, rfl, .ref fr, rfl, .ref qm, rfl, fr, _, rfl, DPut.t hfT (pta_kp hqT) ?_, ?_⟩
                · rw [dE_len]
                  exact sz_lt (by omega)
                · rw [putK_dE]
                  refine ⟨(eb9.trans (ExB.of (Ex.new hT))).trans ExB.upd, ⟨_, _, rfl⟩, pu f9 (x.set i (m : Int)) nv, upd_same, ?_⟩
                  have z := hg9.put (x.set i (m : Int))
                  rw [hstep] at z
                  refine z.iff fun y => ⟨fun h => ?_, fun h => ?_⟩
                  · rcases h with h | h | ⟨k, hk, e⟩
                    · exact .inr ⟨m, Nat.lt_succ_self m, h⟩
                    · exact .inl h
                    · exact .inr ⟨k, Nat.lt_succ_of_lt hk, e⟩
                  · rcases h with h | ⟨k, hk, e⟩
                    · exact .inr (.inl h)
                    · by_cases hkm : k = m
                      · rw [hkm] at e
                        exact .inl e
                      · exact .inr (.inr ⟨k, by omega, e⟩)
              · rintro σ H9 ⟨eb9, ⟨y7, y8, rfl⟩, f9, hf9, hg9⟩
                refine ⟨(eb.trans (ExB.of ((e6.trans e7).trans e8))).trans eb9, ⟨_, _, _, _, rfl⟩, f9, hf9, hg9.iff fun y => ?_⟩
                rw [etk, List.mem_append, List.mem_singleton]
                constructor
                · rintro (h | ⟨k, hk, e⟩)
                  · exact ⟨h.1, .inl h.2⟩
                  · rw [e, List.set_set]
                    exact ⟨set_mem hxm hk, .inr hset0⟩
                · rintro ⟨h1, h2 | h2⟩
                  · exact .inl ⟨h1, h2⟩
                  · obtain ⟨yb1, yb2, _⟩ := getD_bd h1 hin
                    refine .inr ⟨(y.getD i 0).toNat, by omega, ?_⟩
                    rw [Int.toNat_of_nonneg yb1]
                    exact set_back h2
        · have hx0 : ¬ x.getD i 0 = 0 := of_decide_eq_false hb
          refine ⟨eb.trans (ExB.of e6), ⟨_, _, _, _, rfl⟩, ff, e6 fr _ hff, hgk.iff fun y => ?_⟩
          rw [etk, List.mem_append, List.mem_singleton]
          constructor
          · exact fun h => ⟨h.1, .inl h.2⟩
          · rintro ⟨h1, h2 | h2⟩
            · exact ⟨h1, h2⟩
            · refine absurd ?_ hx0
              have z := pts_len h1
              rw [← h2, List.getD_eq_getElem?_getD, List.getElem?_set_self (by omega)] <;> rfl
      · rintro σ H4 ⟨eb, ⟨z5, z6, z7, z8, rfl⟩, ff, hff, hgk⟩
        rw [List.length_map, hal, List.take_length] at hgk
        refine s_asg (ev_var rfl) fun H5 e5 => ?_
        refine ⟨(ex.trans (back eb)).trans e5, fr, ff, ⟨_, _, _, _, _, _, rfl⟩, e5 fr _ hff, hgk.iff fun y => ⟨fun h => h.1, fun h => ⟨h, ?_⟩⟩⟩
        exact set_mem (k := 0) h (by omega)
    · rintro σ H2 ⟨ex, wd2, g, ⟨z3, z4, z5, z6, z7, z8, rfl⟩, hwd2, hg⟩
      rw [Int.toNat_natCast] at hg
      have hk1 : ∀ t ∈ g, t.1 ∈ pts p n := fun t ht => (hg.ks t.1).mp (List.mem_map.mpr ⟨t, ht, rfl⟩)
      have hgl := hg.len
      rw [pts_count] at hgl
      refine s_retCall (ea_cons (ev_var rfl) (ea_cons (ev_var rfl) ea_nil)) fun H3 e3 => ?_
      refine ⟨sp, wd2, p, n, g, rfl, ⟨dx, nm, e3 sp _ (ex sp _ hsi)⟩, by omega, by have := hsh.1; omega, e3 wd2 _ hwd2, hg.nd, hk1, by omega, fun v H4 e4 hv => ?_⟩
      refine k v H4 ((ex.trans e3).trans e4) ⟨fromN p g, fromN_ok (by omega) hg.nd hk1, fun x hx => ?_, hv⟩
      rw [fromN_pev hg.nd]
      unfold pev
      rw [hg.psum (pts_nodup p n), interp hP W hx, hWG x hx, Int.emod_eq_of_lt (hG x hx).1 (hG x hx).2]
end
end Z7
end

section
set_option Elab.async false
set_option linter.all false
set_option maxRecDepth 100000
set_option maxHeartbeats 4000000
namespace Z7
open PySem L2 Evl RZ
/-- truth of a value, within a comprehension too -/
def tTru (K : Fg) (te : TE) : TT := fun σ H Q => te σ H fun x H' => ∃ k, TruV K x H' k ∧ Q k H'
theorem pt_tru {X : Cx} {a : Expr} {ta : TE} (K : Fg) (ha : PE X a ta) (he : ∀ whole, isTrue a X.env whole = (do let v ← whole; standAt a.pos; holding [v] (truthy v))) (hK : X.K = K := by rfl) : PT X a (tTru K ta) := by
  subst hK
  exact pt_truth ha he
theorem et_tru {K : Fg} {te : TE} {σ : L2.St} {H : Hp} {b : Bool} (h : Ev te σ H (.bl b)) : EvT (tTru K te) σ H b := et_truthB h
/-! ### systems -/
abbrev SyF (K : Fg) (C : Addr) : Prop := ClsF K C ["space", "equations"]
/-- the values of the equations are told by Fs -/
def SysA (K : Fg) (CY C : Addr) (p n : Nat) (Fs : List (Pt → Int)) (a : Addr) (H : Hp) : Prop := ∃ dx sp el es, H a = some (.ins CY dx [("space", .ref sp), ("equations", .ref el)]) ∧ SpA C H sp p n ∧ H el = some (.lst es) ∧ AllP (Fs.map (PolV K p n)) es H
theorem allp_ex {H H' : Hp} (e : Ex H H') {Ps : List (V → Hp → Prop)} {vs : List V} (hs : ∀ P ∈ Ps, Stab P) (h : AllP Ps vs H) : AllP Ps vs H' := h.mono (TEx.of e) hs
theorem stab_polvs {K : Fg} {p n : Nat} {Fs : List (Pt → Int)} : ∀ P ∈ Fs.map (PolV K p n), Stab P := fun P h => by
  obtain ⟨F, _, rfl⟩ := List.mem_map.mp h
  exact stab_polv
theorem SysA.mono {K : Fg} {CY C : Addr} {p n : Nat} {Fs : List (Pt → Int)} {a : Addr} {H H' : Hp} (h : SysA K CY C p n Fs a H) (e : Ex H H') : SysA K CY C p n Fs a H' := by
  obtain ⟨dx, sp, el, es, h1, h2, h3, h4⟩ := h
  exact ⟨dx, sp, el, es, e a _ h1, h2.mono e, e el _ h3, allp_ex e stab_polvs h4⟩
theorem allp_exn {K : Fg} {p n : Nat} {H H' : Hp} (e : ExN H H') : ∀ {Fs : List (Pt → Int)} {vs : List V}, AllP (Fs.map (PolV K p n)) vs H → AllP (Fs.map (PolV K p n)) vs H'
  | [], _, h => by
    cases h
    exact .nil
  | F :: Fs, _, h => by
    cases h with
    | cons h1 t => exact .cons (h1.exn e) (allp_exn e t)
theorem SysA.exn {K : Fg} {CY C : Addr} {p n : Nat} {Fs : List (Pt → Int)} {a : Addr} {H H' : Hp} (h : SysA K CY C p n Fs a H) (e : ExN H H') : SysA K CY C p n Fs a H' := by
  obtain ⟨dx, sp, el, es, h1, ⟨dx2, nm, h2⟩, h3, h4⟩ := h
  exact ⟨dx, sp, el, es, e a _ h1 (fun _ z => nomatch z), ⟨dx2, nm, e sp _ h2 (fun _ z => nomatch z)⟩, e el _ h3 (fun _ z => nomatch z), allp_exn e h4⟩
/-- all equations are 0 at x -/
def solB (Fs : List (Pt → Int)) (x : Pt) : Bool := Fs.all fun F => F x == 0
theorem allp_at {H : Hp} : ∀ {Ps : List (V → Hp → Prop)} {vs : List V}, AllP Ps vs H → ∀ {i : Nat} {v : V}, vs[i]? = some v → ∃ P, Ps[i]? = some P ∧ P v H
  | _, _, .nil, i, v, h => by simp at h
  | _, _, .cons h1 _, 0, v, h => by
    simp only [List.getElem?_cons_zero] at h ⊢
    cases h
    exact ⟨_, rfl, h1⟩
  | _, _, .cons _ t, i + 1, v, h => by
    simp only [List.getElem?_cons_succ] at h ⊢
    exact allp_at t h
theorem polv_at {K : Fg} {p n : Nat} {Fs : List (Pt → Int)} {vs : List V} {H : Hp} (h : AllP (Fs.map (PolV K p n)) vs H) {i : Nat} {v : V} (hv : vs[i]? = some v) : ∃ F, Fs[i]? = some F ∧ PolV K p n F v H := by
  obtain ⟨P, hP, hp⟩ := allp_at h hv
  rw [List.getElem?_map] at hP
  obtain ⟨F, hF, rfl⟩ := Option.map_eq_some_iff.mp hP
  exact ⟨F, hF, hp⟩
/-- value(space, one, point), by the values -/
theorem spv_value {K : Fg} {C sp b : Addr} {o : V} {p n : Nat} {F : Pt → Int} {x : Pt} {H : Hp} (hs : SpA C H sp p n) (ho : PolV K p n F o H) (hb : TI K H b x) (hx : x ∈ pts p n) (hsh : shapeOk p n) : SpV (spValue K C) ([.ref sp, o, .ref b] ++ []) H (.int (F x)) := fun H1 e1 Q q E => by
  obtain ⟨g, hg, hF, hd⟩ := ho
  have hP := hsh.isP
  have hl := hP.lt
  have hl7 := hP.le
  have hgl := hg.len
  have hsm := hsh.small
  have hn8 := hsh.n8
  refine ⟨sp, b, o, p, n, g, x, rfl, hs.mono e1, dp_mono e1 hd, hb.mono e1, fun t ht => (hg.2 t ht).1, fun t ht => ⟨(hg.2 t ht).2.1, ?_⟩, by omega, pts_len hx, ⟨hl, hl7⟩, by omega, ?_⟩
  · have := (hg.2 t ht).2.2
    omega
  · rw [hF x hx]
    exact q
theorem polv_bd {K : Fg} {p n : Nat} {F : Pt → Int} {v : V} {H : Hp} (h : PolV K p n F v H) (hp : 1 < p) {x : Pt} (hx : x ∈ pts p n) : 0 ≤ F x ∧ F x < (p : Int) := by
  obtain ⟨g, _, hF, _⟩ := h
  rw [← hF x hx]
  exact pev_bd (by omega) g x
section
variable {K : Fg} {σ : L2.St} {H : Hp} {te ta : TE}
theorem PtsA.at {H : Hp} {as : List Addr} {ps : List Pt} (h : PtsA H as ps) {i : Nat} {v : V} (hv : (as.map V.ref)[i]? = some v) : ∃ q x, v = .ref q ∧ as[i]? = some q ∧ ps[i]? = some x ∧ PtA H q x := by
  rw [List.getElem?_map] at hv
  obtain ⟨q, hq, rfl⟩ := Option.map_eq_some_iff.mp hv
  obtain ⟨x, hx, hqx⟩ := paired_get h hq
  exact ⟨q, x, rfl, hq, hx, hqx⟩
/-- a new list of tuples -/
def EvPts (te : TE) (σ : L2.St) (H : Hp) (ps : List Pt) : Prop := ∀ H1, Ex H H1 → ∀ Q : VK, (∀ l as H2, H1 l = none → Ex H1 H2 → H2 l = some (.lst (as.map V.ref)) → PtsA H2 as ps → Q (.ref l) H2) → te σ H1 Q
/-- a comprehension over a new list of tuples -/
theorem evlp_pts {wi : TE} {g : L2.TG} {t : TT} {vs : List Nat} {ps : List Pt} (f : Pt → Bool) (Pr : Pt → V → Hp → Prop) (hw : EvPts wi σ H ps) (hz : ps.length ≤ 40000) (hst : ∀ x, Stab (Pr x))
    (hb : ∀ x q H2, x ∈ ps → Ex H H2 → PtA H2 q x → ∃ σ2, (∀ R : L2.St → Hp → Prop, R σ2 H2 → g (.ref q) (wipe σ vs) H2 R) ∧ wipe σ2 vs = wipe σ vs ∧ EvT t σ2 H2 (f x) ∧ (f x = true → EvP te σ2 H2 (Pr x))) :
    Evlp (tLc (iList K wi) g t te vs) σ H ((ps.filter f).map Pr) := fun H1 e Q q => hw H1 e _ fun l as H2 hl e2 h2 ha => ⟨l, rfl, ⟨_, sq_of h2⟩, by
  show lcT (Itl K l) g t te vs σ H2 Q
  have hlen : (as.map V.ref).length = ps.length := by rw [List.length_map, ha.len]
  refine lc_go (fun i => f (ps.getD i [])) (fun i => Pr (ps.getD i [])) (walk_list (K := K) (a := l) (xs := as.map V.ref)) (by omega) (fun H' e => sq_of (e l _ h2)) (fun _ => hst _) (fun i v H3 H4 hi e3 hv => ?_) (fun p ws H3 hp e3 h3 hws => ?_)
  · obtain ⟨rfl, hv⟩ := hv
    obtain ⟨qa, x, rfl, hq, hx, hqx⟩ := ha.at hv
    have eg : ps.getD i [] = x := by
      rw [List.getD_eq_getElem?_getD, hx] <;> rfl
    rw [eg]
    obtain ⟨σ2, b1, b2, b3, b4⟩ := hb x qa _ (List.mem_of_getElem? hx) ((e.trans e2).trans e3) (ex_pt e3 hqx)
    exact ⟨Ex.refl _, σ2, b1, b2, b3, b4⟩
  · rw [hlen, gvn_filter [] f Pr] at hws
    exact q p ws H3 (fresh_back e2 hp) (e2.trans e3) h3 hws⟩
theorem evpts_lp {ps : List Pt} (h : Evlp te σ H (ps.map IsPt)) : EvPts te σ H ps := fun H1 e Q q => h H1 e _ fun p ws H2 hp e2 h2 ha => by
  obtain ⟨as, rfl, hpa⟩ := allp_pts ha
  exact q p as H2 hp e2 h2 hpa
theorem evp_self {i : Nat} {q : Addr} {x : Pt} (h : σ[i]? = some (some (.ref q))) (hq : PtA H q x) : EvP (tVar i) σ H (IsPt x) := fun H1 e Q r => ⟨.ref q, h, r _ H1 (Ex.refl H1) ⟨q, rfl, ex_pt e hq⟩⟩
/-- space.points() -/
theorem evpts_points {C a : Addr} {p n : Nat} (h : Ev ta σ H (.ref a)) (hs : SpA C H a p n) (hsh : shapeOk p n) : EvPts (tMeth C "points" (spPoints C) [] E0 ta tNil) σ H (pts p n) := fun H1 e Q q => h H1 e _ fun H2 e2 => by
  obtain ⟨dx, nm, hi⟩ := hs
  have hi2 := (e.trans e2) a _ hi
  exact ⟨a, dx, _, rfl, hi2, rfl, a, p, n, rfl, ⟨dx, nm, hi2⟩, hsh, fun l as H3 hl e3 h3 ha => q l as H3 (fresh_back e2 hl) (e2.trans e3) h3 ha⟩
end
section
variable {P : Program} {w : World} {K : Fg} {mg : Str → Option Value} {base : Heap} {f : Addr} {fd : FuncData}
def spSysI (K : Fg) (CY C : Addr) : Sp := fun vs H Q _ => ∃ (x dx l : Addr) (sp : V) (es : List V), vs = [.ref x, sp, .ref l] ∧ H x = some (.ins CY dx []) ∧ SqL K H l es ∧ es.length ≤ 100 ∧
  ∀ H' el, ExB x H H' → H' x = some (.ins CY dx [("space", sp), ("equations", .ref el)]) → H' el = some (.lst es) → Q .non H'
theorem ok_sysI {CY C : Addr} (F : FnP K "__init__" "System.__init__" sSystemInit f fd) (B : Bi mg) (S : SyF K CY) : FnOk P w K mg base CX0 1 f fd ["self", "space", "equations"] (spSysI K CY C) := by
  refine F.ok scSystemInit (fun vs H Q E h => ?_) (fun cdv A outer s H vs Q E hr h => ?_)
  · obtain ⟨x, dx, l, sp, es, rfl, _⟩ := h
    rfl
  · obtain ⟨x, dx, l, sp, es, rfl, hx, hl, hz, k⟩ := h
    refine ⟨_, PSs.nox (pss_cons (ps_fld (pv 0) (pv 1) rfl) (pss_one (ps_fld (pv 0) (pe_callTy call_list_of rfl B.list PyProof.Rows.boot_list (pa_cons (pv 2) pa_nil)) rfl))), ?_⟩
    refine q_fld (ev_var rfl) (ev_var rfl) hx S.cl (S.no _ (by decide)) (by decide) fun H1 e1 => ?_
    have b1 : ExB x H _ := ((ExB.of e1).trans (ExB.upd (a := x) (H := H1) (o := .ins CY dx (putF "space" sp []))))
    have l1 := exb_l b1 hx hl
    refine s_fldL (xs := es) (fun H5 e5 Q q => ⟨.ref l, rfl, l, _, rfl, .inl (ex_l e5 l1), fun z hz => q z _ hz (Ex.new hz) upd_same⟩) (ev_var rfl) upd_same S.cl (S.no _ (by decide)) (show 1 < 1000 by decide) fun q H2 hq e2 h2 => ?_
    have hqx : q ≠ x := fun z => by
      rw [z, upd_same] at hq
      cases hq
    exact k _ q ((b1.trans (ExB.of e2)).trans ExB.upd) upd_same (by rw [upd_ne hqx]; exact h2)
def spIsSol (K : Fg) (CY C : Addr) : Sp := fun vs H Q _ => ∃ (a b : Addr) (p n : Nat) (Fs : List (Pt → Int)) (x : Pt), vs = [.ref a, .ref b] ∧ SysA K CY C p n Fs a H ∧ Fs.length ≤ 100 ∧ shapeOk p n ∧ TI K H b x ∧ x ∈ pts p n ∧ RetV (.bl (solB Fs x)) H Q
theorem ok_issol {CY C : Addr} (F : FnP K "is_solution" "System.is_solution" sSystemIsSolution f fd) (B : Bi mg) (S : SyF K CY) (V : Cal P w K mg base 3 "value" ["space", "one", "point"] (spValue K C)) : FnOk P w K mg base CX0 4 f fd ["self", "point"] (spIsSol K CY C) := by
  refine F.ok scSystemIsSolution (fun vs H Q E h => ?_) (fun cdv A outer s H vs Q E hr h => ?_)
  · obtain ⟨a, b, p, n, Fs, x, rfl, _⟩ := h
    rfl
  · obtain ⟨a, b, p, n, Fs, x, rfl, ⟨dx, sp, el, es, ha, hs, hel, hes⟩, hz, hsh, hb, hx, k⟩ := h
    have hlen : es.length = Fs.length := by
      have z := hes.len
      rw [List.length_map] at z
      exact z.symm
    refine ⟨_, PSs.nox (pss_one (ps_ret (pe_callB (cr_all rfl) rfl B.all PyProof.Rows.boot_all (pa_cons (pe_lc (own := [("one", 2)]) (g := gName 2) (tt := tYes) rfl scSystemIsSolution.nd (pi_list (pe_fld (pv 0) rfl)) (blkOk_by (N := nSystemIsSolution) (sc := defScope sSystemIsSolution) (by decide +kernel))
      (fun _ _ _ _ _ => pg_name (i := 2) scSystemIsSolution.nd rfl (.inl rfl)) (fun _ _ _ _ _ => pts_nil) (fun _ _ _ _ _ => pe_cmpR op_eq (pe_cal V hr rfl (pa_cons (pe_fldB K (pv 0) rfl) (pa_cons (pv 2) (pa_cons (pv 1) pa_nil)))) pe_int (nomark _))) pa_nil)))), ?_⟩
    refine s_ret (ev_all (bs := (List.range es.length).map fun i => (Fs.getD i fun _ => 0) x == 0) ?_) (fun H1 e1 => ?_)
    · rw [← gvn_bl]
      refine evlp_lc (J := Itl K el) (fun H1 e1 R r => (ev_fld (ev_var rfl) S.cl (S.no _ (by decide)) ha rfl) H1 e1 _ fun H2 e2 => ⟨el, rfl, ⟨_, sq_of ((e1.trans e2) el _ hel)⟩, r H2 e2⟩) (walk_list (K := K) (a := el) (xs := es)) (by omega) (fun H' e => sq_of (e el _ hel)) _ _ (fun _ _ _ _ _ h => h) (fun i v H3 H4 hi e3 hv => ?_)
      obtain ⟨rfl, hv⟩ := hv
      obtain ⟨G, hG, hpv⟩ := polv_at hes hv
      have eg : Fs.getD i (fun _ => 0) = G := by
        rw [List.getD_eq_getElem?_getD, hG] <;> rfl
      rw [eg]
      refine ⟨Ex.refl _, _, fun R r => r, rfl, et_yes, fun _ => evp_ev (ev_op (x := .int (G x)) (ev_call (ea_cons (ev_fld (ev_var rfl) S.cl (S.no _ (by decide)) (e3 a _ ha) rfl) (ea_cons (ev_var rfl) (ea_cons (ev_var rfl) ea_nil))) (spv_value (hs.mono e3) (hpv.mono e3) (hb.mono e3) hx hsh)) ev_c (rv_eq rfl)) fun H5 e5 => ?_⟩
      rw [dec_int]
    · have e : (((List.range es.length).map fun i => (Fs.getD i fun _ => 0) x == 0).all id) = solB Fs x := by
        rw [hlen, range_getD (fun _ => 0) (fun G : Pt → Int => G x == 0) Fs, List.all_map]
        rfl
      rw [e]
      exact k H1 e1
def spSols (K : Fg) (CY C : Addr) : Sp := fun vs H Q _ => ∃ (a : Addr) (p n : Nat) (Fs : List (Pt → Int)), vs = [.ref a] ∧ SysA K CY C p n Fs a H ∧ Fs.length ≤ 100 ∧ shapeOk p n ∧ RetP ((pts p n).filter (solB Fs)) H Q
theorem ok_sols {CY C : Addr} (F : FnP K "solutions" "System.solutions" sSystemSolutions f fd) (B : Bi mg) (S : SyF K CY) (SF : SpF K C) (M : MCal P w K mg base 2 C "points" ["self"] (spPoints C)) (IS : MCal P w K mg base 4 CY "is_solution" ["self", "point"] (spIsSol K CY C)) :
    FnOk P w K mg base CX0 5 f fd ["self"] (spSols K CY C) := by
  refine F.ok scSystemSolutions (fun vs H Q E h => ?_) (fun cdv A outer s H vs Q E hr h => ?_)
  · obtain ⟨a, p, n, Fs, rfl, _⟩ := h
    rfl
  · obtain ⟨a, p, n, Fs, rfl, hsy, hz, hsh, k⟩ := h
    refine ⟨_, PSs.nox (pss_one (ps_ret (pe_lc (own := [("point", 1)]) (g := gName 1) (tt := tTru K (tMeth CY "is_solution" (spIsSol K CY C) [] E0 (tVar 0) (tCons (tVar 1) tNil))) rfl scSystemSolutions.nd (pi_list (pe_mcal0 (pe_fld (pv 0) rfl) SF.cl M hr)) (blkOk_by (N := nSystemSolutions) (sc := defScope sSystemSolutions) (by decide +kernel))
      (fun _ _ _ _ _ => pg_name (i := 1) scSystemSolutions.nd rfl (.inl rfl)) (fun _ _ _ _ _ => pts_one (pt_tru K (pe_mcal (pv 0) S.cl IS hr (pa_cons (pv 1) pa_nil)) (fun _ => rfl))) (fun _ _ _ _ _ => pv 1)))), ?_⟩
    have hsy0 := hsy
    obtain ⟨dx, sp, el, es, ha, hs, hel, hes⟩ := hsy
    have hsm := hsh.small
    refine evpts_lp (ps := (pts p n).filter (solB Fs)) (evlp_pts (solB Fs) IsPt (evpts_points (ev_fld (ev_var rfl) S.cl (S.no _ (by decide)) ha rfl) hs hsh) (by rw [pts_count]; omega) stab_pt (fun x q H2 hx e2 hq => ⟨[some (.ref a), some (.ref q)], fun R r => r, rfl, et_tru ?_, fun _ => evp_self rfl hq⟩)) H (Ex.refl H) _ (fun l as H2 hl e2 h2 ha2 => k l as H2 hl e2 h2 ha2)
    exact fun H3 e3 Q q2 => ⟨.ref a, rfl, a, dx, _, rfl, e3 a _ (e2 a _ ha), rfl, .ref q, rfl, a, q, p, n, Fs, x, rfl, hsy0.mono (e2.trans e3), hz, hsh, .inl (.inl (ex_pt e3 hq)), hx, fun H4 e4 => q2 H4 e4⟩
end
end Z7
end

section
set_option Elab.async false
set_option linter.all false
set_option maxRecDepth 100000
set_option maxHeartbeats 4000000
namespace Z7
open PySem L2 Evl RZ
/-! ### factors -/
def z0 : Pt → Int := fun _ => 0
/-- what is wanted still behind i equations -/
def wn (F : Pt → Int) (Fs : List (Pt → Int)) (x : Pt) : Nat → Int
  | 0 => F x
  | i + 1 => if wn F Fs x i ≠ 0 ∧ Fs.getD i z0 x ≠ 0 then 0 else wn F Fs x i
def shr (p : Nat) (F : Pt → Int) (Fs : List (Pt → Int)) (i : Nat) (x : Pt) : Int := if wn F Fs x i ≠ 0 ∧ Fs.getD i z0 x ≠ 0 then (wn F Fs x i * rn p (Fs.getD i z0 x) (p - 2)) % (p : Int) else 0
theorem wn_ne {F : Pt → Int} {Fs : List (Pt → Int)} {x : Pt} : ∀ i, wn F Fs x i ≠ 0 ↔ F x ≠ 0 ∧ ∀ j, j < i → Fs.getD j z0 x = 0
  | 0 => ⟨fun h => ⟨h, fun j hj => absurd hj (Nat.not_lt_zero j)⟩, fun h => h.1⟩
  | i + 1 => by
    have ih := wn_ne (F := F) (Fs := Fs) (x := x) i
    unfold wn
    by_cases h : wn F Fs x i ≠ 0 ∧ Fs.getD i z0 x ≠ 0
    · rw [if_pos h]
      exact ⟨fun z => absurd rfl z, fun z => absurd (z.2 i (Nat.lt_succ_self i)) h.2⟩
    · rw [if_neg h]
      constructor
      · intro z
        obtain ⟨h1, h2⟩ := ih.mp z
        refine ⟨h1, fun j hj => ?_⟩
        by_cases e : j = i
        · rw [e]
          exact Decidable.byContradiction fun y => h ⟨z, y⟩
        · exact h2 j (by omega)
      · exact fun z => ih.mpr ⟨z.1, fun j hj => z.2 j (by omega)⟩
theorem wn_bd {p : Nat} {F : Pt → Int} {Fs : List (Pt → Int)} {x : Pt} (hp : 1 < p) (h : 0 ≤ F x ∧ F x < (p : Int)) : ∀ i, 0 ≤ wn F Fs x i ∧ wn F Fs x i < (p : Int)
  | 0 => h
  | i + 1 => by
    unfold wn
    split
    · omega
    · exact wn_bd hp h i
theorem shr_bd {p : Nat} {F : Pt → Int} {Fs : List (Pt → Int)} {x : Pt} (hp : 1 < p) (i : Nat) : 0 ≤ shr p F Fs i x ∧ shr p F Fs i x < (p : Int) := by
  unfold shr
  split
  · exact ⟨Int.emod_nonneg _ (by omega), Int.emod_lt_of_pos _ (by omega)⟩
  · omega
theorem solB_iff {Fs : List (Pt → Int)} {x : Pt} : solB Fs x = true ↔ ∀ j, j < Fs.length → Fs.getD j z0 x = 0 := by
  unfold solB
  rw [List.all_eq_true]
  constructor
  · intro h j hj
    rw [List.getD_eq_getElem?_getD, List.getElem?_eq_getElem hj]
    have z := h _ (List.getElem_mem hj)
    simpa using z
  · intro h G hG
    obtain ⟨j, hj⟩ := List.mem_iff_getElem?.mp hG
    have z := h j (List.getElem?_eq_some_iff.mp hj).1
    rw [List.getD_eq_getElem?_getD, hj] at z
    simpa using z
/-- all but the objects at ts stay -/
def ExS (ts : List Addr) (H H' : Hp) : Prop := ∀ b o, b ∉ ts → H b = some o → H' b = some o
theorem ExS.of {ts : List Addr} {H H' : Hp} (e : Ex H H') : ExS ts H H' := fun b o _ h => e b o h
theorem ExS.trans {ts : List Addr} {H H1 H2 : Hp} (x : ExS ts H H1) (y : ExS ts H1 H2) : ExS ts H H2 := fun b o n h => y b o n (x b o n h)
theorem ExS.upd {ts : List Addr} {a : Addr} {H : Hp} {o : HO} (h : a ∈ ts) : ExS ts H (upd H a o) := fun b u n e => by
  rw [upd_ne fun z => n (by rw [z]; exact h)]
  exact e
theorem ExS.back {ts : List Addr} {H H1 H2 : Hp} (x : ExS ts H1 H2) (e : Ex H H1) (h : ∀ t ∈ ts, H t = none) : Ex H H2 := fun b o n => x b o (fun z => by
  rw [h b z] at n
  cases n) (e b o n)
section
variable {P : Program} {w : World} {K : Fg} {mg : Str → Option Value} {base : Heap} {f : Addr} {fd : FuncData}
def spFactors (K : Fg) (CY C : Addr) : Sp := fun vs H Q _ => ∃ (a : Addr) (o : V) (p n : Nat) (Fs : List (Pt → Int)) (F : Pt → Int), vs = [.ref a, o] ∧ SysA K CY C p n Fs a H ∧ PolV K p n F o H ∧ Fs.length ≤ 100 ∧ shapeOk p n ∧
  (¬ (∀ x ∈ pts p n, solB Fs x = true → F x = 0) → ∀ H2, Ex H H2 → Q .non H2) ∧ ((∀ x ∈ pts p n, solB Fs x = true → F x = 0) → ∀ l ws H2, H l = none → Ex H H2 → H2 l = some (.lst ws) → ws.length ≤ 100 → Q (.ref l) H2)
theorem ok_factors {CY C : Addr} (F : FnP K "factors" "factors" sFactors f fd) (B : Bi mg) (S : SyF K CY) (SF : SpF K C) (M : MCal P w K mg base 2 C "points" ["self"] (spPoints C)) (VA : Cal P w K mg base 3 "value" ["space", "one", "point"] (spValue K C)) (IV : Cal P w K mg base 2 "inverse" ["prime", "number"] spInverse)
    (PO : Cal P w K mg base 3 "polynomial_of" ["space", "table"] (spPolyOf K C)) : FnOk P w K mg base CX0 4 f fd ["system", "one"] (spFactors K CY C) := by
  refine F.ok scFactors (fun vs H Q E h => ?_) (fun cdv A outer s H vs Q E hr h => ?_)
  · obtain ⟨a, o, p, n, Fs, G, rfl, _⟩ := h
    rfl
  · obtain ⟨a, o, p, n, Fs, G, rfl, hsy, ho, hz, hsh, k1, k2⟩ := h
    refine ⟨_, PSs.nox (pss_cons (ps_set (i := 2) scFactors.nd rfl (.inr rfl) (pe_fld (pv 0) rfl))
      (pss_cons (ps_setLc (i := 3) (own := [("_", 10)]) (g := gName 10) (tt := tYes) rfl scFactors.nd rfl rfl (sw_true rfl rfl rfl (by decide +kernel)) (pi_list (pe_fld (pv 0) rfl)) (blkOk_by (N := nFactors) (sc := defScope sFactors) (by decide +kernel))
          (fun _ _ _ _ _ => pg_name (i := 10) scFactors.nd rfl (.inl rfl)) (fun _ _ _ _ _ => pts_nil) (fun _ _ _ _ _ => pe_lst pa_nil))
      (pss_cons (ps_for PassesOwn.never rfl (pi_list (pe_mcal0 (pv 2) SF.cl M hr)) (pg_name (i := 4) scFactors.nd rfl (.inl rfl))
        (pss_cons (ps_set (i := 5) scFactors.nd rfl (.inl rfl) (pe_cal VA hr rfl (pa_cons (pv 2) (pa_cons (pv 1) (pa_cons (pv 4) pa_nil)))))
        (pss_cons (ps_for PassesOwn.never rfl (pi_zipA rfl B.zip (pa_cons (pe_fld (pv 0) rfl) (pa_cons (pv 3) pa_nil))) (pg_tup rfl (pgs_cons (pg_name (i := 6) scFactors.nd rfl (.inl rfl)) (pgs_cons (pg_name (i := 7) scFactors.nd rfl (.inl rfl)) pgs_nil)))
          (pss_cons (ps_set (i := 8) scFactors.nd rfl (.inl rfl) (pe_cal VA hr rfl (pa_cons (pv 2) (pa_cons (pv 6) (pa_cons (pv 4) pa_nil)))))
          (pss_cons (ps_set (i := 9) scFactors.nd rfl (.inl rfl) pe_int)
          (pss_cons (ps_if (PW.pt (pw_and (pt_cmpR op_ne (pv 5) pe_int (nomark _)) (pw_and1 (pt_cmpR op_ne (pv 8) pe_int (nomark _)))))
            (pss_cons (ps_set (i := 9) scFactors.nd rfl (.inl rfl) (pe_op op_mod (pe_op op_mul (pv 5) (pe_cal IV hr rfl (pa_cons (pe_fld (pv 2) rfl) (pa_cons (pv 8) pa_nil)))) (pe_fld (pv 2) rfl)))
            (pss_one (ps_set (i := 5) scFactors.nd rfl (.inl rfl) pe_int))) pss_nil)
          (pss_one (ps_expr (pe_bm PySem.F.plainAttrs_list PySem.F.slot_list_append PySem.F.type_list_append mt_append (pv 7) (pa_cons (pv 9) pa_nil))))))))
        (pss_one (ps_if (pt_cmpR op_ne (pv 5) pe_int (nomark _)) (pss_one (ps_ret pe_non)) pss_nil)))))
      (pss_one (ps_ret (pe_lc (own := [("table", 7)]) (g := gName 7) (tt := tYes) rfl scFactors.nd (pi_list (pv 3)) (blkOk_by (N := nFactors) (sc := defScope sFactors) (by decide +kernel))
          (fun _ _ _ _ _ => pg_name (i := 7) scFactors.nd rfl (.inl rfl)) (fun _ _ _ _ _ => pts_nil) (fun _ _ _ _ _ => pe_cal PO hr rfl (pa_cons (pv 2) (pa_cons (pv 7) pa_nil))))))))), ?_⟩
    have hP := hsh.isP
    have hp1 := hP.lt
    have hp7 := hP.le
    have hpp : (0 : Int) < (p : Int) := by omega
    have hsm := hsh.small
    have hsy0 := hsy
    obtain ⟨dx, sp, el, es, ha, hs, hel, hes⟩ := hsy
    have hesl : es.length = Fs.length := by
      have z := hes.len
      rw [List.length_map] at z
      exact z.symm
    refine q_asg (ev_fld (ev_var rfl) S.cl (S.no _ (by decide)) ha rfl) fun H1 e1 => ?_
    refine q_asg0 ?_
    refine ⟨.ref a, rfl, a, CY, dx, _, .ref el, rfl, e1 a _ ha, S.cl, S.no _ (by decide), rfl, el, rfl, ⟨_, sq_of (e1 el _ hel)⟩, ?_⟩
    intro tl htl
    have e02 := e1
    refine lc_it (walk_list (K := K) (a := el) (xs := es)) (fun i H' => Ex H1 H' ∧ ∃ ts : List Addr, H' tl = some (.lst (ts.map V.ref)) ∧ ts.length = i ∧ ts.Nodup ∧ ∀ t ∈ ts, H1 t = none ∧ t ≠ tl ∧ H' t = some (.lst []))
      ⟨Ex.new htl, [], upd_same, rfl, List.Pairwise.nil, fun t ht => absurd ht List.not_mem_nil⟩ (fun i H' _ pv => sq_of (pv.1 el _ (e02 el _ hel))) (fun i v H3 H4 hi pv hv => ?_) (fun H3 pv => ?_)
    · obtain ⟨rfl, hv⟩ := hv
      obtain ⟨e3, ts, h3, hl3, hnd, hts⟩ := pv
      refine ⟨rfl, by show 0 ≤ sizeLine; exact Nat.zero_le _, fun t ht => ⟨ts.map V.ref, ?_, ?_, ?_, ts ++ [t], ?_, ?_, ?_, ?_⟩⟩
      · rw [upd_ne (ne_of_none h3 ht)]
        exact h3
      · rw [List.length_map, hl3]
        exact sz_lt (by omega)
      · exact Ex.mut (e3.trans (Ex.new ht)) htl
      · rw [upd_same, List.map_append] <;> rfl
      · rw [List.length_append, hl3] <;> rfl
      · refine nodup_append' hnd (by simp) fun b hb hb2 => ?_
        have z : b = t := by simpa using hb2
        have y := (hts b hb).2.2
        rw [z, ht] at y
        cases y
      · intro b hb
        rcases List.mem_append.mp hb with hb | hb
        · obtain ⟨y1, y2, y3⟩ := hts b hb
          refine ⟨y1, y2, ?_⟩
          rw [upd_ne y2, upd_ne (ne_of_none y3 ht)]
          exact y3
        · have z : b = t := by simpa using hb
          subst z
          have y2 : b ≠ tl := Ne.symm (ne_of_none h3 ht)
          exact ⟨fresh_back e3 ht, y2, by rw [upd_ne y2, upd_same]⟩
    · obtain ⟨e3, ts, h3, hl3, hnd, hts⟩ := pv
      have e03 := e02.trans e3
      have ht0 : ∀ t ∈ ts, H t = none := fun t ht => fresh_back e02 (hts t ht).1
      have htlt : tl ∉ ts := fun z => (hts tl z).2.1 rfl
      obtain ⟨dxs, nms, hsi⟩ := hs
      refine q_for0 ⟨.ref sp, rfl, sp, dxs, _, rfl, e03 sp _ hsi, rfl, sp, p, n, rfl, ⟨dxs, nms, e03 sp _ hsi⟩, hsh, fun l as H4 hl e4 h4 has => ⟨l, rfl, ⟨_, sq_of h4⟩, ?_⟩⟩
      have e04 := e03.trans e4
      have hlt : l ∉ ts := fun z => by
        have y := (hts l z).2.2
        rw [hl] at y
        cases y
      have hasl : as.length = (pts p n).length := has.len
      have pt4 : ∀ {H'} {q : Addr} {x : Pt}, ExS ts H4 H' → PtA H4 q x → PtA H' q x := fun {H' q x} ex hq => ex q _ (fun z => by
        have y := e4 q _ (hts q z).2.2
        have hq : H4 q = some _ := hq
        rw [hq] at y
        cases y) hq
      refine forB_go (n := (as.map V.ref).length) (walk_list (K := K) (a := l) (xs := as.map V.ref)) (fun j σ H' => ExS ts H4 H' ∧ (∃ z4 z5 z6 z7 z8 z9, σ = [some (.ref a), some o, some (.ref sp), some (.ref tl), z4, z5, z6, z7, z8, z9, none]) ∧
          (∀ i t, ts[i]? = some t → H' t = some (.lst ((((pts p n).take j).map (shr p G Fs i)).map V.int))) ∧ ∀ x ∈ (pts p n).take j, wn G Fs x Fs.length = 0) ?_ ?_ ?_ ?_
      · refine ⟨ExS.of (Ex.refl _), ⟨_, _, _, _, _, _, rfl⟩, fun i t ht => ?_, fun x hx => by rw [List.take_zero] at hx; exact absurd hx List.not_mem_nil⟩
        rw [List.take_zero]
        exact e4 t _ (hts t (List.mem_of_getElem? ht)).2.2
      · rintro j σ H' _ ⟨ex, _⟩
        exact .inl (.inl (ex l _ hlt h4))
      · rintro j v σ H5 H6 hj ⟨ex, ⟨z4, z5, z6, z7, z8, z9, rfl⟩, htab, hwn⟩ ⟨rfl, hv⟩
        obtain ⟨q, x, rfl, hq, hx, hqx⟩ := has.at hv
        have hxm : x ∈ pts p n := List.mem_of_getElem? hx
        have hq5 : PtA H6 q x := pt4 ex hqx
        have e06 : Ex H H6 := ex.back e04 ht0
        have etk : (pts p n).take (j + 1) = (pts p n).take j ++ [x] := by
          rw [List.take_add_one, hx]
          rfl
        have hGb := polv_bd ho (by omega) hxm
        have hj1000 : j < 1000 := by
          rw [List.length_map, hasl, pts_count] at hj
          omega
        have htk : ((pts p n).take j).length = j := by
          rw [List.length_take]
          rw [List.length_map, hasl] at hj
          omega
        refine q_asg (ev_call (ea_cons (ev_var rfl) (ea_cons (ev_var rfl) (ea_cons (ev_var rfl) ea_nil))) (spv_value (F := G) ⟨dxs, nms, e06 sp _ hsi⟩ (ho.mono e06) (.inl (.inl hq5)) hxm hsh)) fun H7 e7 => ?_
        have e07 := e06.trans e7
        have x47 : ExS ts H4 H7 := ex.trans (ExS.of e7)
        refine q_forIt (J := Itz K el tl) (n := Fs.length) (fun H8 e8 R r => ⟨.ref a, rfl, a, CY, dx, _, .ref el, rfl, (e07.trans e8) a _ ha, S.cl, S.no _ (by decide), rfl, .ref tl, rfl, el, tl, es, ts.map V.ref, rfl, .inl ⟨sq_of ((e07.trans e8) el _ hel), sq_of ((x47.trans (ExS.of e8)) tl _ htlt (e4 tl _ h3)), r H8 (Ex.refl H8)⟩⟩)
          (walk_zip (K := K) (a := el) (b := tl) (xs := es) (ys := ts.map V.ref) (by rw [List.length_map, hl3, hesl, Nat.min_self]))
          (fun i σ H' => ExS ts H7 H' ∧ (∃ z6 z7 z8 z9, σ = [some (.ref a), some o, some (.ref sp), some (.ref tl), some (.ref q), some (.int (wn G Fs x i)), z6, z7, z8, z9, none]) ∧
            ∀ i' t, ts[i']? = some t → H' t = some (.lst ((((pts p n).take j ++ (if i' < i then [x] else [])).map (shr p G Fs i')).map V.int)))
          (fun H8 e8 => ⟨ExS.of e8, ⟨_, _, _, _, rfl⟩, fun i' t ht => by
            rw [if_neg (Nat.not_lt_zero _), List.append_nil]
            exact (e7.trans e8) t _ (htab i' t ht)⟩)
          (fun i σ H' _ pv => ⟨sq_of ((pv.1.back e07 ht0) el _ hel), sq_of ((x47.trans pv.1) tl _ htlt (e4 tl _ h3))⟩) ?_ ?_
        · rintro i v σ H8 H9 hi ⟨ex8, ⟨y6, y7, y8, y9, rfl⟩, htab8⟩ ⟨T, u1, u2, rfl, hT, rfl, h1, h2⟩
          have h1 : es[i]? = some u1 := h1
          have h2 : (ts.map V.ref)[i]? = some u2 := h2
          obtain ⟨Gi, hGi, hpv⟩ := polv_at hes h1
          rw [List.getElem?_map] at h2
          obtain ⟨ti, hti, rfl⟩ := Option.map_eq_some_iff.mp h2
          have e08 := ex8.back e07 ht0
          have eg : Fs.getD i z0 = Gi := by
            rw [List.getD_eq_getElem?_getD, hGi] <;> rfl
          have hTn : T ∉ ts := fun z => by
            obtain ⟨i2, hi2⟩ := List.mem_iff_getElem?.mp z
            rw [htab8 i2 T hi2] at hT
            cases hT
          have eT : Ex H8 (upd H8 T (.tup [u1, .ref ti])) := Ex.new hT
          refine gtup2 (st_of upd_same) ?_
          generalize hH9 : upd H8 T (.tup [u1, .ref ti]) = H9 at eT
          have e09 := e08.trans eT
          have hq9 : PtA H9 q x := ex_pt eT (pt4 (x47.trans ex8) hqx)
          have hGib := polv_bd hpv hp1 hxm
          have hwb := wn_bd (Fs := Fs) hp1 hGb i
          refine q_asg (ev_call (z := .int (Gi x)) (ea_cons (ev_var rfl) (ea_cons (ev_var rfl) (ea_cons (ev_var rfl) ea_nil))) (spv_value (F := Gi) ⟨dxs, nms, e09 sp _ hsi⟩ (hpv.mono e09) (.inl (.inl hq9)) hxm hsh)) fun H10 e10 => ?_
          refine q_asg ev_c fun H11 e11 => ?_
          have e9_11 := e10.trans e11
          have fin : ∀ (D : Ends) (w' : Int) (sh : Int) (H12 : Hp) , Ex H9 H12 → w' = wn G Fs x (i + 1) → sh = shr p G Fs i x →
              (∀ σ H', (ExS ts H7 H' ∧ (∃ z6 z7 z8 z9, σ = [some (.ref a), some o, some (.ref sp), some (.ref tl), some (.ref q), some (.int (wn G Fs x (i + 1))), z6, z7, z8, z9, none]) ∧
                ∀ i' t, ts[i']? = some t → H' t = some (.lst ((((pts p n).take j ++ (if i' < i + 1 then [x] else [])).map (shr p G Fs i')).map V.int))) → D.nx σ H') →
              tDrop (tBM K "list" rAppend (tVar 7) (tCons (tVar 9) tNil)) D [some (.ref a), some o, some (.ref sp), some (.ref tl), some (.ref q), some (.int w'), some u1, some (.ref ti), some (.int (Gi x)), some (.int sh), none] H12 := fun D w' sh H12 e12 hw' hsh' hD => by
            have ht12 : H12 ti = some (.lst ((((pts p n).take j ++ (if i < i then [x] else [])).map (shr p G Fs i)).map V.int)) := e12 ti _ (eT ti _ (htab8 i ti hti))
            rw [if_neg (Nat.lt_irrefl i), List.append_nil] at ht12
            refine s_app ht12 (ev_var rfl) (ev_var rfl) (by rw [List.length_map, List.length_map, htk]; omega) fun H13 e13 => ?_
            refine hD _ _ ⟨((ex8.trans (ExS.of (eT.trans e12))).trans (ExS.of e13)).trans (ExS.upd (List.mem_of_getElem? hti)), ⟨_, _, _, _, by rw [hw'] <;> rfl⟩, fun i' t ht => ?_⟩
            by_cases hii : i' = i
            · subst hii
              rw [hti] at ht
              cases ht
              rw [upd_same, if_pos (Nat.lt_succ_self _), List.map_append, List.map_append, hsh'] <;> rfl
            · have htt : t ≠ ti := fun z => by
                rw [z] at ht
                obtain ⟨b1, c1⟩ := List.getElem?_eq_some_iff.mp ht
                obtain ⟨b2, c2⟩ := List.getElem?_eq_some_iff.mp hti
                rcases Nat.lt_or_gt_of_ne hii with y | y
                · exact List.pairwise_iff_getElem.mp hnd i' i b1 b2 y (c1.trans c2.symm)
                · exact List.pairwise_iff_getElem.mp hnd i i' b2 b1 y (c2.trans c1.symm)
              rw [upd_ne htt, e13 t _ (e12 t _ (eT t _ (htab8 i' t ht)))]
              by_cases hlt : i' < i
              · rw [if_pos hlt, if_pos (by omega)]
              · rw [if_neg hlt, if_neg (by omega)]
          refine q_if (b := decide (wn G Fs x i ≠ 0 ∧ Gi x ≠ 0)) (et_is (et_and (et_test (ev_op (ev_var rfl) ev_c (rv_ne rfl))) (fun _ => et_test (ev_op (ev_var rfl) ev_c (rv_ne rfl)))) ?_) (fun hb H12 e12 => ?_) (fun hb H12 e12 => ?_)
          · rw [dec_int, dec_int]
            by_cases y1 : wn G Fs x i = 0
            · rw [y1, decide_eq_false (fun z => z.1 rfl)]
              rfl
            · by_cases y2 : Gi x = 0
              · rw [y2, decide_eq_false (fun z => z.2 rfl)]
                simp
              · rw [decide_eq_true ⟨y1, y2⟩]
                simp [y1, y2]
          · have hc : wn G Fs x i ≠ 0 ∧ Gi x ≠ 0 := of_decide_eq_true hb
            have hsp12 : SpA C H12 sp p n := ⟨dxs, nms, (e09.trans (e9_11.trans e12)) sp _ hsi⟩
            have hrb := rn_bd (show (1 : Int) < (p : Int) by omega) (Gi x) (p - 2)
            refine q_asg (ev_op (ev_op (ev_var rfl) (ev_call (z := .int (rn p (Gi x) (p - 2))) (ea_cons (ev_prime SF (ev_var rfl) hsp12) (ea_cons (ev_var rfl) ea_nil)) fun H13 e13 Q q E => ⟨p, Gi x, rfl, by omega, by
              have ep : ((p : Int) - 2).toNat = p - 2 := by omega
              rw [ep]
              exact q⟩) (rv_I (.inl ⟨by omega, by omega⟩))) (ev_prime SF (ev_var rfl) hsp12) (rv_I hpp)) fun H13 e13 => ?_
            refine s_asg ev_c fun H14 e14 => ?_
            refine fin _ 0 _ H14 (e9_11.trans ((e12.trans e13).trans e14)) ?_ ?_ (fun _ _ h => h)
            · show 0 = if wn G Fs x i ≠ 0 ∧ Fs.getD i z0 x ≠ 0 then 0 else wn G Fs x i
              rw [eg, if_pos hc]
            · unfold shr
              rw [eg, if_pos hc]
          · have hc : ¬ (wn G Fs x i ≠ 0 ∧ Gi x ≠ 0) := of_decide_eq_false hb
            refine fin _ _ 0 H12 (e9_11.trans e12) ?_ ?_ (fun _ _ h => h)
            · show wn G Fs x i = if wn G Fs x i ≠ 0 ∧ Fs.getD i z0 x ≠ 0 then 0 else wn G Fs x i
              rw [eg, if_neg hc]
            · unfold shr
              rw [eg, if_neg hc]
        · rintro σ H8 ⟨ex8, ⟨y6, y7, y8, y9, rfl⟩, htab8⟩
          have e08 := ex8.back e07 ht0
          refine s_when (b := decide (wn G Fs x Fs.length ≠ 0)) (et_is (et_test (ev_op (ev_var rfl) ev_c (rv_ne rfl))) ?_) (fun hb H9 e9 => ?_) (fun hb H9 e9 => ?_)
          · rw [dec_int]
            by_cases y1 : wn G Fs x Fs.length = 0
            · rw [y1]
              rfl
            · simp [y1]
          · have hc : wn G Fs x Fs.length ≠ 0 := of_decide_eq_true hb
            obtain ⟨c1, c2⟩ := (wn_ne _).mp hc
            exact s_ret ev_c fun H10 e10 => k1 (fun z => c1 (z x hxm (solB_iff.mpr c2))) H10 ((e08.trans e9).trans e10)
          · have hc : wn G Fs x Fs.length = 0 := Decidable.byContradiction (of_decide_eq_false hb)
            refine ⟨(x47.trans ex8).trans (ExS.of e9), ⟨_, _, _, _, _, _, rfl⟩, fun i t ht => ?_, fun y hy => ?_⟩
            · have hil : i < Fs.length := by
                rw [← hesl, ← hl3]
                exact (List.getElem?_eq_some_iff.mp ht).1
              have z := e9 t _ (htab8 i t ht)
              rw [if_pos hil] at z
              rw [etk]
              exact z
            · rw [etk] at hy
              rcases List.mem_append.mp hy with hy | hy
              · exact hwn y hy
              · rw [List.mem_singleton.mp hy]
                exact hc
      · rintro σ H5 ⟨ex, ⟨z4, z5, z6, z7, z8, z9, rfl⟩, htab, hwn⟩
        have hal2 : (pts p n).take (as.map V.ref).length = pts p n := by
          rw [List.length_map, hasl, List.take_length]
        rw [hal2] at hwn
        have e05 : Ex H H5 := ex.back e04 ht0
        have hvan : ∀ x ∈ pts p n, solB Fs x = true → G x = 0 := fun x hx hsx => by
          have z := hwn x hx
          exact Decidable.byContradiction fun y => (wn_ne (F := G) (Fs := Fs) (x := x) Fs.length).mpr ⟨y, solB_iff.mp hsx⟩ z
        have htl5 : H5 tl = some (.lst (ts.map V.ref)) := ex tl _ htlt (e4 tl _ h3)
        have hlc : Evlp (tLc (iList K (tVar 3)) (gName 7) tYes (tCall (spPolyOf K C) [] E0 (tCons (tVar 2) (tCons (tVar 7) tNil))) [7]) [some (.ref a), some o, some (.ref sp), some (.ref tl), z4, z5, z6, z7, z8, z9, none] H5 (gvn (ts.map V.ref).length (fun _ => true) (fun _ _ _ => True)) :=
          evlp_lc (J := Itl K tl) (fun H6 e6 R r => ⟨.ref tl, rfl, tl, rfl, ⟨_, sq_of (e6 tl _ htl5)⟩, r H6 (Ex.refl H6)⟩) (walk_list (K := K) (a := tl) (xs := ts.map V.ref)) (by rw [List.length_map]; omega) (fun H' e => sq_of (e tl _ htl5)) _ _ (fun _ _ _ _ _ h => h) (fun i v H6 H7 hi e6 hv => by
            obtain ⟨rfl, hv⟩ := hv
            rw [List.getElem?_map] at hv
            obtain ⟨ti, hti, rfl⟩ := Option.map_eq_some_iff.mp hv
            have hti5 := htab i ti hti
            rw [hal2] at hti5
            exact ⟨Ex.refl _, _, fun R r => r, rfl, et_yes, fun _ => fun H8 e8 Q2 q2 => ⟨.ref sp, rfl, .ref ti, rfl, sp, ti, p, n, shr p G Fs i, rfl, ⟨dxs, nms, e8 sp _ (e6 sp _ (e05 sp _ hsi))⟩, hsh, sq_of (e8 ti _ (e6 ti _ hti5)), fun x _ => shr_bd hp1 i, fun v H9 e9 _ => q2 v H9 e9 True.intro⟩⟩)
        refine hlc H5 (Ex.refl H5) _ fun l2 ws H6 hl2 e6 h6 hws => k2 hvan l2 ws H6 (fresh_back e05 hl2) (e05.trans e6) h6 ?_
        have z := hws.len
        rw [gvn_all, List.length_map, List.length_range, List.length_map] at z
        omega
end
end Z7
end

section
set_option Elab.async false
set_option linter.all false
set_option maxRecDepth 100000
set_option maxHeartbeats 4000000
namespace Z7
open PySem L2 Evl RZ
/-! ### sentences -/
inductive Sen where
  | cmp (e : Bool) (f g : Pol)
  | neg (s : Sen)
  | bin (k : Nat) (s t : Sen)
def opS : Nat → Str
  | 0 => "and"
  | 1 => "or"
  | _ => "=>"
def senD : Sen → PyData
  | .cmp e f g => .tuple [.str (if e = true then "=" else "/="), polD f, polD g]
  | .neg s => .tuple [.str "not", senD s]
  | .bin k s t => .tuple [.str (opS k), senD s, senD t]
def truth (p : Nat) : Sen → Pt → Bool
  | .cmp e f g, x => decide (pev p f x = pev p g x) == e
  | .neg s, x => !truth p s x
  | .bin 0 s t, x => truth p s x && truth p t x
  | .bin 1 s t, x => truth p s x || truth p t x
  | .bin (_ + 2) s t, x => truth p t x || !truth p s x
def SenOk (p n : Nat) : Sen → Prop
  | .cmp _ f g => PolOk p n f ∧ PolOk p n g
  | .neg s => SenOk p n s
  | .bin _ s t => SenOk p n s ∧ SenOk p n t
def Sen.dep : Sen → Nat
  | .cmp _ _ _ => 0
  | .neg s => s.dep + 1
  | .bin _ s t => max s.dep t.dep + 1
theorem noL_sen : ∀ s : Sen, noL (senD s) = true
  | .cmp e f g => by
    unfold senD
    rw [noL, noLs, noLs, noLs, noLs, noL_pol, noL_pol]
    simp [noL]
  | .neg s => by
    unfold senD
    rw [noL, noLs, noLs, noLs, noL_sen s]
    simp [noL]
  | .bin k s t => by
    unfold senD
    rw [noL, noLs, noLs, noLs, noLs, noL_sen s, noL_sen t]
    simp [noL]
/-- value(space, one, point), by the polynomial -/
theorem spv_pol {K : Fg} {C sp b : Addr} {o : V} {p n : Nat} {g : Pol} {x : Pt} {H : Hp} (hs : SpA C H sp p n) (hd : Dp K H o (polD g)) (hg : PolOk p n g) (hb : TI K H b x) (hx : x ∈ pts p n) (hsh : shapeOk p n) : SpV (spValue K C) ([.ref sp, o, .ref b] ++ []) H (.int (pev p g x)) := fun H1 e1 Q q E => by
  have hP := hsh.isP
  have hl := hP.lt
  have hl7 := hP.le
  have hgl := hg.len
  have hsm := hsh.small
  have hn8 := hsh.n8
  exact ⟨sp, b, o, p, n, g, x, rfl, hs.mono e1, dp_mono e1 hd, hb.mono e1, fun t ht => (hg.2 t ht).1, fun t ht => ⟨(hg.2 t ht).2.1, by have := (hg.2 t ht).2.2; omega⟩, by omega, pts_len hx, ⟨hl, hl7⟩, by omega, q⟩
theorem dp_tup {K : Fg} {H : Hp} {v : V} {ds : List PyData} (h : Dp K H v (.tuple ds)) : ∃ a vs, v = .ref a ∧ SqT K H a vs ∧ DpAll K H vs ds := by
  cases h with
  | tup hs ha => exact ⟨_, _, rfl, hs, ha⟩
theorem str_ne {a b : Str} (h : a ≠ b) : V.str a ≠ V.str b := fun z => h (V.str.inj z)
section
variable {P : Program} {w : World} {K : Fg} {mg : Str → Option Value} {base : Heap} {f : Addr} {fd : FuncData}
def spIsTrue (K : Fg) (C : Addr) (d : Nat) : Sp := fun vs H Q _ => ∃ (sp b : Addr) (v : V) (p n : Nat) (s : Sen) (x : Pt), vs = [.ref sp, v, .ref b] ∧ SpA C H sp p n ∧ Dp K H v (senD s) ∧ SenOk p n s ∧ s.dep ≤ d ∧ TI K H b x ∧ x ∈ pts p n ∧ shapeOk p n ∧ RetV (.bl (truth p s x)) H Q
theorem ok_istrue {C : Addr} (F : FnP K "is_true" "is_true" sIsTrue f fd) (B : Bi mg) (VA : Cal P w K mg base 3 "value" ["space", "one", "point"] (spValue K C)) (hm : mg "is_true" = some (.ref f)) (hb : Binds K fd ["space", "sentence", "point"] []) :
    ∀ d, FnOk P w K mg base CX0 (4 + d) f fd ["space", "sentence", "point"] (spIsTrue K C d)
  | 0 => by
    refine F.ok (k := 3) scIsTrue (fun vs H Q E h => ?_) (fun cdv A outer s H vs Q E hr h => ?_)
    · obtain ⟨sp, b, v, p, n, s, x, rfl, _⟩ := h
      rfl
    · obtain ⟨sp, b, v, p, n, sn, x, rfl, hs, hv, hok, hdep, hb, hx, hsh, k⟩ := h
      cases sn with
      | neg s => exact absurd hdep (by unfold Sen.dep; omega)
      | bin k s t => exact absurd hdep (by unfold Sen.dep; omega)
      | cmp e g1 g2 =>
        obtain ⟨a, us, rfl, hsq, hall⟩ := dp_tup hv
        cases hall with
        | cons d0 hall =>
          cases hall with
          | cons d1 hall =>
            cases hall with
            | cons d2 hall =>
              cases hall
              cases d0
              refine ⟨_, PSs.nox (pss_cons (ps_set (i := 3) scIsTrue.nd rfl (.inl rfl) (pe_ix ix_tup (pv 1) pe_int (fun _ _ => rfl)))
                (pss_cons (ps_if (PW.pt (pw_or (pt_cmpR op_eq (pv 3) pe_str (nomark _)) (pw_or1 (pt_cmpR op_eq (pv 3) pe_str (nomark _)))))
                  (pss_one (ps_ret (pe_cmpR op_eq (pe_cmpR op_eq (pe_cal VA hr rfl (pa_cons (pv 0) (pa_cons (pe_ix ix_tup (pv 1) pe_int (fun _ _ => rfl)) (pa_cons (pv 2) pa_nil)))) (pe_cal VA hr rfl (pa_cons (pv 0) (pa_cons (pe_ix ix_tup (pv 1) pe_int (fun _ _ => rfl)) (pa_cons (pv 2) pa_nil)))) (nomark _))
                    (pe_cmpR op_eq (pv 3) pe_str (nomark _)) (nomark _)))) pss_nil)
                pss_never)), ?_⟩
              refine q_asg (v := .str (if e = true then "=" else "/=")) (ev_op (ev_var rfl) ev_c (rv_ixT hsq (atI_nat (j := 0) rfl))) fun H1 e1 => ?_
              refine q_when (b := true) (et_is (et_or (a := e) (b := !e) (et_is (et_test (ev_op (ev_var rfl) ev_c (rv_eq rfl))) ?_) (fun _ => et_is (et_test (ev_op (ev_var rfl) ev_c (rv_eq rfl))) ?_)) (by cases e <;> rfl)) (fun _ H2 e2 => ?_) (fun hb => nomatch hb)
              · cases e <;> rfl
              · cases e <;> rfl
              · have e12 := e1.trans e2
                refine s_ret (v := .bl (truth p (.cmp e g1 g2) x)) (ev_is (ev_op (x := .bl (decide (pev p g1 x = pev p g2 x))) (y := .bl e) (ev_is (ev_op
                  (ev_call (ea_cons (ev_var rfl) (ea_cons (ev_op (ev_var rfl) ev_c (rv_ixT (ex_t e12 hsq) (atI_nat (j := 1) rfl))) (ea_cons (ev_var rfl) ea_nil))) (spv_pol (hs.mono e12) (dp_mono e12 d1) hok.1 (hb.mono e12) hx hsh))
                  (ev_call (ea_cons (ev_var rfl) (ea_cons (ev_op (ev_var rfl) ev_c (rv_ixT (ex_t e12 hsq) (atI_nat (j := 2) rfl))) (ea_cons (ev_var rfl) ea_nil))) (spv_pol (hs.mono e12) (dp_mono e12 d2) hok.2 (hb.mono e12) hx hsh)) (rv_eq rfl)) ?_)
                  (ev_is (ev_op (ev_var rfl) ev_c (rv_eq rfl)) ?_) (rv_eq rfl)) ?_) fun H3 e3 => k H3 (e12.trans e3)
                · rw [dec_int]
                  rfl
                · cases e <;> rfl
                · unfold truth
                  by_cases z : pev p g1 x = pev p g2 x
                  · rw [decide_eq_true z]
                    cases e <;> rfl
                  · rw [decide_eq_false z]
                    cases e <;> rfl
  | d + 1 => by
    have ih := ok_istrue F B VA hm hb d
    have IT : Cal P w K mg base (4 + d) "is_true" ["space", "sentence", "point"] (spIsTrue K C d) := ⟨f, fd, ih, hm, F.kp, hb⟩
    refine F.ok (k := 4 + d) scIsTrue (fun vs H Q E h => ?_) (fun cdv A outer s H vs Q E hr h => ?_)
    · obtain ⟨sp, b, v, p, n, s, x, rfl, _⟩ := h
      rfl
    · obtain ⟨sp, b, v, p, n, sn, x, rfl, hs, hv, hok, hdep, hb, hx, hsh, k⟩ := h
      refine ⟨_, PSs.nox (pss_cons (ps_set (i := 3) scIsTrue.nd rfl (.inl rfl) (pe_ix ix_tup (pv 1) pe_int (fun _ _ => rfl)))
        (pss_cons (ps_if (PW.pt (pw_or (pt_cmpR op_eq (pv 3) pe_str (nomark _)) (pw_or1 (pt_cmpR op_eq (pv 3) pe_str (nomark _)))))
          (pss_one (ps_ret (pe_cmpR op_eq (pe_cmpR op_eq (pe_cal VA hr rfl (pa_cons (pv 0) (pa_cons (pe_ix ix_tup (pv 1) pe_int (fun _ _ => rfl)) (pa_cons (pv 2) pa_nil))) (by omega)) (pe_cal VA hr rfl (pa_cons (pv 0) (pa_cons (pe_ix ix_tup (pv 1) pe_int (fun _ _ => rfl)) (pa_cons (pv 2) pa_nil))) (by omega)) (nomark _))
            (pe_cmpR op_eq (pv 3) pe_str (nomark _)) (nomark _)))) pss_nil)
        (pss_cons (ps_set (i := 4) scIsTrue.nd rfl (.inl rfl) (pe_cal IT hr rfl (pa_cons (pv 0) (pa_cons (pe_ix ix_tup (pv 1) pe_int (fun _ _ => rfl)) (pa_cons (pv 2) pa_nil))) (Nat.le_refl _)))
        (pss_cons (ps_if (pt_cmpR op_eq (pv 3) pe_str (nomark _)) (pss_one (ps_ret (pe_not (pv 4)))) pss_nil)
        (pss_cons (ps_set (i := 5) scIsTrue.nd rfl (.inl rfl) (pe_cal IT hr rfl (pa_cons (pv 0) (pa_cons (pe_ix ix_tup (pv 1) pe_int (fun _ _ => rfl)) (pa_cons (pv 2) pa_nil))) (Nat.le_refl _)))
        (pss_cons (ps_if (pt_cmpR op_eq (pv 3) pe_str (nomark _)) (pss_one (ps_ret (pe_and (pv 4) (pe_one (pv 5))))) pss_nil)
        (pss_cons (ps_if (pt_cmpR op_eq (pv 3) pe_str (nomark _)) (pss_one (ps_ret (pe_or (pv 4) (pe_one (pv 5))))) pss_nil)
        (pss_one (ps_ret (pe_or (pv 5) (pe_one (pe_not (pv 4))))))))))))), ?_⟩
      cases sn with
      | cmp e g1 g2 =>
        obtain ⟨a, us, rfl, hsq, hall⟩ := dp_tup hv
        cases hall with
        | cons d0 hall =>
          cases hall with
          | cons d1 hall =>
            cases hall with
            | cons d2 hall =>
              cases hall
              cases d0
              refine q_asg (v := .str (if e = true then "=" else "/=")) (ev_op (ev_var rfl) ev_c (rv_ixT hsq (atI_nat (j := 0) rfl))) fun H1 e1 => ?_
              refine q_when (b := true) (et_is (et_or (a := e) (b := !e) (et_is (et_test (ev_op (ev_var rfl) ev_c (rv_eq rfl))) ?_) (fun _ => et_is (et_test (ev_op (ev_var rfl) ev_c (rv_eq rfl))) ?_)) (by cases e <;> rfl)) (fun _ H2 e2 => ?_) (fun hb => nomatch hb)
              · cases e <;> rfl
              · cases e <;> rfl
              · have e12 := e1.trans e2
                refine s_ret (v := .bl (truth p (.cmp e g1 g2) x)) (ev_is (ev_op (x := .bl (decide (pev p g1 x = pev p g2 x))) (y := .bl e) (ev_is (ev_op
                  (ev_call (ea_cons (ev_var rfl) (ea_cons (ev_op (ev_var rfl) ev_c (rv_ixT (ex_t e12 hsq) (atI_nat (j := 1) rfl))) (ea_cons (ev_var rfl) ea_nil))) (spv_pol (hs.mono e12) (dp_mono e12 d1) hok.1 (hb.mono e12) hx hsh))
                  (ev_call (ea_cons (ev_var rfl) (ea_cons (ev_op (ev_var rfl) ev_c (rv_ixT (ex_t e12 hsq) (atI_nat (j := 2) rfl))) (ea_cons (ev_var rfl) ea_nil))) (spv_pol (hs.mono e12) (dp_mono e12 d2) hok.2 (hb.mono e12) hx hsh)) (rv_eq rfl)) ?_)
                  (ev_is (ev_op (ev_var rfl) ev_c (rv_eq rfl)) ?_) (rv_eq rfl)) ?_) fun H3 e3 => k H3 (e12.trans e3)
                · rw [dec_int]
                  rfl
                · cases e <;> rfl
                · unfold truth
                  by_cases z : pev p g1 x = pev p g2 x
                  · rw [decide_eq_true z]
                    cases e <;> rfl
                  · rw [decide_eq_false z]
                    cases e <;> rfl
      | neg s1 =>
        obtain ⟨a, us, rfl, hsq, hall⟩ := dp_tup hv
        cases hall with
        | cons d0 hall =>
          cases hall with
          | cons d1 hall =>
            cases hall
            cases d0
            have hdep1 : s1.dep ≤ d := by
              have z : s1.dep + 1 ≤ d + 1 := hdep
              omega
            refine q_asg (v := .str "not") (ev_op (ev_var rfl) ev_c (rv_ixT hsq (atI_nat (j := 0) rfl))) fun H1 e1 => ?_
            refine q_when (b := false) (et_is (et_or (a := false) (b := false) (et_is (et_test (ev_op (ev_var rfl) ev_c (rv_eq rfl))) rfl) (fun _ => et_is (et_test (ev_op (ev_var rfl) ev_c (rv_eq rfl))) rfl)) rfl) (fun hb => nomatch hb) (fun _ H2 e2 => ?_)
            have e12 := e1.trans e2
            refine q_asg (v := .bl (truth p s1 x)) (ev_call (ea_cons (ev_var rfl) (ea_cons (ev_op (ev_var rfl) ev_c (rv_ixT (ex_t e12 hsq) (atI_nat (j := 1) rfl))) (ea_cons (ev_var rfl) ea_nil))) (fun H3 e3 Q2 q2 E2 => ⟨sp, b, _, p, n, s1, x, rfl, hs.mono (e12.trans e3), dp_mono (e12.trans e3) d1, hok, hdep1, hb.mono (e12.trans e3), hx, hsh, q2⟩)) fun H3 e3 => ?_
            refine q_when (b := true) (et_is (et_test (ev_op (ev_var rfl) ev_c (rv_eq rfl))) rfl) (fun _ H4 e4 => ?_) (fun hb => nomatch hb)
            exact s_ret (ev_notV (ev_var rfl)) fun H5 e5 => k H5 (((e12.trans e3).trans e4).trans e5)
      | bin op s1 s2 =>
        obtain ⟨a, us, rfl, hsq, hall⟩ := dp_tup hv
        cases hall with
        | cons d0 hall =>
          cases hall with
          | cons d1 hall =>
            cases hall with
            | cons d2 hall =>
              cases hall
              cases d0
              have hdep1 : s1.dep ≤ d ∧ s2.dep ≤ d := by
                have z : max s1.dep s2.dep + 1 ≤ d + 1 := hdep
                omega
              refine q_asg (v := .str (opS op)) (ev_op (ev_var rfl) ev_c (rv_ixT hsq (atI_nat (j := 0) rfl))) fun H1 e1 => ?_
              have hcase : op = 0 ∨ op = 1 ∨ ∃ m, op = m + 2 := by
                match op with
                | 0 => exact .inl rfl
                | 1 => exact .inr (.inl rfl)
                | m + 2 => exact .inr (.inr ⟨m, rfl⟩)
              have hne1 : decide (V.str (opS op) = V.str "=") = false := by
                rcases hcase with rfl | rfl | ⟨m, rfl⟩ <;> rfl
              have hne2 : decide (V.str (opS op) = V.str "/=") = false := by
                rcases hcase with rfl | rfl | ⟨m, rfl⟩ <;> rfl
              have hne3 : decide (V.str (opS op) = V.str "not") = false := by
                rcases hcase with rfl | rfl | ⟨m, rfl⟩ <;> rfl
              refine q_when (b := false) (et_is (et_or (a := false) (b := false) (et_is (et_test (ev_op (ev_var rfl) ev_c (rv_eq rfl))) hne1) (fun _ => et_is (et_test (ev_op (ev_var rfl) ev_c (rv_eq rfl))) hne2)) rfl) (fun hb => nomatch hb) (fun _ H2 e2 => ?_)
              have e12 := e1.trans e2
              refine q_asg (v := .bl (truth p s1 x)) (ev_call (ea_cons (ev_var rfl) (ea_cons (ev_op (ev_var rfl) ev_c (rv_ixT (ex_t e12 hsq) (atI_nat (j := 1) rfl))) (ea_cons (ev_var rfl) ea_nil))) (fun H3 e3 Q2 q2 E2 => ⟨sp, b, _, p, n, s1, x, rfl, hs.mono (e12.trans e3), dp_mono (e12.trans e3) d1, hok.1, hdep1.1, hb.mono (e12.trans e3), hx, hsh, q2⟩)) fun H3 e3 => ?_
              refine q_when (b := false) (et_is (et_test (ev_op (ev_var rfl) ev_c (rv_eq rfl))) hne3) (fun hb => nomatch hb) (fun _ H4 e4 => ?_)
              have e14 := (e12.trans e3).trans e4
              refine q_asg (v := .bl (truth p s2 x)) (ev_call (ea_cons (ev_var rfl) (ea_cons (ev_op (ev_var rfl) ev_c (rv_ixT (ex_t e14 hsq) (atI_nat (j := 2) rfl))) (ea_cons (ev_var rfl) ea_nil))) (fun H5 e5 Q2 q2 E2 => ⟨sp, b, _, p, n, s2, x, rfl, hs.mono (e14.trans e5), dp_mono (e14.trans e5) d2, hok.2, hdep1.2, hb.mono (e14.trans e5), hx, hsh, q2⟩)) fun H5 e5 => ?_
              have e15 := e14.trans e5
              rcases hcase with rfl | rfl | ⟨m, rfl⟩
              · refine q_when (b := true) (et_is (et_test (ev_op (ev_var rfl) ev_c (rv_eq rfl))) rfl) (fun _ H6 e6 => ?_) (fun hb => nomatch hb)
                exact s_ret (ev_andV (ev_var rfl) (fun _ => ev_var rfl)) fun H7 e7 => k H7 ((e15.trans e6).trans e7)
              · refine q_when (b := false) (et_is (et_test (ev_op (ev_var rfl) ev_c (rv_eq rfl))) rfl) (fun hb => nomatch hb) (fun _ H6 e6 => ?_)
                refine q_when (b := true) (et_is (et_test (ev_op (ev_var rfl) ev_c (rv_eq rfl))) rfl) (fun _ H7 e7 => ?_) (fun hb => nomatch hb)
                exact s_ret (ev_orV (ev_var rfl) (fun _ => ev_var rfl)) fun H8 e8 => k H8 (((e15.trans e6).trans e7).trans e8)
              · refine q_when (b := false) (et_is (et_test (ev_op (ev_var rfl) ev_c (rv_eq rfl))) rfl) (fun hb => nomatch hb) (fun _ H6 e6 => ?_)
                refine q_when (b := false) (et_is (et_test (ev_op (ev_var rfl) ev_c (rv_eq rfl))) rfl) (fun hb => nomatch hb) (fun _ H7 e7 => ?_)
                exact s_ret (ev_orV (ev_var rfl) (fun _ => ev_notV (ev_var rfl))) fun H8 e8 => k H8 (((e15.trans e6).trans e7).trans e8)
end
end Z7
end

section
set_option Elab.async false
set_option linter.all false
set_option maxRecDepth 100000
set_option maxHeartbeats 4000000
namespace Z7
open PySem L2 Evl RZ
/-- 0 where a sentence is true, 1 elsewhere -/
def senF (p : Nat) (s : Sen) : Pt → Int := fun x => if truth p s x = true then 0 else 1
section
variable {P : Program} {w : World} {K : Fg} {mg : Str → Option Value} {base : Heap} {f : Addr} {fd : FuncData}
def spPolSen (K : Fg) (C : Addr) : Sp := fun vs H Q _ => ∃ (sp : Addr) (v : V) (p n : Nat) (s : Sen), vs = [.ref sp, v] ∧ SpA C H sp p n ∧ Dp K H v (senD s) ∧ SenOk p n s ∧ s.dep ≤ 5 ∧ shapeOk p n ∧ RetP2 (PolV K p n (senF p s)) H Q
theorem ok_polsen {C : Addr} (F : FnP K "polynomial_of_sentence" "polynomial_of_sentence" sPolynomialOfSentence f fd) (B : Bi mg) (SF : SpF K C) (M : MCal P w K mg base 2 C "points" ["self"] (spPoints C)) (IT : Cal P w K mg base 9 "is_true" ["space", "sentence", "point"] (spIsTrue K C 5))
    (PO : Cal P w K mg base 3 "polynomial_of" ["space", "table"] (spPolyOf K C)) : FnOk P w K mg base CX0 10 f fd ["space", "sentence"] (spPolSen K C) := by
  refine F.ok scPolynomialOfSentence (fun vs H Q E h => ?_) (fun cdv A outer s H vs Q E hr h => ?_)
  · obtain ⟨sp, v, p, n, s, rfl, _⟩ := h
    rfl
  · obtain ⟨sp, v, p, n, sn, rfl, hs, hv, hok, hdep, hsh, k⟩ := h
    have hp1 := hsh.isP.lt
    have hsm := hsh.small
    refine ⟨_, PSs.nox (pss_one (ps_ret (pe_cal PO hr rfl (pa_cons (pv 0) (pa_cons (pe_lc (own := [("point", 2)]) (g := gName 2) (tt := tYes) rfl scPolynomialOfSentence.nd (pi_list (pe_mcal0 (pv 0) SF.cl M hr)) (blkOk_by (N := nPolynomialOfSentence) (sc := defScope sPolynomialOfSentence) (by decide +kernel))
      (fun _ _ _ _ _ => pg_name (i := 2) scPolynomialOfSentence.nd rfl (.inl rfl)) (fun _ _ _ _ _ => pts_nil) (fun _ _ _ _ _ => pe_callTy call_int1 rfl B.int PyProof.Rows.boot_int (pa_cons (pe_not (pe_cal IT hr rfl (pa_cons (pv 0) (pa_cons (pv 1) (pa_cons (pv 2) pa_nil))))) pa_nil))) pa_nil))))), ?_⟩
    have hlp : Evlp (tLc (iList K (tMeth C "points" (spPoints C) [] E0 (tVar 0) tNil)) (gName 2) tYes (tCB (fun xs H Q => (∃ i, xs = [V.int i] ∧ Q (.int i) H) ∨ ∃ k, xs = [.bl k] ∧ Q (.int (if k then 1 else 0)) H) (tCons (tNotV (tCall (spIsTrue K C 5) [] E0 (tCons (tVar 0) (tCons (tVar 1) (tCons (tVar 2) tNil))))) tNil)) [2]) [some (.ref sp), some v, none] H
        (((pts p n).filter fun _ => true).map fun x (v : V) (_ : Hp) => v = .int (senF p sn x)) := evlp_pts _ _ (evpts_points (ev_var rfl) hs hsh) (by rw [pts_count]; omega) (fun _ _ _ _ _ h => h) fun x q H2 hx e2 hq => by
      refine ⟨[some (.ref sp), some v, some (.ref q)], fun R r => r, rfl, et_yes, fun _ => evp_ev (v := .int (senF p sn x)) (ev_cb (ea_cons (ev_notV (a := truth p sn x) (ev_call (ea_cons (ev_var rfl) (ea_cons (ev_var rfl) (ea_cons (ev_var rfl) ea_nil))) fun H4 e4 Q3 q3 E3 => ⟨sp, q, v, p, n, sn, x, rfl, hs.mono (e2.trans e4), dp_mono (e2.trans e4) hv, hok, hdep, .inl (.inl (ex_pt e4 hq)), hx, hsh, q3⟩)) ea_nil) fun H4 e4 Q2 q2 => .inr ⟨!truth p sn x, rfl, ?_⟩) fun _ _ => rfl⟩
      have z : (if (!truth p sn x) = true then (1 : Int) else 0) = senF p sn x := by
        unfold senF
        cases truth p sn x <;> rfl
      rw [z]
      exact q2 H4 (Ex.refl H4)
    refine ⟨.ref sp, rfl, hlp H (Ex.refl H) _ fun l ws H1 hl e1 h1 hws => ?_⟩
    rw [List.filter_eq_self.mpr fun _ _ => rfl] at hws
    have hw : ws = ((pts p n).map (senF p sn)).map V.int := by
      refine allp_int (H := H1) ?_
      rw [List.map_map]
      exact hws
    rw [hw] at h1
    refine ⟨sp, l, p, n, senF p sn, rfl, hs.mono e1, hsh, sq_of h1, fun x hx => ?_, fun v2 H2 e2 h2 => k v2 H2 (e1.trans e2) h2⟩
    unfold senF
    split <;> omega
def spSystemOf (K : Fg) (CY C : Addr) : Sp := fun vs H Q _ => ∃ (sp l : Addr) (us : List V) (p n : Nat) (ss : List Sen), vs = [.ref sp, .ref l] ∧ SpA C H sp p n ∧ SqL K H l us ∧ DpAll K H us (ss.map senD) ∧ (∀ s ∈ ss, SenOk p n s ∧ s.dep ≤ 5) ∧ ss.length ≤ 100 ∧ shapeOk p n ∧
  ∀ a H2, Ex H H2 → SysA K CY C p n (ss.map (senF p)) a H2 → Q (.ref a) H2
theorem ok_systemof {CY C : Addr} (F : FnP K "system_of" "system_of" sSystemOf f fd) (B : Bi mg) (PS : Cal P w K mg base 10 "polynomial_of_sentence" ["space", "sentence"] (spPolSen K C)) (SI : CCal P w K mg base 1 CY "System" ["self", "space", "equations"] (spSysI K CY C)) :
    FnOk P w K mg base CX0 11 f fd ["space", "sentences"] (spSystemOf K CY C) := by
  refine F.ok scSystemOf (fun vs H Q E h => ?_) (fun cdv A outer s H vs Q E hr h => ?_)
  · obtain ⟨sp, l, us, p, n, ss, rfl, _⟩ := h
    rfl
  · obtain ⟨sp, l, us, p, n, ss, rfl, hs, hl, hall, hok, hz, hsh, k⟩ := h
    have hul : us.length = ss.length := by rw [dpa_len hall, List.length_map]
    refine ⟨_, PSs.nox (pss_one (ps_ret (pe_ccal SI hr rfl (pa_cons (pv 0) (pa_cons (pe_lc (own := [("sentence", 2)]) (g := gName 2) (tt := tYes) rfl scSystemOf.nd (pi_list (pv 1)) (blkOk_by (N := nSystemOf) (sc := defScope sSystemOf) (by decide +kernel))
      (fun _ _ _ _ _ => pg_name (i := 2) scSystemOf.nd rfl (.inl rfl)) (fun _ _ _ _ _ => pts_nil) (fun _ _ _ _ _ => pe_cal PS hr rfl (pa_cons (pv 0) (pa_cons (pv 2) pa_nil)))) pa_nil))))), ?_⟩
    have hlp : Evlp (tLc (iList K (tVar 1)) (gName 2) tYes (tCall (spPolSen K C) [] E0 (tCons (tVar 0) (tCons (tVar 2) tNil))) [2]) [some (.ref sp), some (.ref l), none] H (gvn us.length (fun _ => true) fun i => PolV K p n (senF p (ss.getD i (.cmp true [] [])))) :=
      evlp_lc (J := Itl K l) (fun H1 e1 R r => ⟨.ref l, rfl, l, rfl, ⟨_, ex_l e1 hl⟩, r H1 (Ex.refl H1)⟩) (walk_list (K := K) (a := l) (xs := us)) (by omega) (fun H' e => ex_l e hl) _ _ (fun _ => stab_polv) fun i v H1 H2 hi e1 hv => by
        obtain ⟨rfl, hv⟩ := hv
        obtain ⟨d, hd, hdp⟩ := dpa_get hall hv
        rw [List.getElem?_map] at hd
        obtain ⟨sn, hsn, rfl⟩ := Option.map_eq_some_iff.mp hd
        have eg : ss.getD i (.cmp true [] []) = sn := by
          rw [List.getD_eq_getElem?_getD, hsn] <;> rfl
        rw [eg]
        obtain ⟨o1, o2⟩ := hok sn (List.mem_of_getElem? hsn)
        exact ⟨Ex.refl _, [some (.ref sp), some (.ref l), some v], fun R r => r, rfl, et_yes, fun _ => fun H3 e3 Q2 q2 => ⟨.ref sp, rfl, v, rfl, sp, v, p, n, sn, rfl, hs.mono (e1.trans e3), dp_mono (e1.trans e3) hdp, o1, o2, hsh, fun v2 H4 e4 h4 => q2 v2 H4 e4 h4⟩⟩
    refine ⟨.ref sp, rfl, hlp H (Ex.refl H) _ fun el ws H1 hel e1 h1 hws => ?_⟩
    intro x dx hx hdx hne
    have e2 : Ex H1 (upd (upd H1 dx (.own x)) x (.ins CY dx [])) := (Ex.new hdx).trans (Ex.new (by rw [upd_ne (Ne.symm hne)]; exact hx))
    rw [hul, gvn_all] at hws
    have hws2 : AllP ((ss.map (senF p)).map (PolV K p n)) ws H1 := by
      rw [List.map_map]
      have z := range_getD (Sen.cmp true [] []) (fun s => PolV K p n (senF p s)) ss
      rw [z] at hws
      exact hws
    have hwl : ws.length = ss.length := by
      have z := hws2.len
      rw [List.length_map, List.length_map] at z
      exact z.symm
    refine ⟨x, dx, el, .ref sp, ws, rfl, upd_same, sq_of (e2 el _ h1), by omega, fun H' el2 eb hi' hel' => ⟨rfl, ?_⟩⟩
    have e3 : Ex H H' := (e1.trans (fun b o hb => eb b o (ne_of_none hb hx) (e2 b o hb)))
    have e13 : Ex H1 H' := fun b o hb => eb b o (ne_of_none hb hx) (e2 b o hb)
    exact k x H' e3 ⟨dx, sp, el2, ws, hi', hs.mono e3, hel', allp_ex e13 stab_polvs hws2⟩
end
end Z7
end

section
set_option Elab.async false
set_option linter.all false
set_option maxRecDepth 100000
set_option maxHeartbeats 4000000
namespace Z7
open PySem L2 Evl RZ
def Van (p n : Nat) (Fs : List (Pt → Int)) (F : Pt → Int) : Prop := ∀ x ∈ pts p n, solB Fs x = true → F x = 0
section
variable {P : Program} {w : World} {K : Fg} {mg : Str → Option Value} {base : Heap} {f : Addr} {fd : FuncData}
def spFollows (K : Fg) (CY C : Addr) : Sp := fun vs H Q _ => ∃ (a : Addr) (o : V) (p n : Nat) (Fs : List (Pt → Int)) (F : Pt → Int), vs = [.ref a, o] ∧ SysA K CY C p n Fs a H ∧ PolV K p n F o H ∧ Fs.length ≤ 100 ∧ shapeOk p n ∧
  (Van p n Fs F → ∀ t u H2, Ex H H2 → H2 t = some (.tup [.str "follows", u]) → Q (.ref t) H2) ∧ (¬ Van p n Fs F → ∀ t u H2, Ex H H2 → H2 t = some (.tup [.str "fails", u]) → Q (.ref t) H2)
theorem ok_follows {CY C : Addr} (F : FnP K "follows" "follows" sFollows f fd) (B : Bi mg) (S : SyF K CY) (SF : SpF K C) (FA : Cal P w K mg base 4 "factors" ["system", "one"] (spFactors K CY C)) (SO : MCal P w K mg base 5 CY "solutions" ["self"] (spSols K CY C)) (VA : Cal P w K mg base 3 "value" ["space", "one", "point"] (spValue K C)) :
    FnOk P w K mg base CX0 6 f fd ["system", "one"] (spFollows K CY C) := by
  refine F.ok scFollows (fun vs H Q E h => ?_) (fun cdv A outer s H vs Q E hr h => ?_)
  · obtain ⟨a, o, p, n, Fs, G, rfl, _⟩ := h
    rfl
  · obtain ⟨a, o, p, n, Fs, G, rfl, hsy, ho, hz, hsh, k1, k2⟩ := h
    have hsm := hsh.small
    refine ⟨_, PSs.nox (pss_cons (ps_set (i := 2) scFollows.nd rfl (.inl rfl) (pe_cal FA hr rfl (pa_cons (pv 0) (pa_cons (pv 1) pa_nil))))
      (pss_cons (ps_if (pt_cmp (pc_notN (pv 2))) (pss_one (ps_ret (pe_tup (pa_cons pe_str (pa_cons (pv 2) pa_nil))))) pss_nil)
      (pss_cons (ps_setLc (i := 3) (own := [("point", 4)]) (g := gName 4) (tt := tTest (tOp rNe (tCall (spValue K C) [] E0 (tCons (tFld K (tVar 0) "space") (tCons (tVar 1) (tCons (tVar 4) tNil)))) (tC (.int 0)))) rfl scFollows.nd rfl rfl (sw_true rfl rfl rfl (by decide +kernel)) (pi_list (pe_mcal0 (pv 0) S.cl SO hr)) (blkOk_by (N := nFollows) (sc := defScope sFollows) (by decide +kernel))
          (fun _ _ _ _ _ => pg_name (i := 4) scFollows.nd rfl (.inl rfl)) (fun _ _ _ _ _ => pts_one (pt_cmpR op_ne (pe_cal VA hr rfl (pa_cons (pe_fldB K (pv 0) rfl) (pa_cons (pv 1) (pa_cons (pv 4) pa_nil)))) pe_int (nomark _))) (fun _ _ _ _ _ => pv 4))
      (pss_one (ps_ret (pe_tup (pa_cons pe_str (pa_cons (pe_ix ix_list (pv 3) pe_int (fun _ _ => rfl)) pa_nil)))))))), ?_⟩
    have hsy0 := hsy
    obtain ⟨dx, sp, el, es, ha, hs, hel, hes⟩ := hsy
    refine q_asg0 ⟨.ref a, rfl, o, rfl, a, o, p, n, Fs, G, rfl, hsy0, ho, hz, hsh, fun hv H1 e1 => ?_, fun hv l ws H1 hl e1 h1 _ => ?_⟩
    · refine q_when (b := false) (fun H2 e2 Q2 q2 => ⟨.non, rfl, false, rfl, q2 H2 (Ex.refl H2)⟩) (fun hb => nomatch hb) (fun _ H2 e2 => ?_)
      have e02 := e1.trans e2
      refine q_asgLp (Ps := ((((pts p n).filter (solB Fs)).filter fun x => G x != 0).map IsPt)) ?_ fun pl ws H3 hpl e3 h3 hws => ?_
      · refine evlp_pts (fun x => G x != 0) IsPt (fun H3 e3 Q3 q3 => ⟨.ref a, rfl, a, dx, _, rfl, (e02.trans e3) a _ ha, rfl, a, p, n, Fs, rfl, hsy0.mono (e02.trans e3), hz, hsh, fun l as H4 hl e4 h4 has => q3 l as H4 hl e4 h4 has⟩) (by
          have z := List.length_filter_le (solB Fs) (pts p n)
          rw [pts_count] at z
          omega) stab_pt (fun x q H4 hx e4 hq => ?_)
        have hxm := (List.mem_filter.mp hx).1
        have e04 := e02.trans e4
        refine ⟨[some (.ref a), some o, some .non, none, some (.ref q)], fun R r => r, rfl, et_is (et_test (ev_op (x := .int (G x)) (ev_call (ea_cons (ev_fld (ev_var rfl) S.cl (S.no _ (by decide)) (e04 a _ ha) rfl) (ea_cons (ev_var rfl) (ea_cons (ev_var rfl) ea_nil))) (spv_value (hs.mono e04) (ho.mono e04) (.inl (.inl hq)) hxm hsh)) ev_c (rv_ne rfl))) ?_, fun _ => evp_self rfl hq⟩
        rw [dec_int]
        rfl
      · obtain ⟨as, rfl, hpa⟩ := allp_pts hws
        have hne : ∃ x ∈ pts p n, solB Fs x = true ∧ G x ≠ 0 := by
          refine Decidable.byContradiction fun z => hv fun x hx hsx => Decidable.byContradiction fun y => z ⟨x, hx, hsx, y⟩
        obtain ⟨x, hx, hsx, hgx⟩ := hne
        have hmem : x ∈ ((pts p n).filter (solB Fs)).filter fun x => G x != 0 := List.mem_filter.mpr ⟨List.mem_filter.mpr ⟨hx, hsx⟩, by simpa using hgx⟩
        have hpos : 0 < as.length := by
          rw [hpa.len]
          exact List.length_pos_of_mem hmem
        refine s_retU (eu_tup (ea_cons ev_c (ea_cons (ev_op (ev_var rfl) ev_c (rv_ixL (v := .ref as[0]) (sq_of h3) (atI_nat (j := 0) (by rw [List.getElem?_map, List.getElem?_eq_getElem hpos]; rfl)))) ea_nil)) (show 2 ≤ 100000 by decide)) fun t H4 ht e4 h4 => ?_
        exact k2 hv t _ H4 ((e02.trans e3).trans e4) h4
    · refine q_when (b := true) (fun H2 e2 Q2 q2 => ⟨.ref l, rfl, true, rfl, q2 H2 (Ex.refl H2)⟩) (fun _ H2 e2 => ?_) (fun hb => nomatch hb)
      refine s_retU (eu_tup (ea_cons ev_c (ea_cons (ev_var rfl) ea_nil)) (show 2 ≤ 100000 by decide)) fun t H4 ht e4 h4 => ?_
      exact k1 hv t _ H4 ((e1.trans e2).trans e4) h4
def Agree (p n : Nat) (Fs Gs : List (Pt → Int)) : Prop := ∀ x ∈ pts p n, solB Fs x = solB Gs x
def spCompare (K : Fg) (CY C : Addr) : Sp := fun vs H Q _ => ∃ (a b : Addr) (p n : Nat) (Fs Gs : List (Pt → Int)), vs = [.ref a, .ref b] ∧ SysA K CY C p n Fs a H ∧ SysA K CY C p n Gs b H ∧ Fs.length ≤ 100 ∧ Gs.length ≤ 100 ∧ shapeOk p n ∧
  (Agree p n Fs Gs → ∀ t u v H2, Ex H H2 → H2 t = some (.tup [.str "same", u, v]) → Q (.ref t) H2) ∧ (¬ Agree p n Fs Gs → ∀ t u H2, Ex H H2 → H2 t = some (.tup [.str "unlike", u]) → Q (.ref t) H2)
/-- factors of each equation -/
theorem evlp_factors {a el : Addr} {es : List V} {p n : Nat} {Fs Gs : List (Pt → Int)} {CY C : Addr} {te : TE} {σ : L2.St} {H : Hp} {i j : Nat} {vs : List Nat} (S : SyF K CY) (hsy : SysA K CY C p n Fs a H) (hF : Fs.length ≤ 100) (hsh : shapeOk p n)
    (hb : ∀ H1, Ex H H1 → ∀ R : It → Hp → Prop, R (Itl K el) H1 → iList K te σ H1 R) (hel : H el = some (.lst es)) (hes : AllP (Gs.map (PolV K p n)) es H) (hG : Gs.length ≤ 100) (hi : ∀ v, ((wipe σ vs).set j (some v))[i]? = some (some (.ref a))) (hj : ∀ v, ((wipe σ vs).set j (some v))[j]? = some (some v)) (hw : ∀ v, wipe ((wipe σ vs).set j (some v)) vs = wipe σ vs) :
    Evlp (tLc (iList K te) (gName j) tYes (tCall (spFactors K CY C) [] E0 (tCons (tVar i) (tCons (tVar j) tNil))) vs) σ H (gvn es.length (fun _ => true) (fun _ _ _ => True)) := by
  have hel2 : es.length = Gs.length := by
    have z := hes.len
    rw [List.length_map] at z
    exact z.symm
  refine evlp_lc (J := Itl K el) (fun H1 e1 R r => hb H1 e1 R (r H1 (Ex.refl H1))) (walk_list (K := K) (a := el) (xs := es)) (by omega) (fun H' e => sq_of (e el _ hel)) _ _ (fun _ _ _ _ _ h => h) fun m v H1 H2 hm e1 hv => ?_
  obtain ⟨rfl, hv⟩ := hv
  obtain ⟨G, hG1, hpv⟩ := polv_at hes hv
  refine ⟨Ex.refl _, (wipe σ vs).set j (some v), fun R r => r, hw v, et_yes, fun _ => fun H3 e3 Q2 q2 => ⟨.ref a, hi v, v, hj v, a, v, p, n, Fs, G, rfl, hsy.mono (e1.trans e3), hpv.mono (e1.trans e3), hF, hsh, fun _ H4 e4 => q2 _ H4 e4 True.intro, fun _ l ws H4 hl e4 h4 _ => q2 _ H4 e4 True.intro⟩⟩
theorem ok_compare {CY C : Addr} (F : FnP K "compare" "compare" sCompare f fd) (B : Bi mg) (S : SyF K CY) (SF : SpF K C) (M : MCal P w K mg base 2 C "points" ["self"] (spPoints C)) (FA : Cal P w K mg base 4 "factors" ["system", "one"] (spFactors K CY C)) (IS : MCal P w K mg base 4 CY "is_solution" ["self", "point"] (spIsSol K CY C)) :
    FnOk P w K mg base CX0 5 f fd ["one", "other"] (spCompare K CY C) := by
  refine F.ok scCompare (fun vs H Q E h => ?_) (fun cdv A outer s H vs Q E hr h => ?_)
  · obtain ⟨a, b, p, n, Fs, Gs, rfl, _⟩ := h
    rfl
  · obtain ⟨a, b, p, n, Fs, Gs, rfl, hsa, hsb, hF, hG, hsh, k1, k2⟩ := h
    have hsm := hsh.small
    refine ⟨_, PSs.nox (pss_cons (ps_for PassesOwn.never rfl (pi_list (pe_mcal0 (pe_fld (pv 0) rfl) SF.cl M hr)) (pg_name (i := 2) scCompare.nd rfl (.inl rfl))
        (pss_one (ps_if (pt_cmpR op_ne (pe_mcal (pv 0) S.cl IS hr (pa_cons (pv 2) pa_nil)) (pe_mcal (pv 1) S.cl IS hr (pa_cons (pv 2) pa_nil)) (nomark _)) (pss_one (ps_ret (pe_tup (pa_cons pe_str (pa_cons (pv 2) pa_nil))))) pss_nil)))
      (pss_cons (ps_setLc (i := 3) (own := [("equation", 4)]) (g := gName 4) (tt := tYes) rfl scCompare.nd rfl rfl (sw_true rfl rfl rfl (by decide +kernel)) (pi_list (pe_fld (pv 1) rfl)) (blkOk_by (N := nCompare) (sc := defScope sCompare) (by decide +kernel))
          (fun _ _ _ _ _ => pg_name (i := 4) scCompare.nd rfl (.inl rfl)) (fun _ _ _ _ _ => pts_nil) (fun _ _ _ _ _ => pe_cal FA hr rfl (pa_cons (pv 0) (pa_cons (pv 4) pa_nil))))
      (pss_one (ps_ret (pe_tup (pa_cons pe_str (pa_cons (pv 3) (pa_cons (pe_lc (own := [("equation", 4)]) (g := gName 4) (tt := tYes) rfl scCompare.nd (pi_list (pe_fld (pv 0) rfl)) (blkOk_by (N := nCompare) (sc := defScope sCompare) (by decide +kernel))
          (fun _ _ _ _ _ => pg_name (i := 4) scCompare.nd rfl (.inl rfl)) (fun _ _ _ _ _ => pts_nil) (fun _ _ _ _ _ => pe_cal FA hr rfl (pa_cons (pv 1) (pa_cons (pv 4) pa_nil)))) pa_nil)))))))), ?_⟩
    have hsa0 := hsa
    have hsb0 := hsb
    obtain ⟨dx, sp, el, es, ha, hs, hel, hes⟩ := hsa
    obtain ⟨dx2, sp2, el2, es2, ha2, hs2, hel2, hes2⟩ := hsb
    obtain ⟨dxs, nms, hsi⟩ := hs
    refine q_for0 ⟨.ref a, rfl, a, CY, dx, _, .ref sp, rfl, ha, S.cl, S.no _ (by decide), rfl, sp, dxs, _, rfl, hsi, rfl, sp, p, n, rfl, ⟨dxs, nms, hsi⟩, hsh, fun l as H1 hl e1 h1 has => ⟨l, rfl, ⟨_, sq_of h1⟩, ?_⟩⟩
    have hasl : as.length = (pts p n).length := has.len
    refine forB_go (n := (as.map V.ref).length) (walk_list (K := K) (a := l) (xs := as.map V.ref)) (fun j σ H' => Ex H1 H' ∧ (∃ z, σ = [some (.ref a), some (.ref b), z, none, none]) ∧ ∀ x ∈ (pts p n).take j, solB Fs x = solB Gs x) ⟨Ex.refl _, ⟨_, rfl⟩, fun x hx => by rw [List.take_zero] at hx; exact absurd hx List.not_mem_nil⟩
      (fun j σ H' _ pv => sq_of (pv.1 l _ h1)) ?_ ?_
    · rintro j v σ H2 H3 hj ⟨ex, ⟨z, rfl⟩, hag⟩ ⟨rfl, hv⟩
      obtain ⟨q, x, rfl, hq, hx, hqx⟩ := has.at hv
      have hxm : x ∈ pts p n := List.mem_of_getElem? hx
      have hq3 : PtA H3 q x := ex_pt ex hqx
      have e03 := e1.trans ex
      have etk : (pts p n).take (j + 1) = (pts p n).take j ++ [x] := by
        rw [List.take_add_one, hx]
        rfl
      refine s_when (b := !decide (solB Fs x = solB Gs x)) (et_is (et_test (ev_op (x := .bl (solB Fs x)) (y := .bl (solB Gs x))
          (fun H4 e4 Q2 q2 => ⟨.ref a, rfl, a, dx, _, rfl, (e03.trans e4) a _ ha, rfl, .ref q, rfl, a, q, p, n, Fs, x, rfl, hsa0.mono (e03.trans e4), hF, hsh, .inl (.inl (ex_pt e4 hq3)), hxm, fun H5 e5 => q2 H5 e5⟩)
          (fun H4 e4 Q2 q2 => ⟨.ref b, rfl, b, dx2, _, rfl, (e03.trans e4) b _ ha2, rfl, .ref q, rfl, b, q, p, n, Gs, x, rfl, hsb0.mono (e03.trans e4), hG, hsh, .inl (.inl (ex_pt e4 hq3)), hxm, fun H5 e5 => q2 H5 e5⟩) (rv_ne rfl))) ?_) (fun hb H4 e4 => ?_) (fun hb H4 e4 => ?_)
      · cases solB Fs x <;> cases solB Gs x <;> rfl
      · have hne : ¬ solB Fs x = solB Gs x := fun z => by
          rw [decide_eq_true z] at hb
          cases hb
        refine s_retU (eu_tup (ea_cons ev_c (ea_cons (ev_var rfl) ea_nil)) (show 2 ≤ 100000 by decide)) fun t H5 ht e5 h5 => ?_
        exact k2 (fun z => hne (z x hxm)) t _ H5 ((e03.trans e4).trans e5) h5
      · have heq : solB Fs x = solB Gs x := Decidable.byContradiction fun z => by
          rw [decide_eq_false z] at hb
          cases hb
        refine ⟨ex.trans e4, ⟨_, rfl⟩, fun y hy => ?_⟩
        rw [etk] at hy
        rcases List.mem_append.mp hy with hy | hy
        · exact hag y hy
        · rw [List.mem_singleton.mp hy]
          exact heq
    · rintro σ H2 ⟨ex, ⟨z, rfl⟩, hag⟩
      have hal2 : (pts p n).take (as.map V.ref).length = pts p n := by
        rw [List.length_map, hasl, List.take_length]
      rw [hal2] at hag
      have e02 := e1.trans ex
      refine q_asgLp (evlp_factors (te := tFld K (tVar 1) "equations") (σ := [some (.ref a), some (.ref b), z, none, none]) (i := 0) (j := 4) (vs := [4]) (el := el2) (es := es2) (Gs := Gs) S (hsa0.mono e02) hF hsh (fun H3 e3 R r => ⟨.ref b, rfl, b, CY, dx2, _, .ref el2, rfl, (e02.trans e3) b _ ha2, S.cl, S.no _ (by decide), rfl, el2, rfl, ⟨_, sq_of ((e02.trans e3) el2 _ hel2)⟩, r⟩) (e02 el2 _ hel2) (allp_ex e02 stab_polvs hes2) hG (fun _ => rfl) (fun _ => rfl) (fun _ => rfl)) fun q ws H3 hq e3 h3 hws => ?_
      have e03 := e02.trans e3
      have hlc := evlp_factors (te := tFld K (tVar 0) "equations") (σ := [some (.ref a), some (.ref b), z, some (.ref q), none]) (i := 1) (j := 4) (vs := [4]) (el := el) (es := es) (Gs := Fs) S (hsb0.mono e03) hG hsh (fun H4 e4 R r => ⟨.ref a, rfl, a, CY, dx, _, .ref el, rfl, (e03.trans e4) a _ ha, S.cl, S.no _ (by decide), rfl, el, rfl, ⟨_, sq_of ((e03.trans e4) el _ hel)⟩, r⟩) (e03 el _ hel) (allp_ex e03 stab_polvs hes) hF (fun _ => rfl) (fun _ => rfl) (fun _ => rfl)
      refine ⟨.ref q, rfl, hlc H3 (Ex.refl H3) _ fun q2 ws2 H4 hq2 e4 h4 hws2 => ⟨by show 3 ≤ sizeLine; exact sz_of (by decide), fun t ht => ?_⟩⟩
      exact k1 hag t _ _ _ ((e03.trans e4).trans (Ex.new ht)) upd_same
end
end Z7
end

section
set_option Elab.async false
set_option linter.all false
set_option maxRecDepth 100000
set_option maxHeartbeats 4000000
namespace Z7
open PySem L2 Evl RZ
/-! ### rows -/
abbrev RwF (K : Fg) (C : Addr) : Prop := ClsF K C ["space", "points", "rows"]
/-- a kept row: the values at xs of the polynomial whose numbers stand beside it -/
def RowV (p n : Nat) (xs : List Pt) (v : V) (H : Hp) : Prop := ∃ (T rl pd : Addr) (i : Nat) (g : Pol), v = .ref T ∧ H T = some (.tup [.int (i : Int), .ref rl, .ref pd]) ∧ H rl = some (.lst ((xs.map (pev p g)).map V.int)) ∧ H pd = some (.dT (dE g)) ∧ (g.map (·.1)).Nodup ∧ (∀ t ∈ g, t.1 ∈ pts p n) ∧ i < xs.length
theorem RowV.mono {p n : Nat} {xs : List Pt} {v : V} {H H' : Hp} (h : RowV p n xs v H) (e : Ex H H') : RowV p n xs v H' := by
  obtain ⟨T, rl, pd, i, g, h1, h2, h3, h4, h5⟩ := h
  exact ⟨T, rl, pd, i, g, h1, e T _ h2, e rl _ h3, e pd _ h4, h5⟩
def RowsA (K : Fg) (CR C : Addr) (p n : Nat) (xs : List Pt) (s rs : Addr) (m : Nat) (H : Hp) : Prop := ∃ dx sp pl as vs, H s = some (.ins CR dx [("space", .ref sp), ("points", .ref pl), ("rows", .ref rs)]) ∧ SpA C H sp p n ∧ (H pl = some (.lst (as.map V.ref)) ∧ pl ≠ rs) ∧ PtsA H as xs ∧ H rs = some (.lst vs) ∧ vs.length ≤ m ∧ ∀ v ∈ vs, RowV p n xs v H
theorem RowsA.mono {K : Fg} {CR C : Addr} {p n : Nat} {xs : List Pt} {s rs : Addr} {m : Nat} {H H' : Hp} (h : RowsA K CR C p n xs s rs m H) (e : Ex H H') : RowsA K CR C p n xs s rs m H' := by
  obtain ⟨dx, sp, pl, as, vs, h1, h2, h3, h4, h5, h6, h7⟩ := h
  exact ⟨dx, sp, pl, as, vs, e s _ h1, h2.mono e, ⟨e pl _ h3.1, h3.2⟩, ex_pts e h4, e rs _ h5, h6, fun v hv => (h7 v hv).mono e⟩
theorem psum_take {g : Pol} {m : Nat} {t : Pt × Int} {x : Pt} (h : g[m]? = some t) : psum (g.take (m + 1)) x = psum (g.take m) x + t.2 * mon t.1 x := by
  rw [List.take_add_one, h, psum_app]
  show _ + psum [t] x = _
  rw [psum_cons, psum_nil, Int.add_zero]
theorem less_step {p : Int} {f : Pol} {k : Pt} {c pm : Int} {x : Pt} {S : Int} (hn : (f.map (·.1)).Nodup) (h : psum f x % p = S % p) : psum (pu f k (((gp f k).getD 0 - c * pm) % p)) x % p = (S - c * (pm * mon k x)) % p := by
  rw [psum_pu hn]
  generalize (gp f k).getD 0 = o
  have e1 : (o - c * pm) % p = o - c * pm - p * ((o - c * pm) / p) := by
    have := Int.emod_add_mul_ediv (o - c * pm) p
    omega
  rw [e1]
  generalize (o - c * pm) / p = q
  have e2 : psum f x + (o - c * pm - p * q - o) * mon k x = (psum f x - c * (pm * mon k x)) - p * (q * mon k x) := by
    rw [show o - c * pm - p * q - o = -(c * pm) - p * q by omega, Int.sub_mul, Int.neg_mul, Int.mul_assoc, Int.mul_assoc]
    omega
  rw [e2, Int.sub_mul_emod_self_left, Int.sub_emod, h, ← Int.sub_emod]
theorem less_val {p : Int} (f g f' : Pol) (c : Int) (x : Pt) (h : psum f' x % p = (psum f x - c * psum g x) % p) : pev p f' x = (pev p f x - c * pev p g x) % p := by
  unfold pev
  rw [h]
  have a1 := Int.emod_add_mul_ediv (psum f x) p
  have a2 := Int.emod_add_mul_ediv (psum g x) p
  generalize psum f x % p = F at a1
  generalize psum g x % p = G at a2
  generalize psum f x / p = u at a1
  generalize psum g x / p = v at a2
  rw [← a1, ← a2, Int.mul_add]
  have e : F + p * u - (c * G + c * (p * v)) = (F - c * G) + p * (u - c * v) := by
    rw [Int.mul_sub, Int.mul_left_comm p c v]
    omega
  rw [e, Int.add_mul_emod_self_left]
section
variable {P : Program} {w : World} {K : Fg} {mg : Str → Option Value} {base : Heap} {f : Addr} {fd : FuncData}
def spRowsI (K : Fg) (CR C : Addr) : Sp := fun vs H Q _ => ∃ (x dx : Addr) (sp pl : V), vs = [.ref x, sp, pl] ∧ H x = some (.ins CR dx []) ∧
  ∀ H' rs, ExB x H H' → H rs = none → H' x = some (.ins CR dx [("space", sp), ("points", pl), ("rows", .ref rs)]) → H' rs = some (.lst []) → Q .non H'
theorem ok_rowsI {CR C : Addr} (F : FnP K "__init__" "Rows.__init__" sRowsInit f fd) (S : RwF K CR) : FnOk P w K mg base CX0 1 f fd ["self", "space", "points"] (spRowsI K CR C) := by
  refine F.ok scRowsInit (fun vs H Q E h => ?_) (fun cdv A outer s H vs Q E hr h => ?_)
  · obtain ⟨x, dx, sp, pl, rfl, _⟩ := h
    rfl
  · obtain ⟨x, dx, sp, pl, rfl, hx, k⟩ := h
    refine ⟨_, PSs.nox (pss_cons (ps_fld (pv 0) (pv 1) rfl) (pss_cons (ps_fld (pv 0) (pv 2) rfl) (pss_one (ps_fld (pv 0) (pe_lst pa_nil) rfl)))), ?_⟩
    refine q_fld (ev_var rfl) (ev_var rfl) hx S.cl (S.no _ (by decide)) (by decide) fun H1 e1 => ?_
    have b1 : ExB x H _ := ((ExB.of e1).trans (ExB.upd (a := x) (H := H1) (o := .ins CR dx (putF "space" sp []))))
    refine q_fld (a := x) (C := CR) (dx := dx) (ev_var rfl) (ev_var rfl) upd_same S.cl (S.no _ (by decide)) (show 1 < 1000 by decide) fun H2 e2 => ?_
    have b2 := (b1.trans (ExB.of e2)).trans (ExB.upd (a := x) (H := H2) (o := .ins CR dx (putF "points" pl (putF "space" sp []))))
    refine s_fldL (xs := []) (el_lst ea_nil (by decide)) (ev_var rfl) upd_same S.cl (S.no _ (by decide)) (show 2 < 1000 by decide) fun q H3 hq e3 h3 => ?_
    have hqx : q ≠ x := fun z => by
      rw [z, upd_same] at hq
      cases hq
    have hq0 : H q = none := by
      cases h : H q with
      | none => rfl
      | some o =>
        rw [b2 q o hqx h] at hq
        cases hq
    exact k _ q ((b2.trans (ExB.of e3)).trans ExB.upd) hq0 upd_same (by rw [upd_ne hqx]; exact h3)
def spLess (K : Fg) (CR C : Addr) : Sp := fun vs H Q _ => ∃ (s rs vl nd : Addr) (p n m : Nat) (xs : List Pt) (g : Pol) (H0 : Hp), vs = [.ref s, .ref vl, .ref nd] ∧ Ex H0 H ∧ H0 nd = none ∧ RowsA K CR C p n xs s rs m H0 ∧ (1 < p ∧ p ≤ 7) ∧ p ^ n ≤ 1000 ∧ xs.length ≤ 1000 ∧
  H vl = some (.lst ((xs.map (pev p g)).map V.int)) ∧ H nd = some (.dT (dE g)) ∧ (g.map (·.1)).Nodup ∧ (∀ t ∈ g, t.1 ∈ pts p n) ∧
  ∀ T vl' g' H', ExB nd H H' → H' T = some (.tup [.ref vl', .ref nd]) → H' vl' = some (.lst ((xs.map (pev p g')).map V.int)) → H' nd = some (.dT (dE g')) → (g'.map (·.1)).Nodup → (∀ t ∈ g', t.1 ∈ pts p n) → (xs = [] → g' = g) → Q (.ref T) H'
theorem ok_less {CR C : Addr} (F : FnP K "lessened" "Rows.lessened" sRowsLessened f fd) (B : Bi mg) (S : RwF K CR) (SF : SpF K C) : FnOk P w K mg base CX0 1 f fd ["self", "values", "numbers"] (spLess K CR C) := by
  refine F.ok scRowsLessened (fun vs H Q E h => ?_) (fun cdv A outer s_1 H vs Q E hr h => ?_)
  · obtain ⟨s, rs, vl, nd, p, n, m, xs, g, H0, rfl, _⟩ := h
    rfl
  · obtain ⟨s, rs, vl, nd, p, n, m, xs, g, H0, rfl, e0, hnd0, hrows, hp, hpn, hxl, hvl, hnd, hg, hgk, k⟩ := h
    have hu := hr.units
    have hu1 : (A.deeper (PyProof.Rows.envOfC "Rows.lessened" (defScope sRowsLessened) s_1.heap.objs.size f cdv)).units + 1 < cLine := by omega
    refine ⟨_, PSs.nox (pss_cons (ps_set (i := 3) scRowsLessened.nd rfl (.inr rfl) (pe_fld (pe_fld (pv 0) rfl) rfl))
      (pss_cons (ps_for PassesOwn.never rfl (pi_list (pe_fld (pv 0) rfl)) (pg_tup rfl (pgs_cons (pg_name (i := 4) scRowsLessened.nd rfl (.inl rfl)) (pgs_cons (pg_name (i := 5) scRowsLessened.nd rfl (.inl rfl)) (pgs_cons (pg_name (i := 6) scRowsLessened.nd rfl (.inl rfl)) pgs_nil))))
        (pss_cons (ps_set (i := 7) scRowsLessened.nd rfl (.inr rfl) (pe_ix ix_list (pv 1) (pv 4) (fun _ _ => rfl)))
        (pss_one (ps_if (pt_cmpR op_ne (pv 7) pe_int (nomark _))
          (pss_cons (ps_setLc (i := 1) (own := [("here", 9), ("there", 10)]) (g := gTup K 2 (gCons (gName 9) (gCons (gName 10) gNil))) (tt := tYes) rfl scRowsLessened.nd rfl rfl (sw_true rfl rfl rfl (by decide +kernel)) (pi_zipA rfl B.zip (pa_cons (pv 1) (pa_cons (pv 5) pa_nil))) (blkOk_by (N := nRowsLessened) (sc := defScope sRowsLessened) (by decide +kernel))
              (fun _ _ _ _ _ => pg_tup rfl (pgs_cons (pg_name (i := 9) scRowsLessened.nd rfl (.inl rfl)) (pgs_cons (pg_name (i := 10) scRowsLessened.nd rfl (.inl rfl)) pgs_nil))) (fun _ _ _ _ _ => pts_nil) (fun _ _ _ _ _ => pe_op op_mod (pe_op op_sub (pv 9) (pe_op op_mul (pv 7) (pv 10))) (pv 3)))
          (pss_one (ps_lock (ps_for PassesOwn.never rfl (pi_keys (pv 6)) (pg_name (i := 8) scRowsLessened.nd rfl (.inl rfl))
            (pss_one (ps_dput hu1 (pv 2) (pv 8) (pe_op op_mod (pe_op op_sub (pe_dget2 hu1 (pv 2) (pv 8) pe_int ⟨rfl, rfl, rfl, rfl⟩) (pe_op op_mul (pv 7) (pe_dget hu1 (pv 6) (pv 8) (fun _ _ => rfl)))) (pv 3)) rfl)))))) pss_nil))))
      (pss_one (ps_ret (pe_tup (pa_cons (pv 1) (pa_cons (pv 2) pa_nil))))))), ?_⟩
    have hp1 : (1 : Int) < (p : Int) := by omega
    have hpp : (0 : Int) < (p : Int) := by omega
    obtain ⟨dx, sp, pl, as, vs, hs, ⟨dxs, nms, hsi⟩, hpl, has, hrs, hvl0, hrv⟩ := hrows
    have back : ∀ {H'}, ExB nd H H' → Ex H0 H' := fun {H'} eb b o hb => eb b o (ne_of_none hb hnd0) (e0 b o hb)
    have gl : ∀ {g : Pol}, (g.map (·.1)).Nodup → (∀ t ∈ g, t.1 ∈ pts p n) → g.length ≤ 1000 := fun {g} h1 h2 => by
      have z := nodup_len (m := pts p n) h1 fun a ha => by
        obtain ⟨t, ht, rfl⟩ := List.mem_map.mp ha
        exact h2 t ht
      rw [List.length_map, pts_count] at z
      omega
    refine q_asg (ev_prime SF (ev_fld (ev_var rfl) S.cl (S.no _ (by decide)) (e0 s _ hs) rfl) ⟨dxs, nms, e0 sp _ hsi⟩) fun H1 e1 => ?_
    refine q_forIt (J := Itl K rs) (fun H2 e2 R r => ⟨.ref s, rfl, s, CR, dx, _, .ref rs, rfl, (e0.trans (e1.trans e2)) s _ hs, S.cl, S.no _ (by decide), rfl, rs, rfl, ⟨_, sq_of ((e0.trans (e1.trans e2)) rs _ hrs)⟩, r H2 (Ex.refl H2)⟩) (walk_list (K := K) (a := rs) (xs := vs))
      (fun i σ H' => ExB nd H H' ∧ ∃ vl g' z4 z5 z6 z7 z8, σ = [some (.ref s), some (.ref vl), some (.ref nd), some (.int (p : Int)), z4, z5, z6, z7, z8, none, none] ∧ H' vl = some (.lst ((xs.map (pev p g')).map V.int)) ∧ H' nd = some (.dT (dE g')) ∧ (g'.map (·.1)).Nodup ∧ (∀ t ∈ g', t.1 ∈ pts p n) ∧ (xs = [] → g' = g))
      (fun H2 e2 => ⟨ExB.of (e1.trans e2), vl, g, none, none, none, none, none, rfl, (e1.trans e2) vl _ hvl, (e1.trans e2) nd _ hnd, hg, hgk, fun _ => rfl⟩)
      (fun i σ H' _ pv => sq_of (back pv.1 rs _ hrs)) ?_ ?_
    · rintro i v σ H2 H3 hi ⟨eb, vl2, g2, z4, z5, z6, z7, z8, rfl, hvl2, hnd2, hg2, hgk2, hx2⟩ ⟨rfl, hv⟩
      obtain ⟨T, rl, pd, at_, q, rfl, hT, hrl, hpd, hqn, hqk, hat⟩ := hrv _ (List.mem_of_getElem? hv)
      have e03 := back eb
      have hxne : xs ≠ [] := fun z => by
        rw [z] at hat
        exact absurd hat (Nat.not_lt_zero _)
      refine gtup3 (st_of (e03 T _ hT)) ?_
      have hvat : ((xs.map (pev p g2)).map V.int)[at_]? = some (.int (pev p g2 (xs.getD at_ []))) := by
        rw [List.getElem?_map, List.getElem?_map, List.getElem?_eq_getElem hat, List.getD_eq_getElem?_getD, List.getElem?_eq_getElem hat] <;> rfl
      generalize hc : pev p g2 (xs.getD at_ []) = c at hvat
      have hcb : 0 ≤ c ∧ c < (p : Int) := by
        rw [← hc]
        exact pev_bd hp1 g2 _
      refine q_asg (ev_op (ev_var rfl) (ev_var rfl) (rv_ixL (v := .int c) (sq_of hvl2) (atI_nat hvat))) fun H4 e4 => ?_
      have eb4 := eb.trans (ExB.of e4)
      refine s_when (b := decide (c ≠ 0)) (et_is (et_test (ev_op (ev_var rfl) ev_c (rv_ne rfl))) ?_) (fun hb H5 e5 => ?_) (fun hb H5 e5 => ?_)
      · rw [dec_int]
        by_cases y1 : c = 0
        · rw [y1]
          rfl
        · simp [y1]
      · have eb5 := eb4.trans (ExB.of e5)
        have e05 := back eb5
        have hvl5 := e5 vl2 _ (e4 vl2 _ hvl2)
        have hnd5 := e5 nd _ (e4 nd _ hnd2)
        have hrl5 := e05 rl _ hrl
        -- the new values
        refine q_asgLp (Ps := ((xs.map fun x => (pev p g2 x - c * pev p q x) % (p : Int)).map fun b (v : V) (_ : Hp) => v = V.int b)) ?_ fun vl3 ws H6 hvl3 e6 h6 hws => ?_
        · have z : (xs.map fun x => (pev p g2 x - c * pev p q x) % (p : Int)) = gvn xs.length (fun _ => true) fun i => (pev p g2 (xs.getD i []) - c * pev p q (xs.getD i [])) % (p : Int) := by
            rw [gvn_all]
            exact (range_getD ([] : Pt) (fun x => (pev p g2 x - c * pev p q x) % (p : Int)) xs).symm
          rw [z, ← gvn_int]
          refine evlp_lc (J := Itz K vl2 rl) (fun H6 e6 R r => ⟨.ref vl2, rfl, .ref rl, rfl, vl2, rl, _, _, rfl, .inl ⟨sq_of (e6 vl2 _ hvl5), sq_of (e6 rl _ hrl5), r H6 (Ex.refl H6)⟩⟩) (walk_zip (K := K) (a := vl2) (b := rl) (xs := (xs.map (pev p g2)).map V.int) (ys := (xs.map (pev p q)).map V.int) (by simp)) (by omega) (fun H' e => ⟨sq_of (e vl2 _ hvl5), sq_of (e rl _ hrl5)⟩) _ _ (fun _ _ _ _ _ h => h) (fun j v H6 H7 hj e6 hv => ?_)
          obtain ⟨T2, u1, u2, rfl, hT2, rfl, h1, h2⟩ := hv
          have h1 : ((xs.map (pev p g2)).map V.int)[j]? = some u1 := h1
          have h2 : ((xs.map (pev p q)).map V.int)[j]? = some u2 := h2
          rw [List.getElem?_map, List.getElem?_map, List.getElem?_eq_getElem hj] at h1 h2
          cases h1
          cases h2
          have eg : xs.getD j [] = xs[j] := by
            rw [List.getD_eq_getElem?_getD, List.getElem?_eq_getElem hj] <;> rfl
          rw [eg]
          exact ⟨Ex.new hT2, _, fun R r => gtup2 (st_of upd_same) r, rfl, et_yes, fun _ => evp_ev (ev_op (ev_op (ev_var rfl) (ev_op (ev_var rfl) (ev_var rfl) (rv_I (.inl ⟨by omega, by omega⟩))) rv_I0) (ev_var rfl) (rv_I hpp)) fun _ _ => rfl⟩
        · rw [allp_int hws] at h6
          have eb6 := eb5.trans (ExB.of e6)
          have e06 := back eb6
          have hnd6 := e6 nd _ hnd5
          have hpd6 := e06 pd _ hpd
          have hpdnd : pd ≠ nd := ne_of_none hpd hnd0
          have hvlnd : vl3 ≠ nd := fun z => by
            rw [z, hnd5] at hvl3
            cases hvl3
          have hvlpd : vl3 ≠ pd := fun z => by
            rw [z, e05 pd _ hpd] at hvl3
            cases hvl3
          refine ⟨pd, .dT (dE q), hpd6, True.intro, fun od => ?_⟩
          have lk : ExB pd H6 (upd H6 pd (.frz od (.dT (dE q)))) := ExB.upd
          refine s_forIt (J := Itkt pd od (dE q)) (fun H7 e7 R r => ⟨.ref pd, rfl, pd, od, rfl, .inr ⟨dE q, e7 pd _ upd_same, r H7 (Ex.refl H7)⟩⟩) (walk_keysT (d := pd) (o := od) (kvs := dE q))
            (fun j σ H' => H' pd = some (.frz od (.dT (dE q))) ∧ (∀ b o, b ≠ pd → b ≠ nd → H6 b = some o → H' b = some o) ∧ ∃ g3 y8, σ = [some (.ref s), some (.ref vl3), some (.ref nd), some (.int (p : Int)), some (.int (at_ : Int)), some (.ref rl), some (.ref pd), some (.int c), y8, none, none] ∧ H' nd = some (.dT (dE g3)) ∧ (g3.map (·.1)).Nodup ∧ (∀ t ∈ g3, t.1 ∈ pts p n) ∧
              ∀ x, psum g3 x % (p : Int) = (psum g2 x - c * psum (q.take j) x) % (p : Int)) (fun H7 e7 => ?_) (fun j σ H' _ pv => pv.1) ?_ ?_
          · refine ⟨e7 pd _ upd_same, fun b o h1 h2 h3 => e7 b o (by rw [upd_ne h1]; exact h3), g2, _, rfl, e7 nd _ (by rw [upd_ne (Ne.symm hpdnd)]; exact hnd6), hg2, hgk2, fun x => ?_⟩
            rw [List.take_zero, psum_nil, Int.mul_zero, Int.sub_zero]
          · rintro j v σ H7 H8 hj ⟨hfz, hst, g3, y8, rfl, hnd7, hg3, hgk3, hps⟩ ⟨rfl, kk, vv, qa, hkv, rfl, hqa⟩
            rw [dE_len] at hj
            have eq1 : q[j]? = some q[j] := List.getElem?_eq_getElem hj
            have eq2 : (dE q)[j]? = some (kp q[j].1, .int q[j].2) := by
              unfold dE
              rw [List.getElem?_map, eq1] <;> rfl
            rw [eq2] at hkv
            cases hkv
            have hqa2 : PtA H8 qa q[j].1 := kp_pta hqa
            have hgq : gp q q[j].1 = some q[j].2 := gp_of_mem hqn (List.getElem_mem hj)
            have hev : Ev (tOp (rI (fun _ j => 0 < j) fun i j => .int (i % j)) (tOp (rI0 fun i j => .int (i - j)) (tDGet2 (tVar 2) (tVar 8) (tC (.int 0))) (tOp (rI CMul fun i j => .int (i * j)) (tVar 7) (tDGet (tVar 6) (tVar 8)))) (tVar 3))
                [some (.ref s), some (.ref vl3), some (.ref nd), some (.int (p : Int)), some (.int (at_ : Int)), some (.ref rl), some (.ref pd), some (.int c), some (.ref qa), none, none] H8 (.int (((gp g3 q[j].1).getD 0 - c * q[j].2) % (p : Int))) := by
              refine ev_op (ev_op (x := .int ((gp g3 q[j].1).getD 0)) (fun H9 e9 Q2 q2 => ⟨.ref nd, rfl, nd, rfl, .inr ⟨_, .inl (e9 nd _ hnd7)⟩, .ref qa, rfl, (gp g3 q[j].1).map V.int, .inr ⟨dE g3, kp q[j].1, qa, .inl (e9 nd _ hnd7), rfl, pta_kp (ex_pt e9 hqa2), (valV_dE _ _).symm⟩, ?_⟩) (ev_op (ev_var rfl) (ev_dget (f := q) (ev_var rfl) (ev_var rfl) (.inr ⟨od, hfz⟩) hqa2 hgq) (rv_I (.inl ⟨by omega, by omega⟩))) rv_I0) (ev_var rfl) (rv_I hpp)
              have z : ((gp g3 q[j].1).map V.int).getD (.int 0) = .int ((gp g3 q[j].1).getD 0) := by
                cases gp g3 q[j].1 <;> rfl
              rw [z]
              exact q2 H9 (Ex.refl H9)
            refine hev H8 (Ex.refl H8) _ fun H9 e9 => ⟨.ref nd, rfl, .ref qa, rfl, nd, _, rfl, DPut.t (e9 nd _ hnd7) (pta_kp (ex_pt e9 hqa2)) ?_, ?_⟩
            · rw [dE_len]
              have := gl hg3 hgk3
              exact sz_lt (by omega)
            · rw [putK_dE]
              refine ⟨by rw [upd_ne hpdnd]; exact e9 pd _ hfz, fun b o h1 h2 h3 => by rw [upd_ne h2]; exact e9 b o (hst b o h1 h2 h3), _, _, rfl, upd_same, pu_nodup hg3, fun t ht => ?_, fun x => ?_⟩
              · have hk : t.1 ∈ (pu g3 q[j].1 (((gp g3 q[j].1).getD 0 - c * q[j].2) % (p : Int))).map (·.1) := List.mem_map.mpr ⟨t, ht, rfl⟩
                rcases (pu_keys _).mp hk with h | h
                · rw [h]
                  exact hqk _ (List.getElem_mem hj)
                · obtain ⟨t2, ht2, e2⟩ := List.mem_map.mp h
                  rw [← e2]
                  exact hgk3 t2 ht2
              · rw [less_step hg3 (hps x), psum_take eq1, Int.mul_add]
                congr 1
                omega
          · rintro σ H7 ⟨hfz, hst, g3, y8, rfl, hnd7, hg3, hgk3, hps⟩
            rw [dE_len, List.take_length] at hps
            have hst2 : ∀ b o, b ≠ nd → H6 b = some o → upd H7 pd (.dT (dE q)) b = some o := fun b o h2 h3 => by
              by_cases h1 : b = pd
              · rw [h1, upd_same]
                rw [h1, hpd6] at h3
                exact h3
              · rw [upd_ne h1]
                exact hst b o h1 h2 h3
            refine ⟨hfz, fun b o h1 h2 => hst2 b o h1 (eb6 b o h1 h2), vl3, g3, _, _, _, _, _, rfl, ?_, ?_, hg3, hgk3, fun z => absurd z hxne⟩
            · have z := hst2 vl3 _ hvlnd h6
              have e9 : (xs.map fun x => (pev p g2 x - c * pev p q x) % (p : Int)) = xs.map (pev p g3) := List.map_congr_left fun x _ => (less_val g2 q g3 c x (hps x)).symm
              rw [z, e9]
            · rw [upd_ne (Ne.symm hpdnd)]
              exact hnd7
      · exact ⟨eb4.trans (ExB.of e5), vl2, g2, _, _, _, _, _, rfl, e5 vl2 _ (e4 vl2 _ hvl2), e5 nd _ (e4 nd _ hnd2), hg2, hgk2, hx2⟩
    · rintro σ H2 ⟨eb, vl2, g2, z4, z5, z6, z7, z8, rfl, hvl2, hnd2, hg2, hgk2, hx2⟩
      refine s_retU (eu_tup (ea_cons (ev_var rfl) (ea_cons (ev_var rfl) ea_nil)) (show 2 ≤ 100000 by decide)) fun T H3 hT e3 h3 => ?_
      exact k T vl2 g2 H3 (eb.trans (ExB.of e3)) h3 (e3 vl2 _ hvl2) (e3 nd _ hnd2) hg2 hgk2 hx2
end
end Z7
end

section
set_option Elab.async false
set_option linter.all false
set_option maxRecDepth 100000
set_option maxHeartbeats 4000000
namespace Z7
open PySem L2 Evl RZ
theorem pev_single (p : Int) (m x : Pt) : pev p [(m, 1)] x = mon m x % p := by
  unfold pev
  rw [psum_cons, psum_nil, Int.one_mul, Int.add_zero]
theorem pev_scale {p : Int} (g : Pol) (c : Int) (x : Pt) : pev p (g.map fun t => (t.1, t.2 * c % p)) x = pev p g x * c % p := by
  induction g with
  | nil =>
    unfold pev
    rw [List.map_nil, psum_nil, Int.zero_emod, Int.zero_mul, Int.zero_emod]
  | cons t g ih =>
    unfold pev at ih ⊢
    rw [List.map_cons, psum_cons, psum_cons, Int.add_emod, ih]
    have a1 := Int.emod_add_mul_ediv (t.2 * mon t.1 x + psum g x) p
    have a2 := Int.emod_add_mul_ediv (psum g x) p
    have a3 := Int.emod_add_mul_ediv (t.2 * c) p
    rw [← Int.add_emod]
    show (t.2 * c % p * mon t.1 x + psum g x % p * c) % p = _
    generalize (t.2 * mon t.1 x + psum g x) % p = A at a1
    generalize psum g x % p = B at a2
    generalize t.2 * c % p = D at a3
    generalize (t.2 * mon t.1 x + psum g x) / p = u at a1
    generalize psum g x / p = v at a2
    generalize t.2 * c / p = w at a3
    have e1 : D = t.2 * c - p * w := by omega
    have e2 : B = psum g x - p * v := by omega
    have e3 : A = t.2 * mon t.1 x + psum g x - p * u := by omega
    rw [e1, e2, e3]
    have e : (t.2 * c - p * w) * mon t.1 x + (psum g x - p * v) * c = (t.2 * mon t.1 x + psum g x - p * u) * c + p * (u * c - w * mon t.1 x - v * c) := by
      rw [Int.sub_mul, Int.sub_mul, Int.sub_mul, Int.add_mul, Int.mul_sub, Int.mul_sub, Int.mul_assoc p w, Int.mul_assoc p v, Int.mul_assoc p u, Int.mul_right_comm t.2 c]
      omega
    rw [e, Int.add_mul_emod_self_left]
section
variable {K : Fg} {σ : L2.St} {H : Hp} {ta te : TE} {D : Ends}
theorem s_appP {Pr : V → Hp → Prop} {l : Addr} {xs : List V} (hl : H l = some (.lst xs)) (ha : Ev ta σ H (.ref l)) (h : EvP te σ H Pr) (hz : xs.length < 100000) (k : ∀ v H1, Ex H H1 → Pr v H1 → D.nx σ (upd H1 l (.lst (xs ++ [v])))) :
    tDrop (tBM K "list" rAppend ta (tCons te tNil)) D σ H := ha H (Ex.refl H) _ fun H1 e1 =>
  ⟨Or.inl ⟨rfl, xs, sq_of (e1 l _ hl)⟩, h H1 e1 _ fun v H2 e2 hv => ⟨l, xs, v, rfl, rfl, e2 l _ (e1 l _ hl), sz_lt hz, k v H2 (e1.trans e2) hv⟩⟩
end
theorem RowV.exb {p n : Nat} {xs : List Pt} {v : V} {H H' : Hp} {rs : Addr} {vs : List V} (h : RowV p n xs v H) (e : ExB rs H H') (hrs : H rs = some (.lst vs)) (hv : v ∈ vs) : RowV p n xs v H' := by
  obtain ⟨T, rl, pd, i, g, h1, h2, h3, h4, h5⟩ := h
  refine ⟨T, rl, pd, i, g, h1, e T _ (fun z => ?_) h2, e rl _ (fun z => ?_) h3, e pd _ (fun z => ?_) h4, h5⟩
  · rw [z, hrs] at h2
    cases h2
  · rw [z, hrs] at h3
    have y : vs = _ := (HO.lst.inj (Option.some.inj h3))
    rw [y, h1] at hv
    obtain ⟨w, _, hw⟩ := List.mem_map.mp hv
    cases hw
  · rw [z, hrs] at h4
    cases h4
section
variable {P : Program} {w : World} {K : Fg} {mg : Str → Option Value} {base : Heap} {f : Addr} {fd : FuncData}
def spKeep (K : Fg) (CR C : Addr) : Sp := fun vs H Q _ => ∃ (s rs vl nd : Addr) (p n m : Nat) (xs : List Pt) (g : Pol), vs = [.ref s, .ref vl, .ref nd] ∧ RowsA K CR C p n xs s rs m H ∧ (1 < p ∧ p ≤ 7) ∧ p ^ n ≤ 1000 ∧ xs.length ≤ 1000 ∧ m ≤ 5000 ∧
  H vl = some (.lst ((xs.map (pev p g)).map V.int)) ∧ H nd = some (.dT (dE g)) ∧ (g.map (·.1)).Nodup ∧ (∀ t ∈ g, t.1 ∈ pts p n) ∧ (∃ x ∈ xs, pev p g x ≠ 0) ∧
  ∀ H', ExB rs H H' → RowsA K CR C p n xs s rs (m + 1) H' → Q .non H'
theorem ok_keep {CR C : Addr} (F : FnP K "keep" "Rows.keep" sRowsKeep f fd) (B : Bi mg) (S : RwF K CR) (SF : SpF K C) (IV : Cal P w K mg base 2 "inverse" ["prime", "number"] spInverse) : FnOk P w K mg base CX0 3 f fd ["self", "values", "numbers"] (spKeep K CR C) := by
  refine F.ok scRowsKeep (fun vs H Q E h => ?_) (fun cdv A outer s_1 H vs Q E hr h => ?_)
  · obtain ⟨s, rs, vl, nd, p, n, m, xs, g, rfl, _⟩ := h
    rfl
  · obtain ⟨s, rs, vl, nd, p, n, m, xs, g, rfl, hrows, hp, hpn, hxl, hm, hvl, hnd, hg, hgk, hne, k⟩ := h
    have hu := hr.units
    refine ⟨_, PSs.nox (pss_cons (ps_set (i := 3) scRowsKeep.nd rfl (.inr rfl) (pe_fld (pe_fld (pv 0) rfl) rfl))
      (pss_cons (ps_set (i := 4) scRowsKeep.nd rfl (.inl rfl) (pe_ix ix_list (pe_lc (own := [("k", 7), ("number", 8)]) (g := gTup K 2 (gCons (gName 7) (gCons (gName 8) gNil))) (tt := tTest (tOp rNe (tVar 8) (tC (.int 0)))) rfl scRowsKeep.nd (pi_enum rfl B.enumerate (pa_cons (pv 1) pa_nil)) (blkOk_by (N := nRowsKeep) (sc := defScope sRowsKeep) (by decide +kernel))
          (fun _ _ _ _ _ => pg_tup rfl (pgs_cons (pg_name (i := 7) scRowsKeep.nd rfl (.inl rfl)) (pgs_cons (pg_name (i := 8) scRowsKeep.nd rfl (.inl rfl)) pgs_nil))) (fun _ _ _ _ _ => pts_one (pt_cmpR op_ne (pv 8) pe_int (nomark _))) (fun _ _ _ _ _ => pv 7)) pe_int (fun _ _ => rfl)))
      (pss_cons (ps_set (i := 5) scRowsKeep.nd rfl (.inr rfl) (pe_cal IV hr rfl (pa_cons (pv 3) (pa_cons (pe_ix ix_list (pv 1) (pv 4) (fun _ _ => rfl)) pa_nil))))
      (pss_cons (ps_setLc (i := 6) (own := [("number", 8)]) (g := gName 8) (tt := tYes) rfl scRowsKeep.nd rfl rfl (sw_true rfl rfl rfl (by decide +kernel)) (pi_list (pv 1)) (blkOk_by (N := nRowsKeep) (sc := defScope sRowsKeep) (by decide +kernel))
          (fun _ _ _ _ _ => pg_name (i := 8) scRowsKeep.nd rfl (.inl rfl)) (fun _ _ _ _ _ => pts_nil) (fun _ _ _ _ _ => pe_op op_mod (pe_op op_mul (pv 8) (pv 5)) (pv 3)))
      (pss_one (ps_expr (pe_bm PySem.F.plainAttrs_list PySem.F.slot_list_append PySem.F.type_list_append mt_append (pe_fld (pv 0) rfl) (pa_cons (pe_tup (pa_cons (pv 4) (pa_cons (pv 6) (pa_cons (pe_lock (pe_dcT (own := [("power", 9), ("number", 8)]) (g := gTup K 2 (gCons (gName 9) (gCons (gName 8) gNil))) rfl hr.units0 scRowsKeep.nd (pi_itemsT (pv 2)) (blkOk_by (N := nRowsKeep) (sc := defScope sRowsKeep) (by decide +kernel))
          (fun _ _ _ _ _ => pg_tup rfl (pgs_cons (pg_name (i := 9) scRowsKeep.nd rfl (.inl rfl)) (pgs_cons (pg_name (i := 8) scRowsKeep.nd rfl (.inl rfl)) pgs_nil))) (fun _ _ _ _ _ => pv 9) (fun _ _ _ _ _ => pe_op op_mod (pe_op op_mul (pv 8) (pv 5)) (pv 3)))) pa_nil)))) pa_nil)))))))), ?_⟩
    have hp1 : (1 : Int) < (p : Int) := by omega
    have hpp : (0 : Int) < (p : Int) := by omega
    obtain ⟨dx, sp, pl, as, vs, hs, ⟨dxs, nms, hsi⟩, hpl, has, hrs, hvl0, hrv⟩ := hrows
    have hat : ∀ i (hi : i < xs.length), ((xs.map (pev p g)).map V.int)[i]? = some (.int (pev p g xs[i])) := fun i hi => by
      rw [List.getElem?_map, List.getElem?_map, List.getElem?_eq_getElem hi] <;> rfl
    have hbd : ∀ x, 0 ≤ pev p g x ∧ pev p g x < (p : Int) := fun x => pev_bd hp1 g x
    refine q_asg (ev_prime SF (ev_fld (ev_var rfl) S.cl (S.no _ (by decide)) hs rfl) ⟨dxs, nms, hsi⟩) fun H1 e1 => ?_
    -- at
    have hlen : ((xs.map (pev p g)).map V.int).length = xs.length := by rw [List.length_map, List.length_map]
    have hlp : Evlp (tLc (iEnum K (tCons (tVar 1) tNil)) (gTup K 2 (gCons (gName 7) (gCons (gName 8) gNil))) (tTest (tOp rNe (tVar 8) (tC (.int 0)))) (tVar 7) [7, 8]) [some (.ref s), some (.ref vl), some (.ref nd), some (.int (p : Int)), none, none, none, none, none, none] H1
        (gvn ((xs.map (pev p g)).map V.int).length (fun i => pev p g (xs.getD i []) != 0) fun i (v : V) (_ : Hp) => v = .int (i : Int)) :=
      evlp_lc (J := Ite K vl) (fun H2 e2 R r => ⟨.ref vl, rfl, vl, _, rfl, sq_of (e2 vl _ (e1 vl _ hvl)), r H2 (Ex.refl H2)⟩) (walk_enum (K := K) (a := vl) (xs := (xs.map (pev p g)).map V.int)) (by rw [hlen]; omega) (fun H' e => sq_of (e vl _ (e1 vl _ hvl))) _ _ (fun _ _ _ _ _ h => h) fun i v H2 H3 hi e2 hv => by
        obtain ⟨T, u1, u2, rfl, hT, rfl, h1, h2⟩ := hv
        have h1 : some (V.int (i : Int)) = some u1 := h1
        have h2 : ((xs.map (pev p g)).map V.int)[i]? = some u2 := h2
        rw [hlen] at hi
        rw [hat i hi] at h2
        cases h1
        cases h2
        have eg : xs.getD i [] = xs[i] := by
          rw [List.getD_eq_getElem?_getD, List.getElem?_eq_getElem hi] <;> rfl
        rw [eg]
        refine ⟨Ex.new hT, [some (.ref s), some (.ref vl), some (.ref nd), some (.int (p : Int)), none, none, none, some (.int (i : Int)), some (.int (pev p g xs[i])), none], fun R r => gtup2 (st_of upd_same) r, rfl, et_is (et_test (ev_op (ev_var rfl) ev_c (rv_ne rfl))) ?_, fun _ => evp_ev (ev_var rfl) fun _ _ => rfl⟩
        rw [dec_int]
        rfl
    rw [hlen, gvn_int] at hlp
    generalize hidx : (gvn xs.length (fun i => pev p g (xs.getD i []) != 0) fun i => (i : Int)) = idx at hlp
    have hidxne : ∃ a r, idx = a :: r ∧ ∃ i, i < xs.length ∧ a = (i : Int) ∧ pev p g (xs.getD i []) ≠ 0 := by
      have hall : ∀ a ∈ idx, ∃ i, i < xs.length ∧ a = (i : Int) ∧ pev p g (xs.getD i []) ≠ 0 := fun a ha => by
        rw [← hidx] at ha
        obtain ⟨i, hi, rfl⟩ := List.mem_map.mp ha
        have z := List.mem_filter.mp hi
        exact ⟨i, List.mem_range.mp z.1, rfl, by simpa using z.2⟩
      cases idx with
      | cons a r => exact ⟨a, r, rfl, hall a List.mem_cons_self⟩
      | nil =>
        obtain ⟨x, hx, hxn⟩ := hne
        obtain ⟨i, hi⟩ := List.mem_iff_getElem?.mp hx
        have hil := (List.getElem?_eq_some_iff.mp hi).1
        have : (i : Int) ∈ ([] : List Int) := by
          rw [← hidx]
          refine List.mem_map.mpr ⟨i, List.mem_filter.mpr ⟨List.mem_range.mpr hil, ?_⟩, rfl⟩
          rw [List.getD_eq_getElem?_getD, hi]
          simpa using hxn
        cases this
    obtain ⟨a0, r0, hidx2, at_, hatl, rfl, hatn⟩ := hidxne
    rw [hidx2] at hlp
    have hatg : xs.getD at_ [] = xs[at_] := by
      rw [List.getD_eq_getElem?_getD, List.getElem?_eq_getElem hatl] <;> rfl
    have hev : Ev (tOp (rIxL K) (tLc (iEnum K (tCons (tVar 1) tNil)) (gTup K 2 (gCons (gName 7) (gCons (gName 8) gNil))) (tTest (tOp rNe (tVar 8) (tC (.int 0)))) (tVar 7) [7, 8]) (tC (.int 0))) [some (.ref s), some (.ref vl), some (.ref nd), some (.int (p : Int)), none, none, none, none, none, none] H1 (.int (at_ : Int)) := fun H2 e2 Q2 q2 =>
      hlp H2 e2 _ fun l ws H3 hl e3 h3 hws => by
        have hw := allp_int hws
        exact ⟨l, ws, 0, .int (at_ : Int), rfl, rfl, sq_of h3, by rw [hw]; exact atI_nat (j := 0) rfl, q2 H3 e3⟩
    refine q_asg hev fun H2 e2 => ?_
    have e02 := e1.trans e2
    have hrb := rn_bd hp1 (pev p g xs[at_]) (p - 2)
    refine q_asg (v := .int (rn p (pev p g xs[at_]) (p - 2))) (ev_call (ea_cons (ev_var rfl) (ea_cons (ev_op (ev_var rfl) (ev_var rfl) (rv_ixL (sq_of (e02 vl _ hvl)) (atI_nat (hat at_ hatl)))) ea_nil)) fun H3 e3 Q2 q2 E2 => ⟨p, pev p g xs[at_], rfl, by omega, by
      have ep : ((p : Int) - 2).toNat = p - 2 := by omega
      rw [ep]
      exact q2⟩) fun H3 e3 => ?_
    generalize rn p (pev p g xs[at_]) (p - 2) = fc at hrb ⊢
    have e03 := e02.trans e3
    have hvl3 := e03 vl _ hvl
    refine q_asgLp (Ps := ((xs.map fun x => pev p g x * fc % (p : Int)).map fun b (v : V) (_ : Hp) => v = V.int b)) ?_ fun rl ws H4 hrl e4 h4 hws => ?_
    · have z : (xs.map fun x => pev p g x * fc % (p : Int)) = gvn xs.length (fun _ => true) fun i => pev p g (xs.getD i []) * fc % (p : Int) := by
        rw [gvn_all]
        exact (range_getD ([] : Pt) (fun x => pev p g x * fc % (p : Int)) xs).symm
      rw [z, ← gvn_int, ← hlen]
      refine evlp_lc (J := Itl K vl) (fun H5 e5 R r => ⟨.ref vl, rfl, vl, rfl, ⟨_, sq_of (e5 vl _ hvl3)⟩, r H5 (Ex.refl H5)⟩) (walk_list (K := K) (a := vl) (xs := (xs.map (pev p g)).map V.int)) (by rw [hlen]; omega) (fun H' e => sq_of (e vl _ hvl3)) _ _ (fun _ _ _ _ _ h => h) fun j v H5 H6 hj e5 hv => ?_
      obtain ⟨rfl, hv⟩ := hv
      rw [hlen] at hj
      rw [hat j hj] at hv
      cases hv
      have eg : xs.getD j [] = xs[j] := by
        rw [List.getD_eq_getElem?_getD, List.getElem?_eq_getElem hj] <;> rfl
      rw [eg]
      have hb2 := hbd xs[j]
      exact ⟨Ex.refl _, _, fun R r => r, rfl, et_yes, fun _ => evp_ev (ev_op (ev_op (ev_var rfl) (ev_var rfl) (rv_I (.inl ⟨by omega, by omega⟩))) (ev_var rfl) (rv_I hpp)) fun _ _ => rfl⟩
    · rw [allp_int hws] at h4
      have e04 := e03.trans e4
      have hlg : g.length ≤ 1000 := by
        have z := nodup_len (m := pts p n) hg fun a ha => by
          obtain ⟨t, ht, rfl⟩ := List.mem_map.mp ha
          exact hgk t ht
        rw [List.length_map, pts_count] at z
        omega
      have e9 : (xs.map fun x => pev p g x * fc % (p : Int)) = xs.map (pev p (g.map fun t => (t.1, t.2 * fc % (p : Int)))) := List.map_congr_left fun x _ => (pev_scale g fc x).symm
      rw [e9] at h4
      have hrlrs : rl ≠ rs := fun z => by
        rw [z, e03 rs _ hrs] at hrl
        cases hrl
      refine s_appP (Pr := fun v H' => RowV p n xs v H' ∧ ∀ (T rl2 pd2 : Addr) (i2 : Int), v = .ref T → H' T = some (.tup [.int i2, .ref rl2, .ref pd2]) → rl2 ≠ rs) (e04 rs _ hrs) (ev_fld (ev_var rfl) S.cl (S.no _ (by decide)) (e04 s _ hs) rfl) (fun H5 e5 Q2 q2 => ?_) (by omega) fun v H5 e5 hv => ?_
      · refine ⟨.int (at_ : Int), rfl, .ref rl, rfl, dc_items (d := nd) (f := g) (F := fun t => t.2 * fc % (p : Int)) (fun H6 => ev_var rfl) (e5 nd _ (e04 nd _ hnd)) hg (by omega) (fun _ _ => rfl) (fun _ _ => rfl) (fun t q H6 ht e6 => ev_op (ev_op (ev_var rfl) (ev_var rfl) (rv_I (.inr ⟨by omega, by omega⟩))) (ev_var rfl) (rv_I hpp)) (fun r H6 hr6 e6 h6 => ⟨by show 3 ≤ sizeLine; exact sz_of (by decide), fun T hT => ?_⟩)⟩
        refine q2 _ _ (e6.trans (Ex.new hT)) ⟨⟨T, rl, r, at_, g.map fun t => (t.1, t.2 * fc % (p : Int)), rfl, upd_same, Ex.new hT rl _ (e6 rl _ (e5 rl _ h4)), Ex.new hT r _ h6, ?_, fun t ht => ?_, hatl⟩, fun T2 rl2 pd2 i2 y1 y2 => ?_⟩
        · rw [List.map_map]
          exact hg
        · obtain ⟨t2, ht2, rfl⟩ := List.mem_map.mp ht
          exact hgk t2 ht2
        · cases y1
          rw [upd_same] at y2
          cases y2
          exact hrlrs
      · have e05 := e04.trans e5
        have eb : ExB rs H (upd H5 rs (.lst (vs ++ [v]))) := (ExB.of e05).trans ExB.upd
        have hrs5 := e05 rs _ hrs
        refine k _ eb ⟨dx, sp, pl, as, vs ++ [v], eb s _ (fun z => ?_) hs, ⟨dxs, nms, eb sp _ (fun z => ?_) hsi⟩, ⟨eb pl _ hpl.2 hpl.1, hpl.2⟩, L2.Paired.mapP has fun q x hq => exb_pt eb hrs (fun _ z => nomatch z) hq, upd_same, ?_, fun u hu => ?_⟩
        · rw [z, hrs] at hs
          cases hs
        · rw [z, hrs] at hsi
          cases hsi
        · rw [List.length_append, List.length_singleton]
          omega
        · rcases List.mem_append.mp hu with hu | hu
          · exact (hrv u hu).exb eb hrs hu
          · rw [List.mem_singleton.mp hu]
            obtain ⟨⟨T, rl2, pd2, i2, g2, a1, a2, a3, a4, a5⟩, hne2⟩ := hv
            refine ⟨T, rl2, pd2, i2, g2, a1, ?_, ?_, ?_, a5⟩
            · rw [upd_ne fun z => by rw [z, hrs5] at a2; cases a2]
              exact a2
            · rw [upd_ne (hne2 T rl2 pd2 i2 a1 a2)]
              exact a3
            · rw [upd_ne fun z => by rw [z, hrs5] at a4; cases a4]
              exact a4
theorem q_asgG {g : L2.TG} {te : TE} {tz : TS} {σ : L2.St} {H : Hp} {D : Ends} (h : te σ H fun v H1 => g v σ H1 (tz D)) : tSeq (tAsg te g) tz D σ H := h
theorem q_drop0 {te : TE} {tz : TS} {σ : L2.St} {H : Hp} {D : Ends} (h : te σ H fun _ H1 => tz D σ H1) : tSeq (tDrop te) tz D σ H := h
/-- what take gives -/
def spTake (K : Fg) (CR C : Addr) : Sp := fun vs H Q _ => ∃ (s rs q : Addr) (p n m : Nat) (xs : List Pt) (e : Pt), vs = [.ref s, .ref q] ∧ RowsA K CR C p n xs s rs m H ∧ shapeOk p n ∧ xs.length ≤ 1000 ∧ (∀ x ∈ xs, x ∈ pts p n) ∧ m ≤ 5000 ∧ PtA H q e ∧ e ∈ pts p n ∧
  ∀ v H', ExB rs H H' → RowsA K CR C p n xs s rs (m + 1) H' → ((v = .non ∧ xs ≠ []) ∨ ∃ g, PolOk p n g ∧ (∀ x ∈ xs, pev p g x = 0) ∧ Dp K H' v (polD g) ∧ (xs = [] → g = [(e, 1)])) → Q v H'
theorem fromN_single {p : Nat} (hp : 1 < p) (e : Pt) : fromN p [(e, 1)] = [(e, 1)] := by
  unfold fromN
  rw [List.map_cons, List.map_nil, List.mergeSort_singleton]
  unfold ordN
  rw [List.map_cons, List.map_nil, gp_pos rfl]
  have h : ((1 : Int) % (p : Int)) = 1 := Int.emod_eq_of_lt (by omega) (by omega)
  show List.filter (fun t => t.2 != 0) [(e, (1 : Int) % (p : Int))] = _
  rw [h]
  rfl
theorem ok_take {CR C : Addr} (F : FnP K "take" "Rows.take" sRowsTake f fd) (B : Bi mg) (S : RwF K CR) (SF : SpF K C) (VO : Cal P w K mg base 2 "value_of" ["space", "power", "point"] (spValueOf K C)) (LE : MCal P w K mg base 1 CR "lessened" ["self", "values", "numbers"] (spLess K CR C))
    (KE : MCal P w K mg base 3 CR "keep" ["self", "values", "numbers"] (spKeep K CR C)) (FN : Cal P w K mg base 1 "from_numbers" ["space", "numbers"] (spFromN K C)) : FnOk P w K mg base CX0 4 f fd ["self", "power"] (spTake K CR C) := by
  refine F.ok scRowsTake (fun vs H Q E h => ?_) (fun cdv A outer s_1 H vs Q E hr h => ?_)
  · obtain ⟨s, rs, q, p, n, m, xs, e, rfl, _⟩ := h
    rfl
  · obtain ⟨s, rs, q, p, n, m, xs, e, rfl, hrows, hsh, hxl, hxm, hm, hq, he, k⟩ := h
    have hu := hr.units
    refine ⟨_, PSs.nox (pss_cons (ps_setLc (i := 2) (own := [("point", 4)]) (g := gName 4) (tt := tYes) rfl scRowsTake.nd rfl rfl (sw_true rfl rfl rfl (by decide +kernel)) (pi_list (pe_fld (pv 0) rfl)) (blkOk_by (N := nRowsTake) (sc := defScope sRowsTake) (by decide +kernel))
          (fun _ _ _ _ _ => pg_name (i := 4) scRowsTake.nd rfl (.inl rfl)) (fun _ _ _ _ _ => pts_nil) (fun _ _ _ _ _ => pe_cal VO hr rfl (pa_cons (pe_fldB K (pv 0) rfl) (pa_cons (pv 1) (pa_cons (pv 4) pa_nil)))))
      (pss_cons (ps_asg (pe_mcal (pv 0) S.cl LE hr (pa_cons (pv 2) (pa_cons (pe_disp1T hu (pv 1) pe_int) pa_nil))) (pg_tup rfl (pgs_cons (pg_name (i := 2) scRowsTake.nd rfl (.inl rfl)) (pgs_cons (pg_name (i := 3) scRowsTake.nd rfl (.inl rfl)) pgs_nil))))
      (pss_cons (ps_if (pt_tru K (pe_callB (cr_anyI rfl) rfl B.any PyProof.Rows.boot_any (pa_cons (pv 2) pa_nil)) (fun _ => rfl)) (pss_cons (ps_expr (pe_mcal (pv 0) S.cl KE hr (pa_cons (pv 2) (pa_cons (pv 3) pa_nil)))) (pss_one (ps_ret pe_non))) pss_nil)
      (pss_one (ps_ret (pe_cal FN hr rfl (pa_cons (pe_fld (pv 0) rfl) (pa_cons (pv 3) pa_nil)))))))), ?_⟩
    have hP := hsh.isP
    have hp1 : (1 : Int) < (p : Int) := by have := hP.lt; omega
    have hp7 : 1 < p ∧ p ≤ 7 := ⟨hP.lt, hP.le⟩
    have hn8 := hsh.n8
    have hrows0 := hrows
    obtain ⟨dx, sp, pl, as, vs, hs, ⟨dxs, nms, hsi⟩, hpl, has, hrs, hvl0, hrv⟩ := hrows
    have hasl : as.length = xs.length := has.len
    refine q_asgLp (Ps := ((xs.map (pev p [(e, 1)])).map fun b (v : V) (_ : Hp) => v = V.int b)) ?_ fun vl ws H1 hvl e1 h1 hws => ?_
    · have z : xs.map (pev p [(e, 1)]) = gvn (as.map V.ref).length (fun _ => true) fun i => pev p [(e, 1)] (xs.getD i []) := by
        rw [gvn_all, List.length_map, hasl]
        exact (range_getD ([] : Pt) (pev p [(e, 1)]) xs).symm
      rw [z, ← gvn_int]
      refine evlp_lc (J := Itl K pl) (fun H2 e2 R r => ⟨.ref s, rfl, s, CR, dx, _, .ref pl, rfl, e2 s _ hs, S.cl, S.no _ (by decide), rfl, pl, rfl, ⟨_, sq_of (e2 pl _ hpl.1)⟩, r H2 (Ex.refl H2)⟩) (walk_list (K := K) (a := pl) (xs := as.map V.ref)) (by rw [List.length_map]; omega) (fun H' e => sq_of (e pl _ hpl.1)) _ _ (fun _ _ _ _ _ h => h) fun i v H2 H3 hi e2 hv => ?_
      obtain ⟨rfl, hv⟩ := hv
      obtain ⟨b, x, rfl, hb, hx, hbx⟩ := has.at hv
      have eg : xs.getD i [] = x := by
        rw [List.getD_eq_getElem?_getD, hx] <;> rfl
      rw [eg]
      have hxp := hxm x (List.mem_of_getElem? hx)
      refine ⟨Ex.refl _, [some (.ref s), some (.ref q), none, none, some (.ref b)], fun R r => r, rfl, et_yes, fun _ => evp_ev (v := .int (mon e x % (p : Int))) (ev_call (ea_cons (ev_fld (ev_var rfl) S.cl (S.no _ (by decide)) (e2 s _ hs) rfl) (ea_cons (ev_var rfl) (ea_cons (ev_var rfl) ea_nil))) fun H5 e5 Q2 q2 E2 => ⟨sp, q, b, p, n, e, x, rfl, ⟨dxs, nms, e5 sp _ (e2 sp _ hsi)⟩, .inl (.inl (ex_pt (e2.trans e5) hq)), .inl (.inl (ex_pt (e2.trans e5) hbx)), he, pts_len hxp, hp7, by omega, q2⟩) fun _ _ => ?_⟩
      rw [pev_single]
    · rw [allp_int hws] at h1
      refine q_asgG ⟨.ref s, rfl, s, dx, _, rfl, e1 s _ hs, rfl, .ref vl, rfl, fun nd hnd => ⟨.ref q, rfl, q, kp e, rfl, ?_, upd_same, ?_⟩⟩
      · exact pta_kp (ex_pt (e1.trans (Ex.new hnd)) hq)
      rw [upd_upd]
      have hnd0 : H nd = none := fresh_back e1 hnd
      have e2 : Ex H1 (upd H1 nd (.dT [(kp e, .int 1)])) := Ex.new hnd
      refine ⟨s, rs, vl, nd, p, n, m, xs, [(e, 1)], H1, rfl, e2, hnd, hrows0.mono e1, hp7, hsh.small, hxl, e2 vl _ h1, upd_same, by simp, fun t ht => by rw [List.mem_singleton.mp ht]; exact he, fun T vl' g' H2 eb hT hvl' hnd' hg' hgk' hx' => ?_⟩
      have e02 : Ex H H2 := fun b o hb => eb b o (ne_of_none hb hnd0) (e2 b o (e1 b o hb))
      refine gtup2 (st_of hT) ?_
      have hgl : g'.length ≤ 1000 := by
        have z := nodup_len (m := pts p n) hg' fun a ha => by
          obtain ⟨t, ht, rfl⟩ := List.mem_map.mp ha
          exact hgk' t ht
        rw [List.length_map, pts_count] at z
        have := hsh.small
        omega
      refine q_when (b := (xs.map (pev p g')).any fun n => n != 0) (et_tru (fun H3 e3 Q2 q2 => ⟨.ref vl', rfl, vl', xs.map (pev p g'), rfl, sq_of (e3 vl' _ hvl'), q2 H3 (Ex.refl H3)⟩)) (fun hb H3 e3 => ?_) (fun hb H3 e3 => ?_)
      · have hne : ∃ x ∈ xs, pev p g' x ≠ 0 := by
          obtain ⟨v, hv, hvn⟩ := List.any_eq_true.mp hb
          obtain ⟨x, hx, rfl⟩ := List.mem_map.mp hv
          exact ⟨x, hx, by simpa using hvn⟩
        have e03 := e02.trans e3
        refine q_drop0 ⟨.ref s, rfl, s, dx, _, rfl, e03 s _ hs, rfl, .ref vl', rfl, .ref nd, rfl, s, rs, vl', nd, p, n, m, xs, g', rfl, hrows0.mono e03, hp7, hsh.small, hxl, hm, e3 vl' _ hvl', e3 nd _ hnd', hg', hgk', hne, fun H4 eb4 hr4 => ?_⟩
        refine s_ret ev_c fun H5 e5 => k .non H5 (((ExB.of e03).trans eb4).trans (ExB.of e5)) (hr4.mono e5) (.inl ⟨rfl, fun z => ?_⟩)
        obtain ⟨x, hx, _⟩ := hne
        rw [z] at hx
        exact absurd hx List.not_mem_nil
      · have hz : ∀ x ∈ xs, pev p g' x = 0 := fun x hx => by
          have z := List.any_eq_false.mp hb (pev p g' x) (List.mem_map.mpr ⟨x, hx, rfl⟩)
          simpa using z
        have e03 := e02.trans e3
        refine s_retCall (ea_cons (ev_fld (ev_var rfl) S.cl (S.no _ (by decide)) (e03 s _ hs) rfl) (ea_cons (ev_var rfl) ea_nil)) fun H4 e4 => ?_
        refine ⟨sp, nd, p, n, g', rfl, ⟨dxs, nms, e4 sp _ (e03 sp _ hsi)⟩, by omega, by have := hsh.1; omega, e4 nd _ (e3 nd _ hnd'), hg', hgk', hgl, fun v H5 e5 hv => ?_⟩
        have e05 := (e03.trans e4).trans e5
        have hr5 := hrows0.mono e05
        refine k v H5 (ExB.of e05) ?_ (.inr ⟨fromN p g', fromN_ok (by omega) hg' hgk', fun x hx => by rw [fromN_pev hg']; exact hz x hx, hv, fun z => by rw [hx' z, fromN_single (by omega)]⟩)
        obtain ⟨dx2, sp2, pl2, as2, vs2, y1, y2, y3, y4, y5, y6, y7⟩ := hr5
        exact ⟨dx2, sp2, pl2, as2, vs2, y1, y2, y3, y4, y5, by omega, y7⟩
end
end Z7
end

section
set_option Elab.async false
set_option linter.all false
set_option maxRecDepth 100000
set_option maxHeartbeats 4000000
namespace Z7
open PySem L2 Evl RZ
/-! ### the first power -/
def zeroP (n : Nat) : Pt := List.replicate n 0
theorem zeroP_mem {p n : Nat} (hp : 0 < p) : zeroP n ∈ pts p n := pts_mem.mpr ⟨List.length_replicate, fun e he => by
  rw [(List.mem_replicate.mp he).2]
  omega⟩
theorem sum_zero_of : ∀ {x : Pt}, (∀ e ∈ x, 0 ≤ e) → x.sum ≤ 0 → x = zeroP x.length ∧ x.sum = 0
  | [], _, _ => ⟨rfl, rfl⟩
  | a :: x, h, hs => by
    have hnn : ∀ {y : Pt}, (∀ e ∈ y, 0 ≤ e) → 0 ≤ y.sum := fun {y} hy => by
      induction y with
      | nil => exact Int.le_refl 0
      | cons b y ih =>
        rw [List.sum_cons]
        have h1 := hy b List.mem_cons_self
        have h2 := ih fun e he => hy e (List.mem_cons_of_mem _ he)
        omega
    have hx := fun e he => h e (List.mem_cons_of_mem a he)
    have h1 := h a List.mem_cons_self
    have h2 := hnn hx
    rw [List.sum_cons] at hs ⊢
    obtain ⟨e1, e2⟩ := sum_zero_of hx (by omega)
    have ha : a = 0 := by omega
    refine ⟨?_, by omega⟩
    unfold zeroP at e1 ⊢
    rw [List.length_cons, List.replicate_succ, ← e1, ha]
theorem zeroP_sum (n : Nat) : (zeroP n).sum = 0 := by
  unfold zeroP
  induction n with
  | zero => rfl
  | succ n ih => rw [List.replicate_succ, List.sum_cons, ih]; rfl
theorem first_zero {p n : Nat} (hp : 0 < p) : ((pts p n).mergeSort (PySem.W.dataLe false kD))[0]? = some (zeroP n) := by
  have hm : zeroP n ∈ (pts p n).mergeSort (PySem.W.dataLe false kD) := List.mem_mergeSort.mpr (zeroP_mem hp)
  have hpw := PySem.W.sort_pairwise (PySem.W.sortLe_total (PyProof.Rows.listOrd PyProof.Rows.itemOrd) false fun b => PySem.W.keyToks (kD b)) (pts p n)
  have hall : ∀ a ∈ (pts p n).mergeSort (PySem.W.dataLe false kD), a ∈ pts p n := fun a ha => List.mem_mergeSort.mp ha
  have hpw : ((pts p n).mergeSort (PySem.W.dataLe false kD)).Pairwise fun a b => PySem.W.dataLe false kD a b = true := hpw
  generalize (pts p n).mergeSort (PySem.W.dataLe false kD) = l at hm hpw hall
  cases l with
  | nil => cases hm
  | cons h t =>
    have hh := hall h List.mem_cons_self
    obtain ⟨hl, hb⟩ := pts_mem.mp hh
    rw [List.getElem?_cons_zero]
    rcases List.mem_cons.mp hm with e | hz
    · rw [e]
    · have hle := (List.pairwise_cons.mp hpw).1 _ hz
      have hle2 : (!PySem.W.dataLt (kD (zeroP n)) (kD h)) = true := hle
      unfold kD ptD at hle2
      rw [PySem.W.dataLt_pair (by simp [PySem.W.alike]) (by rw [PySem.W.alike]; exact PySem.W.alike_ints _ _), PySem.W.dataLt_int, zeroP_sum] at hle2
      have hs : h.sum ≤ 0 := by
        by_cases z : h.sum = 0
        · omega
        · have hne : PyData.eqv (.int 0) (.int h.sum) = false := by
            simp only [PyData.eqv, beq_eq_false_iff_ne]
            omega
          rw [hne, if_neg (by decide)] at hle2
          simp at hle2
          omega
      have z := (sum_zero_of (fun e he => (hb e he).1) hs).1
      rw [hl] at z
      rw [z]
theorem div_zero {p n : Nat} {x : Pt} (hx : x ∈ pts p n) : divB (zeroP n) x = true := by
  obtain ⟨hl, hb⟩ := pts_mem.mp hx
  unfold divB
  refine all_range.mpr fun i hi => ?_
  have hix : i < x.length := by omega
  have e1 : (zeroP n).getD i 0 = 0 := by
    unfold zeroP
    rw [List.getD_eq_getElem?_getD, List.getElem?_replicate]
    split <;> rfl
  rw [e1, List.getD_eq_getElem?_getD, List.getElem?_eq_getElem hix]
  exact decide_eq_true (hb _ (List.getElem_mem hix)).1
/-! ### walk -/
/-- a polynomial that is 0 at xs -/
def FV (K : Fg) (p n : Nat) (xs : List Pt) (v : V) (H : Hp) : Prop := ∃ g, PolOk p n g ∧ (∀ x ∈ xs, pev p g x = 0) ∧ Dp K H v (polD g)
theorem FV.tex {K : Fg} {p n : Nat} {xs : List Pt} {v : V} {H H' : Hp} (h : FV K p n xs v H) (e : TEx H H') : FV K p n xs v H' := let ⟨g, a, b, c⟩ := h; ⟨g, a, b, dp_tex e (polD g) (noL_pol g) c⟩
theorem tex_exb {H H' : Hp} {r : Addr} {o : HO} (e : ExB r H H') (hr : H r = some o) (ho : hard o = false) : TEx H H' := fun a u hu hh => e a u (fun z => by
  rw [z, hr] at hu
  cases hu
  rw [ho] at hh
  cases hh) hu
theorem RowV.updl {p n : Nat} {xs : List Pt} {v : V} {H : Hp} {a : Addr} {us us' : List V} (h : RowV p n xs v H) (ha : H a = some (.lst us)) (hu : ∀ u ∈ us, ∃ b, u = V.ref b) : RowV p n xs v (upd H a (.lst us')) := by
  obtain ⟨T, rl, pd, i, g, h1, h2, h3, h4, h5, h6, h7⟩ := h
  refine ⟨T, rl, pd, i, g, h1, ?_, ?_, ?_, h5, h6, h7⟩
  · rw [upd_ne fun z => by rw [z, ha] at h2; cases h2]
    exact h2
  · rw [upd_ne fun z => ?_]
    · exact h3
    · rw [z, ha] at h3
      have y : us = _ := HO.lst.inj (Option.some.inj h3)
      cases xs with
      | nil => exact absurd h7 (Nat.not_lt_zero _)
      | cons x xs =>
        obtain ⟨b, hb⟩ := hu (.int (pev p g x)) (by rw [y]; exact List.mem_cons_self)
        cases hb
  · rw [upd_ne fun z => by rw [z, ha] at h4; cases h4]
    exact h4
theorem FV.ref {K : Fg} {p n : Nat} {xs : List Pt} {v : V} {H : Hp} (h : FV K p n xs v H) : ∃ b, v = .ref b := by
  obtain ⟨g, _, _, hd⟩ := h
  obtain ⟨a, vs, rfl, _⟩ := dp_tup (show Dp K H v (.tuple _) from hd)
  exact ⟨a, rfl⟩
theorem ExN.updn {H H' : Hp} {a : Addr} {o : HO} (e : ExN H H') (h : H a = none) : ExN H (upd H' a o) := fun b u hb hn => by
  rw [upd_ne (ne_of_none hb h)]
  exact e b u hb hn
/-- the instance rows of a walk, its lists known -/
def RowsB (K : Fg) (CR C : Addr) (p n : Nat) (xs : List Pt) (s dx sp pl rs : Addr) (as : List Addr) (m : Nat) (H : Hp) : Prop := ∃ vs, H s = some (.ins CR dx [("space", .ref sp), ("points", .ref pl), ("rows", .ref rs)]) ∧ SpA C H sp p n ∧ (H pl = some (.lst (as.map V.ref)) ∧ pl ≠ rs) ∧ PtsA H as xs ∧ H rs = some (.lst vs) ∧ vs.length ≤ m ∧ ∀ v ∈ vs, RowV p n xs v H
theorem RowsB.a {K : Fg} {CR C : Addr} {p n : Nat} {xs : List Pt} {s dx sp pl rs : Addr} {as : List Addr} {m : Nat} {H : Hp} (h : RowsB K CR C p n xs s dx sp pl rs as m H) : RowsA K CR C p n xs s rs m H := by
  obtain ⟨vs, h⟩ := h
  exact ⟨dx, sp, pl, as, vs, h⟩
theorem RowsB.of {K : Fg} {CR C : Addr} {p n : Nat} {xs : List Pt} {s dx sp pl rs : Addr} {as : List Addr} {m : Nat} {H : Hp} (h : RowsA K CR C p n xs s rs m H) (hs : H s = some (.ins CR dx [("space", .ref sp), ("points", .ref pl), ("rows", .ref rs)])) (hpl : H pl = some (.lst (as.map V.ref))) (has : PtsA H as xs) : RowsB K CR C p n xs s dx sp pl rs as m H := by
  obtain ⟨dx2, sp2, pl2, as2, vs, h1, h2, h3, h4, h5, h6, h7⟩ := h
  rw [hs] at h1
  cases h1
  exact ⟨vs, hs, h2, ⟨hpl, h3.2⟩, has, h5, h6, h7⟩
theorem RowsB.mono {K : Fg} {CR C : Addr} {p n : Nat} {xs : List Pt} {s dx sp pl rs : Addr} {as : List Addr} {m : Nat} {H H' : Hp} (h : RowsB K CR C p n xs s dx sp pl rs as m H) (e : Ex H H') : RowsB K CR C p n xs s dx sp pl rs as m H' := by
  obtain ⟨vs, h1, h2, h3, h4, h5, h6, h7⟩ := h
  exact ⟨vs, e s _ h1, h2.mono e, ⟨e pl _ h3.1, h3.2⟩, ex_pts e h4, e rs _ h5, h6, fun v hv => (h7 v hv).mono e⟩
theorem RowsB.updl {K : Fg} {CR C : Addr} {p n : Nat} {xs : List Pt} {s dx sp pl rs : Addr} {as : List Addr} {m : Nat} {H : Hp} {a : Addr} {us us' : List V} (h : RowsB K CR C p n xs s dx sp pl rs as m H) (ha : H a = some (.lst us)) (hu : ∀ u ∈ us, ∃ b, u = V.ref b) (n1 : a ≠ rs) (n2 : a ≠ pl) : RowsB K CR C p n xs s dx sp pl rs as m (upd H a (.lst us')) := by
  obtain ⟨vs, h1, ⟨dxs, nms, h2⟩, h3, h4, h5, h6, h7⟩ := h
  have tx : TEx H (upd H a (.lst us')) := TEx.upd ha rfl
  exact ⟨vs, tx s _ h1 rfl, ⟨dxs, nms, tx sp _ h2 rfl⟩, ⟨by rw [upd_ne (Ne.symm n2)]; exact h3.1, h3.2⟩, pts_tex tx h4, by rw [upd_ne (Ne.symm n1)]; exact h5, h6, fun v hv => (h7 v hv).updl ha hu⟩
section
variable {P : Program} {w : World} {K : Fg} {mg : Str → Option Value} {base : Heap} {f : Addr} {fd : FuncData}
def WalkPost (K : Fg) (p n : Nat) (xs : List Pt) (H : Hp) (fl : Addr) (H' : Hp) : Prop := ∃ fs, ExN H H' ∧ H' fl = some (.lst fs) ∧ (∀ v ∈ fs, FV K p n xs v H') ∧ fs.length ≤ 1000 ∧ (xs = [] → ∃ v, fs = [v] ∧ Dp K H' v (polD [(zeroP n, 1)]))
def spWalk (K : Fg) (C T : Addr) : Sp := fun vs H Q _ => ∃ (sp pl : Addr) (p n : Nat) (as : List Addr) (xs : List Pt), vs = [.ref sp, .ref pl, .str "degree"] ∧ SpA C H sp p n ∧ shapeOk p n ∧ H pl = some (.lst (as.map V.ref)) ∧ PtsA H as xs ∧ xs.length ≤ 1000 ∧ (∀ x ∈ xs, x ∈ pts p n) ∧ H T = some (.tbl #[]) ∧
  ∀ t fl u v H', WalkPost K p n xs H fl H' → H' t = some (.tup [u, .ref fl, v]) → Q (.ref t) H'
theorem ok_walk {CR C T : Addr} (F : FnP K "walk" "walk" sWalk f fd) (B : Bi mg) (S : RwF K CR) (SF : SpF K C) (RI : CCal P w K mg base 1 CR "Rows" ["self", "space", "points"] (spRowsI K CR C)) (PW : MCal P w K mg base 8 C "powers" ["self", "order"] (spPowers K C T)) (DV : Cal P w K mg base 1 "divides" ["one", "other"] (spDivides K))
    (TK : MCal P w K mg base 4 CR "take" ["self", "power"] (spTake K CR C)) : FnOk P w K mg base CX0 9 f fd ["space", "points", "order"] (spWalk K C T) := by
  refine F.ok scWalk (fun vs H Q E h => ?_) (fun cdv A outer s_1 H vs Q E hr h => ?_)
  · obtain ⟨sp, pl, p, n, as, xs, rfl, _⟩ := h
    rfl
  · obtain ⟨sp, pl, p, n, as, xs, rfl, hs, hsh, hpl, has, hxl, hxm, hT, k⟩ := h
    refine ⟨_, PSs.nox (pss_cons (ps_set (i := 3) scWalk.nd rfl (.inl rfl) (pe_ccal RI hr rfl (pa_cons (pv 0) (pa_cons (pv 1) pa_nil))))
      (pss_cons (ps_set (i := 4) scWalk.nd rfl (.inl rfl) (pe_lst pa_nil)) (pss_cons (ps_set (i := 5) scWalk.nd rfl (.inl rfl) (pe_lst pa_nil)) (pss_cons (ps_set (i := 6) scWalk.nd rfl (.inl rfl) (pe_lst pa_nil))
      (pss_cons (ps_for PassesOwn.never rfl (pi_list (pe_mcal (pv 0) SF.cl PW hr (pa_cons (pv 2) pa_nil))) (pg_name (i := 7) scWalk.nd rfl (.inr rfl))
        (pss_one (ps_if (pt_not (pt_tru K (pe_callB (cr_any rfl) rfl B.any PyProof.Rows.boot_any (pa_cons (pe_lc (own := [("lead", 9)]) (g := gName 9) (tt := tYes) rfl scWalk.nd (pi_list (pv 6)) (blkOk_by (N := nWalk) (sc := defScope sWalk) (by decide +kernel))
            (fun _ _ _ _ _ => pg_name (i := 9) scWalk.nd rfl (.inl rfl)) (fun _ _ _ _ _ => pts_nil) (fun _ _ _ _ _ => pe_cal DV hr rfl (pa_cons (pv 9) (pa_cons (pv 7) pa_nil)))) pa_nil)) (fun _ => rfl)))
          (pss_cons (ps_set (i := 8) scWalk.nd rfl (.inl rfl) (pe_mcal (pv 3) S.cl TK hr (pa_cons (pv 7) pa_nil)))
          (pss_one (ps_if (pt_cmp (pc_isN (pv 8))) (pss_one (ps_expr (pe_bm PySem.F.plainAttrs_list PySem.F.slot_list_append PySem.F.type_list_append mt_append (pv 4) (pa_cons (pv 7) pa_nil))))
            (pss_cons (ps_expr (pe_bm PySem.F.plainAttrs_list PySem.F.slot_list_append PySem.F.type_list_append mt_append (pv 5) (pa_cons (pv 8) pa_nil))) (pss_one (ps_expr (pe_bm PySem.F.plainAttrs_list PySem.F.slot_list_append PySem.F.type_list_append mt_append (pv 6) (pa_cons (pv 7) pa_nil)))))))) pss_nil)))
      (pss_one (ps_ret (pe_tup (pa_cons (pv 4) (pa_cons (pv 5) (pa_cons (pv 3) pa_nil)))))))))))  , ?_⟩
    have hP := hsh.isP
    have hp1 := hP.lt
    have hn8 := hsh.n8
    have hsm := hsh.small
    have hlen : ((pts p n).mergeSort (PySem.W.dataLe false kD)).length = p ^ n := by rw [List.length_mergeSort, pts_count]
    have hmemS : ∀ x, x ∈ (pts p n).mergeSort (PySem.W.dataLe false kD) → x ∈ pts p n := fun x hx => List.mem_mergeSort.mp hx
    have hfz := first_zero (p := p) (n := n) (by omega)
    generalize hpo0 : (pts p n).mergeSort (PySem.W.dataLe false kD) = po at hlen hmemS hfz
    have hpos : 0 < p ^ n := Nat.pow_pos (by omega)
    obtain ⟨dxs, nms, hsi⟩ := hs
    -- Rows(space, points)
    refine q_asg0 ?_
    refine ⟨.ref sp, rfl, .ref pl, rfl, fun ra dx hra hdx hne => ?_⟩
    have ex0 : Ex H (upd (upd H dx (.own ra)) ra (.ins CR dx [])) := (Ex.new hdx).trans (Ex.new (by rw [upd_ne (Ne.symm hne)]; exact hra))
    refine ⟨ra, dx, .ref sp, .ref pl, rfl, upd_same, fun H1 rs eb hrs0 hra1 hrs1 => ⟨rfl, ?_⟩⟩
    have e1 : Ex H H1 := fun b o hb => eb b o (ne_of_none hb hra) (ex0 b o hb)
    have hrsH : H rs = none := fresh_back ex0 hrs0
    refine q_asgL (el_lst ea_nil (by decide)) fun kl H2 hkl e2 hkl2 => ?_
    refine q_asgL (el_lst ea_nil (by decide)) fun fl H3 hfl e3 hfl3 => ?_
    refine q_asgL (el_lst ea_nil (by decide)) fun ll H4 hll e4 hll4 => ?_
    have e12 := e1.trans e2
    have e13 := e12.trans e3
    have e14 := e13.trans e4
    have hklH : H kl = none := fresh_back e1 hkl
    have hflH : H fl = none := fresh_back e12 hfl
    have hllH : H ll = none := fresh_back e13 hll
    have d_rk : rs ≠ kl := ne_of_none hrs1 hkl
    have d_rf : rs ≠ fl := ne_of_none (e2 rs _ hrs1) hfl
    have d_rl : rs ≠ ll := ne_of_none (e3 rs _ (e2 rs _ hrs1)) hll
    have d_kf : kl ≠ fl := ne_of_none hkl2 hfl
    have d_kl : kl ≠ ll := ne_of_none (e3 kl _ hkl2) hll
    have d_fl : fl ≠ ll := ne_of_none hfl3 hll
    have hplr : pl ≠ rs := ne_of_none hpl hrsH
    have hplk : pl ≠ kl := ne_of_none hpl hklH
    have hplf : pl ≠ fl := ne_of_none hpl hflH
    have hpll : pl ≠ ll := ne_of_none hpl hllH
    have hR4 : RowsB K CR C p n xs ra dx sp pl rs as 0 H4 := ⟨[], (e2.trans (e3.trans e4)) ra _ hra1, ⟨dxs, nms, e14 sp _ hsi⟩, ⟨e14 pl _ hpl, hplr⟩, ex_pts e14 has, (e2.trans (e3.trans e4)) rs _ hrs1, Nat.le_refl _, fun v hv => absurd hv List.not_mem_nil⟩
    refine q_for0 ⟨.ref sp, rfl, sp, dxs, _, rfl, e14 sp _ hsi, rfl, .str "degree", rfl, sp, p, n, rfl, ⟨dxs, nms, e14 sp _ hsi⟩, hsh, e14 T _ hT, fun l out H5 e5 h5 hpo => ⟨l, rfl, ⟨_, sq_of h5⟩, ?_⟩⟩
    rw [hpo0] at hpo
    have hol : out.length = p ^ n := by rw [hpo.len, hlen]
    have hrs5 : H5 rs = some (.lst []) := e5 rs _ ((e2.trans (e3.trans e4)) rs _ hrs1) (fun _ z => nomatch z)
    have hkl5 : H5 kl = some (.lst []) := e5 kl _ ((e3.trans e4) kl _ hkl2) (fun _ z => nomatch z)
    have hfl5 : H5 fl = some (.lst []) := e5 fl _ (e4 fl _ hfl3) (fun _ z => nomatch z)
    have hll5 : H5 ll = some (.lst []) := e5 ll _ hll4 (fun _ z => nomatch z)
    have lne : ∀ a, H5 a = some (.lst []) → l ≠ a := fun a ha z => by
      rw [z, ha] at h5
      have y : [] = out.map V.ref := HO.lst.inj (Option.some.inj h5)
      have y2 := congrArg List.length y
      rw [List.length_map] at y2
      simp at y2
      omega
    have dl_r := lne rs hrs5
    have dl_k := lne kl hkl5
    have dl_f := lne fl hfl5
    have dl_l := lne ll hll5
    have hR5 : RowsB K CR C p n xs ra dx sp pl rs as 0 H5 := by
      obtain ⟨vs, a1, ⟨y1, y2, a2⟩, a3, a4, a5, a6, a7⟩ := hR4
      refine ⟨[], e5 ra _ a1 (fun _ z => nomatch z), ⟨y1, y2, e5 sp _ a2 (fun _ z => nomatch z)⟩, ⟨e5 pl _ a3.1 (fun _ z => nomatch z), a3.2⟩, exn_pts e5 a4, hrs5, Nat.le_refl _, fun v hv => absurd hv List.not_mem_nil⟩
    have x05 : ExN H H5 := (exn_of e14).trans e5
    refine forB_go (n := (out.map V.ref).length) (walk_list (K := K) (a := l) (xs := out.map V.ref)) (fun j σ H' => ExN H H' ∧ H' l = some (.lst (out.map V.ref)) ∧ PtsA H' out po ∧ ∃ ks fs las lps z7 z8, σ = [some (.ref sp), some (.ref pl), some (.str "degree"), some (.ref ra), some (.ref kl), some (.ref fl), some (.ref ll), z7, z8, none] ∧
        RowsB K CR C p n xs ra dx sp pl rs as j H' ∧ (H' kl = some (.lst ks) ∧ (∀ u ∈ ks, ∃ b, u = V.ref b) ∧ ks.length ≤ j) ∧ (H' fl = some (.lst fs) ∧ (∀ v ∈ fs, FV K p n xs v H') ∧ fs.length ≤ j) ∧ (H' ll = some (.lst (las.map V.ref)) ∧ PtsA H' las lps ∧ las.length ≤ j ∧ ∀ y ∈ lps, y ∈ pts p n) ∧
        (xs = [] → (j = 0 → fs = [] ∧ lps = []) ∧ (0 < j → ∃ v, fs = [v] ∧ Dp K H' v (polD [(zeroP n, 1)]) ∧ lps = [zeroP n]))) ?_ ?_ ?_ ?_
    · refine ⟨x05, h5, hpo, [], [], [], [], none, none, rfl, hR5, ⟨hkl5, fun u hu => absurd hu List.not_mem_nil, Nat.le_refl _⟩, ⟨hfl5, fun u hu => absurd hu List.not_mem_nil, Nat.le_refl _⟩, ⟨hll5, .nil, Nat.le_refl _, fun u hu => absurd hu List.not_mem_nil⟩, fun _ => ⟨fun _ => ⟨rfl, rfl⟩, fun h => absurd h (Nat.lt_irrefl _)⟩⟩
    · rintro j σ H' _ ⟨_, h, _⟩
      exact sq_of h
    · rintro j v σ H6 H7 hj ⟨xe, hl6, hpo6, ks, fs, las, lps, z7, z8, rfl, hR6, ⟨hkl6, hks, hksl⟩, ⟨hfl6, hfs, hfsl⟩, ⟨hll6, hlas, hlasl, hlpm⟩, hnil⟩ ⟨rfl, hv⟩
      obtain ⟨q, e, rfl, hq, he, hqe⟩ := hpo6.at hv
      have hem : e ∈ pts p n := hmemS e (List.mem_of_getElem? he)
      have hj1000 : j < 1000 := by
        rw [List.length_map, hol] at hj
        omega
      have hlal : las.length = lps.length := hlas.len
      have hany : Evlp (tLc (iList K (tVar 6)) (gName 9) tYes (tCall (spDivides K) [] E0 (tCons (tVar 9) (tCons (tVar 7) tNil))) [9]) [some (.ref sp), some (.ref pl), some (.str "degree"), some (.ref ra), some (.ref kl), some (.ref fl), some (.ref ll), some (.ref q), z8, none] H7 ((lps.map fun y => divB y e).map fun b (v : V) (_ : Hp) => v = .bl b) := by
        have z : lps.map (fun y => divB y e) = (List.range (las.map V.ref).length).map fun i => divB (lps.getD i []) e := by
          rw [List.length_map, hlal]
          exact (range_getD ([] : Pt) (fun y => divB y e) lps).symm
        rw [z, ← gvn_bl]
        refine evlp_lc (J := Itl K ll) (fun H8 e8 R r => ⟨.ref ll, rfl, ll, rfl, ⟨_, sq_of (e8 ll _ hll6)⟩, r H8 (Ex.refl H8)⟩) (walk_list (K := K) (a := ll) (xs := las.map V.ref)) (by rw [List.length_map]; omega) (fun H' e => sq_of (e ll _ hll6)) _ _ (fun _ _ _ _ _ h => h) fun i v H8 H9 hi e8 hv => ?_
        obtain ⟨rfl, hv⟩ := hv
        obtain ⟨b, y, rfl, hb, hy, hby⟩ := hlas.at hv
        have eg : lps.getD i [] = y := by
          rw [List.getD_eq_getElem?_getD, hy] <;> rfl
        rw [eg]
        have hyl := pts_len (hlpm y (List.mem_of_getElem? hy))
        exact ⟨Ex.refl _, _, fun R r => r, rfl, et_yes, fun _ => evp_ev (ev_call (ea_cons (ev_var rfl) (ea_cons (ev_var rfl) ea_nil)) fun H10 e10 Q2 q2 E2 => ⟨b, q, y, e, rfl, .inl (.inl (ex_pt (e8.trans e10) hby)), .inl (.inl (ex_pt (e8.trans e10) hqe)), by omega, q2⟩) fun _ _ => rfl⟩
      have hnext : ∀ (b : Bool), b = !((lps.map fun y => divB y e).any id) → xs = [] → (b = true ↔ j = 0) := fun b hb hx => by
        obtain ⟨h0, h1⟩ := hnil hx
        by_cases hj0 : j = 0
        · rw [hb, (h0 hj0).2]
          exact ⟨fun _ => hj0, fun _ => rfl⟩
        · obtain ⟨v, _, _, hlp⟩ := h1 (by omega)
          rw [hb, hlp]
          show (!(divB (zeroP n) e || false)) = true ↔ _
          rw [div_zero hem]
          exact ⟨fun z => absurd z (by decide), fun z => absurd z hj0⟩
      refine s_when (b := !((lps.map fun y => divB y e).any id)) (et_not (et_tru (ev_any hany))) (fun hb H8 e8 => ?_) (fun hb H8 e8 => ?_)
      · have hb0 : xs = [] → j = 0 := fun hx => (hnext _ rfl hx).mp hb
        have hR8 := hR6.mono e8
        refine q_asg0 ?_
        obtain ⟨vs8, c1, c2, c3, c4, c5, c6, c7⟩ := id hR8
        refine ⟨.ref ra, rfl, ra, dx, _, rfl, c1, rfl, .ref q, rfl, ra, rs, q, p, n, j, xs, e, rfl, hR8.a, hsh, hxl, hxm, by omega, ex_pt e8 hqe, hem, fun v H9 eb9 hr9 hv9 => ?_⟩
        have tx : TEx H8 H9 := tex_exb eb9 c5 rfl
        have hR9 : RowsB K CR C p n xs ra dx sp pl rs as (j + 1) H9 := RowsB.of hr9 (tx ra _ c1 rfl) (eb9 pl _ c3.2 c3.1) (pts_tex tx c4)
        have hl9 : H9 l = some (.lst (out.map V.ref)) := eb9 l _ dl_r (e8 l _ hl6)
        have hkl9 : H9 kl = some (.lst ks) := eb9 kl _ (Ne.symm d_rk) (e8 kl _ hkl6)
        have hfl9 : H9 fl = some (.lst fs) := eb9 fl _ (Ne.symm d_rf) (e8 fl _ hfl6)
        have hll9 : H9 ll = some (.lst (las.map V.ref)) := eb9 ll _ (Ne.symm d_rl) (e8 ll _ hll6)
        have tx79 : TEx H7 H9 := (TEx.of e8).trans tx
        have hpo9 := pts_tex tx79 hpo6
        have hlas9 := pts_tex tx79 hlas
        have hfs9 : ∀ v ∈ fs, FV K p n xs v H9 := fun v hv => (hfs v hv).tex tx79
        have xe9 : ExN H H9 := fun b o hb hn => eb9 b o (ne_of_none hb hrsH) (e8 b o (xe b o hb hn))
        have hq9 : PtA H9 q e := pt_tex tx79 hqe
        rcases hv9 with ⟨rfl, hxne⟩ | ⟨g, hg1, hg2, hg3, hg4⟩
        · refine s_if (b := true) (fun H10 e10 Q2 q2 => ⟨.non, rfl, true, rfl, q2 H10 (Ex.refl H10)⟩) (fun _ H10 e10 => ?_) (fun hb => nomatch hb)
          refine s_app (e10 kl _ hkl9) (ev_var rfl) (ev_var rfl) (by omega) fun H11 e11 => ?_
          have e911 := e10.trans e11
          have hkl11 := e911 kl _ hkl9
          have txu : TEx H11 (upd H11 kl (.lst (ks ++ [.ref q]))) := TEx.upd hkl11 rfl
          have tx911 := (TEx.of e911).trans txu
          refine ⟨ExN.updn (xe9.trans (exn_of e911)) hklH, by rw [upd_ne dl_k]; exact e911 l _ hl9, pts_tex tx911 hpo9, ks ++ [.ref q], fs, las, lps, _, _, rfl, (hR9.mono e911).updl hkl11 hks (Ne.symm d_rk) (Ne.symm hplk), ⟨upd_same, fun u hu => ?_, ?_⟩, ⟨by rw [upd_ne (Ne.symm d_kf)]; exact e911 fl _ hfl9, fun v hv => (hfs9 v hv).tex tx911, by omega⟩, ⟨by rw [upd_ne (Ne.symm d_kl)]; exact e911 ll _ hll9, pts_tex tx911 hlas9, by omega, hlpm⟩, fun hx => absurd hx hxne⟩
          · rcases List.mem_append.mp hu with hu | hu
            · exact hks u hu
            · exact ⟨q, List.mem_singleton.mp hu⟩
          · rw [List.length_append, List.length_singleton]
            omega
        · have hfv : FV K p n xs v H9 := ⟨g, hg1, hg2, hg3⟩
          obtain ⟨vb, rfl⟩ := hfv.ref
          refine s_if (b := false) (fun H10 e10 Q2 q2 => ⟨.ref vb, rfl, false, rfl, q2 H10 (Ex.refl H10)⟩) (fun hb => nomatch hb) (fun _ H10 e10 => ?_)
          refine q_app (e10 fl _ hfl9) (ev_var rfl) (ev_var rfl) (by omega) fun H11 e11 => ?_
          have e911 := e10.trans e11
          have hfl11 := e911 fl _ hfl9
          have txu : TEx H11 (upd H11 fl (.lst (fs ++ [.ref vb]))) := TEx.upd hfl11 rfl
          have tx911 := (TEx.of e911).trans txu
          have hRu := (hR9.mono e911).updl (us' := fs ++ [.ref vb]) hfl11 (fun u hu => (hfs9 u hu).ref) (Ne.symm d_rf) (Ne.symm hplf)
          have hll11 : upd H11 fl (.lst (fs ++ [.ref vb])) ll = some (.lst (las.map V.ref)) := by
            rw [upd_ne (Ne.symm d_fl)]
            exact e911 ll _ hll9
          refine s_app hll11 (ev_var rfl) (ev_var rfl) (by rw [List.length_map]; omega) fun H12 e12 => ?_
          have hll12 := e12 ll _ hll11
          have txu2 : TEx H12 (upd H12 ll (.lst (las.map V.ref ++ [.ref q]))) := TEx.upd hll12 rfl
          have tx912 := (tx911.trans (TEx.of e12)).trans txu2
          have hfl12 : upd H12 ll (.lst (las.map V.ref ++ [.ref q])) fl = some (.lst (fs ++ [.ref vb])) := by
            rw [upd_ne d_fl]
            exact e12 fl _ upd_same
          refine ⟨ExN.updn ((ExN.updn (xe9.trans (exn_of e911)) hflH).trans (exn_of e12)) hllH, ?_, pts_tex tx912 hpo9, ks, fs ++ [.ref vb], las ++ [q], lps ++ [e], _, _, rfl, (hRu.mono e12).updl hll12 (fun u hu => ?_) (Ne.symm d_rl) (Ne.symm hpll), ⟨?_, hks, by omega⟩, ⟨hfl12, fun v hv => ?_, ?_⟩, ⟨?_, ?_, ?_, fun y hy => ?_⟩, fun hx => ⟨fun z => by omega, fun _ => ?_⟩⟩
          · rw [upd_ne dl_l]
            refine e12 l _ ?_
            rw [upd_ne dl_f]
            exact e911 l _ hl9
          · obtain ⟨b, _, rfl⟩ := List.mem_map.mp hu
            exact ⟨b, rfl⟩
          · rw [upd_ne d_kl]
            refine e12 kl _ ?_
            rw [upd_ne d_kf]
            exact e911 kl _ hkl9
          · rcases List.mem_append.mp hv with hv | hv
            · exact (hfs9 v hv).tex tx912
            · rw [List.mem_singleton.mp hv]
              exact hfv.tex tx912
          · rw [List.length_append, List.length_singleton]
            omega
          · rw [upd_same, List.map_append] <;> rfl
          · exact (pts_tex tx912 hlas9).snoc (pt_tex tx912 hq9)
          · rw [List.length_append, List.length_singleton]
            omega
          · rcases List.mem_append.mp hy with hy | hy
            · exact hlpm y hy
            · rw [List.mem_singleton.mp hy]
              exact hem
          · have hj0 := hb0 hx
            obtain ⟨f0, l0⟩ := (hnil hx).1 hj0
            have hez : e = zeroP n := by
              rw [hj0, hfz] at he
              exact (Option.some.inj he).symm
            rw [f0, l0, hez]
            refine ⟨.ref vb, rfl, ?_, rfl⟩
            have z := hg4 hx
            rw [hez] at z
            rw [z] at hg3
            exact dp_tex tx912 _ (noL_pol _) hg3
      · have hb0 : xs = [] → j ≠ 0 := fun hx z => by
          have y := (hnext _ rfl hx).mpr z
          rw [hb] at y
          cases y
        have tx : TEx H7 H8 := TEx.of e8
        obtain ⟨vs8, c1, c2, c3, c4, c5, c6, c7⟩ := hR6.mono e8
        refine ⟨xe.trans (exn_of e8), e8 l _ hl6, ex_pts e8 hpo6, ks, fs, las, lps, _, _, rfl, ⟨vs8, c1, c2, c3, c4, c5, by omega, c7⟩, ⟨e8 kl _ hkl6, hks, by omega⟩, ⟨e8 fl _ hfl6, fun v hv => (hfs v hv).tex tx, by omega⟩, ⟨e8 ll _ hll6, ex_pts e8 hlas, by omega, hlpm⟩, fun hx => ⟨fun z => by omega, fun _ => ?_⟩⟩
        obtain ⟨v, y1, y2, y3⟩ := (hnil hx).2 (by have := hb0 hx; omega)
        exact ⟨v, y1, dp_mono e8 y2, y3⟩
    · rintro σ H6 ⟨xe, hl6, hpo6, ks, fs, las, lps, z7, z8, rfl, hR6, ⟨hkl6, hks, hksl⟩, ⟨hfl6, hfs, hfsl⟩, ⟨hll6, hlas, hlasl, hlpm⟩, hnil⟩
      refine s_retU (eu_tup (ea_cons (ev_var rfl) (ea_cons (ev_var rfl) (ea_cons (ev_var rfl) ea_nil))) (show 3 ≤ 100000 by decide)) fun t H7 ht e7 h7 => ?_
      rw [List.length_map, hol] at hfsl hnil
      refine k t fl _ _ H7 ⟨fs, xe.trans (exn_of e7), e7 fl _ hfl6, fun v hv => (hfs v hv).tex (TEx.of e7), by omega, fun hx => ?_⟩ h7
      obtain ⟨v, y1, y2, y3⟩ := (hnil hx).2 hpos
      exact ⟨v, y1, dp_mono e7 y2⟩
end
end Z7
end

section
set_option Elab.async false
set_option linter.all false
set_option maxRecDepth 100000
set_option maxHeartbeats 4000000
namespace Z7
open PySem L2 Evl RZ
theorem q_asgLc0 {wi : L2.TI} {g : L2.TG} {t : TT} {te : TE} {vs : List Nat} {i : Nat} {tz : TS} {σ : L2.St} {H : Hp} {D : Ends} (h : wi σ H fun J H1 => lcT J g t te vs σ H1 fun x H2 => tz D (σ.set i (some x)) H2) : tSeq (tAsg (tLc wi g t te vs) (gName i)) tz D σ H := h
/-- a comprehension without a test, its items told with the new list's place -/
theorem lc_goD {J : It} {n : Nat} {G : Hp → Prop} {Y : Nat → Hp → V → Hp → Prop} {g : L2.TG} {te : TE} {vs : List Nat} {σ : L2.St} {H : Hp} (Pr : Addr → Nat → V → Hp → Prop) (w : Walk J n G Y) (hn : n ≤ 40000) (hG : ∀ H', Ex H H' → G H') (hst : ∀ D i v H H' acc, ExB D H H' → H D = some (.lst acc) → Pr D i v H → Pr D i v H')
    (hb : ∀ D i x H1 H2 acc, i < n → Ex H H1 → H1 D = some (.lst acc) → Y i H1 x H2 → Ex H1 H2 ∧ ∃ σ2, (∀ R : L2.St → Hp → Prop, R σ2 H2 → g x (wipe σ vs) H2 R) ∧ wipe σ2 vs = wipe σ vs ∧ EvP te σ2 H2 (Pr D i))
    {Q : VK} (k : ∀ D ws H2, H D = none → Ex H H2 → H2 D = some (.lst ws) → ws.length = n → (∀ i v, ws[i]? = some v → Pr D i v H2) → Q (.ref D) H2) : lcT J g tYes te vs σ H Q := fun D hD => by
  refine lc_it w (fun i H' => Ex H H' ∧ ∃ acc, H' D = some (.lst acc) ∧ acc.length = i ∧ ∀ j v, acc[j]? = some v → Pr D j v H') ⟨Ex.new hD, [], upd_same, rfl, fun j v hv => by simp at hv⟩ (fun i H' _ p => hG H' p.1) (fun i x H1 H2 hi p hy => ?_) (fun H' p => ?_)
  · obtain ⟨e1, acc, ha, hl, hp⟩ := p
    obtain ⟨e2, σ2, hg, hw, he⟩ := hb D i x H1 H2 acc hi e1 ha hy
    refine hg _ ⟨hw, he H2 (Ex.refl H2) _ fun v H4 e4 hv => ?_⟩
    have e14 := e2.trans e4
    have ha4 := e14 D _ ha
    refine ⟨acc, ha4, by rw [hl]; exact sz_lt (by omega), Ex.mut (e1.trans e14) hD, acc ++ [v], upd_same, by rw [List.length_append, hl] <;> rfl, fun j u hu => ?_⟩
    by_cases hj : j < acc.length
    · rw [List.getElem?_append_left hj] at hu
      exact hst D j u H4 _ acc ExB.upd ha4 (hst D j u H1 H4 acc (ExB.of e14) ha (hp j u hu))
    · rw [List.getElem?_append_right (by omega)] at hu
      have z : j - acc.length = 0 := by
        cases e : j - acc.length with
        | zero => rfl
        | succ m =>
          rw [e] at hu
          simp at hu
      rw [z] at hu
      cases hu
      have ej : j = i := by omega
      rw [ej]
      exact hst D i v H4 _ acc ExB.upd ha4 hv
  · obtain ⟨e1, acc, ha, hl, hp⟩ := p
    exact k D acc H' hD e1 ha hl hp
section
variable {K : Fg} {σ : L2.St} {H : Hp} {ta tv : TE} {tz : TS} {D : Ends} {a C dx : Addr} {fs : List (Str × V)} {f : Str}
theorem q_fldLp {Ps : List (V → Hp → Prop)} (hv : Evlp tv σ H Ps) (ho : Ev ta σ H (.ref a)) (hi : H a = some (.ins C dx fs)) (hc : Cls K C) (hn : NoAttr K C f) (hl : fs.length < 1000) (hs : ∀ P ∈ Ps, Stab P) (k : ∀ p ws H1, H p = none → Ex H H1 → H1 p = some (.lst ws) → AllP Ps ws H1 → tz D σ (upd H1 a (.ins C dx (putF f (.ref p) fs)))) : tSeq (sFld K ta tv f) tz D σ H :=
  hv H (Ex.refl H) _ fun p ws H1 hp e1 h1 hws => ho H1 e1 _ fun H2 e2 => ⟨a, C, dx, fs, rfl, (e1.trans e2) a _ hi, hc, hn, hl, k p ws H2 hp (e1.trans e2) (e2 p _ h1) (allp_ex e2 hs hws)⟩
end
section
variable {P : Program} {w : World} {K : Fg} {mg : Str → Option Value} {base : Heap} {f : Addr} {fd : FuncData}
def spBasis (K : Fg) (C T : Addr) : Sp := fun vs H Q _ => ∃ (sp pl : Addr) (p n : Nat) (as : List Addr) (xs : List Pt), vs = [.ref sp, .ref pl, .str "degree"] ∧ SpA C H sp p n ∧ shapeOk p n ∧ H pl = some (.lst (as.map V.ref)) ∧ PtsA H as xs ∧ xs.length ≤ 1000 ∧ (∀ x ∈ xs, x ∈ pts p n) ∧ H T = some (.tbl #[]) ∧
  ∀ fl H', WalkPost K p n xs H fl H' → Q (.ref fl) H'
theorem ok_basis {C T : Addr} (F : FnP K "basis" "basis" sBasis f fd) (WK : Cal P w K mg base 9 "walk" ["space", "points", "order"] (spWalk K C T)) : FnOk P w K mg base CX0 10 f fd ["space", "points", "order"] (spBasis K C T) := by
  refine F.ok scBasis (fun vs H Q E h => ?_) (fun cdv A outer s_1 H vs Q E hr h => ?_)
  · obtain ⟨sp, pl, p, n, as, xs, rfl, _⟩ := h
    rfl
  · obtain ⟨sp, pl, p, n, as, xs, rfl, hs, hsh, hpl, has, hxl, hxm, hT, k⟩ := h
    refine ⟨_, PSs.nox (pss_one (ps_ret (pe_ix ix_tup (pe_cal WK hr rfl (pa_cons (pv 0) (pa_cons (pv 1) (pa_cons (pv 2) pa_nil)))) pe_int (fun _ _ => rfl)))), ?_⟩
    exact ⟨.ref sp, rfl, .ref pl, rfl, .str "degree", rfl, sp, pl, p, n, as, xs, rfl, hs, hsh, hpl, has, hxl, hxm, hT, fun t fl u v H' hw ht => ⟨t, [u, .ref fl, v], 1, .ref fl, rfl, rfl, st_of ht, atI_nat (j := 1) rfl, k fl H' hw⟩⟩
abbrev PaF (K : Fg) (C : Addr) : Prop := ClsF K C ["order", "rows", "points"]
def RowU (u v : V) (H : Hp) : Prop := ∃ T w, v = .ref T ∧ H T = some (.tup [u, w])
theorem stab_rowu (u : V) : Stab (RowU u) := fun _ _ _ e ⟨T, w, a, b⟩ => ⟨T, w, a, e T _ b rfl⟩
def spPaperI (K : Fg) (CP : Addr) : Sp := fun vs H Q _ => ∃ (x dx rl pl : Addr) (o : V) (us uz ps : List V), vs = [.ref x, o, .ref rl, .ref pl] ∧ H x = some (.ins CP dx []) ∧ SqL K H rl us ∧ us.length = uz.length ∧ us.length ≤ 1000 ∧ SqL K H pl ps ∧
  (∀ i v, us[i]? = some v → ∃ T l ws, v = .ref T ∧ SqT K H T [uz.getD i .non, .ref l] ∧ SqL K H l ws ∧ ws.length ≤ 1000) ∧
  ∀ H' rl2 us2 q, ExB x H H' → H' x = some (.ins CP dx [("order", o), ("rows", .ref rl2), ("points", q)]) → H' rl2 = some (.lst us2) → AllP (uz.map RowU) us2 H' → Q .non H'
theorem ok_paperI {CP : Addr} (F : FnP K "__init__" "Paper.__init__" sPaperInit f fd) (B : Bi mg) (S : PaF K CP) : FnOk P w K mg base CX0 1 f fd ["self", "order", "rows", "points"] (spPaperI K CP) := by
  refine F.ok scPaperInit (fun vs H Q E h => ?_) (fun cdv A outer s_1 H vs Q E hr h => ?_)
  · obtain ⟨x, dx, rl, pl, o, us, uz, ps, rfl, _⟩ := h
    rfl
  · obtain ⟨x, dx, rl, pl, o, us, uz, ps, rfl, hx, hrl, hul, hu1000, hpl, hrows, k⟩ := h
    refine ⟨_, PSs.nox (pss_cons (ps_fld (pv 0) (pv 1) rfl) (pss_cons (ps_fld (pv 0) (pe_lc (own := [("one", 4), ("parts", 5)]) (g := gTup K 2 (gCons (gName 4) (gCons (gName 5) gNil))) (tt := tYes) rfl scPaperInit.nd (pi_list (pv 2)) (blkOk_by (N := nPaperInit) (sc := defScope sPaperInit) (by decide +kernel))
        (fun _ _ _ _ _ => pg_tup rfl (pgs_cons (pg_name (i := 4) scPaperInit.nd rfl (.inl rfl)) (pgs_cons (pg_name (i := 5) scPaperInit.nd rfl (.inl rfl)) pgs_nil))) (fun _ _ _ _ _ => pts_nil) (fun _ _ _ _ _ => pe_tup (pa_cons (pv 4) (pa_cons (pe_callTy (r := rListS K) call_list_of rfl B.list PyProof.Rows.boot_list (pa_cons (pv 5) pa_nil)) pa_nil)))) rfl)
      (pss_one (ps_fld (pv 0) (pe_callTy call_list_of rfl B.list PyProof.Rows.boot_list (pa_cons (pv 3) pa_nil)) rfl)))), ?_⟩
    refine q_fld (ev_var rfl) (ev_var rfl) hx S.cl (S.no _ (by decide)) (by decide) fun H1 e1 => ?_
    have b1 : ExB x H _ := ((ExB.of e1).trans (ExB.upd (a := x) (H := H1) (o := .ins CP dx (putF "order" o []))))
    have rl1 := exb_l b1 hx hrl
    have hst : ∀ Pr ∈ uz.map RowU, Stab Pr := fun Pr h => by
      obtain ⟨u, _, rfl⟩ := List.mem_map.mp h
      exact stab_rowu u
    refine q_fldLp (a := x) (C := CP) (dx := dx) (Ps := uz.map RowU) ?_ (ev_var rfl) upd_same S.cl (S.no _ (by decide)) (show 1 < 1000 by decide) hst fun q ws H2 hq e2 h2 hws => ?_
    · have z : uz.map RowU = gvn us.length (fun _ => true) fun i => RowU (uz.getD i .non) := by
        rw [gvn_all, hul]
        exact (range_getD V.non RowU uz).symm
      rw [z]
      refine evlp_lc (J := Itl K rl) (fun H2 e2 R r => ⟨.ref rl, rfl, rl, rfl, ⟨_, ex_l e2 rl1⟩, r H2 (Ex.refl H2)⟩) (walk_list (K := K) (a := rl) (xs := us)) (by omega) (fun H' e => ex_l e rl1) _ _ (fun _ => stab_rowu _) fun i v H2 H3 hi e2 hv => ?_
      obtain ⟨rfl, hv⟩ := hv
      obtain ⟨T, l, ws, rfl, hT, hl, hwl⟩ := hrows i v hv
      have hT2 := ex_t e2 (exb_t b1 hx hT)
      have hl2 := ex_l e2 (exb_l b1 hx hl)
      refine ⟨Ex.refl _, [some (.ref x), some o, some (.ref rl), some (.ref pl), some (uz.getD i .non), some (.ref l)], fun R r => gtup2 hT2 r, rfl, et_yes, fun _ => fun H3 e3 Q2 q2 => ?_⟩
      refine ⟨uz.getD i .non, rfl, .ref l, rfl, l, ws, rfl, .inl (ex_l e3 hl2), fun l2 hl3 => ⟨by show 2 ≤ sizeLine; exact sz_of (by decide), fun T2 hT3 => ?_⟩⟩
      exact q2 _ _ ((Ex.new hl3).trans (Ex.new hT3)) ⟨T2, _, rfl, upd_same⟩
    · have hqx : q ≠ x := fun z => by
        rw [z, upd_same] at hq
        cases hq
      have b2 := (b1.trans (ExB.of e2)).trans (ExB.upd (a := x) (H := H2) (o := .ins CP dx (putF "rows" (.ref q) (putF "order" o []))))
      have pl2 := exb_l b2 hx hpl
      have hi2 : H2 x = some (.ins CP dx (putF "order" o [])) := e2 x _ upd_same
      have tx : ∀ {fs'}, TEx (upd H2 x (.ins CP dx fs')) (upd H2 x (.ins CP dx fs')) := fun {_} => TEx.refl _
      refine s_fldL (xs := ps) (fun H5 e5 Q q => ⟨.ref pl, rfl, pl, _, rfl, .inl (ex_l e5 pl2), fun z hz => q z _ hz (Ex.new hz) upd_same⟩) (ev_var rfl) upd_same S.cl (S.no _ (by decide)) (show 2 < 1000 by decide) fun q3 H3 hq3 e3 h3 => ?_
      refine k _ q ws (.ref q3) ((b2.trans (ExB.of e3)).trans ExB.upd) upd_same ?_ ?_
      · rw [upd_ne hqx]
        refine e3 q _ ?_
        rw [upd_ne hqx]
        exact h2
      · have key : ∀ {uz : List V} {ws : List V}, AllP (uz.map RowU) ws H2 → AllP (uz.map RowU) ws (upd H3 x (.ins CP dx (putF "points" (.ref q3) (putF "rows" (.ref q) (putF "order" o []))))) := fun {uz} => by
          induction uz with
          | nil =>
            intro ws h
            cases h
            exact .nil
          | cons u uz ih =>
            intro ws h
            cases h with
            | cons h1 t =>
              obtain ⟨T, w, e, hT⟩ := h1
              refine .cons ⟨T, w, e, ?_⟩ (ih t)
              have hTx : T ≠ x := fun z => by
                rw [z, hi2] at hT
                cases hT
              rw [upd_ne hTx]
              refine e3 T _ ?_
              rw [upd_ne hTx]
              exact hT
        exact key hws
def PaperA (K : Fg) (CP : Addr) (p n : Nat) (xs : List Pt) (b : Addr) (H' : Hp) : Prop := ∃ dx o rl q us fs, H' b = some (.ins CP dx [("order", o), ("rows", .ref rl), ("points", q)]) ∧ H' rl = some (.lst us) ∧ AllP (fs.map RowU) us H' ∧ us.length ≤ 1000 ∧ (∀ v ∈ fs, FV K p n xs v H') ∧ (xs = [] → ∃ v, fs = [v] ∧ Dp K H' v (polD [(zeroP n, 1)]))
def spPaperOf (K : Fg) (CP CY C T : Addr) : Sp := fun vs H Q _ => ∃ (a : Addr) (p n : Nat) (Fs : List (Pt → Int)), vs = [.ref a, .str "degree"] ∧ SysA K CY C p n Fs a H ∧ Fs.length ≤ 100 ∧ shapeOk p n ∧ H T = some (.tbl #[]) ∧
  ∀ b H', ExN H H' → PaperA K CP p n ((pts p n).filter (solB Fs)) b H' → Q (.ref b) H'
theorem ok_paperof {CP CY C T : Addr} (F : FnP K "paper_of" "paper_of" sPaperOf f fd) (B : Bi mg) (S : SyF K CY) (SF : SpF K C) (SO : MCal P w K mg base 5 CY "solutions" ["self"] (spSols K CY C)) (BA : Cal P w K mg base 10 "basis" ["space", "points", "order"] (spBasis K C T))
    (FA : Cal P w K mg base 4 "factors" ["system", "one"] (spFactors K CY C)) (PI : CCal P w K mg base 1 CP "Paper" ["self", "order", "rows", "points"] (spPaperI K CP)) : FnOk P w K mg base CX0 11 f fd ["system", "order"] (spPaperOf K CP CY C T) := by
  refine F.ok scPaperOf (fun vs H Q E h => ?_) (fun cdv A outer s_1 H vs Q E hr h => ?_)
  · obtain ⟨a, p, n, Fs, rfl, _⟩ := h
    rfl
  · obtain ⟨a, p, n, Fs, rfl, hsy, hz, hsh, hT, k⟩ := h
    have hsm := hsh.small
    refine ⟨_, PSs.nox (pss_cons (ps_set (i := 2) scPaperOf.nd rfl (.inl rfl) (pe_mcal0 (pv 0) S.cl SO hr))
      (pss_cons (ps_setLc (i := 3) (own := [("one", 4)]) (g := gName 4) (tt := tYes) rfl scPaperOf.nd rfl rfl (sw_true rfl rfl rfl (by decide +kernel)) (pi_list (pe_cal BA hr rfl (pa_cons (pe_fld (pv 0) rfl) (pa_cons (pv 2) (pa_cons (pv 1) pa_nil))))) (blkOk_by (N := nPaperOf) (sc := defScope sPaperOf) (by decide +kernel))
          (fun _ _ _ _ _ => pg_name (i := 4) scPaperOf.nd rfl (.inl rfl)) (fun _ _ _ _ _ => pts_nil) (fun _ _ _ _ _ => pe_tup (pa_cons (pv 4) (pa_cons (pe_cal FA hr rfl (pa_cons (pv 0) (pa_cons (pv 4) pa_nil))) pa_nil))))
      (pss_one (ps_ret (pe_ccal PI hr rfl (pa_cons (pv 1) (pa_cons (pv 3) (pa_cons (pv 2) pa_nil)))))))), ?_⟩
    have hsy0 := hsy
    obtain ⟨dx, sp, el, es, ha, hs, hel, hes⟩ := hsy
    refine q_asg0 ⟨.ref a, rfl, a, dx, _, rfl, ha, rfl, a, p, n, Fs, rfl, hsy0, hz, hsh, fun pl as H1 hpl e1 h1 has => ?_⟩
    have hfl : ((pts p n).filter (solB Fs)).length ≤ 1000 := by
      have z := List.length_filter_le (solB Fs) (pts p n)
      rw [pts_count] at z
      omega
    obtain ⟨dxs, nms, hsi⟩ := hs
    generalize hxs : (pts p n).filter (solB Fs) = xs at has hfl ⊢
    have hxm : ∀ x ∈ xs, x ∈ pts p n := fun x hx => by
      rw [← hxs] at hx
      exact (List.mem_filter.mp hx).1
    refine q_asgLc0 ?_
    refine ⟨.ref a, rfl, a, CY, dx, _, .ref sp, rfl, e1 a _ ha, S.cl, S.no _ (by decide), rfl, .ref pl, rfl, .str "degree", rfl, sp, pl, p, n, as, xs, rfl, ⟨dxs, nms, e1 sp _ hsi⟩, hsh, h1, has, hfl, hxm, e1 T _ hT, fun fl H2 hw => ?_⟩
    obtain ⟨fs, xe, hfl2, hfs, hfsl, hnil⟩ := hw
    have x02 : ExN H H2 := (exn_of e1).trans xe
    have hsy2 := hsy0.exn x02
    have hpl2 : H2 pl = some (.lst (as.map V.ref)) := xe pl _ h1 (fun _ z => nomatch z)
    refine ⟨fl, rfl, ⟨_, sq_of hfl2⟩, ?_⟩
    refine lc_goD (J := Itl K fl) (fun D i v H' => ∃ T l ws, v = .ref T ∧ H' T = some (.tup [fs.getD i .non, .ref l]) ∧ l ≠ D ∧ H' l = some (.lst ws) ∧ ws.length ≤ 100) (walk_list (K := K) (a := fl) (xs := fs)) (by omega) (fun H' e => sq_of (e fl _ hfl2)) (fun D i v H3 H4 acc eb hD hp => ?_) (fun D i v H3 H4 acc hi e3 hD hv => ?_) (fun rl ws H3 hrl e3 h3 hwl hws => ?_)
    · obtain ⟨T, l, ws, h1, h2, h3, h4, h5⟩ := hp
      exact ⟨T, l, ws, h1, eb T _ (fun z => by rw [z, hD] at h2; cases h2) h2, h3, eb l _ h3 h4, h5⟩
    · obtain ⟨rfl, hv⟩ := hv
      have eg : fs.getD i .non = v := by
        rw [List.getD_eq_getElem?_getD, hv] <;> rfl
      rw [eg]
      obtain ⟨g, g1, g2, g3⟩ := hfs v (List.mem_of_getElem? hv)
      refine ⟨Ex.refl _, [some (.ref a), some (.str "degree"), some (.ref pl), none, some v], fun R r => r, rfl, fun H5 e5 Q2 q2 => ?_⟩
      have e25 := e3.trans e5
      have hvan : ∀ x ∈ pts p n, solB Fs x = true → pev p g x = 0 := fun x hx hsx => g2 x (by rw [← hxs]; exact List.mem_filter.mpr ⟨hx, hsx⟩)
      refine ⟨v, rfl, .ref a, rfl, v, rfl, a, v, p, n, Fs, pev p g, rfl, hsy2.mono e25, ⟨g, g1, fun _ _ => rfl, dp_mono e25 g3⟩, hz, hsh, fun z => absurd hvan z, fun _ l ws H6 hl e6 h6 hwl => ⟨by show 2 ≤ sizeLine; exact sz_of (by decide), fun T2 hT2 => ?_⟩⟩
      have hlD : l ≠ D := fun z => by
        rw [z] at hl
        have y := e5 D _ hD
        rw [hl] at y
        cases y
      exact q2 _ _ (e6.trans (Ex.new hT2)) ⟨T2, l, ws, rfl, upd_same, hlD, Ex.new hT2 l _ h6, hwl⟩
    · have x03 := x02.trans (exn_of e3)
      refine ⟨.str "degree", rfl, .ref rl, rfl, .ref pl, rfl, fun b dxb hb hdxb hne => ?_⟩
      have ex : Ex H3 (upd (upd H3 dxb (.own b)) b (.ins CP dxb [])) := (Ex.new hdxb).trans (Ex.new (by rw [upd_ne (Ne.symm hne)]; exact hb))
      refine ⟨b, dxb, rl, pl, .str "degree", ws, fs, as.map V.ref, rfl, upd_same, sq_of (ex rl _ h3), hwl, by omega, sq_of (ex pl _ (e3 pl _ hpl2)), fun i v hv => ?_, fun H4 rl2 us2 q eb hi4 hrl2 hus2 => ⟨rfl, ?_⟩⟩
      · obtain ⟨T, l, ws2, y1, y2, y3, y4, y5⟩ := hws i v hv
        exact ⟨T, l, ws2, y1, st_of (ex T _ y2), sq_of (ex l _ y4), by omega⟩
      · have e34 : Ex H3 H4 := fun c o hc => eb c o (ne_of_none hc hb) (ex c o hc)
        have e24 := e3.trans e34
        have hul : us2.length ≤ 1000 := by
          have z := hus2.len
          rw [List.length_map] at z
          omega
        exact k b H4 (x03.trans (exn_of e34)) (by
          rw [hxs]
          exact ⟨dxb, _, rl2, q, us2, fs, hi4, hrl2, hus2, hul, fun v hv => (hfs v hv).tex (TEx.of e24), fun hx => by
            obtain ⟨v, y1, y2⟩ := hnil hx
            exact ⟨v, y1, dp_mono e24 y2⟩⟩)
end
end Z7
end

section
set_option Elab.async false
set_option linter.all false
set_option maxRecDepth 100000
set_option maxHeartbeats 4000000
namespace Z7
open PySem PySem.Spec PyProof.Rows L2
theorem tuple_mul1 (l : Addr) (items : Array Value) (n : Nat) (dd : Option Addr) (sl : Array (Option Value)) (u : Tok) (hi : items.isEmpty = false) :
    Meets (Builtin.«tuple.__mul__» ⟨[.ref l, .int 1 u], []⟩) (fun _ R s => s.heap.get? l = some { cls := .type "tuple", dict := dd, data := .seq items n, slots := sl } ∧ R (.ok (.ret (Value.ref l))) s) :=
  .of_wp fun prog w A R s h => by
    obtain ⟨hp, g, d, tk, os⟩ := s
    obtain ⟨hl, h⟩ := h
    have f1 := AutoSeq1.idx_int
    have c1 : (items.isEmpty || (1 : Int) == 1) = true := by rw [hi]; rfl
    wp_walk using wpAny_loadPart' hl
    exact ⟨_, rfl, h⟩

/-- t * k, k from 1 on -/
def rRepA (K : Fg) : R2 := fun x y H Q => ∃ l k xs, x = .ref l ∧ y = .int k ∧ SqT K H l xs ∧ xs ≠ [] ∧ 1 ≤ k ∧ k ≤ 1000 ∧ xs.length ≤ 1000 ∧ (k = 1 → Q (.ref l) H) ∧ (k ≠ 1 → ∀ p, H p = none → Q (.ref p) (upd H p (.tup (List.replicate k.toNat xs).flatten)))
theorem op_repA {X : Cx} : OpR X (binaryOp .Mult) (rRepA X.K) := by
  intro pins s σ H x y v u Q I rx ry h
  obtain ⟨l, k, xs, rfl, rfl, hT, hne, h1, h2, hz, q1, q2⟩ := h
  by_cases hk : k = 1
  · subst hk
    cases rx
    obtain ⟨t, rfl⟩ := ry
    obtain ⟨its, r, ⟨⟨cls, dd, data, sl⟩, ho, hc, n, hd⟩, hs⟩ := I.tuple hT
    simp only at hc hd
    subst hc hd
    have hle : its.length = xs.length := r.length.symm
    have hi : its.toArray.isEmpty = false := by
      cases its with
      | nil => exact absurd (List.eq_nil_of_length_eq_zero hle.symm) hne
      | cons a b => rfl
    exact wpAny_binaryOp_repeat_ref (T := "tuple") (U := "int") (by decide) ⟨_, ho, rfl⟩ (fun s' => typeIs_int s' 1 t) noFill_tuple_mul F.fills_int_mul F.slot_int_rmul repeat_tuple F.slot_int_index.lookup
      (call_meets F.slot_int_rmul (typeIs_int s 1 t) F.entry_int_rmul (F.args_int_rmul_2 _ _) (int_rmul_tuple 1 t l its.toArray n dd sl)
        ⟨ho, rfl, ⟨_, ho, rfl⟩, call_meets F.slot_tuple_mul ⟨_, ho, rfl⟩ F.entry_tuple_mul (F.args_tuple_mul_2 _ _) (tuple_mul1 l its.toArray n dd sl t hi) ⟨ho, .ref l, H, I, rfl, q1 rfl⟩⟩)
  · exact op_repT pins s σ H _ _ v u Q I rx ry ⟨l, k, xs, rfl, rfl, hT, hne, by omega, h2, hz, q2 hk⟩
end Z7
end

section
set_option Elab.async false
set_option linter.all false
set_option maxRecDepth 100000
set_option maxHeartbeats 4000000
namespace Z7
open PySem L2 Evl RZ
section
variable {P : Program} {w : World} {K : Fg} {mg : Str → Option Value} {base : Heap} {f : Addr} {fd : FuncData}
/-! ### the law's helpers -/
def spCellA (K : Fg) : Sp := fun vs H Q _ => ∃ (l : Addr) (ns : List Int) (k : Nat), vs = [.ref l, .int (k : Int)] ∧ SqL K H l (ns.map V.int) ∧ ∀ (i : Int) H2, Ex H H2 → Q (.int i) H2
theorem ok_cell (F : FnP K "_law_cell" "_law_cell" sLawCell f fd) (B : Bi mg) : FnOk P w K mg base CX0 1 f fd ["_law_script", "_law_k"] (spCellA K) := by
  refine F.ok scLawCell (fun vs H Q E h => ?_) (fun cdv A outer s H vs Q E hr h => ?_)
  · obtain ⟨l, ns, k, rfl, _⟩ := h
    rfl
  · obtain ⟨l, ns, k, rfl, hl, q⟩ := h
    refine ⟨_, PSs.nox (pss_cons (ps_if (pt_cmpR op_lt (pv 1) (pe_callB call_len_seq rfl B.len PySem.boot_len (pa_cons (pv 0) pa_nil)) (nomark _)) (pss_one (ps_ret (pe_ix ix_list (pv 0) (pv 1) (fun _ _ => rfl)))) pss_nil)
      (pss_one (ps_ret pe_int))), ?_⟩
    refine q_when (b := decide ((k : Int) < (ns.length : Int))) (et_test (ev_op (x := .int (k : Int)) (y := .int (ns.length : Int)) (ev_var rfl) (fun H1 e1 Q2 q2 => ⟨.ref l, rfl, l, _, rfl, .inl (ex_l e1 hl), by rw [List.length_map]; exact q2 H1 (Ex.refl H1)⟩) rv_I0)) (fun hb H1 e1 => ?_) (fun hb H1 e1 => ?_)
    · have hk : (k : Int) < (ns.length : Int) := of_decide_eq_true hb
      have hk2 : k < ns.length := by omega
      exact s_ret (ev_op (ev_var rfl) (ev_var rfl) (rv_ixL (v := .int ns[k]) (ex_l e1 hl) (atI_nat (by rw [List.getElem?_map, List.getElem?_eq_getElem hk2]; rfl)))) fun H2 e2 => q _ H2 (e1.trans e2)
    · exact s_ret ev_c fun H2 e2 => q _ H2 (e1.trans e2)
def spDigits : Sp := fun vs H Q _ => ∃ (c m : Int) (n : Nat), vs = [.int c, .int m, .int (n : Int)] ∧ (0 < m ∧ m < 1000000) ∧ n ≤ 1000 ∧ ∀ (p : Addr) (ds : List Int) (H2 : Hp), H p = none → Ex H H2 → H2 p = some (.lst (ds.map V.int)) → ds.length = n → (∀ d ∈ ds, 0 ≤ d ∧ d < m) → Q (.ref p) H2
theorem ok_digits (F : FnP K "_law_digits" "_law_digits" sLawDigits f fd) (B : Bi mg) : FnOk P w K mg base CX0 1 f fd ["_law_cell_here", "_law_many", "_law_count"] spDigits := by
  refine F.ok scLawDigits (fun vs H Q E h => ?_) (fun cdv A outer s H vs Q E hr h => ?_)
  · obtain ⟨c, m, n, rfl, _⟩ := h
    rfl
  · obtain ⟨c, m, n, rfl, hm, hn, k⟩ := h
    refine ⟨_, PSs.nox (pss_cons (ps_set (i := 3) scLawDigits.nd rfl (.inl rfl) (pe_lst pa_nil)) (pss_cons (ps_set (i := 4) scLawDigits.nd rfl (.inl rfl) (pv 0))
      (pss_cons (ps_for PassesOwn.never rfl (pi_range1 rfl B.range (pa_cons (pv 2) pa_nil)) (pg_name (i := 5) scLawDigits.nd rfl (.inl rfl))
        (pss_one (ps_if (pt_cmpR op_ge (pv 0) (pe_op op_pow pe_int pe_int) (by rfl))
          (pss_cons (ps_expr (pe_bm PySem.F.plainAttrs_list PySem.F.slot_list_append PySem.F.type_list_append mt_append (pv 3) (pa_cons (pe_op op_mod (pe_callTy call_int1 rfl B.int PyProof.Rows.boot_int (pa_cons (pv 4) pa_nil)) (pv 1)) pa_nil)))
            (pss_one (ps_set (i := 4) scLawDigits.nd rfl (.inl rfl) (pe_op op_fdiv (pv 4) (pv 1)))))
          (pss_cons (ps_set (i := 6) scLawDigits.nd rfl (.inl rfl) (pe_op op_mod (pe_callTy call_int1 rfl B.int PyProof.Rows.boot_int (pa_cons (pe_op op_add (pe_op op_add (pe_op op_mul (pv 0) pe_int) (pe_op op_mul (pv 5) pe_int)) pe_int) pa_nil)) pe_int))
          (pss_cons (ps_set (i := 6) scLawDigits.nd rfl (.inl rfl) (pe_op op_mod (pe_callTy call_int1 rfl B.int PyProof.Rows.boot_int (pa_cons (pe_op op_add (pe_op op_add (pe_op op_mul (pv 6) (pv 6)) (pe_op op_mul pe_int (pv 6))) (pv 5)) pa_nil)) pe_int))
            (pss_one (ps_expr (pe_bm PySem.F.plainAttrs_list PySem.F.slot_list_append PySem.F.type_list_append mt_append (pv 3) (pa_cons (pe_op op_mod (pe_callTy call_int1 rfl B.int PyProof.Rows.boot_int (pa_cons (pe_op op_fdiv (pv 6) pe_int) pa_nil)) (pv 1)) pa_nil)))))))))
      (pss_one (ps_ret (pv 3)))))), ?_⟩
    have ivint : ∀ {te : TE} {σ : L2.St} {H : Hp} {i : Int}, Ev te σ H (.int i) → Ev (tCB (fun xs H Q => (∃ i, xs = [V.int i] ∧ Q (.int i) H) ∨ ∃ k, xs = [.bl k] ∧ Q (.int (if k then 1 else 0)) H) (tCons te tNil)) σ H (.int i) := fun {te σ H i} h =>
      ev_cb (ea_cons h ea_nil) fun H4 e4 Q2 q2 => .inl ⟨i, rfl, q2 H4 (Ex.refl H4)⟩
    refine q_asgL (el_lst ea_nil (by decide)) fun p H1 hp e1 h1 => ?_
    refine q_asg (ev_var rfl) fun H2 e2 => ?_
    refine q_forR1 (n := (n : Int)) (ea_cons (ev_var rfl) ea_nil) ⟨by omega, by omega⟩ (fun i σ H' => Ex H H' ∧ ∃ ds r y z, σ = [some (.int c), some (.int m), some (.int (n : Int)), some (.ref p), some (.int r), y, z] ∧ H' p = some (.lst (ds.map V.int)) ∧ ds.length = i ∧ ∀ d ∈ ds, 0 ≤ d ∧ d < m)
      (fun H3 e3 => ⟨e1.trans (e2.trans e3), [], c, none, none, rfl, (e2.trans e3) p _ h1, rfl, fun d hd => absurd hd List.not_mem_nil⟩) ?_ ?_
    · rintro i σ H3 hi ⟨ex, ds, r, y, z, rfl, h3, hl, hb⟩
      have fin : ∀ {t : Int} {ds' : List Int}, 0 ≤ t % m ∧ t % m < m := fun {t ds'} => ⟨Int.emod_nonneg _ (by omega), Int.emod_lt_of_pos _ (by omega)⟩
      have snoc : ∀ t : Int, ∀ d ∈ ds ++ [t % m], 0 ≤ d ∧ d < m := fun t d hd => by
        rcases List.mem_append.mp hd with hd | hd
        · exact hb d hd
        · rw [List.mem_singleton.mp hd]
          exact fin (ds' := ds)
      refine s_if (b := decide ((10 : Int) ^ 18 ≤ c)) (et_test (ev_op (x := .int c) (y := .int ((10 : Int) ^ 18)) (ev_var rfl) (ev_op ev_c ev_c (rv_I (show CPow 10 18 from ⟨by decide, by decide, by decide⟩))) rv_I0)) (fun _ H4 e4 => ?_) (fun _ H4 e4 => ?_)
      · refine q_app (e4 p _ h3) (ev_var rfl) (ev_op (ivint (ev_var rfl)) (ev_var rfl) (rv_I hm.1)) (by rw [List.length_map]; omega) fun H5 e5 => ?_
        refine s_asg (ev_op (ev_var rfl) (ev_var rfl) (rv_I ⟨hm.1, by omega⟩)) fun H6 e6 => ?_
        refine ⟨(Ex.mut (ex.trans (e4.trans e5)) hp).trans e6, ds ++ [r % m], _, _, _, rfl, ?_, by rw [List.length_append, hl] <;> rfl, snoc r⟩
        have z2 := e6 p _ (upd_same (H := H5) (a := p) (o := .lst (ds.map V.int ++ [.int (r % m)])))
        rw [z2, List.map_append] <;> rfl
      · refine q_asg (ev_op (ivint (ev_op (ev_op (ev_op (ev_var rfl) ev_c (rv_I (.inr ⟨by omega, by omega⟩))) (ev_op (ev_var rfl) ev_c (rv_I (.inr ⟨by omega, by omega⟩))) rv_I0) ev_c rv_I0)) ev_c (rv_I (show (0 : Int) < 2147483647 by decide))) fun H5 e5 => ?_
        generalize hA : (c * 48271 + (i : Int) * 69621 + 1013) % 2147483647 = a1
        have ha1 : 0 ≤ a1 ∧ a1 < 2147483647 := by
          rw [← hA]
          exact ⟨Int.emod_nonneg _ (by decide), Int.emod_lt_of_pos _ (by decide)⟩
        refine q_asg (ev_op (ivint (ev_op (ev_op (ev_op (x := .int a1) (y := .int a1) (ev_var rfl) (ev_var rfl) (rv_I (.inl ⟨by omega, by omega⟩))) (ev_op (ev_c (v := .int 7)) (ev_var rfl) (rv_I (.inl ⟨by omega, by omega⟩))) rv_I0) (ev_var rfl) rv_I0)) ev_c (rv_I (show (0 : Int) < 2147483629 by decide))) fun H6 e6 => ?_
        have h6 := (e4.trans (e5.trans e6)) p _ h3
        refine s_app h6 (ev_var rfl) (ev_op (ivint (ev_op (ev_var rfl) ev_c (rv_I (show CDiv _ 31 from ⟨by decide, by decide⟩)))) (ev_var rfl) (rv_I hm.1)) (by rw [List.length_map]; omega) fun H7 e7 => ?_
        refine ⟨Ex.mut (ex.trans ((e4.trans (e5.trans e6)).trans e7)) hp, ds ++ [_], r, _, _, rfl, by rw [upd_same, List.map_append] <;> rfl, by rw [List.length_append, hl] <;> rfl, snoc _⟩
    · rintro σ H3 ⟨ex, ds, r, y, z, rfl, h3, hl, hb⟩
      rw [Int.toNat_natCast] at hl
      exact s_ret (ev_var rfl) fun H4 e4 => k p ds H4 hp (ex.trans e4) (e4 p _ h3) hl hb
end
end Z7
end

section
set_option Elab.async false
set_option linter.all false
set_option maxRecDepth 100000
set_option maxHeartbeats 4000000
namespace Z7
open PySem L2 Evl RZ
def EvAp (ta : TA) (σ : L2.St) (H : Hp) (Ps : List (V → Hp → Prop)) : Prop := ∀ H1, Ex H H1 → ∀ Q : List V → Hp → Prop, (∀ ws H2, Ex H1 H2 → AllP Ps ws H2 → Q ws H2) → ta σ H1 Q
section
variable {K : Fg} {σ : L2.St} {H : Hp} {ta : TA} {te : TE}
theorem eap_nil : EvAp tNil σ H [] := fun H1 _ Q q => q [] H1 (Ex.refl H1) .nil
theorem eap_cons {P : V → Hp → Prop} {Ps : List (V → Hp → Prop)} (h : EvP te σ H P) (hs : Stab P) (hr : EvAp ta σ H Ps) : EvAp (tCons te ta) σ H (P :: Ps) := fun H1 e Q q => h H1 e _ fun v H2 e2 hv => hr H2 (e.trans e2) _ fun ws H3 e3 hw => q (v :: ws) H3 (e2.trans e3) (.cons (hs v H2 H3 (TEx.of e3) hv) hw)
theorem evlp_lst {Ps : List (V → Hp → Prop)} (h : EvAp ta σ H Ps) (hs : ∀ P ∈ Ps, Stab P) (hl : Ps.length ≤ 1000) : Evlp (tLst ta) σ H Ps := fun H1 e Q q => h H1 e _ fun ws H2 e2 hw => by
  have z := hw.len
  exact ⟨sz_of (by omega), fun p hp => q p ws _ (fresh_back e2 hp) (e2.trans (Ex.new hp)) upd_same (allp_ex (Ex.new hp) hs hw)⟩
end
def IsPr (a b : Int) (v : V) (H : Hp) : Prop := ∃ t, v = .ref t ∧ H t = some (.tup [.int a, .int b])
theorem stab_pr (a b : Int) : Stab (IsPr a b) := fun _ _ _ e ⟨t, x, y⟩ => ⟨t, x, e t _ y rfl⟩
theorem evp_pr {σ : L2.St} {H : Hp} {a b : Int} : EvP (tTup (tCons (tC (.int a)) (tCons (tC (.int b)) tNil))) σ H (IsPr a b) := fun H1 e Q q => ⟨by show 2 ≤ sizeLine; exact sz_of (by decide), fun p hp => q _ _ (Ex.new hp) ⟨p, rfl, upd_same⟩⟩
theorem ivint {te : TE} {σ : L2.St} {H : Hp} {i : Int} (h : Ev te σ H (.int i)) : Ev (tCB (fun xs H Q => (∃ i, xs = [V.int i] ∧ Q (.int i) H) ∨ ∃ k, xs = [.bl k] ∧ Q (.int (if k then 1 else 0)) H) (tCons te tNil)) σ H (.int i) :=
  ev_cb (ea_cons h ea_nil) fun H4 e4 Q2 q2 => .inl ⟨i, rfl, q2 H4 (Ex.refl H4)⟩
def shapesL : List (Nat × Nat) := [(2, 1), (2, 2), (2, 3), (3, 1), (3, 2), (5, 1), (2, 4), (3, 3), (7, 1), (5, 2), (2, 5), (7, 2)]
theorem shapes_ok : ∀ i : Nat, i < 12 → shapeOk (shapesL.getD i (2, 1)).1 (shapesL.getD i (2, 1)).2 := fun i hi => by
  unfold shapeOk
  match i, hi with
  | 0, _ => decide
  | 1, _ => decide
  | 2, _ => decide
  | 3, _ => decide
  | 4, _ => decide
  | 5, _ => decide
  | 6, _ => decide
  | 7, _ => decide
  | 8, _ => decide
  | 9, _ => decide
  | 10, _ => decide
  | 11, _ => decide
def menuS : List Str := ["x", "y", "z", "x1", "b", "word", "k9", "verylongname"]
def nmF (s t k : Nat) : Str := menuS.getD ((s + t * k) % 8) "x"
theorem menu_ok : ∀ i : Fin 8, nameB (menuS.getD i.val "x") = true := by decide +kernel
theorem menu_nd : ∀ (s : Fin 8) (t : Fin 4), ((List.range 8).map (nmF s.val (2 * t.val + 1))).Nodup := by decide +kernel
section
variable {P : Program} {w : World} {K : Fg} {mg : Str → Option Value} {base : Heap} {f : Addr} {fd : FuncData}
def spShape : Sp := fun vs H Q _ => ∃ c : Int, vs = [.int c] ∧ (0 ≤ c ∧ c < 10) ∧ ∀ (t : Addr) (p n : Nat) (H2 : Hp), Ex H H2 → shapeOk p n → H2 t = some (.tup [.int (p : Int), .int (n : Int)]) → Q (.ref t) H2
theorem ok_shape (F : FnP K "_law_shape" "_law_shape" sLawShape f fd) (B : Bi mg) : FnOk P w K mg base CX0 1 f fd ["_law_cell_here"] spShape := by
  refine F.ok scLawShape (fun vs H Q E h => ?_) (fun cdv A outer s H vs Q E hr h => ?_)
  · obtain ⟨c, rfl, _⟩ := h
    rfl
  · obtain ⟨c, rfl, hc, k⟩ := h
    refine ⟨_, PSs.nox (pss_cons (ps_set (i := 1) scLawShape.nd rfl (.inl rfl) (pe_lst (pa_cons (pe_tup (pa_cons pe_int (pa_cons pe_int pa_nil))) (pa_cons (pe_tup (pa_cons pe_int (pa_cons pe_int pa_nil))) (pa_cons (pe_tup (pa_cons pe_int (pa_cons pe_int pa_nil)))
        (pa_cons (pe_tup (pa_cons pe_int (pa_cons pe_int pa_nil))) (pa_cons (pe_tup (pa_cons pe_int (pa_cons pe_int pa_nil))) (pa_cons (pe_tup (pa_cons pe_int (pa_cons pe_int pa_nil)))
        (pa_cons (pe_tup (pa_cons pe_int (pa_cons pe_int pa_nil))) (pa_cons (pe_tup (pa_cons pe_int (pa_cons pe_int pa_nil))) (pa_cons (pe_tup (pa_cons pe_int (pa_cons pe_int pa_nil)))
        (pa_cons (pe_tup (pa_cons pe_int (pa_cons pe_int pa_nil))) (pa_cons (pe_tup (pa_cons pe_int (pa_cons pe_int pa_nil))) (pa_cons (pe_tup (pa_cons pe_int (pa_cons pe_int pa_nil))) pa_nil)))))))))))))) 
      (pss_one (ps_ret (pe_ix ix_list (pv 1) (pe_op op_mod (pe_callTy call_int1 rfl B.int PyProof.Rows.boot_int (pa_cons (pv 0) pa_nil)) pe_int) (fun _ _ => rfl))))), ?_⟩
    have hst : ∀ P ∈ shapesL.map (fun t => IsPr (t.1 : Nat) (t.2 : Nat)), Stab P := fun P h => by
      obtain ⟨t, _, rfl⟩ := List.mem_map.mp h
      exact stab_pr _ _
    refine q_asgLp (Ps := shapesL.map fun t => IsPr (t.1 : Nat) (t.2 : Nat)) (evlp_lst (eap_cons evp_pr (stab_pr _ _) (eap_cons evp_pr (stab_pr _ _) (eap_cons evp_pr (stab_pr _ _) (eap_cons evp_pr (stab_pr _ _) (eap_cons evp_pr (stab_pr _ _) (eap_cons evp_pr (stab_pr _ _)
      (eap_cons evp_pr (stab_pr _ _) (eap_cons evp_pr (stab_pr _ _) (eap_cons evp_pr (stab_pr _ _) (eap_cons evp_pr (stab_pr _ _) (eap_cons evp_pr (stab_pr _ _) (eap_cons evp_pr (stab_pr _ _) eap_nil)))))))))))) hst (by decide)) fun l ws H1 hl e1 h1 hws => ?_
    have hlen : ws.length = 12 := hws.len.symm
    have hi : c.toNat < ws.length := by omega
    obtain ⟨Pr, hP, hp⟩ := allp_at hws (List.getElem?_eq_getElem hi)
    rw [List.getElem?_map] at hP
    obtain ⟨t, ht, rfl⟩ := Option.map_eq_some_iff.mp hP
    obtain ⟨T, eT, hT⟩ := hp
    have hc12 : c % 12 = ((c.toNat : Nat) : Int) := by omega
    refine s_ret (v := .ref T) (ev_op (ev_var rfl) (ev_is (ev_op (ivint (ev_var rfl)) ev_c (rv_I (show (0 : Int) < 12 by decide))) (congrArg V.int hc12)) (rv_ixL (sq_of h1) (atI_nat (by rw [List.getElem?_eq_getElem hi, eT])))) fun H2 e2 => ?_
    have hok := shapes_ok c.toNat (by omega)
    rw [List.getD_eq_getElem?_getD, ht] at hok
    exact k T t.1 t.2 H2 (e1.trans e2) hok (e2 T _ hT)
def spNames : Sp := fun vs H Q _ => ∃ (c : Int) (n : Nat), vs = [.int c, .int (n : Int)] ∧ n ≤ 8 ∧ ∀ (l : Addr) (ns : List Str) (H2 : Hp), Ex H H2 → H2 l = some (.lst (ns.map V.str)) → ns.length = n → ns.Nodup → (∀ y ∈ ns, nameB y = true) → Q (.ref l) H2
theorem ok_names (F : FnP K "_law_names" "_law_names" sLawNames f fd) (B : Bi mg) : FnOk P w K mg base CX0 1 f fd ["_law_cell_here", "_law_count"] spNames := by
  refine F.ok scLawNames (fun vs H Q E h => ?_) (fun cdv A outer s H vs Q E hr h => ?_)
  · obtain ⟨c, n, rfl, _⟩ := h
    rfl
  · obtain ⟨c, n, rfl, hn, k⟩ := h
    refine ⟨_, PSs.nox (pss_cons (ps_set (i := 2) scLawNames.nd rfl (.inr rfl) (pe_lst (pa_cons pe_str (pa_cons pe_str (pa_cons pe_str (pa_cons pe_str (pa_cons pe_str (pa_cons pe_str (pa_cons pe_str (pa_cons pe_str pa_nil))))))))))
      (pss_cons (ps_set (i := 3) scLawNames.nd rfl (.inr rfl) (pe_op op_mod (pe_callTy call_int1 rfl B.int PyProof.Rows.boot_int (pa_cons (pv 0) pa_nil)) pe_int))
      (pss_cons (ps_set (i := 4) scLawNames.nd rfl (.inr rfl) (pe_ix ix_list (pe_lst (pa_cons pe_int (pa_cons pe_int (pa_cons pe_int (pa_cons pe_int pa_nil))))) (pe_op op_mod (pe_callTy call_int1 rfl B.int PyProof.Rows.boot_int (pa_cons (pe_op op_fdiv (pv 0) pe_int) pa_nil)) pe_int) (fun _ _ => rfl)))
      (pss_one (ps_ret (pe_lc (own := [("_law_k", 5)]) (g := gName 5) (tt := tYes) rfl scLawNames.nd (pi_range1 rfl B.range (pa_cons (pv 1) pa_nil)) (blkOk_by (N := nLawNames) (sc := defScope sLawNames) (by decide +kernel))
          (fun _ _ _ _ _ => pg_name (i := 5) scLawNames.nd rfl (.inl rfl)) (fun _ _ _ _ _ => pts_nil) (fun _ _ _ _ _ => pe_ix (r := rIxL K) ix_list (pv 2) (pe_op op_mod (pe_callTy call_int1 rfl B.int PyProof.Rows.boot_int (pa_cons (pe_op op_add (pv 3) (pe_op op_mul (pv 4) (pv 5))) pa_nil)) pe_int) (fun _ _ => rfl)))))))), ?_⟩
    refine q_asgL (xs := menuS.map V.str) (el_lst (ea_cons ev_c (ea_cons ev_c (ea_cons ev_c (ea_cons ev_c (ea_cons ev_c (ea_cons ev_c (ea_cons ev_c (ea_cons ev_c ea_nil)))))))) (by decide)) fun ml H1 hml e1 h1 => ?_
    refine q_asg (ev_op (ivint (ev_var rfl)) ev_c (rv_I (show (0 : Int) < 8 by decide))) fun H2 e2 => ?_
    have s0 := Int.emod_nonneg c (show (8 : Int) ≠ 0 by decide)
    have s1 := Int.emod_lt_of_pos c (show (0 : Int) < 8 by decide)
    have t0 := Int.emod_nonneg (c / 8) (show (4 : Int) ≠ 0 by decide)
    have t1 := Int.emod_lt_of_pos (c / 8) (show (0 : Int) < 4 by decide)
    have hstep : ∀ H3, Ex H2 H3 → Ev (tOp (rIxL K) (tLst (tCons (tC (.int 1)) (tCons (tC (.int 3)) (tCons (tC (.int 5)) (tCons (tC (.int 7)) tNil))))) (tOp (rI (fun _ j => 0 < j) fun i j => .int (i % j)) (tCB (fun xs H Q => (∃ i, xs = [V.int i] ∧ Q (.int i) H) ∨ ∃ k, xs = [.bl k] ∧ Q (.int (if k then 1 else 0)) H) (tCons (tOp (rI CDiv fun i j => .int (i / j)) (tVar 0) (tC (.int 8))) tNil)) (tC (.int 4))))
        [some (.int c), some (.int (n : Int)), some (.ref ml), some (.int (c % 8)), none, none] H3 (.int (2 * (c / 8 % 4) + 1)) := fun H3 e3 => by
      refine ev_opL1 (xs := [.int 1, .int 3, .int 5, .int 7]) (el_lst (ea_cons ev_c (ea_cons ev_c (ea_cons ev_c (ea_cons ev_c ea_nil)))) (by decide)) (fun H4 e4 => ev_op (ivint (ev_op (ev_var rfl) ev_c (rv_I (show CDiv c 8 from ⟨by decide, by decide⟩)))) ev_c (rv_I (show (0 : Int) < 4 by decide))) (fun q H4 h4 e4 => rv_ixL (sq_of h4) ?_)
      have hc : c / 8 % 4 = 0 ∨ c / 8 % 4 = 1 ∨ c / 8 % 4 = 2 ∨ c / 8 % 4 = 3 := by omega
      rcases hc with h | h | h | h <;> rw [h] <;> rfl
    refine q_asg (hstep H2 (Ex.refl H2)) fun H3 e3 => ?_
    have e13 := e2.trans e3
    have h3 := e13 ml _ h1
    obtain ⟨sN, hsN, hs8⟩ : ∃ sN : Nat, c % 8 = (sN : Int) ∧ sN < 8 := ⟨(c % 8).toNat, by omega, by omega⟩
    obtain ⟨tN, htN, ht4⟩ : ∃ tN : Nat, c / 8 % 4 = (tN : Int) ∧ tN < 4 := ⟨(c / 8 % 4).toNat, by omega, by omega⟩
    rw [hsN, htN]
    have hlp : Evlp (tLc (iRng1 (tCons (tVar 1) tNil)) (gName 5) tYes (tOp (rIxL K) (tVar 2) (tOp (rI (fun _ j => 0 < j) fun i j => .int (i % j)) (tCB (fun xs H Q => (∃ i, xs = [V.int i] ∧ Q (.int i) H) ∨ ∃ k, xs = [.bl k] ∧ Q (.int (if k then 1 else 0)) H) (tCons (tOp (rI0 fun i j => .int (i + j)) (tVar 3) (tOp (rI CMul fun i j => .int (i * j)) (tVar 4) (tVar 5))) tNil)) (tC (.int 8)))) [5])
        [some (.int c), some (.int (n : Int)), some (.ref ml), some (.int (sN : Int)), some (.int (2 * (tN : Int) + 1)), none] H3 (gvn n (fun _ => true) fun i (v : V) (_ : Hp) => v = .str (nmF sN (2 * tN + 1) i)) :=
      evlp_lc (J := Itr 0 n) (fun H4 e4 R r => ⟨.int (n : Int), rfl, (n : Int), rfl, by omega, by omega, by rw [Int.toNat_natCast]; exact r H4 (Ex.refl H4)⟩) (walk_range (lo := 0) (n := n)) (by omega) (fun _ _ => trivial) _ _ (fun _ _ _ _ _ h => h) fun i v H4 H5 hi e4 hv => by
        obtain ⟨rfl, hv⟩ := hv
        have e0m : v = .int (i : Int) := by
          rw [hv]
          show V.int ((0 : Int) + (i : Int)) = _
          rw [Int.zero_add]
        subst e0m
        have hix : ((sN : Int) + (2 * (tN : Int) + 1) * (i : Int)) % 8 = (((sN + (2 * tN + 1) * i) % 8 : Nat) : Int) := by
          rw [Int.natCast_emod, Int.natCast_add, Int.natCast_mul, Int.natCast_add, Int.natCast_mul]
          rfl
        have hlt : (sN + (2 * tN + 1) * i) % 8 < 8 := Nat.mod_lt _ (by decide)
        refine ⟨Ex.refl _, [some (.int c), some (.int (n : Int)), some (.ref ml), some (.int (sN : Int)), some (.int (2 * (tN : Int) + 1)), some (.int (i : Int))], fun R r => r, rfl, et_yes, fun _ => evp_ev (ev_op (ev_var rfl) (ev_is (ev_op (ivint (ev_op (ev_var rfl) (ev_op (ev_var rfl) (ev_var rfl) (rv_I (.inl ⟨by omega, by omega⟩))) rv_I0)) ev_c (rv_I (show (0 : Int) < 8 by decide))) (congrArg V.int hix)) (rv_ixL (sq_of (e4 ml _ h3)) (atI_nat ?_))) fun _ _ => rfl⟩
        rw [List.getElem?_map]
        have hl8 : menuS.length = 8 := rfl
        unfold nmF
        rw [List.getD_eq_getElem?_getD, List.getElem?_eq_getElem (by omega)] <;> rfl
    refine hlp H3 (Ex.refl H3) _ fun l ws H4 hl e4 h4 hws => ?_
    have hw : ws = ((List.range n).map (nmF sN (2 * tN + 1))).map V.str := by
      rw [gvn_all] at hws
      have key : ∀ {ss : List Nat} {ws : List V}, AllP (ss.map fun i (v : V) (_ : Hp) => v = .str (nmF sN (2 * tN + 1) i)) ws H4 → ws = (ss.map (nmF sN (2 * tN + 1))).map V.str := fun {ss} => by
        induction ss with
        | nil =>
          intro ws h
          cases h
          rfl
        | cons a ss ih =>
          intro ws h
          cases h with
          | cons h1 t =>
            rw [h1, ih t]
            rfl
      exact key hws
    rw [hw] at h4
    refine k l _ H4 ((e1.trans e13).trans e4) h4 (by simp) ?_ (fun y hy => ?_)
    · have z := menu_nd ⟨sN, hs8⟩ ⟨tN, ht4⟩
      have y : ((List.range n).map (nmF sN (2 * tN + 1))).Sublist ((List.range 8).map (nmF sN (2 * tN + 1))) := by
        refine List.Sublist.map _ ?_
        have e : (List.range 8).take n = List.range n := by
          rw [List.take_range, Nat.min_eq_left hn]
        rw [← e]
        exact List.take_sublist n _
      exact y.nodup z
    · obtain ⟨i, _, rfl⟩ := List.mem_map.mp hy
      exact menu_ok ⟨(sN + (2 * tN + 1) * i) % 8, Nat.mod_lt _ (by decide)⟩
end
end Z7
end

section
set_option Elab.async false
set_option linter.all false
set_option maxRecDepth 100000
set_option maxHeartbeats 4000000
namespace Z7
open PySem L2 Evl RZ
theorem flat_len (p : Nat) : ∀ l : List Pt, (l.flatMap fun x => tupRow p x p).length = l.length * p
  | [] => by simp
  | a :: l => by rw [List.flatMap_cons, List.length_append, flat_len p l, List.length_map, List.length_range, List.length_cons, Nat.succ_mul, Nat.add_comm]
theorem PtsA.app {H : Hp} {as bs : List Addr} {ps qs : List Pt} (h : PtsA H as ps) (k : PtsA H bs qs) : PtsA H (as ++ bs) (ps ++ qs) := by
  induction h with
  | nil => exact k
  | cons a _ ih => exact .cons a ih
section
variable {P : Program} {w : World} {K : Fg} {mg : Str → Option Value} {base : Heap} {f : Addr} {fd : FuncData}
theorem ok_lpoints (F : FnP K "_law_points" "_law_points" sLawPoints f fd) (B : Bi mg) : FnOk P w K mg base CX0 1 f fd ["_law_prime", "_law_count"] spTuples := by
  refine F.ok scLawPoints (fun vs H Q E h => ?_) (fun cdv A outer s H vs Q E hr h => ?_)
  · obtain ⟨p, n, rfl, _⟩ := h
    rfl
  · obtain ⟨p, n, rfl, hp, hn8, hpn, k⟩ := h
    refine ⟨_, PSs.nox (pss_cons (ps_set (i := 2) scLawPoints.nd rfl (.inl rfl) (pe_lst (pa_cons (pe_tup pa_nil) pa_nil)))
      (pss_cons (ps_for PassesOwn.never rfl (pi_range1 rfl B.range (pa_cons (pv 1) pa_nil)) (pg_name (i := 3) scLawPoints.nd rfl (.inl rfl))
        (pss_cons (ps_set (i := 4) scLawPoints.nd rfl (.inl rfl) (pe_lst pa_nil))
        (pss_cons (ps_for PassesOwn.never rfl (pi_list (pv 2)) (pg_name (i := 5) scLawPoints.nd rfl (.inr rfl))
          (pss_one (ps_expr (pe_bm PySem.F.plainAttrs_list PySem.F.slot_list_extend PySem.F.type_list_extend mt_extend (pv 4) (pa_cons (pe_lc (own := [("_law_number", 6)]) (g := gName 6) (tt := tYes) rfl scLawPoints.nd (pi_range1 rfl B.range (pa_cons (pv 0) pa_nil)) (blkOk_by (N := nLawPoints) (sc := defScope sLawPoints) (by decide +kernel))
            (fun _ _ _ _ _ => pg_name (i := 6) scLawPoints.nd rfl (.inl rfl)) (fun _ _ _ _ _ => pts_nil) (fun _ _ _ _ _ => pe_op (r := rCatA K) op_catA (pv 5) (pe_tup (pa_cons (pv 6) pa_nil)))) pa_nil)))))
        (pss_one (ps_set (i := 2) scLawPoints.nd rfl (.inl rfl) (pv 4))))))
      (pss_one (ps_ret (pv 2))))), ?_⟩
    refine ⟨by show 0 ≤ sizeLine; exact Nat.zero_le _, fun t ht => ⟨by show 1 ≤ sizeLine; exact sz_of (by decide), fun l hl => ?_⟩⟩
    have hlt : l ≠ t := fun z => by
      rw [z, upd_same] at hl
      cases hl
    have e0 : Ex H (upd (upd H t (.tup [])) l (.lst [.ref t])) := (Ex.new ht).trans (Ex.new hl)
    refine q_forR1 (n := (n : Int)) (ea_cons (ev_var rfl) ea_nil) ⟨by omega, by omega⟩ (fun i σ H' => Ex H H' ∧ ∃ l as z z4 z5, σ = [some (.int p), some (.int n), some (.ref l), z, z4, z5, none] ∧ H l = none ∧ H' l = some (.lst (as.map V.ref)) ∧ PtsA H' as (pts p i))
      (fun H2 e2 => ⟨e0.trans e2, l, [t], none, none, none, rfl, fresh_back (Ex.new ht) hl, e2 l _ upd_same, .cons (e2 t _ (by rw [upd_ne (Ne.symm hlt)]; exact upd_same)) .nil⟩) ?_ ?_
    · rintro i σ H1 hi ⟨ex, l, as, z, z4, z5, rfl, nl, hl, ha⟩
      have hlen : as.length = p ^ i := by rw [ha.len, pts_count]
      have hpi : p ^ (i + 1) ≤ 1000 := Nat.le_trans (Nat.pow_le_pow_right hp.1 (by omega)) hpn
      have hpi' : p ^ i ≤ 1000 := Nat.le_trans (Nat.pow_le_pow_right hp.1 (by omega)) hpn
      refine q_asgL (el_lst ea_nil (by decide)) fun D H2 hD e2 hD2 => ?_
      have hD0 : H D = none := fresh_back ex hD
      have hlD : l ≠ D := ne_of_none hl hD
      refine q_forLn (a := l) (xs := as.map V.ref) (ev_var rfl) (sq_of (e2 l _ hl)) (fun a σ H' => Ex H1 H' ∧ ∃ bs y5, σ = [some (.int p), some (.int n), some (.ref l), some (.int (i : Int)), some (.ref D), y5, none] ∧ H' D = some (.lst (bs.map V.ref)) ∧ PtsA H' bs (((pts p i).take a).flatMap fun x => tupRow p x p))
        (fun H3 e3 => ⟨e2.trans e3, [], _, rfl, e3 D _ hD2, .nil⟩) (fun a σ H' _ pv => sq_of (pv.1 l _ hl)) ?_ ?_
      · rintro a v σ H3 hv ⟨e3, bs, y5, rfl, hbs, hpb⟩
        obtain ⟨q, pt, rfl, hq, hpt, hqp⟩ := ha.at hv
        have hptm : pt ∈ pts p i := List.mem_of_getElem? hpt
        have ha2 : a < as.length := (List.getElem?_eq_some_iff.mp hq).1
        have etk : ((pts p i).take (a + 1)).flatMap (fun x => tupRow p x p) = ((pts p i).take a).flatMap (fun x => tupRow p x p) ++ tupRow p pt p := by
          rw [List.take_add_one, hpt, List.flatMap_append]
          simp
        have hq3 : PtA H3 q pt := ex_pt e3 hqp
        have hlp : Evlp (tLc (iRng1 (tCons (tVar 0) tNil)) (gName 6) tYes (tOp (rCatA K) (tVar 5) (tTup (tCons (tVar 6) tNil))) [6]) [some (.int p), some (.int n), some (.ref l), some (.int (i : Int)), some (.ref D), some (.ref q), none] H3 (gvn p (fun _ => true) fun k => IsPt (pt ++ [(k : Int)])) :=
          evlp_lc (J := Itr 0 p) (fun H4 e4 R r => ⟨.int (p : Int), rfl, (p : Int), rfl, by omega, by omega, by rw [Int.toNat_natCast]; exact r H4 (Ex.refl H4)⟩) (walk_range (lo := 0) (n := p)) (by omega) (fun _ _ => trivial) _ _ (fun _ => stab_pt _) fun m v H4 H5 hm e4 hv => by
            obtain ⟨rfl, hv⟩ := hv
            have e0m : v = .int (m : Int) := by
              rw [hv]
              show V.int ((0 : Int) + (m : Int)) = _
              rw [Int.zero_add]
            subst e0m
            exact ⟨Ex.refl _, [some (.int p), some (.int n), some (.ref l), some (.int (i : Int)), some (.ref D), some (.ref q), some (.int (m : Int))], fun R r => r, rfl, et_yes, fun _ => evp_cat (evp_self rfl (ex_pt e4 hq3)) (evp_one rfl) (by rw [pts_len hptm]; show i + 1 ≤ 1000; omega)⟩
        refine ⟨.ref D, rfl, .inl ⟨rfl, _, sq_of hbs⟩, hlp H3 (Ex.refl H3) _ fun r ws H4 hr e4 h4 hws => ?_⟩
        obtain ⟨cs, rfl, hpc⟩ := allp_pts (ps := tupRow p pt p) (by
          rw [gvn_all] at hws
          rw [List.map_map]
          exact hws)
        have hbs4 := e4 D _ hbs
        have tx : TEx H4 (upd H4 D (.lst (bs.map V.ref ++ cs.map V.ref))) := TEx.upd hbs4 rfl
        refine ⟨D, r, _, _, rfl, rfl, hbs4, h4, ?_, Ex.mut (e3.trans e4) hD, bs ++ cs, _, rfl, ?_, ?_⟩
        · rw [List.length_map, List.length_map, hpb.len, hpc.len, flat_len, List.length_take, pts_count, List.length_map, List.length_range]
          have y2 : min a (p ^ i) = a := by omega
          rw [y2]
          have y3 : (a + 1) * p ≤ p ^ i * p := Nat.mul_le_mul_right p (by omega)
          rw [Nat.succ_mul, ← Nat.pow_succ] at y3
          exact sz_of (Nat.le_trans (Nat.le_trans y3 hpi) (by decide))
        · rw [upd_same, List.map_append]
        · rw [etk]
          exact (pts_tex ((TEx.of e4).trans tx) hpb).app (pts_tex tx hpc)
      · rintro σ H3 ⟨e3, bs, y5, rfl, hbs, hpb⟩
        have zl := ha.len
        rw [List.length_map, List.take_of_length_le (by omega)] at hpb
        refine s_asg (ev_var rfl) fun H4 e4 => ?_
        exact ⟨(ex.trans e3).trans e4, D, bs, _, _, _, rfl, hD0, e4 D _ hbs, ex_pts e4 hpb⟩
    · rintro σ H1 ⟨ex, l, as, z, z4, z5, rfl, nl, hl, ha⟩
      rw [Int.toNat_natCast] at ha
      exact s_ret (ev_var rfl) fun H2 e2 => k l as H2 nl (ex.trans e2) (e2 l _ hl) (ex_pts e2 ha)
end
end Z7
end

section
set_option Elab.async false
set_option linter.all false
set_option maxRecDepth 100000
set_option maxHeartbeats 4000000
namespace Z7
open PySem L2 Evl RZ
theorem dpa_rev {K : Fg} {H : Hp} : ∀ {vs : List V} {ds : List PyData}, DpAll K H vs ds → DpAll K H vs.reverse ds.reverse
  | _, _, .nil => .nil
  | _, _, .cons h t => by
    rw [List.reverse_cons, List.reverse_cons]
    exact dpa_app (dpa_rev t) (.cons h .nil)
/-- a reversed list within a comprehension -/
def madeP (p : Nat) (f : Pol) : Pol := ordN p (((f.map (·.1)).mergeSort (PySem.W.dataLe false ptD)).reverse) f
theorem made_keys (f : Pol) : (((f.map (·.1)).mergeSort (PySem.W.dataLe false ptD)).reverse).Perm (f.map (·.1)) := (List.reverse_perm _).trans (List.mergeSort_perm _ _)
theorem made_pev {p : Nat} {f : Pol} (hn : (f.map (·.1)).Nodup) (x : Pt) : pev p (madeP p f) x = pev p f x := ordN_pev hn (made_keys f) x
theorem made_ok {p n : Nat} {f : Pol} (hp : 0 < p) (hn : (f.map (·.1)).Nodup) (hk : ∀ t ∈ f, t.1 ∈ pts p n) : PolOk p n (madeP p f) := by
  have pm : (madeP p f).Perm ((f.map fun t => (t.1, t.2 % (p : Int))).filter fun t => t.2 != 0) := ordN_perm hn (made_keys f)
  refine ⟨?_, fun t ht => ?_⟩
  · have z := (pm.map (·.1)).nodup_iff.mpr
    refine z ?_
    have y : (((f.map fun t => (t.1, t.2 % (p : Int))).filter fun t => t.2 != 0).map (·.1)).Sublist (f.map (·.1)) := by
      have e : f.map (·.1) = (f.map fun t => (t.1, t.2 % (p : Int))).map (·.1) := by
        rw [List.map_map] <;> rfl
      rw [e]
      exact (List.filter_sublist).map _
    exact y.nodup hn
  · have z := List.mem_filter.mp (pm.mem_iff.mp ht)
    obtain ⟨u, hu, rfl⟩ := List.mem_map.mp z.1
    exact ⟨hk u hu, Int.emod_nonneg _ (by omega), Int.emod_lt_of_pos _ (by omega)⟩
theorem made_single {p : Nat} (hp : 1 < p) (e : Pt) : madeP p [(e, 1)] = [(e, 1)] := by
  unfold madeP
  rw [List.map_cons, List.map_nil, List.mergeSort_singleton]
  unfold ordN
  show List.filter (fun t => t.2 != 0) [(e, (gp [(e, (1 : Int))] e).getD 0 % (p : Int))] = _
  rw [gp_pos rfl]
  have h : ((1 : Int) % (p : Int)) = 1 := Int.emod_eq_of_lt (by omega) (by omega)
  show List.filter (fun t => t.2 != 0) [(e, (1 : Int) % (p : Int))] = _
  rw [h]
  rfl
section
variable {P : Program} {w : World} {K : Fg} {mg : Str → Option Value} {base : Heap} {f : Addr} {fd : FuncData}
def spMade (K : Fg) : Sp := fun vs H Q _ => ∃ (d : Addr) (p n : Nat) (g : Pol), vs = [.int (p : Int), .ref d] ∧ 0 < p ∧ 0 < n ∧ H d = some (.dT (dE g)) ∧ (g.map (·.1)).Nodup ∧ (∀ t ∈ g, t.1 ∈ pts p n) ∧ g.length ≤ 1000 ∧ RetD K (polD (madeP p g)) H Q
theorem ok_made (F : FnP K "_law_made" "_law_made" sLawMade f fd) (B : Bi mg) : FnOk P w K mg base CX0 1 f fd ["_law_prime", "_law_numbers"] (spMade K) := by
  refine F.ok scLawMade (fun vs H Q E h => ?_) (fun cdv A outer s H vs Q E hr h => ?_)
  · obtain ⟨d, p, n, g, rfl, _⟩ := h
    rfl
  · obtain ⟨d, p, n, g, rfl, hp, hn, hd, hnd, hk, hz, k⟩ := h
    have hu := hr.units
    have hu1 : (A.deeper (PyProof.Rows.envOfC "_law_made" (defScope sLawMade) s.heap.objs.size f cdv)).units + 1 < cLine := by omega
    refine ⟨_, PSs.nox (pss_cons (ps_setLc (i := 2) (own := [("_law_power", 3)]) (g := gName 3) (tt := tYes) rfl scLawMade.nd rfl rfl (sw_true rfl rfl rfl (by decide +kernel)) (pi_list (pe_callB (cr_sortT rfl hu) rfl B.sorted PyProof.Rows.boot_sorted (pa_cons (pv 1) pa_nil))) (blkOk_by (N := nLawMade) (sc := defScope sLawMade) (by decide +kernel))
        (fun _ _ _ _ _ => pg_name (i := 3) scLawMade.nd rfl (.inl rfl)) (fun _ _ _ _ _ => pts_nil) (fun _ _ _ _ _ => pe_tup (pa_cons (pv 3) (pa_cons (pe_op op_mod (pe_callTy call_int1 rfl B.int PyProof.Rows.boot_int (pa_cons (pe_dget hu1 (pv 1) (pv 3) (fun _ _ => rfl)) pa_nil)) (pv 0)) pa_nil))))
      (pss_one (ps_ret (pe_callTy call_tuple_of rfl B.tuple PyProof.Rows.boot_tuple (pa_cons (pe_lc (own := [("_law_row", 4)]) (g := gName 4) (tt := tTest (tOp rNe (tOp (rIxT K) (tVar 4) (tC (.int 1))) (tC (.int 0)))) rfl scLawMade.nd (pi_list (pe_revL (pv 2))) (blkOk_by (N := nLawMade) (sc := defScope sLawMade) (by decide +kernel))
        (fun _ _ _ _ _ => pg_name (i := 4) scLawMade.nd rfl (.inl rfl)) (fun _ _ _ _ _ => pts_one (pt_cmpR op_ne (pe_ix (r := rIxT K) ix_tup (pv 4) pe_int (fun _ _ => rfl)) pe_int (nomark _))) (fun _ _ _ _ _ => pv 4)) pa_nil))))), ?_⟩
    have hpp : (0 : Int) < (p : Int) := by omega
    refine q_asgLc0 ?_
    refine ⟨.ref d, rfl, d, dE g, g.map (·.1), rfl, hd, dE_keys g, fun x hx => ?_, fun l as hl hpa => ⟨l, rfl, ⟨_, sq_of upd_same⟩, ?_⟩⟩
    · obtain ⟨t, ht, rfl⟩ := List.mem_map.mp hx
      have z := pts_len (hk t ht)
      intro e
      rw [e] at z
      exact absurd z (by simp; omega)
    · generalize hks : (g.map (·.1)).mergeSort (PySem.W.dataLe false ptD) = ks at hpa
      have hkp : ks.Perm (g.map (·.1)) := by
        rw [← hks]
        exact List.mergeSort_perm _ _
      have hfe : madeP p g = ordN p ks.reverse g := by
        unfold madeP
        rw [← hks]
      have hal : as.length = ks.length := Paired.length hpa
      have hkl : ks.length ≤ 1000 := by
        rw [hkp.length_eq, List.length_map]
        exact hz
      have hld : l ≠ d := fun z => by
        rw [z, hd] at hl
        cases hl
      have hgp : ∀ kk, kk ∈ ks → gp g kk = some ((gp g kk).getD 0) := fun kk hkk => by
        obtain ⟨v, hv⟩ := gp_some (hkp.mem_iff.mp hkk)
        rw [hv]
        rfl
      generalize hF : (fun kk : Pt => (kk, (gp g kk).getD 0 % (p : Int))) = Fk
      have eF : ∀ kk, Fk kk = (kk, (gp g kk).getD 0 % (p : Int)) := fun kk => by rw [← hF]
      let tD : Pt × Int → PyData := fun t => .tuple [ptD t.1, .int t.2]
      have stD : ∀ t : Pt × Int, noL (tD t) = true := fun t => by
        show noL (.tuple [ptD t.1, .int t.2]) = true
        rw [noL, noLs, noLs, noLs, noL_pt]
        simp [noL]
      refine lc_go (n := (as.map V.ref).length) (fun _ => true) (fun i v H => Dp K H v (tD (Fk (ks.getD i [])))) (walk_list (K := K) (a := l) (xs := as.map V.ref)) (by rw [List.length_map]; omega) (fun H' e => ex_l e (sq_of upd_same)) (fun i => stab_dp (stD _)) (fun i x H3 H4 hi e3 hx => ?_) (fun q ws H3 hq e3 h3 ha => ?_)
      · obtain ⟨rfl, hx⟩ := hx
        rw [List.getElem?_map] at hx
        obtain ⟨qa, hqa, rfl⟩ := Option.map_eq_some_iff.mp hx
        obtain ⟨kk, hkk, hkq⟩ := paired_get hpa hqa
        have eg : ks.getD i [] = kk := by
          rw [List.getD_eq_getElem?_getD, hkk] <;> rfl
        rw [eg]
        have e14 : Ex H H4 := (Ex.new hl).trans e3
        have hgk := hgp kk (List.mem_of_getElem? hkk)
        refine ⟨Ex.refl _, _, fun R rr => rr, rfl, et_yes, fun _ => ?_⟩
        intro H5 e5 Q2 q2
        refine eu_tup (ea_cons (ev_var rfl) (ea_cons (ev_op (ivint (ev_dget (k := kk) (f := g) (ev_var rfl) (ev_var rfl) (.inl (e5 d _ (e14 d _ hd))) (ex_pt (e14.trans e5) hkq) hgk)) (ev_var rfl) (rv_I hpp)) ea_nil)) (show 2 ≤ 100000 by decide) H5 (Ex.refl H5) Q2 fun u H6 hu6 e6 h6 => ?_
        refine q2 _ H6 e6 ?_
        rw [eF]
        exact .tup (st_of h6) (.cons (ex_pt ((e14.trans e5).trans e6) hkq).dp (.cons (.int _) .nil))
      · have ha2 : DpAll K H3 ws ((ks.map Fk).map tD) := by
          refine AllP.dp ?_
          rw [gvn_all, List.length_map, hal] at ha
          rw [List.map_map, List.map_map, ← range_getD [] _ ks]
          exact ha
        have e03 : Ex H H3 := (Ex.new hl).trans e3
        refine s_retCbLc ?_
        refine ⟨.ref q, rfl, q, ws, rfl, sq_of h3, fun l2 hl2 => ⟨l2, rfl, ⟨_, sq_of upd_same⟩, ?_⟩⟩
        have ha3 : DpAll K H3 ws.reverse ((ks.reverse.map Fk).map tD) := by
          have z := dpa_rev ha2
          rw [← List.map_reverse, ← List.map_reverse] at z
          exact z
        have ewl : ws.reverse.length = (ks.reverse.map Fk).length := by
          rw [dpa_len ha3, List.length_map]
        have hkr : (ks.reverse.map Fk).length = ks.length := by
          rw [List.length_map, List.length_reverse]
        refine lc_go (n := ws.reverse.length) (fun i => ((ks.reverse.map Fk).getD i ([], 0)).2 != 0) (fun i v H => Dp K H v (tD ((ks.reverse.map Fk).getD i ([], 0)))) (walk_list (K := K) (a := l2) (xs := ws.reverse)) (by omega) (fun H' e => ex_l e (sq_of upd_same)) (fun i => stab_dp (stD _)) (fun i x H4 H5 hi e4 hx => ?_) (fun q2 us H5 hq2 e5 h5 hb => ?_)
        · obtain ⟨rfl, hx⟩ := hx
          obtain ⟨dd, hdd, hdp⟩ := dpa_get ha3 hx
          rw [List.getElem?_map] at hdd
          obtain ⟨t, ht, rfl⟩ := Option.map_eq_some_iff.mp hdd
          have eg : (ks.reverse.map Fk).getD i ([], 0) = t := by
            rw [List.getD_eq_getElem?_getD, ht] <;> rfl
          rw [eg]
          have e45 : Ex H3 H5 := (Ex.new hl2).trans e4
          obtain ⟨T, vs, rfl, hT, hall⟩ := dp_tup hdp
          cases hall with
          | cons hd0 hall =>
            cases hall with
            | cons hd1 hall =>
              cases hall
              cases hd1
              refine ⟨Ex.refl _, _, fun R rr => rr, rfl, et_is (et_test (ev_op (ev_op (ev_var rfl) ev_c (rv_ixT (v := .int t.2) (ex_t e45 hT) (atI_nat (j := 1) rfl))) ev_c (rv_ne rfl))) ?_, fun _ => evp_ev (ev_var rfl) fun H6 e6 => dp_mono (e45.trans e6) hdp⟩
              by_cases z : t.2 = 0
              · rw [z]
                rfl
              · have y1 : (t.2 != 0) = true := by simpa using z
                rw [y1, decide_eq_false (fun y => z (V.int.inj y))]
                rfl
        · rw [ewl, gvn_filter ([], 0) (fun t : Pt × Int => t.2 != 0) (fun t (v : V) (H : Hp) => Dp K H v (tD t))] at hb
          have hb2 : DpAll K H5 us ((madeP p g).map tD) := by
            refine AllP.dp ?_
            rw [hfe, List.map_map]
            unfold ordN
            rw [hF]
            exact hb
          have e05 : Ex H H5 := (e03.trans (Ex.new hl2)).trans e5
          exact ⟨q2, us, rfl, .inl ⟨sq_of h5, fun u hu => k _ _ (e05.trans (Ex.new hu)) (.tup (st_of upd_same) (dpa_mono (Ex.new hu) hb2))⟩⟩
theorem evp_rep {σ : L2.St} {H : Hp} {n i : Nat} (h : σ[i]? = some (some (.int (n : Int)))) (hn : 1 ≤ n) (hn2 : n ≤ 100) : EvP (tOp (rRepA K) (tTup (tCons (tC (.int 0)) tNil)) (tVar i)) σ H (IsPt (zeroP n)) := fun H1 e Q q => by
  refine ⟨by show 1 ≤ sizeLine; exact sz_of (by decide), fun t ht => ⟨.int (n : Int), h, t, (n : Int), [.int 0], rfl, rfl, st_of upd_same, List.cons_ne_nil _ _, by omega, by omega, (show 1 ≤ 1000 by decide), fun e1 => ?_, fun _ p2 hp2 => ?_⟩⟩
  · have en : n = 1 := by omega
    exact q _ _ (Ex.new ht) ⟨t, rfl, by rw [en]; exact upd_same⟩
  · refine q _ _ ((Ex.new ht).trans (Ex.new hp2)) ⟨p2, rfl, ?_⟩
    show upd _ p2 _ p2 = _
    rw [upd_same, Int.toNat_natCast]
    have ez : ∀ m : Nat, (List.replicate m [V.int 0]).flatten = (zeroP m).map V.int := fun m => by
      induction m with
      | zero => rfl
      | succ m ih =>
        rw [List.replicate_succ, List.flatten_cons, ih]
        unfold zeroP
        rw [List.replicate_succ]
        rfl
    rw [ez]
def spConst (K : Fg) : Sp := fun vs H Q _ => ∃ (p n : Nat), vs = [.int (p : Int), .int (n : Int), .int 1] ∧ 1 < p ∧ 1 ≤ n ∧ n ≤ 100 ∧ RetD K (polD [(zeroP n, 1)]) H Q
theorem ok_const (F : FnP K "_law_constant" "_law_constant" sLawConstant f fd) (B : Bi mg) (MA : Cal P w K mg base 1 "_law_made" ["_law_prime", "_law_numbers"] (spMade K)) : FnOk P w K mg base CX0 2 f fd ["_law_prime", "_law_count", "_law_number"] (spConst K) := by
  refine F.ok scLawConstant (fun vs H Q E h => ?_) (fun cdv A outer s H vs Q E hr h => ?_)
  · obtain ⟨p, n, rfl, _⟩ := h
    rfl
  · obtain ⟨p, n, rfl, hp, hn, hn2, k⟩ := h
    have hu := hr.units
    refine ⟨_, PSs.nox (pss_one (ps_ret (pe_cal MA hr rfl (pa_cons (pv 0) (pa_cons (pe_disp1T hu (pe_op op_repA (pe_tup (pa_cons pe_int pa_nil)) (pv 1)) (pv 2)) pa_nil))))), ?_⟩
    refine ⟨.int (p : Int), rfl, fun d hd => ?_⟩
    refine evp_rep (K := K) (n := n) (i := 1) rfl hn hn2 (upd H d (.dT [])) (Ex.refl _) _ fun v H2 e2 hv => ?_
    obtain ⟨b, rfl, hb⟩ := hv
    have hd2 : H2 d = some (.dT []) := e2 d _ upd_same
    refine ⟨.int 1, rfl, b, kp (zeroP n), rfl, pta_kp hb, hd2, ?_⟩
    refine ⟨d, p, n, [(zeroP n, 1)], rfl, by omega, by omega, upd_same, by simp, fun t ht => ?_, by simp, fun v H3 e3 hv => k v H3 ((Ex.mut ((Ex.new hd).trans e2) hd).trans e3) ?_⟩
    · rw [List.mem_singleton.mp ht]
      exact zeroP_mem (by omega)
    · rw [made_single hp] at hv
      exact hv
end
end Z7
end

section
set_option Elab.async false
set_option linter.all false
set_option maxRecDepth 100000
set_option maxHeartbeats 4000000
namespace Z7
open PySem L2 Evl RZ
section
variable {K : Fg} {σ : L2.St} {H : Hp} {te : TE}
theorem evp_tupOf {ns : List Int} (h : Evlp te σ H (ns.map fun b v _ => v = V.int b)) : EvP (tCB (fun xs H Q => ∃ p ys, xs = [.ref p] ∧ ((SqL K H p ys ∧ ∀ l, H l = none → Q (.ref l) (upd H l (.tup ys))) ∨ (SqT K H p ys ∧ Q (.ref p) H))) (tCons te tNil)) σ H (IsPt ns) := fun H1 e Q q =>
  h H1 e _ fun p ws H2 hp e2 h2 ha => ⟨p, ws, rfl, .inl ⟨sq_of h2, fun l hl => q _ _ (e2.trans (Ex.new hl)) ⟨l, rfl, by
    show upd H2 l _ l = _
    rw [upd_same, allp_int ha]⟩⟩⟩
theorem evd_unk {x : Pt} (h : EvP te σ H (IsPt x)) : EvD K (tTup (tCons (tTup (tCons te (tCons (tC (.int 1)) tNil))) tNil)) σ H (polD [(x, 1)]) := fun H1 e Q k => h H1 e _ fun v H2 e2 ⟨q, ev, hq⟩ => by
  subst ev
  refine ⟨by show 2 ≤ sizeLine; exact sz_of (by decide), fun t ht => ⟨by show 1 ≤ sizeLine; exact sz_of (by decide), fun u hu => ?_⟩⟩
  have ex2 := (Ex.new (o := .tup [.ref q, .int 1]) ht)
  have ex3 := (Ex.new (o := .tup [.ref t]) hu)
  exact k _ _ (e2.trans (ex2.trans ex3)) (.tup (st_of upd_same) (.cons (.tup (st_of (ex3 t _ upd_same)) (.cons (ex_pt (ex2.trans ex3) hq).dp (.cons (.int _) .nil))) .nil))
theorem s_retD {d : PyData} {D : Ends} (h : EvD K te σ H d) (k : ∀ v H1, Ex H H1 → Dp K H1 v d → D.rt v H1) : tRet te D σ H := h H (Ex.refl H) _ k
theorem s_retP {Pr : V → Hp → Prop} {D : Ends} (h : EvP te σ H Pr) (k : ∀ v H1, Ex H H1 → Pr v H1 → D.rt v H1) : tRet te D σ H := h H (Ex.refl H) _ k
theorem range_item {n : Nat} {σ : L2.St} {H : Hp} {R : It → Hp → Prop} {ta : TA} (h : EvA ta σ H [.int (n : Int)]) (hn : n ≤ 40000) (r : ∀ H2, Ex H H2 → R (Itr 0 n) H2) : iRng1 ta σ H R :=
  h H (Ex.refl H) _ fun H2 e2 => ⟨(n : Int), rfl, by omega, by omega, by rw [Int.toNat_natCast]; exact r H2 e2⟩
end
def unkP (n : Nat) (i : Int) : Pt := (List.range n).map fun (k : Nat) => if (k : Int) = i then 1 else 0
theorem unk_mem {p n : Nat} {i : Int} (hp : 1 < p) : unkP n i ∈ pts p n := pts_mem.mpr ⟨by unfold unkP; rw [List.length_map, List.length_range], fun e he => by
  unfold unkP at he
  obtain ⟨k, _, rfl⟩ := List.mem_map.mp he
  split <;> omega⟩
section
variable {P : Program} {w : World} {K : Fg} {mg : Str → Option Value} {base : Heap} {f : Addr} {fd : FuncData}
def spUnk (K : Fg) : Sp := fun vs H Q _ => ∃ (n : Nat) (i : Int), vs = [.int (n : Int), .int i] ∧ n ≤ 100 ∧ RetD K (polD [(unkP n i, 1)]) H Q
theorem ok_unk (F : FnP K "_law_unknown" "_law_unknown" sLawUnknown f fd) (B : Bi mg) : FnOk P w K mg base CX0 1 f fd ["_law_count", "_law_index"] (spUnk K) := by
  refine F.ok scLawUnknown (fun vs H Q E h => ?_) (fun cdv A outer s H vs Q E hr h => ?_)
  · obtain ⟨n, i, rfl, _⟩ := h
    rfl
  · obtain ⟨n, i, rfl, hn, k⟩ := h
    refine ⟨_, PSs.nox (pss_one (ps_ret (pe_tup (pa_cons (pe_tup (pa_cons (pe_callTy call_tuple_of rfl B.tuple PyProof.Rows.boot_tuple (pa_cons (pe_lc (own := [("_law_k", 2)]) (g := gName 2) (tt := tYes) rfl scLawUnknown.nd (pi_range1 rfl B.range (pa_cons (pv 0) pa_nil)) (blkOk_by (N := nLawUnknown) (sc := defScope sLawUnknown) (by decide +kernel))
      (fun _ _ _ _ _ => pg_name (i := 2) scLawUnknown.nd rfl (.inl rfl)) (fun _ _ _ _ _ => pts_nil) (fun _ _ _ _ _ => pe_callTy call_int1 rfl B.int PyProof.Rows.boot_int (pa_cons (pe_cmpR op_eq (pv 2) (pv 1) (nomark _)) pa_nil))) pa_nil)) (pa_cons pe_int pa_nil))) pa_nil)))), ?_⟩
    have hp : EvP (tCB _ (tCons (tLc (iRng1 (tCons (tVar 0) tNil)) (gName 2) tYes (tCB (fun xs H Q => (∃ i, xs = [V.int i] ∧ Q (.int i) H) ∨ ∃ k, xs = [.bl k] ∧ Q (.int (if k then 1 else 0)) H) (tCons (tOp rEq (tVar 2) (tVar 1)) tNil)) [2]) tNil)) [some (.int (n : Int)), some (.int i), none] H (IsPt (unkP n i)) := evp_tupOf (K := K) (by
      unfold unkP
      rw [← gvn_all, ← gvn_int]
      refine evlp_lc (J := Itr 0 n) (fun H4 e4 R r => range_item (ea_cons (ev_var rfl) ea_nil) (by omega) r) (walk_range (lo := 0) (n := n)) (by omega) (fun _ _ => trivial) _ _ (fun _ _ _ _ _ h => h) fun m v H4 H5 hm e4 hv => ?_
      obtain ⟨rfl, hv⟩ := hv
      have e0m : v = .int (m : Int) := by
        rw [hv]
        show V.int ((0 : Int) + (m : Int)) = _
        rw [Int.zero_add]
      subst e0m
      refine ⟨Ex.refl _, [some (.int (n : Int)), some (.int i), some (.int (m : Int))], fun R r => r, rfl, et_yes, fun _ => evp_ev (v := .int (if (m : Int) = i then 1 else 0)) (ev_cb (vs := [.bl (decide (V.int (m : Int) = V.int i))]) (ea_cons (ev_op (ev_var rfl) (ev_var rfl) (rv_eq rfl)) ea_nil) fun H4 e4 Q2 q2 => .inr ⟨_, rfl, ?_⟩) fun _ _ => rfl⟩
      have z := q2 H4 (Ex.refl H4)
      by_cases e : (m : Int) = i
      · rw [if_pos e] at z
        rw [e, decide_eq_true rfl]
        exact z
      · rw [if_neg e] at z
        rw [decide_eq_false fun y => e (V.int.inj y)]
        exact z)
    exact s_retD (evd_unk hp) fun v H2 e2 hd => k v H2 e2 hd
def spLPv (K : Fg) : Sp := fun vs H Q _ => ∃ (a b : Addr) (p n : Nat) (es xs : Pt), vs = [.int (p : Int), .ref a, .ref b] ∧ TI K H a es ∧ TI K H b xs ∧ es ∈ pts p n ∧ xs ∈ pts p n ∧ (1 < p ∧ p ≤ 7) ∧ n ≤ 100 ∧ RetV (.int (mon es xs % (p : Int))) H Q
theorem ok_lpv (F : FnP K "_law_power_value" "_law_power_value" sLawPowerValue f fd) (B : Bi mg) : FnOk P w K mg base CX0 1 f fd ["_law_prime", "_law_power", "_law_point"] (spLPv K) := by
  refine F.ok scLawPowerValue (fun vs H Q E h => ?_) (fun cdv A outer s H vs Q E hr h => ?_)
  · obtain ⟨a, b, p, n, es, xs, rfl, _⟩ := h
    rfl
  · obtain ⟨a, b, p, n, es, xs, rfl, ha, hb, hes, hxs, hp, hn, k⟩ := h
    have hp1 : (1 : Int) < (p : Int) := by omega
    have hpp : (0 : Int) < (p : Int) := by omega
    have hl : es.length = n := pts_len hes
    have hlx : xs.length = n := pts_len hxs
    refine ⟨_, PSs.nox (pss_cons (ps_set (i := 3) scLawPowerValue.nd rfl (.inl rfl) pe_int)
      (pss_cons (ps_for PassesOwn.never rfl (pi_range1 rfl B.range (pa_cons (pe_callB call_len_seq rfl B.len PySem.boot_len (pa_cons (pv 1) pa_nil)) pa_nil)) (pg_name (i := 4) scLawPowerValue.nd rfl (.inl rfl))
        (pss_one (ps_for PassesOwn.never rfl (pi_range1 rfl B.range (pa_cons (pe_ix ix_tup (pv 1) (pv 4) (fun _ _ => rfl)) pa_nil)) (pg_name (i := 5) scLawPowerValue.nd rfl (.inl rfl))
          (pss_one (ps_set (i := 3) scLawPowerValue.nd rfl (.inl rfl) (pe_op op_mod (pe_callTy call_int1 rfl B.int PyProof.Rows.boot_int (pa_cons (pe_op op_mul (pv 3) (pe_ix ix_tup (pv 2) (pv 4) (fun _ _ => rfl))) pa_nil)) (pv 0)))))))
      (pss_one (ps_ret (pv 3))))), ?_⟩
    refine q_asg ev_c fun H1 e1 => ?_
    refine q_forR1 (n := (n : Int)) (ea_cons (ev_cb (ea_cons (ev_var rfl) ea_nil) fun H2 e2 Q2 q2 => ⟨a, _, rfl, .inr (ha.mono (e1.trans e2)), by rw [List.length_map, hl]; exact q2 H2 (Ex.refl H2)⟩) ea_nil) ⟨by omega, by omega⟩
      (fun i σ H' => Ex H H' ∧ ∃ y z, σ = [some (.int (p : Int)), some (.ref a), some (.ref b), some (.int (vof p es xs i)), y, z]) (fun H2 e2 => ⟨e1.trans e2, none, none, by rw [vof_zero hp1] <;> rfl⟩) ?_ ?_
    · rintro i σ H2 hi ⟨ex, y, z, rfl⟩
      have hie : i < es.length := by omega
      have hix : i < xs.length := by omega
      have he := (pts_mem.mp hes).2 es[i] (List.getElem_mem hie)
      have hx := (pts_mem.mp hxs).2 xs[i] (List.getElem_mem hix)
      have hv := vof_bd hp1 es xs i
      have hae : (es.map V.int)[i]? = some (.int es[i]) := by rw [List.getElem?_map, List.getElem?_eq_getElem hie] <;> rfl
      have hax : (xs.map V.int)[i]? = some (.int xs[i]) := by rw [List.getElem?_map, List.getElem?_eq_getElem hix] <;> rfl
      refine s_forR1 (n := es[i]) (ea_cons (ev_op (ev_var rfl) (ev_var rfl) (rv_ixT (ha.mono ex) (atI_nat (j := i) hae))) ea_nil) ⟨by omega, by omega⟩
        (fun j σ H' => Ex H H' ∧ ∃ z, σ = [some (.int (p : Int)), some (.ref a), some (.ref b), some (.int ((vof p es xs i * xs[i] ^ j) % (p : Int))), some (.int (i : Int)), z]) (fun H3 e3 => ⟨ex.trans e3, z, by rw [Int.pow_zero, Int.mul_one, Int.emod_eq_of_lt hv.1 hv.2] <;> rfl⟩) ?_ ?_
      · rintro j σ H3 hj ⟨ex3, z, rfl⟩
        generalize hA : (vof p es xs i * xs[i] ^ j) % (p : Int) = A1
        have hA1 : 0 ≤ A1 ∧ A1 < (p : Int) := by
          rw [← hA]
          exact ⟨Int.emod_nonneg _ (by omega), Int.emod_lt_of_pos _ hpp⟩
        refine s_asg (ev_op (ivint (ev_op (x := .int A1) (y := .int xs[i]) (ev_var rfl) (ev_op (ev_var rfl) (ev_var rfl) (rv_ixT (hb.mono ex3) (atI_nat (j := i) hax))) (rv_I (.inl ⟨by omega, by omega⟩)))) (ev_var rfl) (rv_I hpp)) fun H4 e4 => ?_
        refine ⟨ex3.trans e4, some (.int (j : Int)), ?_⟩
        rw [← hA, mm1, Int.mul_assoc, ← Int.pow_succ]
        rfl
      · rintro σ H3 ⟨ex3, z, rfl⟩
        refine ⟨ex3, some (.int (i : Int)), z, ?_⟩
        rw [vof_succ hp1 (List.getElem?_eq_getElem hie) (List.getElem?_eq_getElem hix), rn_eq hp1, mm2]
    · rintro σ H2 ⟨ex, y, z, rfl⟩
      have hv : vof p es xs ((n : Int).toNat) = mon es xs % (p : Int) := vof_full (by omega) (by omega)
      refine s_ret (ev_var rfl) fun H3 e3 => ?_
      rw [hv]
      exact k H3 (ex.trans e3)
def spLVal (K : Fg) : Sp := fun vs H Q _ => ∃ (b : Addr) (o : V) (p n : Nat) (g : Pol) (xs : Pt), vs = [.int (p : Int), o, .ref b] ∧ Dp K H o (polD g) ∧ TI K H b xs ∧ PolOk p n g ∧ xs ∈ pts p n ∧ shapeOk p n ∧ RetV (.int (pev p g xs)) H Q
theorem ok_lval (F : FnP K "_law_value" "_law_value" sLawValue f fd) (B : Bi mg) (R : Cal P w K mg base 1 "_law_power_value" ["_law_prime", "_law_power", "_law_point"] (spLPv K)) : FnOk P w K mg base CX0 2 f fd ["_law_prime", "_law_one", "_law_point"] (spLVal K) := by
  refine F.ok scLawValue (fun vs H Q E h => ?_) (fun cdv A outer s H vs Q E hr h => ?_)
  · obtain ⟨b, o, p, n, g, xs, rfl, _⟩ := h
    rfl
  · obtain ⟨b, o, p, n, g, xs, rfl, ho, hb, hg, hxs, hsh, k⟩ := h
    obtain ⟨a, us, rfl, hus, hul, hit⟩ := dp_pol ho
    have hP := hsh.isP
    have hp1 := hP.lt
    have hp7 := hP.le
    have hn8 := hsh.n8
    have hpp : (0 : Int) < (p : Int) := by omega
    refine ⟨_, PSs.nox (pss_cons (ps_set (i := 3) scLawValue.nd rfl (.inl rfl) pe_int)
      (pss_cons (ps_for PassesOwn.never rfl (pi_tup (pv 1)) (pg_tup rfl (pgs_cons (pg_name (i := 4) scLawValue.nd rfl (.inl rfl)) (pgs_cons (pg_name (i := 5) scLawValue.nd rfl (.inl rfl)) pgs_nil)))
        (pss_one (ps_set (i := 3) scLawValue.nd rfl (.inl rfl) (pe_op op_add (pv 3) (pe_op op_mul (pv 5) (pe_cal R hr rfl (pa_cons (pv 0) (pa_cons (pv 4) (pa_cons (pv 2) pa_nil)))))))))
      (pss_one (ps_ret (pe_op op_mod (pe_callTy call_int1 rfl B.int PyProof.Rows.boot_int (pa_cons (pv 3) pa_nil)) (pv 0)))))), ?_⟩
    refine q_asg ev_c fun H1 e1 => ?_
    refine q_forIt (J := Itt K a) (fun H2 e2 R r => ⟨.ref a, rfl, a, rfl, ⟨us, ex_t (e1.trans e2) hus⟩, r H2 (Ex.refl H2)⟩) (walk_tup (K := K) (a := a) (xs := us))
      (fun i σ H' => Ex H H' ∧ ∃ y z, σ = [some (.int (p : Int)), some (.ref a), some (.ref b), some (.int (((g.take i).map fun t => t.2 * (mon t.1 xs % (p : Int))).sum)), y, z]) (fun H2 e2 => ⟨e1.trans e2, none, none, rfl⟩) (fun i σ H' _ pv => ex_t pv.1 hus) ?_ ?_
    · rintro i v σ H2 H3 hi ⟨ex, y, z, rfl⟩ ⟨rfl, hx⟩
      obtain ⟨t, T, a1, ht, rfl, hT, hti⟩ := hit i v hx
      have htm := List.mem_of_getElem? ht
      have hm0 := Int.emod_nonneg (mon t.1 xs) (show (p : Int) ≠ 0 by omega)
      have hm1 := Int.emod_lt_of_pos (mon t.1 xs) hpp
      obtain ⟨hk, hv2⟩ := hg.2 t htm
      refine gtup2 (ex_t ex hT) ?_
      refine s_asg (ev_op (ev_var rfl) (ev_op (ev_var rfl) (ev_call (z := .int (mon t.1 xs % (p : Int))) (ea_cons (ev_var rfl) (ea_cons (ev_var rfl) (ea_cons (ev_var rfl) ea_nil))) fun H5 e5 Q q E => ⟨a1, b, p, n, t.1, xs, rfl, hti.mono (ex.trans e5), hb.mono (ex.trans e5), hk, hxs, ⟨hp1, hp7⟩, by omega, q⟩) (rv_I (.inl ⟨by omega, by omega⟩))) rv_I0) fun H4 e4 => ?_
      refine ⟨ex.trans e4, some (.ref a1), some (.int t.2), ?_⟩
      rw [List.take_add_one, ht, List.map_append, List.sum_append_int]
      show _ = [_, _, _, some (V.int (_ + (t.2 * (mon t.1 xs % (p : Int)) + 0))), _, _]
      rw [Int.add_zero]
      rfl
    · rintro σ H2 ⟨ex, y, z, rfl⟩
      rw [List.take_of_length_le (by omega)]
      refine s_ret (ev_op (ivint (ev_var rfl)) (ev_var rfl) (rv_I hpp)) fun H3 e3 => ?_
      rw [sum_mod]
      exact k H3 (ex.trans e3)
def spTake2 : Sp := fun vs H Q _ => ∃ (st dl : Addr) (m c : Int) (ds : List Int), vs = [.ref st, .int m] ∧ (0 < m ∧ m < 1000000) ∧ H st = some (.lst [.ref dl, .int c]) ∧ H dl = some (.lst (ds.map V.int)) ∧ ds ≠ [] ∧ ds.length ≤ 1000 ∧
  ∀ (r c' : Int) H', ExB st H H' → H' st = some (.lst [.ref dl, .int c']) → 0 ≤ r → r < m → Q (.int r) H'
theorem ok_ltake (F : FnP K "_law_take" "_law_take" sLawTake f fd) (B : Bi mg) : FnOk P w K mg base CX0 1 f fd ["_law_state", "_law_many"] spTake2 := by
  refine F.ok scLawTake (fun vs H Q E h => ?_) (fun cdv A outer s H vs Q E hr h => ?_)
  · obtain ⟨st, dl, m, c, ds, rfl, _⟩ := h
    rfl
  · obtain ⟨st, dl, m, c, ds, rfl, hm, hst, hdl, hne, hdz, k⟩ := h
    have hsd : st ≠ dl := fun z => by
      rw [z, hdl] at hst
      have y := congrArg (fun o => match o with | some (HO.lst (x :: _)) => some x | _ => none) hst
      cases ds with
      | nil => exact hne rfl
      | cons d ds => exact nomatch y
    refine ⟨_, PSs.nox (pss_cons (ps_asg (pe_op op_add (pe_ix ix_list (pv 0) pe_int (fun _ _ => rfl)) pe_int) (pg_sub (pv 0) pe_int set_list))
      (pss_one (ps_ret (pe_op op_mod (pe_callTy call_int1 rfl B.int PyProof.Rows.boot_int (pa_cons (pe_op op_fdiv (pe_ix ix_list (pe_ix ix_list (pv 0) pe_int (fun _ _ => rfl)) (pe_op op_mod (pe_callTy call_int1 rfl B.int PyProof.Rows.boot_int (pa_cons (pe_ix ix_list (pv 0) pe_int (fun _ _ => rfl)) pa_nil)) (pe_callB call_len_seq rfl B.len PySem.boot_len (pa_cons (pe_ix ix_list (pv 0) pe_int (fun _ _ => rfl)) pa_nil))) (fun _ _ => rfl)) pe_int) pa_nil)) (pv 1))))), ?_⟩
    refine q_setL (j := 1) (v := .int (c + 1)) hst (ev_op (ev_op (ev_var rfl) ev_c (rv_ixL (v := .int c) (sq_of hst) (atI_nat (j := 1) rfl))) ev_c rv_I0) (ev_var rfl) ev_c (show 1 < 2 by decide) fun H1 e1 => ?_
    have hlen := List.length_pos_iff.mpr hne
    generalize hH2 : upd H1 st (.lst ([V.ref dl, V.int c].set 1 (.int (c + 1)))) = H2
    have h2 : H2 st = some (.lst [.ref dl, .int (c + 1)]) := by
      rw [← hH2, upd_same]
      rfl
    have xb : ExB st H H2 := by
      rw [← hH2]
      exact (ExB.of e1).trans ExB.upd
    have hd2 : H2 dl = some (.lst (ds.map V.int)) := xb dl _ (Ne.symm hsd) hdl
    have hL : (0 : Int) < (ds.length : Int) := by omega
    have r0 := Int.emod_nonneg (c + 1) (show (ds.length : Int) ≠ 0 by omega)
    have r1 := Int.emod_lt_of_pos (c + 1) hL
    obtain ⟨j, hj, hj2⟩ : ∃ j : Nat, (c + 1) % (ds.length : Int) = (j : Int) ∧ j < ds.length := ⟨((c + 1) % (ds.length : Int)).toNat, by omega, by omega⟩
    have hix : (ds.map V.int)[j]? = some (.int ds[j]) := by rw [List.getElem?_map, List.getElem?_eq_getElem hj2] <;> rfl
    have s0 : ∀ {i : Int} {v : V} {H3 : Hp} {n : Nat}, Ex H2 H3 → i = (n : Int) → ([V.ref dl, V.int (c + 1)])[n]? = some v → Ev (tOp (rIxL K) (tVar 0) (tC (.int i))) [some (.ref st), some (.int m)] H3 v := fun e3 ei h => by
      subst ei
      exact ev_op (ev_var rfl) ev_c (rv_ixL (sq_of (e3 st _ h2)) (atI_nat h))
    refine s_ret (v := .int (ds[j] / 7 % m)) (ev_op (ivint (ev_op (x := .int ds[j]) (ev_op (x := .ref dl) (y := .int (j : Int)) (s0 (n := 0) (Ex.refl H2) rfl rfl) (ev_is (ev_op (ivint (s0 (n := 1) (Ex.refl H2) rfl rfl)) (y := .int (ds.length : Int)) (ev_cb (ea_cons (s0 (n := 0) (Ex.refl H2) rfl rfl) ea_nil) fun H3 e3 Q2 q2 => ⟨dl, _, rfl, .inl (sq_of (e3 dl _ hd2)), by rw [List.length_map]; exact q2 H3 (Ex.refl H3)⟩) (rv_I hL)) (congrArg V.int hj)) (rv_ixL (sq_of hd2) (atI_nat hix))) ev_c (rv_I (show CDiv _ 7 from ⟨by decide, by decide⟩)))) (ev_var rfl) (rv_I hm.1)) fun H3 e3 => ?_
    exact k _ (c + 1) H3 (xb.trans (ExB.of e3)) (e3 st _ h2) (Int.emod_nonneg _ (by omega)) (Int.emod_lt_of_pos _ hm.1)
end
end Z7
end

section
set_option Elab.async false
set_option linter.all false
set_option maxRecDepth 100000
set_option maxHeartbeats 4000000
namespace Z7
open PySem L2 Evl RZ
theorem pu_len (f : Pol) (k : Pt) (v : Int) : (pu f k v).length ≤ f.length + 1 := by
  unfold pu
  split
  · rw [List.length_map]
    omega
  · rw [List.length_append]
    exact Nat.le_refl _
theorem cut_ints {ds : List Int} {lo m : Nat} (h : lo + m ≤ ds.length) : cutV (ds.map V.int) (some (lo : Int)) (some ((lo + m : Nat) : Int)) = ((ds.drop lo).take m).map V.int := by
  unfold cutV
  rw [HT.sIx_nat, HT.sIx_nat, List.length_map, Nat.min_eq_left h, Nat.min_eq_left (show lo ≤ ds.length by omega), List.map_take, List.map_drop, Nat.add_sub_cancel_left]
section
variable {P : Program} {w : World} {K : Fg} {mg : Str → Option Value} {base : Heap} {f : Addr} {fd : FuncData}
def spDrawn (K : Fg) : Sp := fun vs H Q _ => ∃ (p n : Nat) (c : Int), vs = [.int (p : Int), .int (n : Int), .int c] ∧ shapeOk p n ∧ ∀ v H2 g, Ex H H2 → PolOk p n g → Dp K H2 v (polD g) → Q v H2
theorem ok_drawn (F : FnP K "_law_drawn" "_law_drawn" sLawDrawn f fd) (B : Bi mg) (DI : Cal P w K mg base 1 "_law_digits" ["_law_cell_here", "_law_many", "_law_count"] spDigits) (MA : Cal P w K mg base 1 "_law_made" ["_law_prime", "_law_numbers"] (spMade K)) :
    FnOk P w K mg base CX0 2 f fd ["_law_prime", "_law_count", "_law_cell_here"] (spDrawn K) := by
  refine F.ok scLawDrawn (fun vs H Q E h => ?_) (fun cdv A outer s H vs Q E hr h => ?_)
  · obtain ⟨p, n, c, rfl, _⟩ := h
    rfl
  · obtain ⟨p, n, c, rfl, hsh, k⟩ := h
    have hu := hr.units
    have hu1 : (A.deeper (PyProof.Rows.envOfC "_law_drawn" (defScope sLawDrawn) s.heap.objs.size f cdv)).units + 1 < cLine := Nat.lt_of_le_of_lt (Nat.add_le_add_left (by decide) _) hu
    refine ⟨_, PSs.nox (pss_cons (ps_set (i := 3) scLawDrawn.nd rfl (.inl rfl) (pe_cal DI hr rfl (pa_cons (pv 2) (pa_cons pe_int (pa_cons (pe_op op_add (pe_op op_mul pe_int (pe_op op_add (pv 1) pe_int)) pe_int) pa_nil)))))
      (pss_cons (ps_set (i := 4) scLawDrawn.nd rfl (.inl rfl) pe_dnewT)
      (pss_cons (ps_for PassesOwn.never rfl (pi_range1 rfl B.range (pa_cons (pe_op op_mod (pe_callTy call_int1 rfl B.int PyProof.Rows.boot_int (pa_cons (pe_ix ix_list (pv 3) pe_int (fun _ _ => rfl)) pa_nil)) pe_int) pa_nil)) (pg_name (i := 5) scLawDrawn.nd rfl (.inl rfl))
        (pss_cons (ps_set (i := 6) scLawDrawn.nd rfl (.inr rfl) (pe_slice sl_list (pv 3) (po_some (pe_op op_add pe_int (pe_op op_mul (pv 5) (pe_op op_add (pv 1) pe_int)))) (po_some (pe_op op_add pe_int (pe_op op_mul (pe_op op_add (pv 5) pe_int) (pe_op op_add (pv 1) pe_int))))))
        (pss_cons (ps_set (i := 7) scLawDrawn.nd rfl (.inl rfl) (pe_callTy call_tuple_of rfl B.tuple PyProof.Rows.boot_tuple (pa_cons (pe_lc (own := [("_law_j", 8)]) (g := gName 8) (tt := tYes) rfl scLawDrawn.nd (pi_range1 rfl B.range (pa_cons (pv 1) pa_nil)) (blkOk_by (N := nLawDrawn) (sc := defScope sLawDrawn) (by decide +kernel))
          (fun _ _ _ _ _ => pg_name (i := 8) scLawDrawn.nd rfl (.inl rfl)) (fun _ _ _ _ _ => pts_nil) (fun _ _ _ _ _ => pe_op op_mod (pe_callTy call_int1 rfl B.int PyProof.Rows.boot_int (pa_cons (pe_ix (r := rIxL K) ix_list (pv 6) (pv 8) (fun _ _ => rfl)) pa_nil)) (pv 0))) pa_nil)))
        (pss_one (ps_dput hu1 (pv 4) (pv 7) (pe_op op_add pe_int (pe_op op_mod (pe_callTy call_int1 rfl B.int PyProof.Rows.boot_int (pa_cons (pe_ix ix_list (pv 6) (pv 1) (fun _ _ => rfl)) pa_nil)) (pe_op op_sub (pv 0) pe_int))) rfl)))))
      (pss_one (ps_ret (pe_cal MA hr rfl (pa_cons (pv 0) (pa_cons (pv 4) pa_nil)))))))), ?_⟩
    have hP := hsh.isP
    have hp1 := hP.lt
    have hp7 := hP.le
    have hn8 := hsh.n8
    have hn1 := hsh.1
    have hpp : (0 : Int) < (p : Int) := by omega
    refine q_asg0 ?_
    refine (ea_cons (ev_var rfl) (ea_cons ev_c (ea_cons (ev_is (ev_op (ev_op (x := .int 6) (y := .int ((n : Int) + 1)) ev_c (ev_op (ev_var rfl) ev_c rv_I0) (rv_I (.inl ⟨by omega, by omega⟩))) ev_c rv_I0) (congrArg V.int (show (6 : Int) * ((n : Int) + 1) + 1 = ((6 * (n + 1) + 1 : Nat) : Int) by omega))) ea_nil)) : EvA _ _ H [.int c, .int 420, .int ((6 * (n + 1) + 1 : Nat) : Int)]) H (Ex.refl H) _ fun H1 e1 => ?_
    refine ⟨c, 420, 6 * (n + 1) + 1, rfl, by omega, by omega, fun dl ds H2 hdl0 e2 hdl hdsl hds => ?_⟩
    refine q_asg0 fun nd hnd => ?_
    have e02 := e1.trans e2
    have hnd0 : H nd = none := fresh_back e02 hnd
    have hdn : dl ≠ nd := ne_of_none hdl hnd
    generalize hd0 : ds.getD 0 0 = d0
    have hat0 : (ds.map V.int)[0]? = some (.int d0) := by
      rw [List.getElem?_map, ← hd0, List.getD_eq_getElem?_getD, List.getElem?_eq_getElem (by omega)] <;> rfl
    have h70 := Int.emod_nonneg d0 (show (7 : Int) ≠ 0 by decide)
    have h71 := Int.emod_lt_of_pos d0 (show (0 : Int) < 7 by decide)
    have hnw : Ex H2 (upd H2 nd (.dT [])) := Ex.new hnd
    refine q_forR1 (n := d0 % 7) (ea_cons (ev_op (ivint (ev_op (ev_var rfl) ev_c (rv_ixL (sq_of (hnw dl _ hdl)) (atI_nat (j := 0) hat0)))) ev_c (rv_I (show (0 : Int) < 7 by decide))) ea_nil) ⟨h70, by omega⟩
      (fun i σ H' => Ex H H' ∧ ∃ g z5 z6 z7, σ = [some (.int (p : Int)), some (.int (n : Int)), some (.int c), some (.ref dl), some (.ref nd), z5, z6, z7, none] ∧ H' dl = some (.lst (ds.map V.int)) ∧ H' nd = some (.dT (dE g)) ∧ (g.map (·.1)).Nodup ∧ (∀ t ∈ g, t.1 ∈ pts p n) ∧ g.length ≤ i)
      (fun H3 e3 => ⟨e02.trans (hnw.trans e3), [], none, none, none, rfl, e3 dl _ (hnw dl _ hdl), e3 nd _ upd_same, List.Pairwise.nil, fun t ht => absurd ht List.not_mem_nil, Nat.le_refl _⟩) ?_ ?_
    · rintro i σ H3 hi ⟨ex, g, z5, z6, z7, rfl, hdl3, hnd3, hgn, hgk, hgl⟩
      have hi6 : i < 6 := by omega
      have hmul : i * (n + 1) ≤ 5 * (n + 1) := Nat.mul_le_mul_right _ (by omega)
      have hlo : 1 + i * (n + 1) + (n + 1) ≤ ds.length := by omega
      have el : (1 : Int) + (i : Int) * ((n : Int) + 1) = ((1 + i * (n + 1) : Nat) : Int) := by
        rw [Int.natCast_add, Int.natCast_mul, Int.natCast_add]
        rfl
      have eh : (1 : Int) + ((i : Int) + 1) * ((n : Int) + 1) = ((1 + i * (n + 1) + (n + 1) : Nat) : Int) := by
        rw [Int.add_mul, Int.one_mul, Int.natCast_add, Int.natCast_add, Int.natCast_mul, Int.natCast_add, ← Int.add_assoc]
        rfl
      refine q_asgL (el_sl (ev_var rfl) (eo_some (ev_is (ev_op ev_c (ev_op (x := .int (i : Int)) (y := .int ((n : Int) + 1)) (ev_var rfl) (ev_op (ev_var rfl) ev_c rv_I0) (rv_I (.inl ⟨by omega, by omega⟩))) rv_I0) (congrArg V.int el)))
        (eo_some (ev_is (ev_op ev_c (ev_op (x := .int ((i : Int) + 1)) (y := .int ((n : Int) + 1)) (ev_op (ev_var rfl) ev_c rv_I0) (ev_op (ev_var rfl) ev_c rv_I0) (rv_I (.inl ⟨by omega, by omega⟩))) rv_I0) (congrArg V.int eh))) (sq_of hdl3)) fun pl H4 hpl e4 h4 => ?_
      rw [cut_ints hlo] at h4
      generalize hpt : (ds.drop (1 + i * (n + 1))).take (n + 1) = part at h4
      have hptl : part.length = n + 1 := by
        rw [← hpt, List.length_take, List.length_drop]
        omega
      have hpat : ∀ j : Nat, j < n + 1 → (part.map V.int)[j]? = some (.int (part.getD j 0)) := fun j hj => by
        rw [List.getElem?_map, List.getD_eq_getElem?_getD, List.getElem?_eq_getElem (by omega)] <;> rfl
      refine q_asg0 ?_
      have hpe : EvP (tCB _ (tCons (tLc (iRng1 (tCons (tVar 1) tNil)) (gName 8) tYes (tOp (rI (fun _ j => 0 < j) fun i j => .int (i % j)) (tCB (fun xs H Q => (∃ i, xs = [V.int i] ∧ Q (.int i) H) ∨ ∃ k, xs = [.bl k] ∧ Q (.int (if k then 1 else 0)) H) (tCons (tOp (rIxL K) (tVar 6) (tVar 8)) tNil)) (tVar 0)) [8]) tNil)) [some (.int (p : Int)), some (.int (n : Int)), some (.int c), some (.ref dl), some (.ref nd), some (.int (i : Int)), some (.ref pl), z7, none] H4
          (IsPt ((List.range n).map fun (j : Nat) => part.getD j 0 % (p : Int))) := evp_tupOf (K := K) (by
        rw [← gvn_all, ← gvn_int]
        refine evlp_lc (J := Itr 0 n) (fun H4 e4 R r => range_item (ea_cons (ev_var rfl) ea_nil) (by omega) r) (walk_range (lo := 0) (n := n)) (by omega) (fun _ _ => trivial) _ _ (fun _ _ _ _ _ h => h) fun m v H5 H6 hm e5 hv => ?_
        obtain ⟨rfl, hv⟩ := hv
        have e0m : v = .int (m : Int) := by
          rw [hv]
          show V.int ((0 : Int) + (m : Int)) = _
          rw [Int.zero_add]
        subst e0m
        exact ⟨Ex.refl _, [some (.int (p : Int)), some (.int (n : Int)), some (.int c), some (.ref dl), some (.ref nd), some (.int (i : Int)), some (.ref pl), z7, some (.int (m : Int))], fun R r => r, rfl, et_yes, fun _ => evp_ev (ev_op (ivint (ev_op (ev_var rfl) (ev_var rfl) (rv_ixL (sq_of (e5 pl _ h4)) (atI_nat (hpat m (by omega)))))) (ev_var rfl) (rv_I hpp)) fun _ _ => rfl⟩)
      refine hpe H4 (Ex.refl H4) _ fun v H5 e5 hv => ?_
      obtain ⟨q, rfl, hq⟩ := hv
      generalize hE : ((List.range n).map fun (j : Nat) => part.getD j 0 % (p : Int)) = E1 at hq
      have hEm : E1 ∈ pts p n := pts_mem.mpr ⟨by rw [← hE, List.length_map, List.length_range], fun e he => by
        rw [← hE] at he
        obtain ⟨j, _, rfl⟩ := List.mem_map.mp he
        exact ⟨Int.emod_nonneg _ (by omega), Int.emod_lt_of_pos _ hpp⟩⟩
      have ev : Ev (tOp (rI0 fun i j => .int (i + j)) (tC (.int 1)) (tOp (rI (fun _ j => 0 < j) fun i j => .int (i % j)) (tCB (fun xs H Q => (∃ i, xs = [V.int i] ∧ Q (.int i) H) ∨ ∃ k, xs = [.bl k] ∧ Q (.int (if k then 1 else 0)) H) (tCons (tOp (rIxL K) (tVar 6) (tVar 1)) tNil)) (tOp (rI0 fun i j => .int (i - j)) (tVar 0) (tC (.int 1)))))
          [some (.int (p : Int)), some (.int (n : Int)), some (.int c), some (.ref dl), some (.ref nd), some (.int (i : Int)), some (.ref pl), some (.ref q), none] H5 (.int (1 + part.getD n 0 % ((p : Int) - 1))) :=
        ev_op ev_c (ev_op (ivint (ev_op (ev_var rfl) (ev_var rfl) (rv_ixL (sq_of (e5 pl _ h4)) (atI_nat (hpat n (by omega)))))) (ev_op (ev_var rfl) ev_c rv_I0) (rv_I (show (0 : Int) < (p : Int) - 1 by omega))) rv_I0
      refine ev H5 (Ex.refl H5) _ fun H6 e6 => ?_
      have e36 := e4.trans (e5.trans e6)
      have e06 := ex.trans e36
      refine ⟨.ref nd, rfl, .ref q, rfl, nd, _, rfl, DPut.t (e36 nd _ hnd3) (pta_kp (ex_pt e6 hq)) (by rw [dE_len]; exact sz_lt (by omega)), ?_⟩
      refine ⟨Ex.mut e06 hnd0, pu g E1 (1 + part.getD n 0 % ((p : Int) - 1)), _, _, _, rfl, ?_, ?_, pu_nodup hgn, fun t ht => ?_, Nat.le_trans (pu_len _ _ _) (by omega)⟩
      · rw [upd_ne hdn]
        exact e36 dl _ hdl3
      · rw [upd_same, putK_dE]
      · rcases pu_keys t.1 |>.mp (List.mem_map.mpr ⟨t, ht, rfl⟩) with h | h
        · rw [h]
          exact hEm
        · obtain ⟨u, hu, e⟩ := List.mem_map.mp h
          rw [← e]
          exact hgk u hu
    · rintro σ H3 ⟨ex, g, z5, z6, z7, rfl, hdl3, hnd3, hgn, hgk, hgl⟩
      refine s_retCall (ea_cons (ev_var rfl) (ea_cons (ev_var rfl) ea_nil)) fun H4 e4 => ?_
      exact ⟨nd, p, n, g, rfl, by omega, by omega, e4 nd _ hnd3, hgn, hgk, by omega, fun v H5 e5 hd => k v H5 (madeP p g) (ex.trans (e4.trans e5)) (made_ok (by omega) hgn hgk) hd⟩
end
end Z7
end

section
set_option Elab.async false
set_option linter.all false
set_option maxRecDepth 100000
set_option maxHeartbeats 4000000
namespace Z7
open PySem L2 Evl RZ
theorem dpa_take {K : Fg} {H : Hp} : ∀ {us : List V} {es : List PyData} (m : Nat), DpAll K H us es → DpAll K H (us.take m) (es.take m)
  | _, _, m, .nil => by
    rw [List.take_nil, List.take_nil]
    exact .nil
  | _, _, 0, .cons h t => .nil
  | _, _, m + 1, .cons h t => by
    rw [List.take_succ_cons, List.take_succ_cons]
    exact .cons h (dpa_take m t)
def IsPol (K : Fg) (p n : Nat) (v : V) (H : Hp) : Prop := ∃ g, PolOk p n g ∧ Dp K H v (polD g)
theorem stab_ispol (K : Fg) (p n : Nat) : Stab (IsPol K p n) := fun _ _ _ e ⟨g, a, c⟩ => ⟨g, a, dp_tex e (polD g) (noL_pol g) c⟩
theorem PolOk.take {p n : Nat} {g : Pol} (h : PolOk p n g) (i : Nat) : PolOk p n (g.take i) := ⟨by
  rw [List.map_take]
  exact (List.take_sublist i _).nodup h.1, fun t ht => h.2 t (List.mem_of_mem_take ht)⟩
theorem polOk_nil (p n : Nat) : PolOk p n [] := ⟨List.Pairwise.nil, fun t ht => absurd ht List.not_mem_nil⟩
theorem unk_ok {p n : Nat} {i : Int} (hp : 1 < p) : PolOk p n [(unkP n i, 1)] := ⟨by simp, fun t ht => by
  rw [List.mem_singleton.mp ht]
  exact ⟨unk_mem hp, by show (0 : Int) ≤ 1; decide, by show (1 : Int) < (p : Int); omega⟩⟩
/-- the state of the drawing -/
def StA (st dl : Addr) (ds : List Int) (H : Hp) : Prop := (∃ c : Int, H st = some (.lst [.ref dl, .int c])) ∧ H dl = some (.lst (ds.map V.int)) ∧ st ≠ dl ∧ ds ≠ [] ∧ ds.length ≤ 1000
theorem StA.ex {st dl : Addr} {ds : List Int} {H H' : Hp} (h : StA st dl ds H) (e : Ex H H') : StA st dl ds H' := by
  obtain ⟨⟨c, h1⟩, h2, h3⟩ := h
  exact ⟨⟨c, e st _ h1⟩, e dl _ h2, h3⟩
theorem StA.fresh {st dl sl : Addr} {ds : List Int} {H H' : Hp} {o : HO} (h : StA st dl ds H') (h0 : StA st dl ds H) (hs : H sl = none) : StA st dl ds (upd H' sl o) := by
  obtain ⟨⟨c, h1⟩, h2, h3⟩ := h
  obtain ⟨⟨c0, h01⟩, h02, _⟩ := h0
  refine ⟨⟨c, ?_⟩, ?_, h3⟩
  · rw [upd_ne fun z => by rw [z, hs] at h01; cases h01]
    exact h1
  · rw [upd_ne fun z => by rw [z, hs] at h02; cases h02]
    exact h2
theorem exb_mut {a sl : Addr} {H H' : Hp} {o : HO} (e : ExB a H H') (hs : H sl = none) : ExB a H (upd H' sl o) := fun b u n h => by
  rw [upd_ne fun z => by rw [z, hs] at h; cases h]
  exact e b u n h
theorem StA.tex {st dl : Addr} {ds : List Int} {H H' : Hp} (h : StA st dl ds H) (e : ExB st H H') : TEx H H' := by
  obtain ⟨⟨c, h1⟩, _⟩ := h
  exact tex_exb e h1 rfl
section
variable {K : Fg} {σ : L2.St} {H : Hp} {ta tb te : TE} {tas : TA} {Q : VK}
theorem r_op {r : R2} (h : ta σ H fun x H1 => tb σ H1 fun y H2 => r x y H2 Q) : tOp r ta tb σ H Q := h
theorem r_tup (h : tas σ H fun xs H1 => xs.length ≤ sizeLine ∧ ∀ p, H1 p = none → Q (.ref p) (upd H1 p (.tup xs))) : tTup tas σ H Q := h
theorem r_cons {QA : List V → Hp → Prop} (h : te σ H fun x H1 => tas σ H1 fun xs H2 => QA (x :: xs) H2) : tCons te tas σ H QA := h
theorem r_nil {QA : List V → Hp → Prop} (h : QA [] H) : tNil σ H QA := h
theorem r_ret {D : Ends} (h : te σ H D.rt) : tRet te D σ H := h
theorem r_call {sp : Sp} {dvs : List V} {E : XK} (h : tas σ H fun vs H1 => sp (vs ++ dvs) H1 Q E) : tCall sp dvs E tas σ H Q := h
theorem r_ev {v : V} (h : Ev te σ H v) (k : ∀ H1, Ex H H1 → Q v H1) : te σ H Q := h H (Ex.refl H) _ k
theorem r_app {i : Nat} {l : Addr} {xs : List V} {D : Ends} (hl : H l = some (.lst xs)) (hi : σ[i]? = some (some (.ref l))) (h : te σ H fun v H2 => ∃ (l' : Addr) (xs' : List V) (v' : V), V.ref l = .ref l' ∧ [v] = [v'] ∧ H2 l' = some (.lst xs') ∧ xs'.length < sizeLine ∧ D.nx σ (upd H2 l' (.lst (xs' ++ [v'])))) :
    tDrop (tBM K "list" rAppend (tVar i) (tCons te tNil)) D σ H := ⟨.ref l, hi, Or.inl ⟨rfl, xs, sq_of hl⟩, h⟩
theorem r_take {st dl : Addr} {ds : List Int} {i : Nat} {m : Int} {E : XK} (ha : StA st dl ds H) (hi : σ[i]? = some (some (.ref st))) (hm : 0 < m ∧ m < 1000000) (k : ∀ (r : Int) H', ExB st H H' → StA st dl ds H' → 0 ≤ r → r < m → Q (.int r) H') : tCall spTake2 [] E (tCons (tVar i) (tCons (tC (.int m)) tNil)) σ H Q := by
  obtain ⟨⟨c, h1⟩, h2, h3, h4, h5⟩ := ha
  exact ⟨.ref st, hi, st, dl, m, c, ds, rfl, hm, h1, h2, h4, h5, fun r c' H' e hs r0 r1 => k r H' e ⟨⟨c', hs⟩, e dl _ (Ne.symm h3) h2, h3, h4, h5⟩ r0 r1⟩
theorem evp_pol1 {i j : Nat} {p n : Nat} {v : V} (hi : σ[i]? = some (some v)) (hv : IsPol K p n v H) : EvP (tSl (rSlA K) (tVar i) tNoPart (tPart (tC (.int (j : Int))))) σ H (IsPol K p n) := fun H1 e Q q => by
  obtain ⟨g, hg, hd⟩ := hv
  obtain ⟨a, us, rfl, hsq, hall⟩ := dp_tup hd
  refine ⟨.ref a, hi, (j : Int), rfl, a, us, rfl, ex_t e hsq, fun hw => q _ H1 (Ex.refl H1) ⟨g, hg, dp_mono e hd⟩, fun _ t ht => q _ _ (Ex.new ht) ⟨g.take j, hg.take j, .tup (st_of upd_same) ?_⟩⟩
  unfold cutV
  rw [HT.sIx_none, HT.sIx_nat, List.drop_zero, Nat.sub_zero]
  have hl := dpa_len hall
  have z := dpa_take j hall
  rw [← List.map_take] at z
  refine dpa_mono (e.trans (Ex.new ht)) ?_
  by_cases hj : j ≤ us.length
  · rw [Nat.min_eq_left hj]
    exact z
  · rw [Nat.min_eq_right (by omega), List.take_of_length_le (Nat.le_refl _)]
    rw [List.take_of_length_le (by omega)] at z
    exact z
theorem evp_empty {p n : Nat} : EvP (tTup tNil) σ H (IsPol K p n) := fun H1 e Q q => ⟨by show 0 ≤ sizeLine; exact Nat.zero_le _, fun t ht => q _ _ (Ex.new ht) ⟨[], polOk_nil p n, .tup (st_of upd_same) .nil⟩⟩
end
def opsL : List Nat := [0, 1, 2, 0, 1]
section
variable {P : Program} {w : World} {K : Fg} {mg : Str → Option Value} {base : Heap} {f : Addr} {fd : FuncData}
def spLSen (K : Fg) (d : Nat) : Sp := fun vs H Q _ => ∃ (st dl : Addr) (ds : List Int) (p n dep : Nat), vs = [.int (p : Int), .int (n : Int), .ref st, .int (dep : Int)] ∧ dep ≤ d ∧ shapeOk p n ∧ StA st dl ds H ∧
  ∀ (v : V) (s : Sen) H', ExB st H H' → StA st dl ds H' → SenOk p n s → s.dep ≤ dep → Dp K H' v (senD s) → Q v H'
theorem ok_lsen (F : FnP K "_law_sentence" "_law_sentence" sLawSentence f fd) (B : Bi mg) (TK : Cal P w K mg base 1 "_law_take" ["_law_state", "_law_many"] spTake2) (DR : Cal P w K mg base 2 "_law_drawn" ["_law_prime", "_law_count", "_law_cell_here"] (spDrawn K))
    (UN : Cal P w K mg base 1 "_law_unknown" ["_law_count", "_law_index"] (spUnk K)) (hm : mg "_law_sentence" = some (.ref f)) (hb : Binds K fd ["_law_prime", "_law_count", "_law_state", "_law_depth"] []) :
    ∀ d, FnOk P w K mg base CX0 (3 + d) f fd ["_law_prime", "_law_count", "_law_state", "_law_depth"] (spLSen K d)
  | 0 => by
    refine F.ok (k := 2) scLawSentence (fun vs H Q E h => ?_) (fun cdv A outer s H vs Q E hr h => ?_)
    · obtain ⟨st, dl, ds, p, n, dep, rfl, _⟩ := h
      rfl
    · obtain ⟨st, dl, ds, p, n, dep, rfl, hdep, hsh, hst, k⟩ := h
      have hP := hsh.isP
      have hp1 := hP.lt
      have hp7 := hP.le
      have hn8 := hsh.n8
      have hn1 := hsh.1
      have hnn : (0 : Int) < (n : Int) := by omega
      refine ⟨_, PSs.nox (pss_cons (ps_set (i := 4) scLawSentence.nd rfl (.inl rfl) (pe_cal TK hr rfl (pa_cons (pv 2) (pa_cons pe_int pa_nil))))
        (pss_cons (ps_if (PW.pt (pw_or (pt_cmpR op_eq (pv 3) pe_int (nomark _)) (pw_or1 (pt_cmpR op_lt (pv 4) pe_int (nomark _)))))
          (pss_cons (ps_set (i := 5) scLawSentence.nd rfl (.inl rfl) (pe_lst pa_nil))
          (pss_cons (ps_for PassesOwn.never rfl (pi_range1 rfl B.range (pa_cons pe_int pa_nil)) (pg_name (i := 6) scLawSentence.nd rfl (.inl rfl))
            (pss_cons (ps_set (i := 7) scLawSentence.nd rfl (.inl rfl) (pe_op op_add (pe_cal TK hr rfl (pa_cons (pv 2) (pa_cons pe_int pa_nil))) (pe_op op_mul pe_int (pe_cal TK hr rfl (pa_cons (pv 2) (pa_cons pe_int pa_nil))))))
            (pss_cons (ps_set (i := 8) scLawSentence.nd rfl (.inl rfl) (pe_cal DR hr rfl (pa_cons (pv 0) (pa_cons (pv 1) (pa_cons (pv 7) pa_nil)))))
            (pss_one (ps_expr (pe_bm PySem.F.plainAttrs_list PySem.F.slot_list_append PySem.F.type_list_append mt_append (pv 5) (pa_cons (pe_ix ix_list (pe_lst (pa_cons (pv 8) (pa_cons (pe_slice (r := rSlA K) sl_tupA (pv 8) po_none (po_some pe_int)) (pa_cons (pe_cal UN hr rfl (pa_cons (pv 1) (pa_cons (pe_op op_mod (pe_callTy call_int1 rfl B.int PyProof.Rows.boot_int (pa_cons (pv 7) pa_nil)) (pv 1)) pa_nil))) (pa_cons (pe_tup pa_nil) pa_nil))))) (pe_cal TK hr rfl (pa_cons (pv 2) (pa_cons pe_int pa_nil))) (fun _ _ => rfl)) pa_nil)))))))
          (pss_one (ps_ret (pe_tup (pa_cons (pe_ix ix_list (pe_lst (pa_cons pe_str (pa_cons pe_str pa_nil))) (pe_cal TK hr rfl (pa_cons (pv 2) (pa_cons pe_int pa_nil))) (fun _ _ => rfl)) (pa_cons (pe_ix ix_list (pv 5) pe_int (fun _ _ => rfl)) (pa_cons (pe_ix ix_list (pv 5) pe_int (fun _ _ => rfl)) pa_nil)))))))) pss_nil)
        pss_never)), ?_⟩
      refine q_asg0 (r_take hst rfl (by decide) fun r H1 x1 a1 r0 r1 => ?_)
      refine q_when (b := true) (et_is (et_or (a := decide (V.int (dep : Int) = V.int 0)) (b := decide (r < 2)) (et_test (ev_op (ev_var rfl) ev_c (rv_eq rfl))) (fun _ => et_test (ev_op (ev_var rfl) ev_c rv_I0))) (by
        have z : dep = 0 := by omega
        rw [z]
        rfl)) (fun _ H2 e2 => ?_) (fun hb => nomatch hb)
      have x2 : ExB st H H2 := x1.trans (ExB.of e2)
      have a2 := a1.ex e2
      refine q_asgL (el_lst ea_nil (by decide)) fun sl H3 hsl e3 h3 => ?_
      have a3 := a2.ex e3
      have x3 : ExB st H H3 := x2.trans (ExB.of e3)
      have hst0 : ∃ o, H st = some o := ⟨_, hst.1.choose_spec⟩
      have hsl0 : H sl = none := by
        cases e : H sl with
        | none => rfl
        | some o =>
          by_cases z : sl = st
          · obtain ⟨⟨c, y⟩, _⟩ := a2
            rw [z, y] at hsl
            cases hsl
          · rw [x2 sl o z e] at hsl
            cases hsl
      have hslt : sl ≠ st := fun z => by
        obtain ⟨o, ho⟩ := hst0
        rw [z, ho] at hsl0
        cases hsl0
      refine q_forR1 (n := 2) (ea_cons ev_c ea_nil) (by decide) (fun i σ H' => ExB st H H' ∧ StA st dl ds H' ∧ ∃ xs y6 y7 y8, σ = [some (.int (p : Int)), some (.int (n : Int)), some (.ref st), some (.int (dep : Int)), some (.int r), some (.ref sl), y6, y7, y8, none] ∧ H' sl = some (.lst xs) ∧ xs.length = i ∧ ∀ v ∈ xs, IsPol K p n v H')
        (fun H4 e4 => ⟨x3.trans (ExB.of e4), a3.ex e4, [], none, none, none, rfl, e4 sl _ h3, rfl, fun v hv => absurd hv List.not_mem_nil⟩) ?_ ?_
      · rintro i σ H4 hi ⟨x4, a4, xs, y6, y7, y8, rfl, h4, hxl, hxs⟩
        refine q_asg0 (r_op (r_take a4 rfl (by decide) fun r1 H5 x5 a5 r10 r11 => r_op (r_take a5 rfl (by decide) fun r2 H6 x6 a6 r20 r21 => ⟨700, r2, rfl, rfl, .inl (by decide), r1, 700 * r2, rfl, rfl, ?_⟩)))
        refine q_asg0 (r_call (r_ev (ev_var rfl) fun H7 e7 => r_ev (ev_var rfl) fun H8 e8 => r_ev (ev_var rfl) fun H9 e9 => ?_))
        refine ⟨p, n, r1 + 700 * r2, rfl, hsh, fun o H10 g e10 hg ho => ?_⟩
        have e6_10 := ((e7.trans e8).trans e9).trans e10
        have x10 : ExB st H4 H10 := (x5.trans x6).trans (ExB.of e6_10)
        have a10 := a6.ex e6_10
        have h10 : H10 sl = some (.lst xs) := x10 sl _ hslt h4
        have hpo : IsPol K p n o H10 := ⟨g, hg, ho⟩
        have t10 := a4.tex x10
        have r70 : ∀ z : Int, 0 ≤ z % (n : Int) := fun z => Int.emod_nonneg z (by omega)
        have hL : Evlp (tLst (tCons (tVar 8) (tCons (tSl (rSlA K) (tVar 8) tNoPart (tPart (tC (.int ((1 : Nat) : Int))))) (tCons (tCall (spUnk K) [] E0 (tCons (tVar 1) (tCons (tOp (rI (fun _ j => 0 < j) fun i j => .int (i % j)) (tCB (fun xs H Q => (∃ i, xs = [V.int i] ∧ Q (.int i) H) ∨ ∃ k, xs = [.bl k] ∧ Q (.int (if k then 1 else 0)) H) (tCons (tVar 7) tNil)) (tVar 1)) tNil))) (tCons (tTup tNil) tNil)))))
            [some (.int (p : Int)), some (.int (n : Int)), some (.ref st), some (.int (dep : Int)), some (.int r), some (.ref sl), some (.int (i : Int)), some (.int (r1 + 700 * r2)), some o, none] H10 [IsPol K p n, IsPol K p n, IsPol K p n, IsPol K p n] :=
          evlp_lst (eap_cons (evp_ev (ev_var rfl) fun H11 e11 => stab_ispol K p n _ _ _ (TEx.of e11) hpo) (stab_ispol K p n) (eap_cons (evp_pol1 (j := 1) rfl hpo) (stab_ispol K p n) (eap_cons (fun H11 e11 Q2 q2 => r_call ((ea_cons (ev_var rfl) (ea_cons (ev_op (ivint (ev_var rfl)) (ev_var rfl) (rv_I (C := fun _ j => 0 < j) hnn)) ea_nil) : EvA _ _ H11 [.int (n : Int), .int ((r1 + 700 * r2) % (n : Int))]) H11 (Ex.refl H11) _ fun H12 e12 => ⟨n, _, rfl, by omega, fun v H13 e13 hd => q2 v H13 (e12.trans e13) ⟨_, unk_ok hp1, hd⟩⟩)) (stab_ispol K p n)
            (eap_cons evp_empty (stab_ispol K p n) eap_nil)))) (fun Pq hPq => by
              have z : Pq = IsPol K p n := by simpa using hPq
              rw [z]
              exact stab_ispol K p n) (show 4 ≤ 1000 by decide)
        refine r_app h10 rfl (r_op (hL H10 (Ex.refl H10) _ fun lp ws H11 hlp e11 h11 hws => ?_))
        refine r_take (a10.ex e11) rfl (by decide) fun r4 H12 x12 a12 r40 r41 => ?_
        have hwl : ws.length = 4 := hws.len.symm
        obtain ⟨j4, hr4, hj⟩ : ∃ j4 : Nat, r4 = (j4 : Int) ∧ j4 < ws.length := ⟨r4.toNat, by omega, by omega⟩
        subst hr4
        obtain ⟨Pv, hPv, hpv⟩ := allp_at hws (List.getElem?_eq_getElem hj)
        have hPe : Pv = IsPol K p n := by
          have z := List.mem_of_getElem? hPv
          simpa using z
        rw [hPe] at hpv
        have hlps : lp ≠ st := fun z => by
          obtain ⟨⟨c, y⟩, _⟩ := a10
          rw [z, y] at hlp
          cases hlp
        have x4_12 : ExB st H4 H12 := (x10.trans (ExB.of e11)).trans x12
        have t4_12 := a4.tex x4_12
        have t11_12 := (a10.ex e11).tex x12
        refine ⟨lp, ws, (j4 : Int), ws[j4], rfl, rfl, sq_of (x12 lp _ hlps h11), atI_nat (List.getElem?_eq_getElem hj), ?_⟩
        have h12 : H12 sl = some (.lst xs) := x12 sl _ hslt (e11 sl _ h10)
        refine ⟨sl, xs, _, rfl, rfl, h12, by rw [hxl]; exact sz_lt (by omega), ?_⟩
        have tu : TEx H12 (upd H12 sl (.lst (xs ++ [ws[j4]]))) := TEx.upd h12 rfl
        refine ⟨exb_mut (x4.trans x4_12) hsl0, a12.fresh hst hsl0, xs ++ [ws[j4]], _, _, _, rfl, upd_same, by rw [List.length_append, hxl] <;> rfl, fun v hv => ?_⟩
        rcases List.mem_append.mp hv with hv | hv
        · exact stab_ispol K p n _ _ _ (t4_12.trans tu) (hxs v hv)
        · rw [List.mem_singleton.mp hv]
          exact stab_ispol K p n _ _ _ (t11_12.trans tu) hpv
      · rintro σ H4 ⟨x4, a4, xs, y6, y7, y8, rfl, h4, hxl, hxs⟩
        have hxl : xs.length = 2 := hxl
        match xs, hxl with
        | [u1, u2], _ =>
          refine r_ret (r_tup (r_cons (r_op ((el_lst (ea_cons ev_c (ea_cons ev_c ea_nil)) (by decide) : EvL (tLst (tCons (tC (.str "=")) (tCons (tC (.str "/=")) tNil))) _ H4 [.str "=", .str "/="]) H4 (Ex.refl H4) _ fun lq H5 hlq e5 h5 => r_take (a4.ex e5) rfl (by decide) fun r5 H6 x6 a6 r50 r51 => ?_))))
          have hlqs : lq ≠ st := fun z => by
            obtain ⟨⟨c, y⟩, _⟩ := a4
            rw [z, y] at hlq
            cases hlq
          have h6q := x6 lq _ hlqs h5
          have h6s : H6 sl = some (.lst [u1, u2]) := x6 sl _ hslt (e5 sl _ h4)
          obtain ⟨eq, heq, hateq⟩ : ∃ eq : Bool, V.str (if eq = true then "=" else "/=") = V.str (if eq = true then "=" else "/=") ∧ atI [V.str "=", V.str "/="] r5 = some (V.str (if eq = true then "=" else "/=")) := by
            have hc : r5 = 0 ∨ r5 = 1 := by omega
            rcases hc with rfl | rfl
            · exact ⟨true, rfl, rfl⟩
            · exact ⟨false, rfl, rfl⟩
          refine ⟨lq, _, r5, _, rfl, rfl, sq_of h6q, hateq, ?_⟩
          refine r_cons (r_ev (v := u1) (ev_op (ev_var rfl) ev_c (rv_ixL (sq_of h6s) (atI_nat (j := 0) rfl))) fun H7 e7 => r_cons (r_ev (v := u2) (ev_op (ev_var rfl) ev_c (rv_ixL (sq_of (e7 sl _ h6s)) (atI_nat (j := 1) rfl))) fun H8 e8 => r_nil ⟨by show 3 ≤ sizeLine; exact sz_of (by decide), fun t ht => ?_⟩))
          have e6t := (e7.trans e8).trans (Ex.new (o := .tup [.str (if eq = true then "=" else "/="), u1, u2]) ht)
          have x4t : ExB st H4 _ := ((ExB.of e5).trans x6).trans (ExB.of e6t)
          have t4t := a4.tex x4t
          obtain ⟨g1, hg1, hd1⟩ := stab_ispol K p n _ _ _ t4t (hxs u1 (by simp))
          obtain ⟨g2, hg2, hd2⟩ := stab_ispol K p n _ _ _ t4t (hxs u2 (by simp))
          exact k (.ref t) (.cmp eq g1 g2) _ (x4.trans x4t) (a6.ex e6t) ⟨hg1, hg2⟩ (Nat.zero_le _) (.tup (st_of upd_same) (.cons (.str _) (.cons hd1 (.cons hd2 .nil))))
  | d + 1 => by
    have ih := ok_lsen F B TK DR UN hm hb d
    have SE : Cal P w K mg base (3 + d) "_law_sentence" ["_law_prime", "_law_count", "_law_state", "_law_depth"] (spLSen K d) := ⟨f, fd, ih, hm, F.kp, hb⟩
    refine F.ok (k := 3 + d) scLawSentence (fun vs H Q E h => ?_) (fun cdv A outer s H vs Q E hr h => ?_)
    · obtain ⟨st, dl, ds, p, n, dep, rfl, _⟩ := h
      rfl
    · obtain ⟨st, dl, ds, p, n, dep, rfl, hdep, hsh, hst, k⟩ := h
      have hP := hsh.isP
      have hp1 := hP.lt
      have hp7 := hP.le
      have hn8 := hsh.n8
      have hn1 := hsh.1
      have hnn : (0 : Int) < (n : Int) := by omega
      refine ⟨_, PSs.nox (pss_cons (ps_set (i := 4) scLawSentence.nd rfl (.inl rfl) (pe_cal TK hr rfl (pa_cons (pv 2) (pa_cons pe_int pa_nil)) (by omega)))
        (pss_cons (ps_if (PW.pt (pw_or (pt_cmpR op_eq (pv 3) pe_int (nomark _)) (pw_or1 (pt_cmpR op_lt (pv 4) pe_int (nomark _)))))
          (pss_cons (ps_set (i := 5) scLawSentence.nd rfl (.inl rfl) (pe_lst pa_nil))
          (pss_cons (ps_for PassesOwn.never rfl (pi_range1 rfl B.range (pa_cons pe_int pa_nil)) (pg_name (i := 6) scLawSentence.nd rfl (.inl rfl))
            (pss_cons (ps_set (i := 7) scLawSentence.nd rfl (.inl rfl) (pe_op op_add (pe_cal TK hr rfl (pa_cons (pv 2) (pa_cons pe_int pa_nil)) (by omega)) (pe_op op_mul pe_int (pe_cal TK hr rfl (pa_cons (pv 2) (pa_cons pe_int pa_nil)) (by omega)))))
            (pss_cons (ps_set (i := 8) scLawSentence.nd rfl (.inl rfl) (pe_cal DR hr rfl (pa_cons (pv 0) (pa_cons (pv 1) (pa_cons (pv 7) pa_nil))) (by omega)))
            (pss_one (ps_expr (pe_bm PySem.F.plainAttrs_list PySem.F.slot_list_append PySem.F.type_list_append mt_append (pv 5) (pa_cons (pe_ix ix_list (pe_lst (pa_cons (pv 8) (pa_cons (pe_slice (r := rSlA K) sl_tupA (pv 8) po_none (po_some pe_int)) (pa_cons (pe_cal UN hr rfl (pa_cons (pv 1) (pa_cons (pe_op op_mod (pe_callTy call_int1 rfl B.int PyProof.Rows.boot_int (pa_cons (pv 7) pa_nil)) (pv 1)) pa_nil)) (by omega)) (pa_cons (pe_tup pa_nil) pa_nil))))) (pe_cal TK hr rfl (pa_cons (pv 2) (pa_cons pe_int pa_nil)) (by omega)) (fun _ _ => rfl)) pa_nil)))))))
          (pss_one (ps_ret (pe_tup (pa_cons (pe_ix ix_list (pe_lst (pa_cons pe_str (pa_cons pe_str pa_nil))) (pe_cal TK hr rfl (pa_cons (pv 2) (pa_cons pe_int pa_nil)) (by omega)) (fun _ _ => rfl)) (pa_cons (pe_ix ix_list (pv 5) pe_int (fun _ _ => rfl)) (pa_cons (pe_ix ix_list (pv 5) pe_int (fun _ _ => rfl)) pa_nil)))))))) pss_nil)
        (pss_cons (ps_if (pt_cmpR op_lt (pv 4) pe_int (nomark _)) (pss_one (ps_ret (pe_tup (pa_cons pe_str (pa_cons (pe_cal SE hr rfl (pa_cons (pv 0) (pa_cons (pv 1) (pa_cons (pv 2) (pa_cons (pe_op op_sub (pv 3) pe_int) pa_nil)))) (Nat.le_refl _)) pa_nil))))) pss_nil)
        (pss_cons (ps_set (i := 9) scLawSentence.nd rfl (.inl rfl) (pe_cal SE hr rfl (pa_cons (pv 0) (pa_cons (pv 1) (pa_cons (pv 2) (pa_cons (pe_op op_sub (pv 3) pe_int) pa_nil)))) (Nat.le_refl _)))
        (pss_one (ps_ret (pe_tup (pa_cons (pe_ix ix_list (pe_lst (pa_cons pe_str (pa_cons pe_str (pa_cons pe_str (pa_cons pe_str (pa_cons pe_str pa_nil)))))) (pe_op op_sub (pv 4) pe_int) (fun _ _ => rfl)) (pa_cons (pv 9) (pa_cons (pe_cal SE hr rfl (pa_cons (pv 0) (pa_cons (pv 1) (pa_cons (pv 2) (pa_cons (pe_op op_sub (pv 3) pe_int) pa_nil)))) (Nat.le_refl _)) pa_nil)))))))))), ?_⟩
      refine q_asg0 (r_take hst rfl (by decide) fun r H1 x1 a1 r0 r1 => ?_)
      refine q_when (b := decide (V.int (dep : Int) = V.int 0) || decide (r < 2)) (et_or (et_test (ev_op (ev_var rfl) ev_c (rv_eq rfl))) (fun _ => et_test (ev_op (ev_var rfl) ev_c rv_I0))) (fun _ H2 e2 => ?_) (fun hcond H2 e2 => ?_)
      · have x2 : ExB st H H2 := x1.trans (ExB.of e2)
        have a2 := a1.ex e2
        refine q_asgL (el_lst ea_nil (by decide)) fun sl H3 hsl e3 h3 => ?_
        have a3 := a2.ex e3
        have x3 : ExB st H H3 := x2.trans (ExB.of e3)
        have hst0 : ∃ o, H st = some o := ⟨_, hst.1.choose_spec⟩
        have hsl0 : H sl = none := by
          cases e : H sl with
          | none => rfl
          | some o =>
            by_cases z : sl = st
            · obtain ⟨⟨c, y⟩, _⟩ := a2
              rw [z, y] at hsl
              cases hsl
            · rw [x2 sl o z e] at hsl
              cases hsl
        have hslt : sl ≠ st := fun z => by
          obtain ⟨o, ho⟩ := hst0
          rw [z, ho] at hsl0
          cases hsl0
        refine q_forR1 (n := 2) (ea_cons ev_c ea_nil) (by decide) (fun i σ H' => ExB st H H' ∧ StA st dl ds H' ∧ ∃ xs y6 y7 y8, σ = [some (.int (p : Int)), some (.int (n : Int)), some (.ref st), some (.int (dep : Int)), some (.int r), some (.ref sl), y6, y7, y8, none] ∧ H' sl = some (.lst xs) ∧ xs.length = i ∧ ∀ v ∈ xs, IsPol K p n v H')
          (fun H4 e4 => ⟨x3.trans (ExB.of e4), a3.ex e4, [], none, none, none, rfl, e4 sl _ h3, rfl, fun v hv => absurd hv List.not_mem_nil⟩) ?_ ?_
        · rintro i σ H4 hi ⟨x4, a4, xs, y6, y7, y8, rfl, h4, hxl, hxs⟩
          refine q_asg0 (r_op (r_take a4 rfl (by decide) fun r1 H5 x5 a5 r10 r11 => r_op (r_take a5 rfl (by decide) fun r2 H6 x6 a6 r20 r21 => ⟨700, r2, rfl, rfl, .inl (by decide), r1, 700 * r2, rfl, rfl, ?_⟩)))
          refine q_asg0 (r_call (r_ev (ev_var rfl) fun H7 e7 => r_ev (ev_var rfl) fun H8 e8 => r_ev (ev_var rfl) fun H9 e9 => ?_))
          refine ⟨p, n, r1 + 700 * r2, rfl, hsh, fun o H10 g e10 hg ho => ?_⟩
          have e6_10 := ((e7.trans e8).trans e9).trans e10
          have x10 : ExB st H4 H10 := (x5.trans x6).trans (ExB.of e6_10)
          have a10 := a6.ex e6_10
          have h10 : H10 sl = some (.lst xs) := x10 sl _ hslt h4
          have hpo : IsPol K p n o H10 := ⟨g, hg, ho⟩
          have t10 := a4.tex x10
          have r70 : ∀ z : Int, 0 ≤ z % (n : Int) := fun z => Int.emod_nonneg z (by omega)
          have hL : Evlp (tLst (tCons (tVar 8) (tCons (tSl (rSlA K) (tVar 8) tNoPart (tPart (tC (.int ((1 : Nat) : Int))))) (tCons (tCall (spUnk K) [] E0 (tCons (tVar 1) (tCons (tOp (rI (fun _ j => 0 < j) fun i j => .int (i % j)) (tCB (fun xs H Q => (∃ i, xs = [V.int i] ∧ Q (.int i) H) ∨ ∃ k, xs = [.bl k] ∧ Q (.int (if k then 1 else 0)) H) (tCons (tVar 7) tNil)) (tVar 1)) tNil))) (tCons (tTup tNil) tNil)))))
              [some (.int (p : Int)), some (.int (n : Int)), some (.ref st), some (.int (dep : Int)), some (.int r), some (.ref sl), some (.int (i : Int)), some (.int (r1 + 700 * r2)), some o, none] H10 [IsPol K p n, IsPol K p n, IsPol K p n, IsPol K p n] :=
            evlp_lst (eap_cons (evp_ev (ev_var rfl) fun H11 e11 => stab_ispol K p n _ _ _ (TEx.of e11) hpo) (stab_ispol K p n) (eap_cons (evp_pol1 (j := 1) rfl hpo) (stab_ispol K p n) (eap_cons (fun H11 e11 Q2 q2 => r_call ((ea_cons (ev_var rfl) (ea_cons (ev_op (ivint (ev_var rfl)) (ev_var rfl) (rv_I (C := fun _ j => 0 < j) hnn)) ea_nil) : EvA _ _ H11 [.int (n : Int), .int ((r1 + 700 * r2) % (n : Int))]) H11 (Ex.refl H11) _ fun H12 e12 => ⟨n, _, rfl, by omega, fun v H13 e13 hd => q2 v H13 (e12.trans e13) ⟨_, unk_ok hp1, hd⟩⟩)) (stab_ispol K p n)
              (eap_cons evp_empty (stab_ispol K p n) eap_nil)))) (fun Pq hPq => by
                have z : Pq = IsPol K p n := by simpa using hPq
                rw [z]
                exact stab_ispol K p n) (show 4 ≤ 1000 by decide)
          refine r_app h10 rfl (r_op (hL H10 (Ex.refl H10) _ fun lp ws H11 hlp e11 h11 hws => ?_))
          refine r_take (a10.ex e11) rfl (by decide) fun r4 H12 x12 a12 r40 r41 => ?_
          have hwl : ws.length = 4 := hws.len.symm
          obtain ⟨j4, hr4, hj⟩ : ∃ j4 : Nat, r4 = (j4 : Int) ∧ j4 < ws.length := ⟨r4.toNat, by omega, by omega⟩
          subst hr4
          obtain ⟨Pv, hPv, hpv⟩ := allp_at hws (List.getElem?_eq_getElem hj)
          have hPe : Pv = IsPol K p n := by
            have z := List.mem_of_getElem? hPv
            simpa using z
          rw [hPe] at hpv
          have hlps : lp ≠ st := fun z => by
            obtain ⟨⟨c, y⟩, _⟩ := a10
            rw [z, y] at hlp
            cases hlp
          have x4_12 : ExB st H4 H12 := (x10.trans (ExB.of e11)).trans x12
          have t4_12 := a4.tex x4_12
          have t11_12 := (a10.ex e11).tex x12
          refine ⟨lp, ws, (j4 : Int), ws[j4], rfl, rfl, sq_of (x12 lp _ hlps h11), atI_nat (List.getElem?_eq_getElem hj), ?_⟩
          have h12 : H12 sl = some (.lst xs) := x12 sl _ hslt (e11 sl _ h10)
          refine ⟨sl, xs, _, rfl, rfl, h12, by rw [hxl]; exact sz_lt (by omega), ?_⟩
          have tu : TEx H12 (upd H12 sl (.lst (xs ++ [ws[j4]]))) := TEx.upd h12 rfl
          refine ⟨exb_mut (x4.trans x4_12) hsl0, a12.fresh hst hsl0, xs ++ [ws[j4]], _, _, _, rfl, upd_same, by rw [List.length_append, hxl] <;> rfl, fun v hv => ?_⟩
          rcases List.mem_append.mp hv with hv | hv
          · exact stab_ispol K p n _ _ _ (t4_12.trans tu) (hxs v hv)
          · rw [List.mem_singleton.mp hv]
            exact stab_ispol K p n _ _ _ (t11_12.trans tu) hpv
        · rintro σ H4 ⟨x4, a4, xs, y6, y7, y8, rfl, h4, hxl, hxs⟩
          have hxl : xs.length = 2 := hxl
          match xs, hxl with
          | [u1, u2], _ =>
            refine r_ret (r_tup (r_cons (r_op ((el_lst (ea_cons ev_c (ea_cons ev_c ea_nil)) (by decide) : EvL (tLst (tCons (tC (.str "=")) (tCons (tC (.str "/=")) tNil))) _ H4 [.str "=", .str "/="]) H4 (Ex.refl H4) _ fun lq H5 hlq e5 h5 => r_take (a4.ex e5) rfl (by decide) fun r5 H6 x6 a6 r50 r51 => ?_))))
            have hlqs : lq ≠ st := fun z => by
              obtain ⟨⟨c, y⟩, _⟩ := a4
              rw [z, y] at hlq
              cases hlq
            have h6q := x6 lq _ hlqs h5
            have h6s : H6 sl = some (.lst [u1, u2]) := x6 sl _ hslt (e5 sl _ h4)
            obtain ⟨eq, heq, hateq⟩ : ∃ eq : Bool, V.str (if eq = true then "=" else "/=") = V.str (if eq = true then "=" else "/=") ∧ atI [V.str "=", V.str "/="] r5 = some (V.str (if eq = true then "=" else "/=")) := by
              have hc : r5 = 0 ∨ r5 = 1 := by omega
              rcases hc with rfl | rfl
              · exact ⟨true, rfl, rfl⟩
              · exact ⟨false, rfl, rfl⟩
            refine ⟨lq, _, r5, _, rfl, rfl, sq_of h6q, hateq, ?_⟩
            refine r_cons (r_ev (v := u1) (ev_op (ev_var rfl) ev_c (rv_ixL (sq_of h6s) (atI_nat (j := 0) rfl))) fun H7 e7 => r_cons (r_ev (v := u2) (ev_op (ev_var rfl) ev_c (rv_ixL (sq_of (e7 sl _ h6s)) (atI_nat (j := 1) rfl))) fun H8 e8 => r_nil ⟨by show 3 ≤ sizeLine; exact sz_of (by decide), fun t ht => ?_⟩))
            have e6t := (e7.trans e8).trans (Ex.new (o := .tup [.str (if eq = true then "=" else "/="), u1, u2]) ht)
            have x4t : ExB st H4 _ := ((ExB.of e5).trans x6).trans (ExB.of e6t)
            have t4t := a4.tex x4t
            obtain ⟨g1, hg1, hd1⟩ := stab_ispol K p n _ _ _ t4t (hxs u1 (by simp))
            obtain ⟨g2, hg2, hd2⟩ := stab_ispol K p n _ _ _ t4t (hxs u2 (by simp))
            exact k (.ref t) (.cmp eq g1 g2) _ (x4.trans x4t) (a6.ex e6t) ⟨hg1, hg2⟩ (Nat.zero_le _) (.tup (st_of upd_same) (.cons (.str _) (.cons hd1 (.cons hd2 .nil))))
      · have x2 : ExB st H H2 := x1.trans (ExB.of e2)
        have a2 := a1.ex e2
        rw [Bool.or_eq_false_iff] at hcond
        have hd0 : dep ≠ 0 := fun z => by
          rw [z] at hcond
          exact nomatch hcond.1
        have hr2 : ¬ r < 2 := of_decide_eq_false hcond.2
        have hdd : (dep : Int) - 1 = ((dep - 1 : Nat) : Int) := by omega
        have rec_ : ∀ {σ : L2.St} {H5 : Hp} {Q5 : VK}, StA st dl ds H5 → σ[0]? = some (some (.int (p : Int))) → σ[1]? = some (some (.int (n : Int))) → σ[2]? = some (some (.ref st)) → σ[3]? = some (some (.int (dep : Int))) →
            (∀ (v : V) (s : Sen) H', ExB st H5 H' → StA st dl ds H' → SenOk p n s → s.dep ≤ dep - 1 → Dp K H' v (senD s) → Q5 v H') → tCall (spLSen K d) [] E0 (tCons (tVar 0) (tCons (tVar 1) (tCons (tVar 2) (tCons (tOp (rI0 fun i j => .int (i - j)) (tVar 3) (tC (.int 1))) tNil)))) σ H5 Q5 := fun {σ H5 Q5} a5 h0 h1 h2 h3 q => r_call (
          (ea_cons (ev_var h0) (ea_cons (ev_var h1) (ea_cons (ev_var h2) (ea_cons (ev_is (ev_op (ev_var h3) ev_c rv_I0) (congrArg V.int hdd)) ea_nil))) : EvA _ σ H5 [.int (p : Int), .int (n : Int), .ref st, .int ((dep - 1 : Nat) : Int)]) H5 (Ex.refl H5) _ fun H6 e6 =>
            ⟨st, dl, ds, p, n, dep - 1, rfl, by omega, hsh, a5.ex e6, fun v s H' x a o1 o2 o3 => q v s H' ((ExB.of e6).trans x) a o1 o2 o3⟩)
        refine q_when (b := decide (r < 4)) (et_test (ev_op (ev_var rfl) ev_c rv_I0)) (fun hr4 H3 e3 => ?_) (fun hr4 H3 e3 => ?_)
        · have a3 := a2.ex e3
          refine r_ret (r_tup (r_cons (r_ev (v := .str "not") ev_c fun H4 e4 => r_cons (rec_ (a3.ex e4) rfl rfl rfl rfl fun v s H5 x5 a5 o1 o2 o3 => r_nil ⟨by show 2 ≤ sizeLine; exact sz_of (by decide), fun t ht => ?_⟩))))
          have et := Ex.new (o := .tup [.str "not", v]) ht
          refine k (.ref t) (.neg s) _ (((x2.trans (ExB.of (e3.trans e4))).trans x5).trans (ExB.of et)) (a5.ex et) o1 (by show s.dep + 1 ≤ dep; omega) (.tup (st_of upd_same) (.cons (.str _) (.cons (dp_mono et o3) .nil)))
        · have hr4' : ¬ r < 4 := of_decide_eq_false hr4
          have a3 := a2.ex e3
          refine q_asg0 (rec_ a3 rfl rfl rfl rfl fun v s H4 x4 a4 o1 o2 o3 => ?_)
          refine r_ret (r_tup (r_cons (r_op ((el_lst (ea_cons ev_c (ea_cons ev_c (ea_cons ev_c (ea_cons ev_c (ea_cons ev_c ea_nil))))) (by decide) : EvL (tLst (tCons (tC (.str "and")) (tCons (tC (.str "or")) (tCons (tC (.str "=>")) (tCons (tC (.str "and")) (tCons (tC (.str "or")) tNil)))))) _ H4 [.str "and", .str "or", .str "=>", .str "and", .str "or"]) H4 (Ex.refl H4) _ fun lq H5 hlq e5 h5 => r_op (r_ev (ev_var rfl) fun H6 e6 => r_ev ev_c fun H7 e7 => ⟨r, 4, rfl, rfl, ?_⟩)))))
          obtain ⟨op, hat⟩ : ∃ op : Nat, atI [V.str "and", V.str "or", V.str "=>", V.str "and", V.str "or"] (r - 4) = some (V.str (opS op)) := by
            have hc : r - 4 = 0 ∨ r - 4 = 1 ∨ r - 4 = 2 ∨ r - 4 = 3 ∨ r - 4 = 4 := by omega
            rcases hc with h | h | h | h | h <;> rw [h]
            · exact ⟨0, rfl⟩
            · exact ⟨1, rfl⟩
            · exact ⟨2, rfl⟩
            · exact ⟨0, rfl⟩
            · exact ⟨1, rfl⟩
          refine ⟨lq, _, r - 4, _, rfl, rfl, sq_of ((e6.trans e7) lq _ h5), hat, ?_⟩
          have e47 := e5.trans (e6.trans e7)
          refine r_cons (r_ev (ev_var rfl) fun H8 e8 => r_cons (rec_ (a4.ex (e47.trans e8)) rfl rfl rfl rfl fun v2 s2 H9 x9 a9 q1 q2 q3 => r_nil ⟨by show 3 ≤ sizeLine; exact sz_of (by decide), fun t ht => ?_⟩))
          have et := Ex.new (o := .tup [.str (opS op), v, v2]) ht
          have x4t : ExB st H4 _ := ((ExB.of (e47.trans e8)).trans x9).trans (ExB.of et)
          have t4t := a4.tex x4t
          exact k (.ref t) (.bin op s s2) _ ((x2.trans (ExB.of e3)).trans (x4.trans x4t)) (a9.ex et) ⟨o1, q1⟩ (by show max s.dep s2.dep + 1 ≤ dep; omega) (.tup (st_of upd_same) (.cons (.str _) (.cons (dp_tex t4t (senD s) (noL_sen s) o3) (.cons (dp_mono et q3) .nil))))
end
end Z7
end

section
set_option Elab.async false
set_option linter.all false
set_option maxRecDepth 100000
set_option maxHeartbeats 4000000
namespace Z7
open PySem L2 Evl RZ
section
variable {P : Program} {w : World} {K : Fg} {mg : Str → Option Value} {base : Heap} {f : Addr} {fd : FuncData}
def spSome (K : Fg) : Sp := fun vs H Q _ => ∃ (p n : Nat) (c : Int), vs = [.int (p : Int), .int (n : Int), .int c, .int 2] ∧ shapeOk p n ∧ ∀ (v : V) (s : Sen) H', Ex H H' → SenOk p n s → s.dep ≤ 2 → Dp K H' v (senD s) → Q v H'
theorem ok_some (F : FnP K "_law_some_sentence" "_law_some_sentence" sLawSomeSentence f fd) (DI : Cal P w K mg base 1 "_law_digits" ["_law_cell_here", "_law_many", "_law_count"] spDigits) (SE : Cal P w K mg base 5 "_law_sentence" ["_law_prime", "_law_count", "_law_state", "_law_depth"] (spLSen K 2)) :
    FnOk P w K mg base CX0 6 f fd ["_law_prime", "_law_count", "_law_cell_here", "_law_depth"] (spSome K) := by
  refine F.ok scLawSomeSentence (fun vs H Q E h => ?_) (fun cdv A outer s H vs Q E hr h => ?_)
  · obtain ⟨p, n, c, rfl, _⟩ := h
    rfl
  · obtain ⟨p, n, c, rfl, hsh, k⟩ := h
    refine ⟨_, PSs.nox (pss_one (ps_ret (pe_cal SE hr rfl (pa_cons (pv 0) (pa_cons (pv 1) (pa_cons (pe_lst (pa_cons (pe_cal DI hr rfl (pa_cons (pv 2) (pa_cons pe_int (pa_cons pe_int pa_nil)))) (pa_cons pe_int pa_nil))) (pa_cons (pv 3) pa_nil))))))), ?_⟩
    refine r_ret (r_call (r_cons (r_ev (ev_var rfl) fun H1 e1 => r_cons (r_ev (ev_var rfl) fun H2 e2 => r_cons ?_))))
    refine r_call (r_ev (ev_var rfl) fun H3 e3 => ?_)
    have e03 := (e1.trans e2).trans e3
    refine ⟨c, 5040, 211, rfl, by omega, by omega, fun dl ds H4 hdl0 e4 hdl hdsl hds => ?_⟩
    refine ⟨by show 2 ≤ sizeLine; exact sz_of (by decide), fun st hst => ?_⟩
    have est := Ex.new (o := .lst [.ref dl, .int 0]) hst
    have e04 := e03.trans e4
    refine r_cons (r_ev (ev_var rfl) fun H5 e5 => r_nil ?_)
    have hsd : st ≠ dl := Ne.symm (ne_of_none hdl hst)
    refine ⟨st, dl, ds, p, n, 2, rfl, Nat.le_refl _, hsh, ⟨⟨0, e5 st _ upd_same⟩, (est.trans e5) dl _ hdl, hsd, (fun z => by rw [z] at hdsl; cases hdsl), by omega⟩, fun v s H' x a o1 o2 o3 => k v s H' ?_ o1 o2 o3⟩
    exact fun b o h => x b o (fun z => by
      rw [z] at h
      have y := e04 st o h
      rw [hst] at y
      cases y) ((est.trans e5) b o (e04 b o h))
def spLTrue (K : Fg) (d : Nat) : Sp := fun vs H Q _ => ∃ (b : Addr) (v : V) (p n : Nat) (s : Sen) (x : Pt), vs = [.int (p : Int), v, .ref b] ∧ Dp K H v (senD s) ∧ SenOk p n s ∧ s.dep ≤ d ∧ TI K H b x ∧ x ∈ pts p n ∧ shapeOk p n ∧ RetV (.bl (truth p s x)) H Q
theorem spv_lval {K : Fg} {b : Addr} {o : V} {p n : Nat} {g : Pol} {x : Pt} {H : Hp} (hd : Dp K H o (polD g)) (hg : PolOk p n g) (hb : TI K H b x) (hx : x ∈ pts p n) (hsh : shapeOk p n) : SpV (spLVal K) ([.int (p : Int), o, .ref b] ++ []) H (.int (pev p g x)) := fun H1 e1 Q q E =>
  ⟨b, o, p, n, g, x, rfl, dp_mono e1 hd, hb.mono e1, hg, hx, hsh, q⟩
theorem ok_ltrue (F : FnP K "_law_true" "_law_true" sLawTrue f fd) (B : Bi mg) (VA : Cal P w K mg base 2 "_law_value" ["_law_prime", "_law_one", "_law_point"] (spLVal K)) (hm : mg "_law_true" = some (.ref f)) (hb : Binds K fd ["_law_prime", "_law_sentence_here", "_law_point"] []) :
    ∀ d, FnOk P w K mg base CX0 (3 + d) f fd ["_law_prime", "_law_sentence_here", "_law_point"] (spLTrue K d)
  | 0 => by
    refine F.ok (k := 2) scLawTrue (fun vs H Q E h => ?_) (fun cdv A outer s H vs Q E hr h => ?_)
    · obtain ⟨b, v, p, n, s, x, rfl, _⟩ := h
      rfl
    · obtain ⟨b, v, p, n, sn, x, rfl, hv, hok, hdep, hb, hx, hsh, k⟩ := h
      cases sn with
      | neg s => exact absurd hdep (by unfold Sen.dep; omega)
      | bin k s t => exact absurd hdep (by unfold Sen.dep; omega)
      | cmp e g1 g2 =>
        obtain ⟨a, us, rfl, hsq, hall⟩ := dp_tup hv
        cases hall with
        | cons d0 hall =>
          cases hall with
          | cons d1 hall =>
            cases hall with
            | cons d2 hall =>
              cases hall
              cases d0
              refine ⟨_, PSs.nox (pss_cons (ps_set (i := 3) scLawTrue.nd rfl (.inl rfl) (pe_ix ix_tup (pv 1) pe_int (fun _ _ => rfl)))
                (pss_cons (ps_if (pt_cmpR op_in_seq (pv 3) (pe_lst (pa_cons pe_str (pa_cons pe_str pa_nil))) (by rfl))
                  (pss_cons (ps_set (i := 4) scLawTrue.nd rfl (.inl rfl) (pe_cmpR op_eq (pe_cal VA hr rfl (pa_cons (pv 0) (pa_cons (pe_ix ix_tup (pv 1) pe_int (fun _ _ => rfl)) (pa_cons (pv 2) pa_nil)))) (pe_cal VA hr rfl (pa_cons (pv 0) (pa_cons (pe_ix ix_tup (pv 1) pe_int (fun _ _ => rfl)) (pa_cons (pv 2) pa_nil)))) (nomark _))) (pss_one (ps_ret (pe_cmpR op_eq (pv 4)
                    (pe_cmpR op_eq (pv 3) pe_str (nomark _)) (nomark _))))) pss_nil)
                pss_never)), ?_⟩
              refine q_asg (v := .str (if e = true then "=" else "/=")) (ev_op (ev_var rfl) ev_c (rv_ixT hsq (atI_nat (j := 0) rfl))) fun H1 e1 => ?_
              refine q_when (b := true) (et_is (et_test (ev_opL (ev_var rfl) (el_lst (ea_cons (ev_c (v := .str "=")) (ea_cons (ev_c (v := .str "/=")) ea_nil)) (by decide)) (fun pq Hq hq eq => rv_isL (sq_of hq) rfl rfl))) (by cases e <;> rfl)) (fun _ H2 e2 => ?_) (fun hb => nomatch hb)
              · have e12 := e1.trans e2
                refine q_asg (v := .bl (decide (pev p g1 x = pev p g2 x))) (ev_is (ev_op
                  (ev_call (ea_cons (ev_var rfl) (ea_cons (ev_op (ev_var rfl) ev_c (rv_ixT (ex_t e12 hsq) (atI_nat (j := 1) rfl))) (ea_cons (ev_var rfl) ea_nil))) (spv_lval (dp_mono e12 d1) hok.1 (hb.mono e12) hx hsh))
                  (ev_call (ea_cons (ev_var rfl) (ea_cons (ev_op (ev_var rfl) ev_c (rv_ixT (ex_t e12 hsq) (atI_nat (j := 2) rfl))) (ea_cons (ev_var rfl) ea_nil))) (spv_lval (dp_mono e12 d2) hok.2 (hb.mono e12) hx hsh)) (rv_eq rfl)) (by rw [dec_int] <;> rfl)) fun H3 e3 => ?_
                refine s_ret (v := .bl (truth p (.cmp e g1 g2) x)) (ev_is (ev_op (y := .bl e) (ev_var rfl)
                  (ev_is (ev_op (ev_var rfl) ev_c (rv_eq rfl)) ?_) (rv_eq rfl)) ?_) fun H4 e4 => k H4 ((e12.trans e3).trans e4)
                · cases e <;> rfl
                · unfold truth
                  by_cases z : pev p g1 x = pev p g2 x
                  · rw [decide_eq_true z]
                    cases e <;> rfl
                  · rw [decide_eq_false z]
                    cases e <;> rfl
  | d + 1 => by
    have ih := ok_ltrue F B VA hm hb d
    have IT : Cal P w K mg base (3 + d) "_law_true" ["_law_prime", "_law_sentence_here", "_law_point"] (spLTrue K d) := ⟨f, fd, ih, hm, F.kp, hb⟩
    refine F.ok (k := 3 + d) scLawTrue (fun vs H Q E h => ?_) (fun cdv A outer s H vs Q E hr h => ?_)
    · obtain ⟨b, v, p, n, s, x, rfl, _⟩ := h
      rfl
    · obtain ⟨b, v, p, n, sn, x, rfl, hv, hok, hdep, hb, hx, hsh, k⟩ := h
      refine ⟨_, PSs.nox (pss_cons (ps_set (i := 3) scLawTrue.nd rfl (.inl rfl) (pe_ix ix_tup (pv 1) pe_int (fun _ _ => rfl)))
        (pss_cons (ps_if (pt_cmpR op_in_seq (pv 3) (pe_lst (pa_cons pe_str (pa_cons pe_str pa_nil))) (by rfl))
          (pss_cons (ps_set (i := 4) scLawTrue.nd rfl (.inl rfl) (pe_cmpR op_eq (pe_cal VA hr rfl (pa_cons (pv 0) (pa_cons (pe_ix ix_tup (pv 1) pe_int (fun _ _ => rfl)) (pa_cons (pv 2) pa_nil))) (by omega)) (pe_cal VA hr rfl (pa_cons (pv 0) (pa_cons (pe_ix ix_tup (pv 1) pe_int (fun _ _ => rfl)) (pa_cons (pv 2) pa_nil))) (by omega)) (nomark _))) (pss_one (ps_ret (pe_cmpR op_eq (pv 4)
            (pe_cmpR op_eq (pv 3) pe_str (nomark _)) (nomark _))))) pss_nil)
        (pss_cons (ps_set (i := 5) scLawTrue.nd rfl (.inl rfl) (pe_cal IT hr rfl (pa_cons (pv 0) (pa_cons (pe_ix ix_tup (pv 1) pe_int (fun _ _ => rfl)) (pa_cons (pv 2) pa_nil))) (Nat.le_refl _)))
        (pss_cons (ps_if (pt_cmpR op_eq (pv 3) pe_str (nomark _)) (pss_one (ps_ret (pe_not (pv 5)))) pss_nil)
        (pss_cons (ps_set (i := 6) scLawTrue.nd rfl (.inl rfl) (pe_cal IT hr rfl (pa_cons (pv 0) (pa_cons (pe_ix ix_tup (pv 1) pe_int (fun _ _ => rfl)) (pa_cons (pv 2) pa_nil))) (Nat.le_refl _)))
        (pss_cons (ps_if (pt_cmpR op_eq (pv 3) pe_str (nomark _)) (pss_one (ps_ret (pe_and (pv 5) (pe_one (pv 6))))) pss_nil)
        (pss_cons (ps_if (pt_cmpR op_eq (pv 3) pe_str (nomark _)) (pss_one (ps_ret (pe_or (pv 5) (pe_one (pv 6))))) pss_nil)
        (pss_one (ps_ret (pe_or (pv 6) (pe_one (pe_not (pv 5))))))))))))), ?_⟩
      cases sn with
      | cmp e g1 g2 =>
        obtain ⟨a, us, rfl, hsq, hall⟩ := dp_tup hv
        cases hall with
        | cons d0 hall =>
          cases hall with
          | cons d1 hall =>
            cases hall with
            | cons d2 hall =>
              cases hall
              cases d0
              refine q_asg (v := .str (if e = true then "=" else "/=")) (ev_op (ev_var rfl) ev_c (rv_ixT hsq (atI_nat (j := 0) rfl))) fun H1 e1 => ?_
              refine q_when (b := true) (et_is (et_test (ev_opL (ev_var rfl) (el_lst (ea_cons (ev_c (v := .str "=")) (ea_cons (ev_c (v := .str "/=")) ea_nil)) (by decide)) (fun pq Hq hq eq => rv_isL (sq_of hq) rfl rfl))) (by cases e <;> rfl)) (fun _ H2 e2 => ?_) (fun hb => nomatch hb)
              · have e12 := e1.trans e2
                refine q_asg (v := .bl (decide (pev p g1 x = pev p g2 x))) (ev_is (ev_op
                  (ev_call (ea_cons (ev_var rfl) (ea_cons (ev_op (ev_var rfl) ev_c (rv_ixT (ex_t e12 hsq) (atI_nat (j := 1) rfl))) (ea_cons (ev_var rfl) ea_nil))) (spv_lval (dp_mono e12 d1) hok.1 (hb.mono e12) hx hsh))
                  (ev_call (ea_cons (ev_var rfl) (ea_cons (ev_op (ev_var rfl) ev_c (rv_ixT (ex_t e12 hsq) (atI_nat (j := 2) rfl))) (ea_cons (ev_var rfl) ea_nil))) (spv_lval (dp_mono e12 d2) hok.2 (hb.mono e12) hx hsh)) (rv_eq rfl)) (by rw [dec_int] <;> rfl)) fun H3 e3 => ?_
                refine s_ret (v := .bl (truth p (.cmp e g1 g2) x)) (ev_is (ev_op (y := .bl e) (ev_var rfl)
                  (ev_is (ev_op (ev_var rfl) ev_c (rv_eq rfl)) ?_) (rv_eq rfl)) ?_) fun H4 e4 => k H4 ((e12.trans e3).trans e4)
                · cases e <;> rfl
                · unfold truth
                  by_cases z : pev p g1 x = pev p g2 x
                  · rw [decide_eq_true z]
                    cases e <;> rfl
                  · rw [decide_eq_false z]
                    cases e <;> rfl
      | neg s1 =>
        obtain ⟨a, us, rfl, hsq, hall⟩ := dp_tup hv
        cases hall with
        | cons d0 hall =>
          cases hall with
          | cons d1 hall =>
            cases hall
            cases d0
            have hdep1 : s1.dep ≤ d := by
              have z : s1.dep + 1 ≤ d + 1 := hdep
              omega
            refine q_asg (v := .str "not") (ev_op (ev_var rfl) ev_c (rv_ixT hsq (atI_nat (j := 0) rfl))) fun H1 e1 => ?_
            refine q_when (b := false) (et_is (et_test (ev_opL (ev_var rfl) (el_lst (ea_cons (ev_c (v := .str "=")) (ea_cons (ev_c (v := .str "/=")) ea_nil)) (by decide)) (fun pq Hq hq eq => rv_isL (sq_of hq) rfl rfl))) rfl) (fun hb => nomatch hb) (fun _ H2 e2 => ?_)
            have e12 := e1.trans e2
            refine q_asg (v := .bl (truth p s1 x)) (ev_call (ea_cons (ev_var rfl) (ea_cons (ev_op (ev_var rfl) ev_c (rv_ixT (ex_t e12 hsq) (atI_nat (j := 1) rfl))) (ea_cons (ev_var rfl) ea_nil))) (fun H3 e3 Q2 q2 E2 => ⟨b, _, p, n, s1, x, rfl, dp_mono (e12.trans e3) d1, hok, hdep1, hb.mono (e12.trans e3), hx, hsh, q2⟩)) fun H3 e3 => ?_
            refine q_when (b := true) (et_is (et_test (ev_op (ev_var rfl) ev_c (rv_eq rfl))) rfl) (fun _ H4 e4 => ?_) (fun hb => nomatch hb)
            exact s_ret (ev_notV (ev_var rfl)) fun H5 e5 => k H5 (((e12.trans e3).trans e4).trans e5)
      | bin op s1 s2 =>
        obtain ⟨a, us, rfl, hsq, hall⟩ := dp_tup hv
        cases hall with
        | cons d0 hall =>
          cases hall with
          | cons d1 hall =>
            cases hall with
            | cons d2 hall =>
              cases hall
              cases d0
              have hdep1 : s1.dep ≤ d ∧ s2.dep ≤ d := by
                have z : max s1.dep s2.dep + 1 ≤ d + 1 := hdep
                omega
              refine q_asg (v := .str (opS op)) (ev_op (ev_var rfl) ev_c (rv_ixT hsq (atI_nat (j := 0) rfl))) fun H1 e1 => ?_
              have hcase : op = 0 ∨ op = 1 ∨ ∃ m, op = m + 2 := by
                match op with
                | 0 => exact .inl rfl
                | 1 => exact .inr (.inl rfl)
                | m + 2 => exact .inr (.inr ⟨m, rfl⟩)
              have hne1 : decide (V.str (opS op) = V.str "=") = false := by
                rcases hcase with rfl | rfl | ⟨m, rfl⟩ <;> rfl
              have hne2 : decide (V.str (opS op) = V.str "/=") = false := by
                rcases hcase with rfl | rfl | ⟨m, rfl⟩ <;> rfl
              have hne3 : decide (V.str (opS op) = V.str "not") = false := by
                rcases hcase with rfl | rfl | ⟨m, rfl⟩ <;> rfl
              refine q_when (b := false) (et_is (et_test (ev_opL (ev_var rfl) (el_lst (ea_cons (ev_c (v := .str "=")) (ea_cons (ev_c (v := .str "/=")) ea_nil)) (by decide)) (fun pq Hq hq eq => rv_isL (sq_of hq) rfl rfl))) (by rcases hcase with rfl | rfl | ⟨m, rfl⟩ <;> rfl)) (fun hb => nomatch hb) (fun _ H2 e2 => ?_)
              have e12 := e1.trans e2
              refine q_asg (v := .bl (truth p s1 x)) (ev_call (ea_cons (ev_var rfl) (ea_cons (ev_op (ev_var rfl) ev_c (rv_ixT (ex_t e12 hsq) (atI_nat (j := 1) rfl))) (ea_cons (ev_var rfl) ea_nil))) (fun H3 e3 Q2 q2 E2 => ⟨b, _, p, n, s1, x, rfl, dp_mono (e12.trans e3) d1, hok.1, hdep1.1, hb.mono (e12.trans e3), hx, hsh, q2⟩)) fun H3 e3 => ?_
              refine q_when (b := false) (et_is (et_test (ev_op (ev_var rfl) ev_c (rv_eq rfl))) hne3) (fun hb => nomatch hb) (fun _ H4 e4 => ?_)
              have e14 := (e12.trans e3).trans e4
              refine q_asg (v := .bl (truth p s2 x)) (ev_call (ea_cons (ev_var rfl) (ea_cons (ev_op (ev_var rfl) ev_c (rv_ixT (ex_t e14 hsq) (atI_nat (j := 2) rfl))) (ea_cons (ev_var rfl) ea_nil))) (fun H5 e5 Q2 q2 E2 => ⟨b, _, p, n, s2, x, rfl, dp_mono (e14.trans e5) d2, hok.2, hdep1.2, hb.mono (e14.trans e5), hx, hsh, q2⟩)) fun H5 e5 => ?_
              have e15 := e14.trans e5
              rcases hcase with rfl | rfl | ⟨m, rfl⟩
              · refine q_when (b := true) (et_is (et_test (ev_op (ev_var rfl) ev_c (rv_eq rfl))) rfl) (fun _ H6 e6 => ?_) (fun hb => nomatch hb)
                exact s_ret (ev_andV (ev_var rfl) (fun _ => ev_var rfl)) fun H7 e7 => k H7 ((e15.trans e6).trans e7)
              · refine q_when (b := false) (et_is (et_test (ev_op (ev_var rfl) ev_c (rv_eq rfl))) rfl) (fun hb => nomatch hb) (fun _ H6 e6 => ?_)
                refine q_when (b := true) (et_is (et_test (ev_op (ev_var rfl) ev_c (rv_eq rfl))) rfl) (fun _ H7 e7 => ?_) (fun hb => nomatch hb)
                exact s_ret (ev_orV (ev_var rfl) (fun _ => ev_var rfl)) fun H8 e8 => k H8 (((e15.trans e6).trans e7).trans e8)
              · refine q_when (b := false) (et_is (et_test (ev_op (ev_var rfl) ev_c (rv_eq rfl))) rfl) (fun hb => nomatch hb) (fun _ H6 e6 => ?_)
                refine q_when (b := false) (et_is (et_test (ev_op (ev_var rfl) ev_c (rv_eq rfl))) rfl) (fun hb => nomatch hb) (fun _ H7 e7 => ?_)
                exact s_ret (ev_orV (ev_var rfl) (fun _ => ev_notV (ev_var rfl))) fun H8 e8 => k H8 (((e15.trans e6).trans e7).trans e8)
end
end Z7
end

section
set_option Elab.async false
set_option linter.all false
set_option maxRecDepth 100000
set_option maxHeartbeats 4000000
namespace Z7
open PySem L2 Evl RZ
/-! ### comparison of data -/
theorem lay_all {n : Nat} : ∀ {ds : List PyData}, (∀ d ∈ ds, d.canLay0 = true ∧ d.depth ≤ n) → PyData.canLayAll0 ds = true ∧ PyData.depthAll ds ≤ n
  | [], _ => by
    rw [PyData.canLayAll0, PyData.depthAll]
    exact ⟨rfl, Nat.zero_le _⟩
  | d :: ds, h => by
    obtain ⟨h1, h2⟩ := h d List.mem_cons_self
    obtain ⟨h3, h4⟩ := lay_all (n := n) fun e he => h e (List.mem_cons_of_mem _ he)
    rw [PyData.canLayAll0, PyData.depthAll, h1, h3]
    exact ⟨rfl, Nat.max_le.mpr ⟨h2, h4⟩⟩
theorem lay_int (i : Int) : (PyData.int i).canLay0 = true ∧ (PyData.int i).depth ≤ 0 := by
  rw [PyData.canLay0, PyData.depth]
  exact ⟨rfl, Nat.le_refl _⟩
theorem lay_tup {n : Nat} {ds : List PyData} (h : ∀ d ∈ ds, d.canLay0 = true ∧ d.depth ≤ n) : (PyData.tuple ds).canLay0 = true ∧ (PyData.tuple ds).depth ≤ n + 1 := by
  rw [PyData.canLay0, PyData.depth]
  obtain ⟨a, b⟩ := lay_all h
  exact ⟨a, Nat.succ_le_succ b⟩
theorem lay_lst {n : Nat} {ds : List PyData} (h : ∀ d ∈ ds, d.canLay0 = true ∧ d.depth ≤ n) : (PyData.list ds).canLay0 = true ∧ (PyData.list ds).depth ≤ n + 1 := by
  rw [PyData.canLay0, PyData.depth]
  obtain ⟨a, b⟩ := lay_all h
  exact ⟨a, Nat.succ_le_succ b⟩
theorem lay_pt (x : Pt) : (ptD x).canLay0 = true ∧ (ptD x).depth ≤ 1 := lay_tup (n := 0) fun d hd => by
  obtain ⟨i, _, rfl⟩ := List.mem_map.mp hd
  exact lay_int i
theorem lay_pol (f : Pol) : (polD f).canLay0 = true ∧ (polD f).depth ≤ 3 := lay_tup (n := 2) fun d hd => by
  obtain ⟨t, _, rfl⟩ := List.mem_map.mp hd
  refine lay_tup (n := 1) fun e he => ?_
  rcases List.mem_cons.mp he with rfl | he
  · exact lay_pt _
  · rw [List.mem_singleton.mp he]
    obtain ⟨a, b⟩ := lay_int t.2
    exact ⟨a, by omega⟩
theorem shaped_of {d : PyData} {n : Nat} (h : d.canLay0 = true ∧ d.depth ≤ n) (hn : n ≤ 64) : SeqAt.shaped d = true := by
  unfold SeqAt.shaped
  rw [h.1, decide_eq_true (Nat.le_trans h.2 hn)]
  rfl
theorem shaped_pts (ps : List Pt) : SeqAt.shaped (.list (ps.map ptD)) = true := shaped_of (lay_lst (n := 1) fun d hd => by
  obtain ⟨x, _, rfl⟩ := List.mem_map.mp hd
  exact lay_pt x) (by decide)
theorem shaped_pols (gs : List Pol) : SeqAt.shaped (.list (gs.map polD)) = true := shaped_of (lay_lst (n := 3) fun d hd => by
  obtain ⟨x, _, rfl⟩ := List.mem_map.mp hd
  exact lay_pol x) (by decide)
theorem eqv_all_inj {α : Type} {F : α → PyData} (hF : ∀ a b, PyData.eqv (F a) (F b) = true → a = b) : ∀ {xs ys : List α}, PyData.eqvAll (xs.map F) (ys.map F) = true → xs = ys
  | [], [], _ => rfl
  | [], _ :: _, h => by
    rw [List.map_nil, List.map_cons, PyData.eqvAll] at h
    cases h
  | _ :: _, [], h => by
    rw [List.map_nil, List.map_cons, PyData.eqvAll] at h
    cases h
  | x :: xs, y :: ys, h => by
    rw [List.map_cons, List.map_cons, PyData.eqvAll, Bool.and_eq_true] at h
    rw [hF x y h.1, eqv_all_inj hF h.2]
theorem eqv_int {a b : Int} (h : PyData.eqv (.int a) (.int b) = true) : a = b := by
  rw [PyData.eqv] at h
  simpa using h
theorem eqv_pt {x y : Pt} (h : PyData.eqv (ptD x) (ptD y) = true) : x = y := by
  unfold ptD at h
  rw [PyData.eqv] at h
  exact eqv_all_inj (fun _ _ => eqv_int) h
theorem eqv_pol {f g : Pol} (h : PyData.eqv (polD f) (polD g) = true) : f = g := by
  unfold polD at h
  rw [PyData.eqv] at h
  refine eqv_all_inj (fun a b z => ?_) h
  rw [PyData.eqv, PyData.eqvAll, PyData.eqvAll, Bool.and_eq_true, Bool.and_eq_true] at z
  have e1 := eqv_pt z.1
  have e2 := eqv_int z.2.1
  exact Prod.ext e1 e2
theorem eqv_pols {fs gs : List Pol} (h : PyData.eqv (.list (fs.map polD)) (.list (gs.map polD)) = true) : fs = gs := by
  rw [PyData.eqv] at h
  exact eqv_all_inj (fun _ _ => eqv_pol) h
theorem eqv_rfl {d : PyData} (h : SeqAt.shaped d = true) : PyData.eqv d d = true := SeqAt.eqv_refl d (SeqAt.canLay_of_shaped h)
/-! ### solutions -/
theorem solB_sen (p : Nat) (ss : List Sen) (x : Pt) : solB (ss.map (senF p)) x = ss.all fun s => truth p s x := by
  unfold solB
  rw [List.all_map]
  congr 1
  funext s
  show (senF p s x == 0) = truth p s x
  unfold senF
  cases truth p s x <;> rfl
theorem mon_zero : ∀ (n : Nat) (x : Pt), mon (zeroP n) x = 1
  | 0, x => mon_nil x
  | n + 1, [] => rfl
  | n + 1, y :: x => by
    show mon (0 :: zeroP n) (y :: x) = 1
    show y ^ (0 : Int).toNat * mon (zeroP n) x = 1
    rw [mon_zero n x]
    simp
theorem pev_const {p n : Nat} (hp : 1 < p) (x : Pt) : pev p [(zeroP n, 1)] x = 1 := by
  unfold pev psum
  rw [List.map_cons, List.map_nil, mon_zero]
  show ((1 * 1 + 0 : Int)) % (p : Int) = 1
  exact Int.emod_eq_of_lt (by decide) (by omega)
section
variable {p n : Nat} {ss : List Sen} {a : Sen}
def sol0 (p n : Nat) (ss : List Sen) : List Pt := (pts p n).filter fun x => ss.all fun s => truth p s x
def due0 (p n : Nat) (ss : List Sen) (a : Sen) : Bool := (sol0 p n ss).all fun x => truth p a x
theorem sol0_eq (p n : Nat) (ss : List Sen) : (pts p n).filter (solB (ss.map (senF p))) = sol0 p n ss := by
  unfold sol0
  congr 1
  funext x
  exact solB_sen p ss x
theorem due_iff : due0 p n ss a = true ↔ ∀ x ∈ pts p n, (ss.all fun s => truth p s x) = true → truth p a x = true := by
  unfold due0 sol0
  rw [List.all_eq_true]
  exact ⟨fun h x hx hs => h x (List.mem_filter.mpr ⟨hx, hs⟩), fun h x hx => h x (List.mem_filter.mp hx).1 (List.mem_filter.mp hx).2⟩
theorem senF_zero {s : Sen} {x : Pt} : senF p s x = 0 ↔ truth p s x = true := by
  unfold senF
  cases truth p s x <;> simp
theorem van_due : Van p n (ss.map (senF p)) (senF p a) ↔ due0 p n ss a = true := by
  rw [due_iff]
  unfold Van
  constructor
  · intro h x hx hs
    exact senF_zero.mp (h x hx (by rw [solB_sen]; exact hs))
  · intro h x hx hs
    rw [solB_sen] at hs
    exact senF_zero.mpr (h x hx hs)
theorem agree_due : Agree p n (ss.map (senF p)) ((ss ++ [a]).map (senF p)) ↔ due0 p n ss a = true := by
  rw [due_iff]
  unfold Agree
  constructor
  · intro h x hx hs
    have z := h x hx
    rw [solB_sen, solB_sen, List.all_append, hs] at z
    simpa using z.symm
  · intro h x hx
    rw [solB_sen, solB_sen, List.all_append]
    cases hs : ss.all fun s => truth p s x with
    | false => rfl
    | true =>
      have z := h x hx hs
      simp [z]
theorem neg_due : (pts p n).filter (solB ((ss ++ [Sen.neg a]).map (senF p))) = [] ↔ due0 p n ss a = true := by
  rw [due_iff, List.filter_eq_nil_iff]
  constructor
  · intro h x hx hs
    have z := h x hx
    rw [solB_sen, List.all_append, hs] at z
    cases ht : truth p a x with
    | true => rfl
    | false =>
      exfalso
      apply z
      show (true && ([Sen.neg a].all fun s => truth p s x)) = true
      have y : truth p (.neg a) x = true := by
        show (!truth p a x) = true
        rw [ht]
        rfl
      simp [y]
  · intro h x hx z
    rw [solB_sen, List.all_append, Bool.and_eq_true] at z
    have y := h x hx z.1
    have u : truth p (.neg a) x = true := by simpa using z.2
    have u2 : (!truth p a x) = true := u
    rw [y] at u2
    cases u2
end
/-- the rows of the paper and the constant -/
theorem rows_due {p n : Nat} {xs : List Pt} {gs : List Pol} (hp : 1 < p) (hv : ∀ g ∈ gs, ∀ x ∈ xs, pev p g x = 0) (hn : xs = [] → gs = [[(zeroP n, 1)]]) : PyData.eqv (.list (gs.map polD)) (.list ([[(zeroP n, 1)]].map polD)) = decide (xs = []) := by
  by_cases e : xs = []
  · rw [hn e, decide_eq_true e]
    exact eqv_rfl (shaped_pols _)
  · rw [decide_eq_false e]
    cases h : PyData.eqv (.list (gs.map polD)) (.list ([[(zeroP n, 1)]].map polD)) with
    | false => rfl
    | true =>
      exfalso
      have z := eqv_pols h
      cases xs with
      | nil => exact e rfl
      | cons x xs =>
        have y := hv [(zeroP n, 1)] (by rw [z]; exact List.mem_singleton.mpr rfl) x List.mem_cons_self
        rw [pev_const hp] at y
        cases y
end Z7
end

section
set_option Elab.async false
set_option linter.all false
set_option maxRecDepth 100000
set_option maxHeartbeats 4000000
namespace Z7
open PySem L2 Evl RZ
/-- a sentence -/
def IsSen (K : Fg) (p n d : Nat) (v : V) (H : Hp) : Prop := ∃ s, SenOk p n s ∧ s.dep ≤ d ∧ Dp K H v (senD s)
theorem stab_sen (K : Fg) (p n d : Nat) : Stab (IsSen K p n d) := fun _ _ _ e ⟨s, a, b, c⟩ => ⟨s, a, b, dp_tex e (senD s) (noL_sen s) c⟩
theorem allp_sens {K : Fg} {p n d : Nat} {H : Hp} : ∀ {Ps : List (V → Hp → Prop)} {ws : List V}, (∀ P ∈ Ps, P = IsSen K p n d) → AllP Ps ws H → ∃ ss : List Sen, DpAll K H ws (ss.map senD) ∧ ∀ s ∈ ss, SenOk p n s ∧ s.dep ≤ d
  | _, _, _, .nil => ⟨[], .nil, fun s h => absurd h List.not_mem_nil⟩
  | _, _, hP, .cons h t => by
    obtain ⟨ss, h1, h2⟩ := allp_sens (fun P hp => hP P (List.mem_cons_of_mem _ hp)) t
    rw [hP _ List.mem_cons_self] at h
    obtain ⟨s, a, b, c⟩ := h
    exact ⟨s :: ss, .cons c h1, fun u hu => by
      rcases List.mem_cons.mp hu with rfl | hu
      · exact ⟨a, b⟩
      · exact h2 u hu⟩
theorem fvs {K : Fg} {p n : Nat} {xs : List Pt} {H : Hp} : ∀ {ws : List V}, (∀ v ∈ ws, FV K p n xs v H) → ∃ gs : List Pol, DpAll K H ws (gs.map polD) ∧ ∀ g ∈ gs, ∀ x ∈ xs, pev p g x = 0
  | [], _ => ⟨[], .nil, fun g h => absurd h List.not_mem_nil⟩
  | w :: ws, h => by
    obtain ⟨gs, h1, h2⟩ := fvs fun v hv => h v (List.mem_cons_of_mem _ hv)
    obtain ⟨g, a, b, c⟩ := h w List.mem_cons_self
    exact ⟨g :: gs, .cons c h1, fun u hu => by
      rcases List.mem_cons.mp hu with rfl | hu
      · exact b
      · exact h2 u hu⟩
section
variable {K : Fg} {σ : L2.St} {H : Hp} {ta tb te tj : TE} {tas : TA} {Q : VK} {t u : TT} {D : Ends} {tu tw : TS} {QB : Bool → Hp → Prop}
theorem r_cb {r : List V → Hp → VK → Prop} (h : tas σ H fun xs H1 => r xs H1 Q) : tCB r tas σ H Q := h
theorem r_if (h : t σ H fun b H1 => if b = true then tu D σ H1 else tw D σ H1) : tIfS t tu tw D σ H := h
theorem r_test (h : te σ H fun x H1 => ∃ b, x = .bl b ∧ QB b H1) : tTest te σ H QB := h
theorem r_asg {i : Nat} (h : te σ H fun v H1 => D.nx (σ.set i (some v)) H1) : tAsg te (gName i) D σ H := h
theorem r_lc {wi : L2.TI} {g : L2.TG} {vs : List Nat} (h : wi σ H fun J H1 => lcT J g t te vs σ H1 Q) : tLc wi g t te vs σ H Q := h
theorem r_cell {l : Addr} {ns : List Int} {i : Nat} {E : XK} (k : Nat) (hl : SqL K H l (ns.map V.int)) (h0 : σ[i]? = some (some (.ref l))) (hj : Ev tj σ H (.int (k : Int))) (q : ∀ (c : Int) H2, Ex H H2 → Q (.int c) H2) : tCall (spCellA K) [] E (tCons (tVar i) (tCons tj tNil)) σ H Q :=
  r_call (r_cons (r_ev (ev_var h0) fun H1 e1 => r_cons (r_ev (hj.mono e1) fun H2 e2 => r_nil ⟨l, ns, k, rfl, ex_l (e1.trans e2) hl, fun c H3 e3 => q c H3 ((e1.trans e2).trans e3)⟩)))
theorem r_fld {f : Str} (h : ta σ H fun x H1 => ∃ a C dx fs v, x = V.ref a ∧ H1 a = some (.ins C dx fs) ∧ Cls K C ∧ NoAttr K C f ∧ fs.lookup f = some v ∧ Q v H1) : tFld K ta f σ H Q := h
theorem r_lst (h : tas σ H fun xs H1 => xs.length ≤ sizeLine ∧ ∀ p, H1 p = none → Q (.ref p) (upd H1 p (.lst xs))) : tLst tas σ H Q := h
theorem pts_dp {as : List Addr} {ps : List Pt} (h : PtsA H as ps) : DpAll K H (as.map V.ref) (ps.map ptD) := by
  induction h with
  | nil => exact .nil
  | cons a _ ih => exact .cons a.dp ih
theorem allp_eqs {F : Nat → V} : ∀ {l : List Nat} {ws : List V}, AllP (l.map fun i (v : V) (_ : Hp) => v = F i) ws H → ws = l.map F
  | [], _, h => by
    cases h
    rfl
  | i :: l, _, h => by
    cases h with
    | cons h1 t =>
      rw [h1, allp_eqs t]
      rfl
theorem dpa_exn {H' : Hp} (e : ExN H H') : ∀ {vs : List V} {ds : List PyData}, DpAll K H vs ds → DpAll K H' vs ds
  | _, _, .nil => .nil
  | _, _, .cons h t => .cons (dp_exn e h) (dpa_exn e t)
theorem r_cond {l : Addr} {ns : List Int} {i : Nat} {j : Int} {E : XK} (hl : SqL K H l (ns.map V.int)) (h0 : σ[i]? = some (some (.ref l))) (q : ∀ (b : Bool) H2, Ex H H2 → QB b H2) :
    tTest (tOp rEq (tOp (rI (fun _ j => 0 < j) fun i j => .int (i % j)) (tCB (fun xs H Q => (∃ i, xs = [V.int i] ∧ Q (.int i) H) ∨ ∃ k, xs = [.bl k] ∧ Q (.int (if k then 1 else 0)) H) (tCons (tOp (rI CDiv fun i j => .int (i / j)) (tCall (spCellA K) [] E (tCons (tVar i) (tCons (tC (.int 2)) tNil))) (tC (.int 3))) tNil)) (tC (.int 3))) (tC (.int j))) σ H QB :=
  r_test (r_op (r_op (r_cb (r_cons (r_op (r_cell 2 hl h0 (ev_c (v := .int 2)) fun c H1 e1 => r_ev ev_c fun H2 e2 => ⟨c, 3, rfl, rfl, ⟨by decide, by decide⟩, r_nil (.inl ⟨c / 3, rfl, r_ev ev_c fun H3 e3 => ⟨c / 3, 3, rfl, rfl, (show (0 : Int) < 3 by decide), r_ev ev_c fun H4 e4 => ⟨rfl, _, rfl, q _ H4 (((e1.trans e2).trans e3).trans e4)⟩⟩⟩)⟩))))))
end
section
variable {P : Program} {w : World} {K : Fg} {mg : Str → Option Value} {base : Heap} {f : Addr} {fd : FuncData}
def lcScope : Stmt → Scope
  | .Assign _ (.ListComp _ _ sc _) _ => sc
  | _ => defScope sLaw
def ptsScope0 : Scope := lcScope ((defBody sLaw).getD 7 sLaw)
/-- the scope of the comprehension over the points, as it stands within the law: what is free there is a cell -/
def ptsScope : Scope := { ptsScope0 with names := ptsScope0.names.map fun x => if x.2 == .free && (defScope sLaw).names.lookup x.1 == some .cell then (x.1, .cell) else x }
def spLaw (K : Fg) (T : Addr) : Sp := fun vs H Q _ => ∃ (l : Addr) (ns : List Int), vs = [.ref l] ∧ SqL K H l (ns.map V.int) ∧ H T = some (.tbl #[]) ∧ ∀ H2, Q (.bl true) H2
theorem ok_law {CP CY C T : Addr} (F : FnP K "law" "law" sLaw f fd) (B : Bi mg) (S : SyF K CY) (SF : SpF K C) (SP : PaF K CP)
    (CE : Cal P w K mg base 1 "_law_cell" ["_law_script", "_law_k"] (spCellA K)) (SH : Cal P w K mg base 1 "_law_shape" ["_law_cell_here"] spShape) (NA : Cal P w K mg base 1 "_law_names" ["_law_cell_here", "_law_count"] spNames)
    (SPI : CCal P w K mg base 2 C "Space" ["self", "prime", "names"] (spSpaceI K C)) (SOM : Cal P w K mg base 6 "_law_some_sentence" ["_law_prime", "_law_count", "_law_cell_here", "_law_depth"] (spSome K)) (LP : Cal P w K mg base 1 "_law_points" ["_law_prime", "_law_count"] spTuples)
    (LT : Cal P w K mg base 7 "_law_true" ["_law_prime", "_law_sentence_here", "_law_point"] (spLTrue K 4)) (SYS : Cal P w K mg base 11 "system_of" ["space", "sentences"] (spSystemOf K CY C)) (SO : MCal P w K mg base 5 CY "solutions" ["self"] (spSols K CY C))
    (FO : Cal P w K mg base 6 "follows" ["system", "one"] (spFollows K CY C)) (PS : Cal P w K mg base 10 "polynomial_of_sentence" ["space", "sentence"] (spPolSen K C)) (PO : Cal P w K mg base 11 "paper_of" ["system", "order"] (spPaperOf K CP CY C T))
    (CO : Cal P w K mg base 2 "_law_constant" ["_law_prime", "_law_count", "_law_number"] (spConst K)) (CM : Cal P w K mg base 5 "compare" ["one", "other"] (spCompare K CY C)) :
    FnOk P w K mg base CX0 12 f fd ["_law_script"] (spLaw K T) := by
  refine F.ok scLaw (fun vs H Q E h => ?_) (fun cdv A outer s H vs Q E hr h => ?_)
  · obtain ⟨l, ns, rfl, _⟩ := h
    rfl
  · obtain ⟨l, ns, rfl, hl, hT, k⟩ := h
    have hu := hr.units
    refine ⟨_, PSs.nox (pss_cons (ps_asg (pe_cal SH hr rfl (pa_cons (pe_op op_mod (pe_callTy call_int1 rfl B.int PyProof.Rows.boot_int (pa_cons (pe_cal CE hr rfl (pa_cons (pv 0) (pa_cons pe_int pa_nil))) pa_nil)) pe_int) pa_nil)) (pg_tup rfl (pgs_cons (pg_name (i := 1) scLaw.nd rfl (.inr rfl)) (pgs_cons (pg_name (i := 2) scLaw.nd rfl (.inr rfl)) pgs_nil))))
      (pss_cons (ps_set (i := 3) scLaw.nd rfl (.inl rfl) (pe_ccal SPI hr rfl (pa_cons (pv 1) (pa_cons (pe_cal NA hr rfl (pa_cons (pe_cal CE hr rfl (pa_cons (pv 0) (pa_cons pe_int pa_nil))) (pa_cons (pv 2) pa_nil))) pa_nil))))
      (pss_cons (ps_set (i := 4) scLaw.nd rfl (.inl rfl) (pe_op op_add pe_int (pe_op op_mod (pe_callTy call_int1 rfl B.int PyProof.Rows.boot_int (pa_cons (pe_cal CE hr rfl (pa_cons (pv 0) (pa_cons pe_int pa_nil))) pa_nil)) pe_int)))
      (pss_cons (ps_set (i := 5) scLaw.nd rfl (.inr rfl) (pe_lc (own := [("_law_k", 12)]) (g := gName 12) (tt := tYes) rfl scLaw.nd (pi_range1 rfl B.range (pa_cons (pv 4) pa_nil)) (blkOk_by (N := nLaw) (sc := defScope sLaw) (by decide +kernel))
          (fun _ _ _ _ _ => pg_name (i := 12) scLaw.nd rfl (.inl rfl)) (fun _ _ _ _ _ => pts_nil) (fun _ _ _ _ _ => pe_cal SOM hr rfl (pa_cons (pv 1) (pa_cons (pv 2) (pa_cons (pe_op op_add (pe_cal CE hr rfl (pa_cons (pv 0) (pa_cons (pe_op op_add pe_int (pv 12)) pa_nil))) (pv 12)) (pa_cons pe_int pa_nil)))))))
      (pss_cons (ps_set (i := 6) scLaw.nd rfl (.inr rfl) (pe_cal SOM hr rfl (pa_cons (pv 1) (pa_cons (pv 2) (pa_cons (pe_cal CE hr rfl (pa_cons (pv 0) (pa_cons pe_int pa_nil))) (pa_cons pe_int pa_nil))))))
      (Evl.pss_cut (ps_if (pt_cmpR op_eq (pe_op op_mod (pe_callTy call_int1 rfl B.int PyProof.Rows.boot_int (pa_cons (pe_op op_fdiv (pe_cal CE hr rfl (pa_cons (pv 0) (pa_cons pe_int pa_nil))) pe_int) pa_nil)) pe_int) pe_int (nomark _))
          (pss_one (ps_set (i := 6) scLaw.nd rfl (.inr rfl) (pe_tup (pa_cons pe_str (pa_cons (pv 6) (pa_cons (pe_ix ix_list (pv 5) pe_int (fun _ _ => rfl)) pa_nil)))))) pss_nil)
      (Evl.pss_cut (ps_if (pt_cmpR op_eq (pe_op op_mod (pe_callTy call_int1 rfl B.int PyProof.Rows.boot_int (pa_cons (pe_op op_fdiv (pe_cal CE hr rfl (pa_cons (pv 0) (pa_cons pe_int pa_nil))) pe_int) pa_nil)) pe_int) pe_int (nomark _))
          (pss_one (ps_set (i := 6) scLaw.nd rfl (.inr rfl) (pe_tup (pa_cons pe_str (pa_cons (pe_ix ix_list (pv 5) (pe_op op_sub (pv 4) pe_int) (fun _ _ => rfl)) (pa_cons (pe_tup (pa_cons pe_str (pa_cons (pe_ix ix_list (pv 5) pe_int (fun _ _ => rfl)) (pa_cons (pe_ix ix_list (pv 5) (pe_op op_sub (pv 4) pe_int) (fun _ _ => rfl)) pa_nil)))) pa_nil)))))) pss_nil)
      (pss_cons (ps_setLc (i := 7) (own := [("_law_point", 13)]) (g := gName 13) (tt := tTru K (tCB (rAll K) (tCons (tLc (iList K (tVar 5)) (gName 14) tYes (tCall (spLTrue K 4) [] E0 (tCons (tVar 1) (tCons (tVar 14) (tCons (tVar 13) tNil)))) [14]) tNil))) rfl scLaw.nd rfl rfl (sw_true rfl rfl rfl (by decide +kernel)) (pi_list (pe_cal LP hr rfl (pa_cons (pv 1) (pa_cons (pv 2) pa_nil)))) (blkOk_by (N := nLaw) (sc := defScope sLaw) (by decide +kernel))
          (fun _ _ _ _ _ => pg_name (i := 13) scLaw.nd rfl (.inr rfl)) (fun _ _ _ _ _ => pts_one (pt_tru K (pe_callB (cr_all rfl) rfl B.all PyProof.Rows.boot_all (pa_cons (pe_lc (own := [("_law_each", 14)]) (g := gName 14) (tt := tYes) rfl scLaw.nd (pi_list (pv 5)) (blkOk_by (N := nLaw) (sc := ptsScope) (by decide +kernel))
            (fun _ _ _ _ _ => pg_name (i := 14) scLaw.nd rfl (.inl rfl)) (fun _ _ _ _ _ => pts_nil) (fun _ _ _ _ _ => pe_cal LT hr rfl (pa_cons (pv 1) (pa_cons (pv 14) (pa_cons (pv 13) pa_nil))))) pa_nil)) (fun _ => rfl))) (fun _ _ _ _ _ => pv 13))
      (pss_cons (ps_set (i := 8) scLaw.nd rfl (.inl rfl) (pe_callB (cr_all rfl) rfl B.all PyProof.Rows.boot_all (pa_cons (pe_lc (own := [("_law_point", 13)]) (g := gName 13) (tt := tYes) rfl scLaw.nd (pi_list (pv 7)) (blkOk_by (N := nLaw) (sc := defScope sLaw) (by decide +kernel))
          (fun _ _ _ _ _ => pg_name (i := 13) scLaw.nd rfl (.inl rfl)) (fun _ _ _ _ _ => pts_nil) (fun _ _ _ _ _ => pe_cal LT hr rfl (pa_cons (pv 1) (pa_cons (pv 6) (pa_cons (pv 13) pa_nil))))) pa_nil)))
      (pss_cons (ps_set (i := 9) scLaw.nd rfl (.inl rfl) (pe_cal SYS hr rfl (pa_cons (pv 3) (pa_cons (pv 5) pa_nil))))
      (pss_cons (ps_if (pt_cmpR (op_neD hu) (pe_mcal0 (pv 9) S.cl SO hr) (pv 7) (nomark _)) (pss_one (ps_ret pe_bl)) pss_nil)
      (pss_cons (ps_if (pt_cmpR op_ne (pe_cmpR op_eq (pe_ix ix_tup (pe_cal FO hr rfl (pa_cons (pv 9) (pa_cons (pe_cal PS hr rfl (pa_cons (pv 3) (pa_cons (pv 6) pa_nil))) pa_nil))) pe_int (fun _ _ => rfl)) pe_str (nomark _)) (pv 8) (nomark _)) (pss_one (ps_ret pe_bl)) pss_nil)
      (pss_cons (ps_set (i := 10) scLaw.nd rfl (.inl rfl) (pe_cal SYS hr rfl (pa_cons (pv 3) (pa_cons (pe_op op_cat (pv 5) (pe_lst (pa_cons (pe_tup (pa_cons pe_str (pa_cons (pv 6) pa_nil))) pa_nil))) pa_nil))))
      (pss_cons (ps_set (i := 11) scLaw.nd rfl (.inl rfl) (pe_fld (pe_cal PO hr rfl (pa_cons (pv 10) (pa_cons pe_str pa_nil))) rfl))
      (pss_cons (ps_if (pt_cmpR op_ne (pe_cmpR (op_eqD hu) (pe_lc (own := [("_law_row", 15)]) (g := gName 15) (tt := tYes) rfl scLaw.nd (pi_list (pv 11)) (blkOk_by (N := nLaw) (sc := defScope sLaw) (by decide +kernel))
          (fun _ _ _ _ _ => pg_name (i := 15) scLaw.nd rfl (.inl rfl)) (fun _ _ _ _ _ => pts_nil) (fun _ _ _ _ _ => pe_ix (r := rIxT K) ix_tup (pv 15) pe_int (fun _ _ => rfl))) (pe_lst (pa_cons (pe_cal CO hr rfl (pa_cons (pv 1) (pa_cons (pv 2) (pa_cons pe_int pa_nil)))) pa_nil)) (nomark _)) (pv 8) (nomark _)) (pss_one (ps_ret pe_bl)) pss_nil)
      (pss_one (ps_ret (pe_cmpR op_eq (pe_cmpR op_eq (pe_ix ix_tup (pe_cal CM hr rfl (pa_cons (pv 9) (pa_cons (pe_cal SYS hr rfl (pa_cons (pv 3) (pa_cons (pe_op op_cat (pv 5) (pe_lst (pa_cons (pv 6) pa_nil))) pa_nil))) pa_nil))) pe_int (fun _ _ => rfl)) pe_str (nomark _)) (pv 8) (nomark _))))))))))))))))))), ?_⟩
    have hex : ∀ {H1 H2 H3 : Hp}, Ex H1 H2 → Ex H2 H3 → Ex H1 H3 := fun a b => a.trans b
    -- the shape
    refine q_asgG (r_call (r_cons (r_op (r_cb (r_cons (r_cell 0 hl rfl (ev_c (v := .int 0)) fun c0 H1 e1 => r_nil (.inl ⟨c0, rfl, r_ev ev_c fun H2 e2 => ⟨c0, 10, rfl, rfl, (show (0 : Int) < 10 by decide), r_nil ⟨c0 % 10, rfl, ⟨Int.emod_nonneg _ (by decide), Int.emod_lt_of_pos _ (by decide)⟩, fun t p n H3 e3 hsh ht => gtup2 (st_of ht) ?_⟩⟩⟩)))))))
    have hP := hsh.isP
    have hp1 := hP.lt
    have hp7 := hP.le
    have hn8 := hsh.n8
    have hn1 := hsh.1
    have hsm := hsh.small
    have e03 : Ex H H3 := (e1.trans e2).trans e3
    -- the space
    refine q_asg0 ?_
    refine r_cons (r_ev (v := .int (p : Int)) (ev_var rfl) fun H4 e4 => r_cons (r_call (r_cons (r_cell 1 (ex_l (e03.trans e4) hl) rfl (ev_c (v := .int 1)) fun c1 H5 e5 => r_cons (r_ev (v := .int (n : Int)) (ev_var rfl) fun H6 e6 => r_nil ⟨c1, n, rfl, hn8, fun nl nms H7 e7 hnl hnml hnd hnm => r_nil fun sp dx hsp0 hdx0 hne => ?_⟩)))))
    have e37 := ((e4.trans e5).trans e6).trans e7
    have eN : Ex H7 (upd (upd H7 dx (.own sp)) sp (.ins C dx [])) := (Ex.new hdx0).trans (Ex.new (by rw [upd_ne (Ne.symm hne)]; exact hsp0))
    refine ⟨sp, dx, nl, p, n, nms, rfl, upd_same, sq_of (eN nl _ hnl), hnml, hsh, hnd, hnm, fun H8 eb hs8 => ⟨rfl, ?_⟩⟩
    have e78 : Ex H7 H8 := fun b o hb => eb b o (ne_of_none hb hsp0) (eN b o hb)
    have e08 : Ex H H8 := (e03.trans e37).trans e78
    -- how many
    refine q_asg0 (r_op (r_ev ev_c fun H9 e9 => r_op (r_cb (r_cons (r_cell 2 (ex_l (e08.trans e9) hl) rfl (ev_c (v := .int 2)) fun c2 H10 e10 => r_nil (.inl ⟨c2, rfl, r_ev ev_c fun H11 e11 => ⟨c2, 3, rfl, rfl, (show (0 : Int) < 3 by decide), 1, c2 % 3, rfl, rfl, ?_⟩⟩))))))
    have e8_11 := (e9.trans e10).trans e11
    have e0_11 := e08.trans e8_11
    obtain ⟨mN, hmN, hm1, hm3⟩ : ∃ mN : Nat, 1 + c2 % 3 = (mN : Int) ∧ 1 ≤ mN ∧ mN ≤ 3 := by
      have z0 := Int.emod_nonneg c2 (show (3 : Int) ≠ 0 by decide)
      have z1 := Int.emod_lt_of_pos c2 (show (0 : Int) < 3 by decide)
      exact ⟨(1 + c2 % 3).toNat, by omega, by omega, by omega⟩
    show tSeq _ _ _ (List.set _ 4 (some (V.int (1 + c2 % 3)))) H11
    rw [hmN]
    have hl11 := ex_l e0_11 hl
    have hs11 : SpA C H11 sp p n := hs8.mono e8_11
    have hT11 : H11 T = some (.tbl #[]) := e0_11 T _ hT
    -- the known sentences
    refine q_asgLc0 ?_
    refine range_item (n := mN) (ea_cons (ev_var rfl) ea_nil) (by omega) fun H12 e12 => ?_
    refine lc_go (n := mN) (fun _ => true) (fun _ => IsSen K p n 2) (walk_range (lo := 0) (n := mN)) (by omega) (fun _ _ => trivial) (fun _ => stab_sen K p n 2) (fun i v H13 H14 hi e13 hv => ?_) (fun kl us H13 hkl e13 h13 hus => ?_)
    · obtain ⟨rfl, hv⟩ := hv
      have e0m : v = .int (i : Int) := by
        rw [hv]
        show V.int ((0 : Int) + (i : Int)) = _
        rw [Int.zero_add]
      subst e0m
      refine ⟨Ex.refl _, [some (.ref l), some (.int (p : Int)), some (.int (n : Int)), some (.ref sp), some (.int (mN : Int)), none, none, none, none, none, none, none, some (.int (i : Int)), none, none, none], fun R r => r, rfl, et_yes, fun _ H14 e14 Q2 q2 => ?_⟩
      have hl14 := ex_l ((e12.trans e13).trans e14) hl11
      refine r_call (r_cons (r_ev (v := .int (p : Int)) (ev_var rfl) fun H15 e15 => r_cons (r_ev (v := .int (n : Int)) (ev_var rfl) fun H16 e16 => r_cons (r_op (r_cell (3 + i) (ex_l (e15.trans e16) hl14) rfl (ev_is (ev_op ev_c (ev_var rfl) rv_I0) (congrArg V.int (show (3 : Int) + (i : Int) = ((3 + i : Nat) : Int) by omega))) fun c3 H17 e17 => r_ev (v := .int (i : Int)) (ev_var rfl) fun H18 e18 => ⟨c3, (i : Int), rfl, rfl, r_cons (r_ev ev_c fun H19 e19 => r_nil ⟨p, n, c3 + (i : Int), rfl, hsh, fun v s H20 e20 o1 o2 o3 => ?_⟩)⟩)))))
      exact q2 v H20 ((((e15.trans e16).trans e17).trans (e18.trans e19)).trans e20) ⟨s, o1, o2, o3⟩
    obtain ⟨ss, hss, hok⟩ := allp_sens (fun P hP => by
      rw [gvn_all] at hP
      obtain ⟨i, _, rfl⟩ := List.mem_map.mp hP
      rfl) hus
    have husl : us.length = mN := by
      have z := hus.len
      rw [gvn_all, List.length_map, List.length_range] at z
      exact z.symm
    have hssl : ss.length = mN := by
      have z := dpa_len hss
      rw [List.length_map] at z
      omega
    have e11_13 : Ex H11 H13 := e12.trans e13
    have hl13 := ex_l e11_13 hl11
    have hs13 := hs11.mono e11_13
    have hT13 := e11_13 T _ hT11
    -- the sentence asked
    refine q_asg0 (r_call (r_cons (r_ev (v := .int (p : Int)) (ev_var rfl) fun H14 e14 => r_cons (r_ev (v := .int (n : Int)) (ev_var rfl) fun H15 e15 => r_cons (r_cell 6 (ex_l (e14.trans e15) hl13) rfl (ev_c (v := .int 6)) fun c6 H16 e16 => r_cons (r_ev ev_c fun H17 e17 => r_nil ⟨p, n, c6, rfl, hsh, fun v0 s0 H18 e18 o1 o2 o3 => ?_⟩))))))
    have e13_18 := (((e14.trans e15).trans e16).trans e17).trans e18
    have at0 : ∃ u s, us[0]? = some u ∧ ss[0]? = some s := ⟨_, _, List.getElem?_eq_getElem (by omega), List.getElem?_eq_getElem (by omega)⟩
    have atm : ∃ u s, us[mN - 1]? = some u ∧ ss[mN - 1]? = some s := ⟨_, _, List.getElem?_eq_getElem (by omega), List.getElem?_eq_getElem (by omega)⟩
    obtain ⟨u0, t0, hu0, ht0⟩ := at0
    obtain ⟨um, tm, hum, htm⟩ := atm
    have hd0 : Dp K H13 u0 (senD t0) := by
      obtain ⟨d, hd, hdp⟩ := dpa_get hss hu0
      rw [List.getElem?_map, ht0] at hd
      cases hd
      exact hdp
    have hdm : Dp K H13 um (senD tm) := by
      obtain ⟨d, hd, hdp⟩ := dpa_get hss hum
      rw [List.getElem?_map, htm] at hd
      cases hd
      exact hdp
    obtain ⟨ok0, dp0⟩ := hok t0 (List.mem_of_getElem? ht0)
    obtain ⟨okm, dpm⟩ := hok tm (List.mem_of_getElem? htm)
    refine ⟨fun σ' H' => Ex H13 H' ∧ ∃ v a, σ' = [some (.ref l), some (.int (p : Int)), some (.int (n : Int)), some (.ref sp), some (.int (mN : Int)), some (.ref kl), some (v), none, none, none, none, none, none, none, none, none] ∧ Dp K H' v (senD a) ∧ SenOk p n a ∧ a.dep ≤ 4, r_if (r_cond (ex_l e13_18 hl13) rfl fun b H19 e19 => ?_), ?_⟩
    · have e13_19 := e13_18.trans e19
      cases b with
      | false => exact ⟨e13_19, v0, s0, rfl, dp_mono e19 o3, o1, by omega⟩
      | true =>
        refine r_asg (r_tup (r_cons (r_ev (v := .str "or") ev_c fun H20 e20 => r_cons (r_ev (v := v0) (ev_var rfl) fun H21 e21 => r_cons (r_ev (v := u0) (ev_op (ev_var rfl) ev_c (rv_ixL (sq_of (((e13_19.trans e20).trans e21) kl _ h13)) (atI_nat (j := 0) hu0))) fun H22 e22 => r_nil ⟨by show 3 ≤ sizeLine; exact sz_of (by decide), fun t ht => ?_⟩)))))
        have eN := Ex.new (o := .tup [.str "or", v0, u0]) ht
        have e19N := ((e20.trans e21).trans e22).trans eN
        exact ⟨e13_19.trans e19N, .ref t, .bin 1 s0 t0, rfl, .tup (st_of upd_same) (.cons (.str _) (.cons (dp_mono (e19.trans e19N) o3) (.cons (dp_mono (e13_19.trans e19N) hd0) .nil))), ⟨o1, ok0⟩, by show max s0.dep t0.dep + 1 ≤ 4; omega⟩
    rintro σ' H19 ⟨e13_19, v1, a1, rfl, hv1, ha1, hdep1⟩
    refine ⟨fun σ' H' => Ex H13 H' ∧ ∃ v a, σ' = [some (.ref l), some (.int (p : Int)), some (.int (n : Int)), some (.ref sp), some (.int (mN : Int)), some (.ref kl), some (v), none, none, none, none, none, none, none, none, none] ∧ Dp K H' v (senD a) ∧ SenOk p n a ∧ a.dep ≤ 4, r_if (r_cond (ex_l e13_19 hl13) rfl fun b H20 e20 => ?_), ?_⟩
    · have e13_20 := e13_19.trans e20
      cases b with
      | false => exact ⟨e13_20, v1, a1, rfl, dp_mono e20 hv1, ha1, hdep1⟩
      | true =>
        have hmi : (mN : Int) - 1 = ((mN - 1 : Nat) : Int) := by omega
        have evm : ∀ {H' : Hp}, Ex H13 H' → Ev (tOp (rIxL K) (tVar 5) (tOp (rI0 fun i j => .int (i - j)) (tVar 4) (tC (.int 1)))) [some (.ref l), some (.int (p : Int)), some (.int (n : Int)), some (.ref sp), some (.int (mN : Int)), some (.ref kl), some (v1), none, none, none, none, none, none, none, none, none] H' um := fun e => ev_op (ev_var rfl) (ev_is (ev_op (ev_var rfl) ev_c rv_I0) (congrArg V.int hmi)) (rv_ixL (sq_of (e kl _ h13)) (atI_nat hum))
        refine r_asg (r_tup (r_cons (r_ev (v := .str "=>") ev_c fun H21 e21 => r_cons (r_ev (evm (e13_20.trans e21)) fun H22 e22 => r_cons (r_tup (r_cons (r_ev (v := .str "and") ev_c fun H23 e23 => r_cons (r_ev (v := u0) (ev_op (ev_var rfl) ev_c (rv_ixL (sq_of ((((e13_20.trans e21).trans e22).trans e23) kl _ h13)) (atI_nat (j := 0) hu0))) fun H24 e24 => r_cons (r_ev (evm ((((e13_20.trans e21).trans e22).trans e23).trans e24)) fun H25 e25 => r_nil ⟨by show 3 ≤ sizeLine; exact sz_of (by decide), fun t ht => r_nil ⟨by show 3 ≤ sizeLine; exact sz_of (by decide), fun t2 ht2 => ?_⟩⟩)))))))))
        have eN := Ex.new (o := .tup [.str "and", u0, um]) ht
        have eN2 := Ex.new (o := .tup [.str "=>", um, .ref t]) ht2
        have e13_25 := (((e13_20.trans e21).trans e22).trans (e23.trans e24)).trans e25
        have e13N := (e13_25.trans eN).trans eN2
        exact ⟨e13N, .ref t2, .bin 2 tm (.bin 0 t0 tm), rfl, .tup (st_of upd_same) (.cons (.str _) (.cons (dp_mono e13N hdm) (.cons (.tup (st_of (eN2 t _ upd_same)) (.cons (.str _) (.cons (dp_mono e13N hd0) (.cons (dp_mono e13N hdm) .nil)))) .nil))), ⟨okm, ok0, okm⟩, by show max tm.dep (max t0.dep tm.dep + 1) + 1 ≤ 4; omega⟩
    rintro σ' H20 ⟨e13_20, va, a, rfl, hva, haok, hadep⟩
    clear hv1 ha1 hdep1 o1 o2 o3
    have hl20 := ex_l e13_20 hl13
    have hs20 := hs13.mono e13_20
    have hT20 := e13_20 T _ hT13
    have hk20 := e13_20 kl _ h13
    have hss20 := dpa_mono e13_20 hss
    -- the points
    refine q_asgLc0 (r_call (r_cons (r_ev (v := .int (p : Int)) (ev_var rfl) fun H21 e21 => r_cons (r_ev (v := .int (n : Int)) (ev_var rfl) fun H22 e22 => r_nil ⟨p, n, rfl, ⟨by omega, hp7⟩, hn8, by omega, fun l0 as H23 hl0 e23 h23 has => ⟨l0, rfl, ⟨_, sq_of h23⟩, ?_⟩⟩))))
    have hasl : as.length = (pts p n).length := has.len
    have hptl := pts_count p n
    have e20_23 := (e21.trans e22).trans e23
    refine lc_go (n := (as.map V.ref).length) (fun i => ss.all fun s => truth p s ((pts p n).getD i [])) (fun i => IsPt ((pts p n).getD i [])) (walk_list (K := K) (a := l0) (xs := as.map V.ref)) (by rw [List.length_map, hasl, hptl]; omega) (fun H' e => sq_of (e l0 _ h23)) (fun _ => stab_pt _) (fun i v H24 H25 hi e24 hv => ?_) (fun ph ws H24 hph e24 h24 hws => ?_)
    · obtain ⟨rfl, hv⟩ := hv
      obtain ⟨qa, x, rfl, hq, hx, hqx⟩ := has.at hv
      have hxm : x ∈ pts p n := List.mem_of_getElem? hx
      have eg : (pts p n).getD i [] = x := by
        rw [List.getD_eq_getElem?_getD, hx] <;> rfl
      rw [eg]
      have e20_25 := e20_23.trans e24
      have hq25 := ex_pt e24 hqx
      refine ⟨Ex.refl _, [some (.ref l), some (.int (p : Int)), some (.int (n : Int)), some (.ref sp), some (.int (mN : Int)), some (.ref kl), some (va), none, none, none, none, none, none, some (.ref qa), none, none], fun R r => r, rfl, et_is (et_tru (ev_all (bs := (List.range us.length).map fun j => truth p (ss.getD j (.cmp true [] [])) x) ?_)) ?_, fun _ => evp_self rfl hq25⟩
      · rw [← gvn_bl]
        refine evlp_lc (J := Itl K kl) (fun H26 e26 R r => ⟨.ref kl, rfl, kl, rfl, ⟨us, sq_of ((e20_25.trans e26) kl _ hk20)⟩, r H26 (Ex.refl H26)⟩) (walk_list (K := K) (a := kl) (xs := us)) (by omega) (fun H' e => sq_of ((e20_25.trans e) kl _ hk20)) _ _ (fun _ _ _ _ _ h => h) fun j v H26 H27 hj e26 hv => ?_
        obtain ⟨rfl, hv⟩ := hv
        obtain ⟨d, hd, hdp⟩ := dpa_get hss20 hv
        rw [List.getElem?_map] at hd
        obtain ⟨sn, hsn, rfl⟩ := Option.map_eq_some_iff.mp hd
        have eg : ss.getD j (.cmp true [] []) = sn := by
          rw [List.getD_eq_getElem?_getD, hsn] <;> rfl
        rw [eg]
        obtain ⟨q1, q2⟩ := hok sn (List.mem_of_getElem? hsn)
        exact ⟨Ex.refl _, [some (.ref l), some (.int (p : Int)), some (.int (n : Int)), some (.ref sp), some (.int (mN : Int)), some (.ref kl), some (va), none, none, none, none, none, none, some (.ref qa), some (v), none], fun R r => r, rfl, et_yes, fun _ => evp_ev (ev_call (z := .bl (truth p sn x)) (ea_cons (ev_var rfl) (ea_cons (ev_var rfl) (ea_cons (ev_var rfl) ea_nil))) fun H28 e28 Q3 q3 E3 => ⟨qa, v, p, n, sn, x, rfl, dp_mono ((e20_25.trans e26).trans e28) hdp, q1, by omega, .inl (.inl (ex_pt (e26.trans e28) hq25)), hxm, hsh, q3⟩) fun _ _ => rfl⟩
      · have hle : us.length = ss.length := by omega
        rw [hle, range_getD (Sen.cmp true [] []) (fun s => truth p s x) ss, List.all_map]
        rfl
    have e20_24 := e20_23.trans e24
    obtain ⟨bs, rfl, hbs⟩ := allp_pts (ps := sol0 p n ss) (by
      rw [List.length_map, hasl, gvn_filter [] (fun x => ss.all fun s => truth p s x) IsPt] at hws
      exact hws)
    have hsub : ∀ x ∈ sol0 p n ss, x ∈ pts p n := fun x hx => (List.mem_filter.mp hx).1
    have hsoll : (sol0 p n ss).length ≤ 1000 := by
      have z : (sol0 p n ss).length ≤ (pts p n).length := List.length_filter_le _ _
      omega
    have hbsl : bs.length = (sol0 p n ss).length := hbs.len
    -- what is due
    have hdue : ((List.range (bs.map V.ref).length).map fun i => truth p a ((sol0 p n ss).getD i [])).all id = due0 p n ss a := by
      rw [List.length_map, hbsl, range_getD [] (fun x => truth p a x) (sol0 p n ss), List.all_map]
      rfl
    refine q_asg0 (r_cb (r_cons (r_lc ⟨.ref ph, rfl, ph, rfl, ⟨_, sq_of h24⟩, ?_⟩)))
    refine lc_go (n := (bs.map V.ref).length) (fun _ => true) (fun i (v : V) (_ : Hp) => v = .bl (truth p a ((sol0 p n ss).getD i []))) (walk_list (K := K) (a := ph) (xs := bs.map V.ref)) (by rw [List.length_map, hbsl]; omega) (fun H' e => sq_of (e ph _ h24)) (fun _ _ _ _ _ h => h) (fun i v H25 H26 hi e25 hv => ?_) (fun r2 ws2 H25 hr2 e25 h25 hws2 => ?_)
    · obtain ⟨rfl, hv⟩ := hv
      obtain ⟨qa, x, rfl, hq, hx, hqx⟩ := hbs.at hv
      have eg : (sol0 p n ss).getD i [] = x := by
        rw [List.getD_eq_getElem?_getD, hx] <;> rfl
      rw [eg]
      exact ⟨Ex.refl _, [some (.ref l), some (.int (p : Int)), some (.int (n : Int)), some (.ref sp), some (.int (mN : Int)), some (.ref kl), some (va), some (.ref ph), none, none, none, none, none, some (.ref qa), none, none], fun R r => r, rfl, et_yes, fun _ => evp_ev (ev_call (z := .bl (truth p a x)) (ea_cons (ev_var rfl) (ea_cons (ev_var rfl) (ea_cons (ev_var rfl) ea_nil))) fun H28 e28 Q3 q3 E3 => ⟨qa, va, p, n, a, x, rfl, dp_mono ((e20_24.trans e25).trans e28) hva, haok, hadep, .inl (.inl (ex_pt (e25.trans e28) hqx)), hsub x (List.mem_of_getElem? hx), hsh, q3⟩) fun _ _ => rfl⟩
    rw [gvn_bl] at hws2
    have hws3 := allp_bl hws2
    rw [hws3] at h25
    refine r_nil ⟨r2, _, rfl, sq_of h25, ?_⟩
    show tSeq _ _ _ (List.set _ 8 (some (V.bl (List.all _ id)))) H25
    rw [hdue]
    generalize hDU : due0 p n ss a = du
    have e20_25 := e20_24.trans e25
    have hs25 := hs20.mono e20_25
    have hk25 := e20_25 kl _ hk20
    have hss25 := dpa_mono e20_25 hss20
    have hva25 := dp_mono e20_25 hva
    have hT25 := e20_25 T _ hT20
    have hph25 := e25 ph _ h24
    have hbs25 := ex_pts e25 hbs
    have hok5 : ∀ s ∈ ss, SenOk p n s ∧ s.dep ≤ 5 := fun s hs => ⟨(hok s hs).1, by have z := (hok s hs).2; omega⟩
    have hFl : (ss.map (senF p)).length ≤ 100 := by rw [List.length_map]; omega
    -- the system
    refine q_asg0 (r_call (r_cons (r_ev (v := .ref sp) (ev_var rfl) fun H26 e26 => r_cons (r_ev (v := .ref kl) (ev_var rfl) fun H27 e27 => r_nil ⟨sp, kl, us, p, n, ss, rfl, hs25.mono (e26.trans e27), sq_of ((e26.trans e27) kl _ hk25), dpa_mono (e26.trans e27) hss25, hok5, by omega, hsh, fun sy H28 e28 hsy => ?_⟩))))
    have e25_28 := (e26.trans e27).trans e28
    have hsy0 := hsy
    obtain ⟨dxy, spy, ely, esy, hay, _, _, _⟩ := hsy0
    refine q_when (b := false) (fun H1 e1 Q1 q1 => r_test (r_op ⟨.ref sy, rfl, sy, dxy, _, rfl, e1 sy _ hay, rfl, sy, p, n, ss.map (senF p), rfl, hsy.mono e1, hFl, hsh, fun pl cs H2 hpl e2 h2 hcs => ?_⟩)) (fun hb => nomatch hb) (fun _ H29 e29 => ?_)
    · rw [sol0_eq] at hcs
      refine ⟨.ref ph, rfl, .list ((sol0 p n ss).map ptD), .list ((sol0 p n ss).map ptD), .lst (sq_of h2) (pts_dp hcs), .lst (sq_of (((e25_28.trans e1).trans e2) ph _ hph25)) (pts_dp (ex_pts ((e25_28.trans e1).trans e2) hbs25)), shaped_pts _, shaped_pts _, _, rfl, ?_⟩
      rw [eqv_rfl (shaped_pts _)]
      exact q1 H2 e2
    have e25_29 := e25_28.trans e29
    have hsy29 := hsy.mono e29
    have hs29 := hs25.mono e25_29
    have hva29 := dp_mono e25_29 hva25
    -- follows
    refine q_when (b := false) (et_is (et_test (ev_op (x := .bl du) (y := .bl du) (fun H1 e1 Q1 q1 => r_op (r_op (r_call (r_cons (r_ev (v := .ref sy) (ev_var rfl) fun H2 e2 => r_cons (r_call (r_cons (r_ev (v := .ref sp) (ev_var rfl) fun H3 e3 => r_cons (r_ev (v := va) (ev_var rfl) fun H4 e4 => r_nil ⟨sp, va, p, n, a, rfl, hs29.mono (((e1.trans e2).trans e3).trans e4), dp_mono (((e1.trans e2).trans e3).trans e4) hva29, haok, by omega, hsh, fun po H5 e5 hpo => r_nil ⟨sy, po, p, n, ss.map (senF p), senF p a, rfl, hsy29.mono ((((e1.trans e2).trans e3).trans e4).trans e5), hpo, hFl, hsh, fun hvan t u H6 e6 ht => ?_, fun hvan t u H6 e6 ht => ?_⟩⟩))))))))) (ev_var rfl) (rv_ne rfl))) (by cases du <;> rfl)) (fun hb => nomatch hb) (fun _ H30 e30 => ?_)
    · refine r_ev ev_c fun H7 e7 => ⟨t, _, 0, .str "follows", rfl, rfl, st_of (e7 t _ ht), atI_nat (j := 0) rfl, r_ev ev_c fun H8 e8 => ⟨rfl, ?_⟩⟩
      have z := q1 H8 ((((((e2.trans e3).trans e4).trans e5).trans e6).trans e7).trans e8)
      rw [← hDU, van_due.mp hvan] at z
      exact z
    · refine r_ev ev_c fun H7 e7 => ⟨t, _, 0, .str "fails", rfl, rfl, st_of (e7 t _ ht), atI_nat (j := 0) rfl, r_ev ev_c fun H8 e8 => ⟨rfl, ?_⟩⟩
      have z := q1 H8 ((((((e2.trans e3).trans e4).trans e5).trans e6).trans e7).trans e8)
      rw [← hDU, Bool.eq_false_iff.mpr fun y => hvan (van_due.mpr y)] at z
      exact z
    have e25_30 := e25_29.trans e30
    have hs30 := hs25.mono e25_30
    have hk30 := e25_30 kl _ hk25
    have hss30 := dpa_mono e25_30 hss25
    have hva30 := dp_mono e25_30 hva25
    have hT30 := e25_30 T _ hT25
    have hsy30 := hsy29.mono e30
    -- the system against
    refine q_asg0 (r_call (r_cons (r_ev (v := .ref sp) (ev_var rfl) fun H31 e31 => r_cons (r_op (r_ev (v := .ref kl) (ev_var rfl) fun H32 e32 => r_lst (r_cons (r_tup (r_cons (r_ev (v := .str "not") ev_c fun H33 e33 => r_cons (r_ev (v := va) (ev_var rfl) fun H34 e34 => r_nil ⟨by show 2 ≤ sizeLine; exact sz_of (by decide), fun t ht => r_nil ⟨by show 1 ≤ sizeLine; exact sz_of (by decide), fun lz hlz => ?_⟩⟩))))))))))
    have e30_34 := ((e31.trans e32).trans e33).trans e34
    have et := Ex.new (o := .tup [.str "not", va]) ht
    have ez := Ex.new (o := .lst [.ref t]) hlz
    have e30_z := (e30_34.trans et).trans ez
    refine ⟨kl, lz, us, [.ref t], rfl, rfl, e30_z kl _ hk30, upd_same, sz_of (by show us.length + 1 ≤ 100000; omega), fun p0 hp0 => r_nil ?_⟩
    have ep := Ex.new (o := .lst (us ++ [V.ref t])) hp0
    have e30_p := e30_z.trans ep
    refine ⟨sp, p0, us ++ [.ref t], p, n, ss ++ [.neg a], rfl, hs30.mono e30_p, sq_of upd_same, ?_, fun s hs => ?_, by rw [List.length_append]; show ss.length + 1 ≤ 100; omega, hsh, fun ag H35 e35 hag => ?_⟩
    · rw [List.map_append]
      exact dpa_app (dpa_mono e30_p hss30) (.cons (.tup (st_of ((ez.trans ep) t _ upd_same)) (.cons (.str _) (.cons (dp_mono e30_p hva30) .nil))) .nil)
    · rcases List.mem_append.mp hs with hs | hs
      · exact hok5 s hs
      · rw [List.mem_singleton.mp hs]
        exact ⟨haok, by show a.dep + 1 ≤ 5; omega⟩
    have e30_35 := e30_p.trans e35
    have hFl2 : ((ss ++ [Sen.neg a]).map (senF p)).length ≤ 100 := by
      rw [List.length_map, List.length_append]
      show ss.length + 1 ≤ 100
      omega
    -- its paper
    refine q_asg0 (r_fld (r_call (r_cons (r_ev (v := .ref ag) (ev_var rfl) fun H36 e36 => r_cons (r_ev ev_c fun H37 e37 => r_nil ⟨ag, p, n, (ss ++ [Sen.neg a]).map (senF p), rfl, hag.mono (e36.trans e37), hFl2, hsh, (e30_35.trans (e36.trans e37)) T _ hT30, fun b H38 xn hpa => ?_⟩)))))
    obtain ⟨dxb, o, rl, qq, us2, fs, hb38, hrl, hrows, hus2l, hfv, hnil⟩ := hpa
    refine ⟨b, CP, dxb, _, .ref rl, rfl, hb38, SP.cl, SP.no _ (by decide), rfl, ?_⟩
    have x30_38 : ExN H30 H38 := (exn_of (e30_35.trans (e36.trans e37))).trans xn
    have hs38 : SpA C H38 sp p n := by
      obtain ⟨dxs, nms2, h⟩ := hs30
      exact ⟨dxs, nms2, x30_38 sp _ h fun _ z => nomatch z⟩
    have hk38 := x30_38 kl _ hk30 fun _ z => nomatch z
    have hsy38 := hsy30.exn x30_38
    have hva38 := dp_exn x30_38 hva30
    have hss38 := dpa_exn x30_38 hss30
    have hfl : fs.length = us2.length := by
      have z := hrows.len
      rw [List.length_map] at z
      exact z
    generalize hXS : (pts p n).filter (solB ((ss ++ [Sen.neg a]).map (senF p))) = XS at hfv hnil
    obtain ⟨gs, hgs, hgv, hgn⟩ : ∃ gs : List Pol, DpAll K H38 fs (gs.map polD) ∧ (∀ g ∈ gs, ∀ x ∈ XS, pev p g x = 0) ∧ (XS = [] → gs = [[(zeroP n, 1)]]) := by
      by_cases h : XS = []
      · obtain ⟨v, hv, hd⟩ := hnil h
        refine ⟨[[(zeroP n, 1)]], ?_, fun g _ x hx => ?_, fun _ => rfl⟩
        · rw [hv]
          exact .cons hd .nil
        · rw [h] at hx
          cases hx
      · obtain ⟨gs, hgs, hgv⟩ := fvs hfv
        exact ⟨gs, hgs, hgv, fun z => absurd z h⟩
    have hdr := rows_due hp1 hgv hgn
    have hdd : decide (XS = []) = du := by
      rw [← hDU, ← hXS]
      cases h : due0 p n ss a with
      | true => exact decide_eq_true (neg_due.mpr h)
      | false =>
        refine decide_eq_false fun z => ?_
        rw [neg_due.mp z] at h
        cases h
    rw [hdd] at hdr
    refine q_when (b := false) (et_is (et_test (ev_op (x := .bl du) (y := .bl du) (fun H1 e1 Q1 q1 => r_op (r_lc ⟨.ref rl, rfl, rl, rfl, ⟨_, sq_of (e1 rl _ hrl)⟩, ?_⟩)) (ev_var rfl) (rv_ne rfl))) (by cases du <;> rfl)) (fun hb => nomatch hb) (fun _ H39 e39 => ?_)
    · refine lc_go (n := us2.length) (fun _ => true) (fun i (v : V) (_ : Hp) => v = fs.getD i .non) (walk_list (K := K) (a := rl) (xs := us2)) (by omega) (fun H' e => sq_of ((e1.trans e) rl _ hrl)) (fun _ _ _ _ _ h => h) (fun i v H2 H3 hi e2 hv => ?_) (fun r3 ws3 H3 hr3 e3 h3 hws3 => ?_)
      · obtain ⟨rfl, hv⟩ := hv
        obtain ⟨Pq, hPq, hpq⟩ := allp_at hrows hv
        rw [List.getElem?_map] at hPq
        obtain ⟨u, hu, rfl⟩ := Option.map_eq_some_iff.mp hPq
        obtain ⟨TT, ww, rfl, hTT⟩ := hpq
        have eg : fs.getD i .non = u := by
          rw [List.getD_eq_getElem?_getD, hu] <;> rfl
        rw [eg]
        exact ⟨Ex.refl _, [some (.ref l), some (.int (p : Int)), some (.int (n : Int)), some (.ref sp), some (.int (mN : Int)), some (.ref kl), some (va), some (.ref ph), some (.bl du), some (.ref sy), some (.ref ag), some (.ref rl), none, none, none, some (.ref TT)], fun R r => r, rfl, et_yes, fun _ => evp_ev (ev_op (ev_var rfl) ev_c (rv_ixT (st_of ((e1.trans e2) TT _ hTT)) (atI_nat (j := 0) rfl))) fun _ _ => rfl⟩
      · rw [gvn_all] at hws3
        have hw3 := allp_eqs hws3
        have hfs : ws3 = fs := by
          rw [hw3, ← hfl]
          have z := range_getD V.non id fs
          rw [List.map_id] at z
          exact z
        rw [hfs] at h3
        refine r_lst (r_cons (r_call (r_cons (r_ev (v := .int (p : Int)) (ev_var rfl) fun H4 e4 => r_cons (r_ev (v := .int (n : Int)) (ev_var rfl) fun H5 e5 => r_cons (r_ev ev_c fun H6 e6 => r_nil ⟨p, n, rfl, hp1, hn1, by omega, fun vc H7 e7 hvc => r_nil ⟨by show 1 ≤ sizeLine; exact sz_of (by decide), fun lc hlc => ?_⟩⟩))))))
        have el := Ex.new (o := .lst [vc]) hlc
        have e37' := (((e4.trans e5).trans e6).trans e7).trans el
        refine ⟨.list (gs.map polD), .list ([[(zeroP n, 1)]].map polD), .lst (sq_of (e37' r3 _ h3)) (dpa_mono ((e1.trans e3).trans e37') hgs), .lst (sq_of upd_same) (.cons (dp_mono el hvc) .nil), shaped_pols _, shaped_pols _, ?_⟩
        rw [hdr]
        exact q1 _ (e3.trans e37')
    have hs39 := hs38.mono e39
    have hk39 := e39 kl _ hk38
    have hsy39 := hsy38.mono e39
    have hva39 := dp_mono e39 hva38
    have hss39 := dpa_mono e39 hss38
    have hFl3 : ((ss ++ [a]).map (senF p)).length ≤ 100 := by
      rw [List.length_map, List.length_append]
      show ss.length + 1 ≤ 100
      omega
    refine s_ret (v := .bl true) (ev_is (ev_op (x := .bl du) (y := .bl du) (fun H1 e1 Q1 q1 => r_op (r_op (r_call (r_cons (r_ev (v := .ref sy) (ev_var rfl) fun H2 e2 => r_cons (r_call (r_cons (r_ev (v := .ref sp) (ev_var rfl) fun H3 e3 => r_cons (r_op (r_ev (v := .ref kl) (ev_var rfl) fun H4 e4 => r_lst (r_cons (r_ev (v := va) (ev_var rfl) fun H5 e5 => r_nil ⟨by show 1 ≤ sizeLine; exact sz_of (by decide), fun lz hlz => ?_⟩)))))))))))) (ev_var rfl) (rv_eq rfl)) (by cases du <;> rfl)) fun H e => k H
    have e15 := (((e1.trans e2).trans e3).trans e4).trans e5
    have ez := Ex.new (o := .lst [va]) hlz
    have e1z := e15.trans ez
    refine ⟨kl, lz, us, [va], rfl, rfl, e1z kl _ hk39, upd_same, sz_of (by show us.length + 1 ≤ 100000; omega), fun p0 hp0 => r_nil ?_⟩
    have ep := Ex.new (o := .lst (us ++ [va])) hp0
    have e1p := e1z.trans ep
    refine ⟨sp, p0, us ++ [va], p, n, ss ++ [a], rfl, hs39.mono e1p, sq_of upd_same, ?_, fun s hs => ?_, by rw [List.length_append]; show ss.length + 1 ≤ 100; omega, hsh, fun sy2 H6 e6 hsy2 => r_nil ?_⟩
    · rw [List.map_append]
      exact dpa_app (dpa_mono e1p hss39) (.cons (dp_mono e1p hva39) .nil)
    · rcases List.mem_append.mp hs with hs | hs
      · exact hok5 s hs
      · rw [List.mem_singleton.mp hs]
        exact ⟨haok, by omega⟩
    have e16 := e1p.trans e6
    refine ⟨sy, sy2, p, n, ss.map (senF p), (ss ++ [a]).map (senF p), rfl, hsy39.mono e16, hsy2, hFl, hFl3, hsh, fun hag2 t u v H7 e7 ht => ?_, fun hag2 t u H7 e7 ht => ?_⟩
    · refine r_ev ev_c fun H8 e8 => ⟨t, _, 0, .str "same", rfl, rfl, st_of (e8 t _ ht), atI_nat (j := 0) rfl, r_ev ev_c fun H9 e9 => ⟨rfl, ?_⟩⟩
      have z := q1 H9 (((((((e2.trans e3).trans e4).trans e5).trans ez).trans ep).trans e6).trans ((e7.trans e8).trans e9))
      rw [← hDU, agree_due.mp hag2] at z
      exact z
    · refine r_ev ev_c fun H8 e8 => ⟨t, _, 0, .str "unlike", rfl, rfl, st_of (e8 t _ ht), atI_nat (j := 0) rfl, r_ev ev_c fun H9 e9 => ⟨rfl, ?_⟩⟩
      have z := q1 H9 (((((((e2.trans e3).trans e4).trans e5).trans ez).trans ep).trans e6).trans ((e7.trans e8).trans e9))
      rw [← hDU, Bool.eq_false_iff.mpr fun y => hag2 (agree_due.mpr y)] at z
      exact z
end
end Z7
end

section
set_option Elab.async false
set_option linter.all false
set_option maxRecDepth 100000
set_option maxHeartbeats 0
namespace Z7
open PySem L2
/-! ### the head: facts by names -/
abbrev lw : PySem.W.OpenLaw := PySem.Challenge.rw_standingpowers_k71_whole_what_sentences
abbrev Rr : PySem.W.OpenRow := PySem.W.OpenLaw.row lw
def lawAt : Nat := 61
def bindN : Stmt → List Str
  | .FunctionDef n _ _ _ _ _ _ _ _ _ => [n]
  | .ClassDef n _ _ _ _ _ _ _ _ _ _ => [n]
  | .Assign [.Name x _] _ _ => [x]
  | _ => []
def loose : List Str := (Rr.prog.main.body.flatMap bindN).filter fun x => !(x == ("law" : Str))
def d0 : He.DefD := ⟨("raised_number", none), "raised_number", "raised_number", defArgs sRaisedNumber, defBody sRaisedNumber, defScope sRaisedNumber, [], []⟩
def d1 : He.DefD := ⟨("inverse", none), "inverse", "inverse", defArgs sInverse, defBody sInverse, defScope sInverse, [], []⟩
def d2 : He.DefD := ⟨("tuples_of", none), "tuples_of", "tuples_of", defArgs sTuplesOf, defBody sTuplesOf, defScope sTuplesOf, [], []⟩
def d3 : He.DefD := ⟨("is_name", none), "is_name", "is_name", defArgs sIsName, defBody sIsName, defScope sIsName, [], []⟩
def d4 : He.DefD := ⟨("degree_of", none), "degree_of", "degree_of", defArgs sDegreeOf, defBody sDegreeOf, defScope sDegreeOf, [], []⟩
def d5 : He.DefD := ⟨("divides", none), "divides", "divides", defArgs sDivides, defBody sDivides, defScope sDivides, [], []⟩
def d6 : He.DefD := ⟨("key_of", none), "key_of", "key_of", defArgs sKeyOf, defBody sKeyOf, defScope sKeyOf, [], []⟩
def d7 : He.DefD := ⟨("ascending", none), "ascending", "ascending", defArgs sAscending, defBody sAscending, defScope sAscending, [], []⟩
def d8 : He.DefD := ⟨("value_of", none), "value_of", "value_of", defArgs sValueOf, defBody sValueOf, defScope sValueOf, [], []⟩
def d9 : He.DefD := ⟨("Space", some "__init__"), "__init__", "Space.__init__", defArgs sSpaceInit, defBody sSpaceInit, defScope sSpaceInit, [], []⟩
def d10 : He.DefD := ⟨("Space", some "points"), "points", "Space.points", defArgs sSpacePoints, defBody sSpacePoints, defScope sSpacePoints, [], []⟩
def d11 : He.DefD := ⟨("Space", some "powers"), "powers", "Space.powers", defArgs sSpacePowers, defBody sSpacePowers, defScope sSpacePowers, [], []⟩
def d12 : He.DefD := ⟨("from_numbers", none), "from_numbers", "from_numbers", defArgs sFromNumbers, defBody sFromNumbers, defScope sFromNumbers, [], []⟩
def d13 : He.DefD := ⟨("value", none), "value", "value", defArgs sValue, defBody sValue, defScope sValue, [], []⟩
def d14 : He.DefD := ⟨("numbers_of", none), "numbers_of", "numbers_of", defArgs sNumbersOf, defBody sNumbersOf, defScope sNumbersOf, [], []⟩
def d15 : He.DefD := ⟨("polynomial_of", none), "polynomial_of", "polynomial_of", defArgs sPolynomialOf, defBody sPolynomialOf, defScope sPolynomialOf, [], []⟩
def d16 : He.DefD := ⟨("System", some "__init__"), "__init__", "System.__init__", defArgs sSystemInit, defBody sSystemInit, defScope sSystemInit, [], []⟩
def d17 : He.DefD := ⟨("System", some "is_solution"), "is_solution", "System.is_solution", defArgs sSystemIsSolution, defBody sSystemIsSolution, defScope sSystemIsSolution, [], []⟩
def d18 : He.DefD := ⟨("System", some "solutions"), "solutions", "System.solutions", defArgs sSystemSolutions, defBody sSystemSolutions, defScope sSystemSolutions, [], []⟩
def d19 : He.DefD := ⟨("factors", none), "factors", "factors", defArgs sFactors, defBody sFactors, defScope sFactors, [], []⟩
def d20 : He.DefD := ⟨("is_true", none), "is_true", "is_true", defArgs sIsTrue, defBody sIsTrue, defScope sIsTrue, [], []⟩
def d21 : He.DefD := ⟨("polynomial_of_sentence", none), "polynomial_of_sentence", "polynomial_of_sentence", defArgs sPolynomialOfSentence, defBody sPolynomialOfSentence, defScope sPolynomialOfSentence, [], []⟩
def d22 : He.DefD := ⟨("system_of", none), "system_of", "system_of", defArgs sSystemOf, defBody sSystemOf, defScope sSystemOf, [], []⟩
def d23 : He.DefD := ⟨("follows", none), "follows", "follows", defArgs sFollows, defBody sFollows, defScope sFollows, [], []⟩
def d24 : He.DefD := ⟨("Rows", some "__init__"), "__init__", "Rows.__init__", defArgs sRowsInit, defBody sRowsInit, defScope sRowsInit, [], []⟩
def d25 : He.DefD := ⟨("Rows", some "lessened"), "lessened", "Rows.lessened", defArgs sRowsLessened, defBody sRowsLessened, defScope sRowsLessened, [], []⟩
def d26 : He.DefD := ⟨("Rows", some "keep"), "keep", "Rows.keep", defArgs sRowsKeep, defBody sRowsKeep, defScope sRowsKeep, [], []⟩
def d27 : He.DefD := ⟨("Rows", some "take"), "take", "Rows.take", defArgs sRowsTake, defBody sRowsTake, defScope sRowsTake, [], []⟩
def d28 : He.DefD := ⟨("walk", none), "walk", "walk", defArgs sWalk, defBody sWalk, defScope sWalk, [], []⟩
def d29 : He.DefD := ⟨("basis", none), "basis", "basis", defArgs sBasis, defBody sBasis, defScope sBasis, [], []⟩
def d30 : He.DefD := ⟨("Paper", some "__init__"), "__init__", "Paper.__init__", defArgs sPaperInit, defBody sPaperInit, defScope sPaperInit, [], []⟩
def d31 : He.DefD := ⟨("paper_of", none), "paper_of", "paper_of", defArgs sPaperOf, defBody sPaperOf, defScope sPaperOf, [], []⟩
def d32 : He.DefD := ⟨("compare", none), "compare", "compare", defArgs sCompare, defBody sCompare, defScope sCompare, [], []⟩
def d33 : He.DefD := ⟨("_law_cell", none), "_law_cell", "_law_cell", defArgs sLawCell, defBody sLawCell, defScope sLawCell, [], []⟩
def d34 : He.DefD := ⟨("_law_digits", none), "_law_digits", "_law_digits", defArgs sLawDigits, defBody sLawDigits, defScope sLawDigits, [], []⟩
def d35 : He.DefD := ⟨("_law_shape", none), "_law_shape", "_law_shape", defArgs sLawShape, defBody sLawShape, defScope sLawShape, [], []⟩
def d36 : He.DefD := ⟨("_law_names", none), "_law_names", "_law_names", defArgs sLawNames, defBody sLawNames, defScope sLawNames, [], []⟩
def d37 : He.DefD := ⟨("_law_points", none), "_law_points", "_law_points", defArgs sLawPoints, defBody sLawPoints, defScope sLawPoints, [], []⟩
def d38 : He.DefD := ⟨("_law_made", none), "_law_made", "_law_made", defArgs sLawMade, defBody sLawMade, defScope sLawMade, [], []⟩
def d39 : He.DefD := ⟨("_law_drawn", none), "_law_drawn", "_law_drawn", defArgs sLawDrawn, defBody sLawDrawn, defScope sLawDrawn, [], []⟩
def d40 : He.DefD := ⟨("_law_power_value", none), "_law_power_value", "_law_power_value", defArgs sLawPowerValue, defBody sLawPowerValue, defScope sLawPowerValue, [], []⟩
def d41 : He.DefD := ⟨("_law_value", none), "_law_value", "_law_value", defArgs sLawValue, defBody sLawValue, defScope sLawValue, [], []⟩
def d42 : He.DefD := ⟨("_law_constant", none), "_law_constant", "_law_constant", defArgs sLawConstant, defBody sLawConstant, defScope sLawConstant, [], []⟩
def d43 : He.DefD := ⟨("_law_unknown", none), "_law_unknown", "_law_unknown", defArgs sLawUnknown, defBody sLawUnknown, defScope sLawUnknown, [], []⟩
def d44 : He.DefD := ⟨("_law_take", none), "_law_take", "_law_take", defArgs sLawTake, defBody sLawTake, defScope sLawTake, [], []⟩
def d45 : He.DefD := ⟨("_law_sentence", none), "_law_sentence", "_law_sentence", defArgs sLawSentence, defBody sLawSentence, defScope sLawSentence, [], []⟩
def d46 : He.DefD := ⟨("_law_some_sentence", none), "_law_some_sentence", "_law_some_sentence", defArgs sLawSomeSentence, defBody sLawSomeSentence, defScope sLawSomeSentence, [], []⟩
def d47 : He.DefD := ⟨("_law_true", none), "_law_true", "_law_true", defArgs sLawTrue, defBody sLawTrue, defScope sLawTrue, [], []⟩
def d48 : He.DefD := ⟨("law", none), "law", "law", defArgs sLaw, defBody sLaw, defScope sLaw, [], []⟩
def fn : List He.DefD := [d0, d1, d2, d3, d4, d5, d6, d7, d8, d9, d10, d11, d12, d13, d14, d15, d16, d17, d18, d19, d20, d21, d22, d23, d24, d25, d26, d27, d28, d29, d30, d31, d32, d33, d34, d35, d36, d37, d38, d39, d40, d41, d42, d43, d44, d45, d46, d47, d48]
def fa0 : List He.Fa := [.glo "raised_number", .glo "inverse", .glo "tuples_of", .glo "is_name", .glo "degree_of", .glo "divides", .glo "key_of", .glo "ascending", .glo "value_of", .glo "from_numbers", .glo "value", .glo "numbers_of", .glo "polynomial_of", .glo "factors", .glo "is_true", .glo "polynomial_of_sentence", .glo "system_of", .glo "follows", .glo "walk", .glo "basis", .glo "paper_of", .glo "compare", .glo "_law_cell", .glo "_law_digits", .glo "_law_shape", .glo "_law_names", .glo "_law_points", .glo "_law_made", .glo "_law_drawn", .glo "_law_power_value"]
def fa1 : List He.Fa := [.glo "_law_value", .glo "_law_constant", .glo "_law_unknown", .glo "_law_take", .glo "_law_sentence", .glo "_law_some_sentence", .glo "_law_true", .glo "law", .glo "Space", .glo "System", .glo "Rows", .glo "Paper", .glo "PRIMES", .glo "MOST_OF_PRIME", .free "range", .free "len", .free "zip", .free "sum", .free "all", .free "any", .free "tuple", .free "sorted", .free "dict", .free "list", .free "set", .free "int", .free "enumerate", .int "LONGEST_NAME" 12, .int "MOST_NAMES" 8, .str "LETTERS" "abcdefghijklmnopqrstuvwxyz"]
def fa2 : List He.Fa := [.str "DIGITS" "0123456789", .cls "Space", .mkr "Space", .noat "Space" "prime", .noat "Space" "names", .noat "Space" "count", .cls "System", .mkr "System", .noat "System" "space", .noat "System" "equations", .cls "Rows", .mkr "Rows", .noat "Rows" "space", .noat "Rows" "points", .noat "Rows" "rows", .cls "Paper", .mkr "Paper", .noat "Paper" "order", .noat "Paper" "rows", .noat "Paper" "points", .meth "Space" "points", .meth "Space" "powers", .meth "System" "is_solution", .meth "System" "solutions", .meth "Rows" "lessened", .meth "Rows" "keep", .meth "Rows" "take"]
def fa : List He.Fa := fa0 ++ (fa1 ++ (fa2))
def tf : List He.Defn := [("ascending", none)]
def mopB (K : Fg) : Bool := match K.lookup (He.ga K "MOST_OF_PRIME") with
  | some ⟨.type c, none, .dict es _, sl⟩ => decide (c = "dict") && (sl.isEmpty && (intKeysB es && (atIntB es 2 8 && (atIntB es 3 5 && (atIntB es 5 3 && atIntB es 7 2)))))
  | _ => false
def exB (K : Fg) : Bool := He.tupB K "PRIMES" [.int 2, .int 3, .int 5, .int 7] && mopB K
theorem mopB_ok {K : Fg} (h : mopB K = true) : MoP K (He.ga K "MOST_OF_PRIME") 2 8 ∧ MoP K (He.ga K "MOST_OF_PRIME") 3 5 ∧ MoP K (He.ga K "MOST_OF_PRIME") 5 3 ∧ MoP K (He.ga K "MOST_OF_PRIME") 7 2 := by
  unfold mopB at h
  cases q : K.lookup (He.ga K "MOST_OF_PRIME") with
  | none =>
    rw [q] at h
    cases h
  | some o =>
    obtain ⟨oc, od, dt, osl⟩ := o
    rw [q] at h
    cases oc with
    | type c =>
      cases od with
      | none =>
        cases dt with
        | dict es n =>
          obtain ⟨h1, h2⟩ := He.ba (show (decide (c = "dict") && (osl.isEmpty && (intKeysB es && (atIntB es 2 8 && (atIntB es 3 5 && (atIntB es 5 3 && atIntB es 7 2)))))) = true from h)
          obtain ⟨h3, h4⟩ := He.ba h2
          obtain ⟨h5, h6⟩ := He.ba h4
          obtain ⟨h7, h8⟩ := He.ba h6
          obtain ⟨h9, h10⟩ := He.ba h8
          obtain ⟨h11, h12⟩ := He.ba h10
          have e1 : c = "dict" := of_decide_eq_true h1
          have e2 : osl = #[] := Array.isEmpty_iff.mp h3
          subst e1 e2
          exact ⟨⟨es, n, q, h5, h7⟩, ⟨es, n, q, h5, h9⟩, ⟨es, n, q, h5, h11⟩, ⟨es, n, q, h5, h12⟩⟩
        | _ => cases h
      | some d => cases dt <;> cases h
    | _ => cases od <;> cases dt <;> cases h
theorem fnC_of {K : Fg} {fd : FuncData} (F : FnP K "ascending" "ascending" sAscending (He.fAd K ("ascending", none)) fd) : FnC K "ascending" sAscending (He.codeOf K ("ascending", none)) (He.fAd K ("ascending", none)) fd := by
  obtain ⟨oc, od, dV, kV, doc, pm, an, cdv, ct, osl, rfl, lk, hcd, _, _⟩ := F.ex
  obtain ⟨c, rfl⟩ := He.codeIn_ref hcd
  rw [He.codeOf_eq lk rfl]
  exact ⟨oc, od, dV, kV, doc, pm, an, ct, osl, rfl, lk, hcd⟩
theorem lawAtS {w : World} {K : Fg} {h : Heap} {mg : Str → Option Value} {f : Addr} (X : K.In h) (G : h.Ns mainGlobals mg) (hfa : mg ("law" : Str) = some (.ref f)) (s : He.SaysX fa fn [] tf exB w h K) : LamX.LawAtS lw w K CX0 12 63 "_law_script" mg f h := by
  have c : He.SaysD fa fn K := s.t.d
  obtain ⟨hPR, hMO⟩ := He.ba s.more
  obtain ⟨fd0, F0⟩ := c.def_ 0 (d := d0) rfl
  obtain ⟨fd1, F1⟩ := c.def_ 1 (d := d1) rfl
  obtain ⟨fd2, F2⟩ := c.def_ 2 (d := d2) rfl
  obtain ⟨fd3, F3⟩ := c.def_ 3 (d := d3) rfl
  obtain ⟨fd4, F4⟩ := c.def_ 4 (d := d4) rfl
  obtain ⟨fd5, F5⟩ := c.def_ 5 (d := d5) rfl
  obtain ⟨fd6, F6⟩ := c.def_ 6 (d := d6) rfl
  obtain ⟨fd7, F7⟩ := c.def_ 7 (d := d7) rfl
  obtain ⟨fd8, F8⟩ := c.def_ 8 (d := d8) rfl
  obtain ⟨fd9, F9⟩ := c.def_ 9 (d := d9) rfl
  obtain ⟨fd10, F10⟩ := c.def_ 10 (d := d10) rfl
  obtain ⟨fd11, F11⟩ := c.def_ 11 (d := d11) rfl
  obtain ⟨fd12, F12⟩ := c.def_ 12 (d := d12) rfl
  obtain ⟨fd13, F13⟩ := c.def_ 13 (d := d13) rfl
  obtain ⟨fd14, F14⟩ := c.def_ 14 (d := d14) rfl
  obtain ⟨fd15, F15⟩ := c.def_ 15 (d := d15) rfl
  obtain ⟨fd16, F16⟩ := c.def_ 16 (d := d16) rfl
  obtain ⟨fd17, F17⟩ := c.def_ 17 (d := d17) rfl
  obtain ⟨fd18, F18⟩ := c.def_ 18 (d := d18) rfl
  obtain ⟨fd19, F19⟩ := c.def_ 19 (d := d19) rfl
  obtain ⟨fd20, F20⟩ := c.def_ 20 (d := d20) rfl
  obtain ⟨fd21, F21⟩ := c.def_ 21 (d := d21) rfl
  obtain ⟨fd22, F22⟩ := c.def_ 22 (d := d22) rfl
  obtain ⟨fd23, F23⟩ := c.def_ 23 (d := d23) rfl
  obtain ⟨fd24, F24⟩ := c.def_ 24 (d := d24) rfl
  obtain ⟨fd25, F25⟩ := c.def_ 25 (d := d25) rfl
  obtain ⟨fd26, F26⟩ := c.def_ 26 (d := d26) rfl
  obtain ⟨fd27, F27⟩ := c.def_ 27 (d := d27) rfl
  obtain ⟨fd28, F28⟩ := c.def_ 28 (d := d28) rfl
  obtain ⟨fd29, F29⟩ := c.def_ 29 (d := d29) rfl
  obtain ⟨fd30, F30⟩ := c.def_ 30 (d := d30) rfl
  obtain ⟨fd31, F31⟩ := c.def_ 31 (d := d31) rfl
  obtain ⟨fd32, F32⟩ := c.def_ 32 (d := d32) rfl
  obtain ⟨fd33, F33⟩ := c.def_ 33 (d := d33) rfl
  obtain ⟨fd34, F34⟩ := c.def_ 34 (d := d34) rfl
  obtain ⟨fd35, F35⟩ := c.def_ 35 (d := d35) rfl
  obtain ⟨fd36, F36⟩ := c.def_ 36 (d := d36) rfl
  obtain ⟨fd37, F37⟩ := c.def_ 37 (d := d37) rfl
  obtain ⟨fd38, F38⟩ := c.def_ 38 (d := d38) rfl
  obtain ⟨fd39, F39⟩ := c.def_ 39 (d := d39) rfl
  obtain ⟨fd40, F40⟩ := c.def_ 40 (d := d40) rfl
  obtain ⟨fd41, F41⟩ := c.def_ 41 (d := d41) rfl
  obtain ⟨fd42, F42⟩ := c.def_ 42 (d := d42) rfl
  obtain ⟨fd43, F43⟩ := c.def_ 43 (d := d43) rfl
  obtain ⟨fd44, F44⟩ := c.def_ 44 (d := d44) rfl
  obtain ⟨fd45, F45⟩ := c.def_ 45 (d := d45) rfl
  obtain ⟨fd46, F46⟩ := c.def_ 46 (d := d46) rfl
  obtain ⟨fd47, F47⟩ := c.def_ 47 (d := d47) rfl
  obtain ⟨fd48, F48⟩ := c.def_ 48 (d := d48) rfl
  have g0 := He.glo_ok X G (c.fact 0 (f := .glo "raised_number") rfl)
  have b0 : Binds K fd0 ["prime", "number", "exponent"] [] := FunD.bindsN (ps := ["prime", "number", "exponent"]) F0 fun _ _ _ _ _ _ us hl => match us, hl with | [_, _, _], _ => rfl
  have g1 := He.glo_ok X G (c.fact 1 (f := .glo "inverse") rfl)
  have b1 : Binds K fd1 ["prime", "number"] [] := FunD.bindsN (ps := ["prime", "number"]) F1 fun _ _ _ _ _ _ us hl => match us, hl with | [_, _], _ => rfl
  have g2 := He.glo_ok X G (c.fact 2 (f := .glo "tuples_of") rfl)
  have b2 : Binds K fd2 ["prime", "count"] [] := FunD.bindsN (ps := ["prime", "count"]) F2 fun _ _ _ _ _ _ us hl => match us, hl with | [_, _], _ => rfl
  have g3 := He.glo_ok X G (c.fact 3 (f := .glo "is_name") rfl)
  have b3 : Binds K fd3 ["text"] [] := FunD.bindsN (ps := ["text"]) F3 fun _ _ _ _ _ _ us hl => match us, hl with | [_], _ => rfl
  have g4 := He.glo_ok X G (c.fact 4 (f := .glo "degree_of") rfl)
  have b4 : Binds K fd4 ["power"] [] := FunD.bindsN (ps := ["power"]) F4 fun _ _ _ _ _ _ us hl => match us, hl with | [_], _ => rfl
  have g5 := He.glo_ok X G (c.fact 5 (f := .glo "divides") rfl)
  have b5 : Binds K fd5 ["one", "other"] [] := FunD.bindsN (ps := ["one", "other"]) F5 fun _ _ _ _ _ _ us hl => match us, hl with | [_, _], _ => rfl
  have g6 := He.glo_ok X G (c.fact 6 (f := .glo "key_of") rfl)
  have b6 : Binds K fd6 ["order", "power"] [] := FunD.bindsN (ps := ["order", "power"]) F6 fun _ _ _ _ _ _ us hl => match us, hl with | [_, _], _ => rfl
  have g7 := He.glo_ok X G (c.fact 7 (f := .glo "ascending") rfl)
  have b7 : Binds K fd7 ["order", "powers"] [] := FunD.bindsN (ps := ["order", "powers"]) F7 fun _ _ _ _ _ _ us hl => match us, hl with | [_, _], _ => rfl
  have g8 := He.glo_ok X G (c.fact 8 (f := .glo "value_of") rfl)
  have b8 : Binds K fd8 ["space", "power", "point"] [] := FunD.bindsN (ps := ["space", "power", "point"]) F8 fun _ _ _ _ _ _ us hl => match us, hl with | [_, _, _], _ => rfl
  have b9 : Binds K fd9 ["self", "prime", "names"] [] := FunD.bindsN (ps := ["self", "prime", "names"]) F9 fun _ _ _ _ _ _ us hl => match us, hl with | [_, _, _], _ => rfl
  have b10 : Binds K fd10 ["self"] [] := FunD.bindsN (ps := ["self"]) F10 fun _ _ _ _ _ _ us hl => match us, hl with | [_], _ => rfl
  have b11 : Binds K fd11 ["self", "order"] [] := FunD.bindsN (ps := ["self", "order"]) F11 fun _ _ _ _ _ _ us hl => match us, hl with | [_, _], _ => rfl
  have g12 := He.glo_ok X G (c.fact 9 (f := .glo "from_numbers") rfl)
  have b12 : Binds K fd12 ["space", "numbers"] [] := FunD.bindsN (ps := ["space", "numbers"]) F12 fun _ _ _ _ _ _ us hl => match us, hl with | [_, _], _ => rfl
  have g13 := He.glo_ok X G (c.fact 10 (f := .glo "value") rfl)
  have b13 : Binds K fd13 ["space", "one", "point"] [] := FunD.bindsN (ps := ["space", "one", "point"]) F13 fun _ _ _ _ _ _ us hl => match us, hl with | [_, _, _], _ => rfl
  have g14 := He.glo_ok X G (c.fact 11 (f := .glo "numbers_of") rfl)
  have b14 : Binds K fd14 ["prime", "values"] [] := FunD.bindsN (ps := ["prime", "values"]) F14 fun _ _ _ _ _ _ us hl => match us, hl with | [_, _], _ => rfl
  have g15 := He.glo_ok X G (c.fact 12 (f := .glo "polynomial_of") rfl)
  have b15 : Binds K fd15 ["space", "table"] [] := FunD.bindsN (ps := ["space", "table"]) F15 fun _ _ _ _ _ _ us hl => match us, hl with | [_, _], _ => rfl
  have b16 : Binds K fd16 ["self", "space", "equations"] [] := FunD.bindsN (ps := ["self", "space", "equations"]) F16 fun _ _ _ _ _ _ us hl => match us, hl with | [_, _, _], _ => rfl
  have b17 : Binds K fd17 ["self", "point"] [] := FunD.bindsN (ps := ["self", "point"]) F17 fun _ _ _ _ _ _ us hl => match us, hl with | [_, _], _ => rfl
  have b18 : Binds K fd18 ["self"] [] := FunD.bindsN (ps := ["self"]) F18 fun _ _ _ _ _ _ us hl => match us, hl with | [_], _ => rfl
  have g19 := He.glo_ok X G (c.fact 13 (f := .glo "factors") rfl)
  have b19 : Binds K fd19 ["system", "one"] [] := FunD.bindsN (ps := ["system", "one"]) F19 fun _ _ _ _ _ _ us hl => match us, hl with | [_, _], _ => rfl
  have g20 := He.glo_ok X G (c.fact 14 (f := .glo "is_true") rfl)
  have b20 : Binds K fd20 ["space", "sentence", "point"] [] := FunD.bindsN (ps := ["space", "sentence", "point"]) F20 fun _ _ _ _ _ _ us hl => match us, hl with | [_, _, _], _ => rfl
  have g21 := He.glo_ok X G (c.fact 15 (f := .glo "polynomial_of_sentence") rfl)
  have b21 : Binds K fd21 ["space", "sentence"] [] := FunD.bindsN (ps := ["space", "sentence"]) F21 fun _ _ _ _ _ _ us hl => match us, hl with | [_, _], _ => rfl
  have g22 := He.glo_ok X G (c.fact 16 (f := .glo "system_of") rfl)
  have b22 : Binds K fd22 ["space", "sentences"] [] := FunD.bindsN (ps := ["space", "sentences"]) F22 fun _ _ _ _ _ _ us hl => match us, hl with | [_, _], _ => rfl
  have g23 := He.glo_ok X G (c.fact 17 (f := .glo "follows") rfl)
  have b23 : Binds K fd23 ["system", "one"] [] := FunD.bindsN (ps := ["system", "one"]) F23 fun _ _ _ _ _ _ us hl => match us, hl with | [_, _], _ => rfl
  have b24 : Binds K fd24 ["self", "space", "points"] [] := FunD.bindsN (ps := ["self", "space", "points"]) F24 fun _ _ _ _ _ _ us hl => match us, hl with | [_, _, _], _ => rfl
  have b25 : Binds K fd25 ["self", "values", "numbers"] [] := FunD.bindsN (ps := ["self", "values", "numbers"]) F25 fun _ _ _ _ _ _ us hl => match us, hl with | [_, _, _], _ => rfl
  have b26 : Binds K fd26 ["self", "values", "numbers"] [] := FunD.bindsN (ps := ["self", "values", "numbers"]) F26 fun _ _ _ _ _ _ us hl => match us, hl with | [_, _, _], _ => rfl
  have b27 : Binds K fd27 ["self", "power"] [] := FunD.bindsN (ps := ["self", "power"]) F27 fun _ _ _ _ _ _ us hl => match us, hl with | [_, _], _ => rfl
  have g28 := He.glo_ok X G (c.fact 18 (f := .glo "walk") rfl)
  have b28 : Binds K fd28 ["space", "points", "order"] [] := FunD.bindsN (ps := ["space", "points", "order"]) F28 fun _ _ _ _ _ _ us hl => match us, hl with | [_, _, _], _ => rfl
  have g29 := He.glo_ok X G (c.fact 19 (f := .glo "basis") rfl)
  have b29 : Binds K fd29 ["space", "points", "order"] [] := FunD.bindsN (ps := ["space", "points", "order"]) F29 fun _ _ _ _ _ _ us hl => match us, hl with | [_, _, _], _ => rfl
  have b30 : Binds K fd30 ["self", "order", "rows", "points"] [] := FunD.bindsN (ps := ["self", "order", "rows", "points"]) F30 fun _ _ _ _ _ _ us hl => match us, hl with | [_, _, _, _], _ => rfl
  have g31 := He.glo_ok X G (c.fact 20 (f := .glo "paper_of") rfl)
  have b31 : Binds K fd31 ["system", "order"] [] := FunD.bindsN (ps := ["system", "order"]) F31 fun _ _ _ _ _ _ us hl => match us, hl with | [_, _], _ => rfl
  have g32 := He.glo_ok X G (c.fact 21 (f := .glo "compare") rfl)
  have b32 : Binds K fd32 ["one", "other"] [] := FunD.bindsN (ps := ["one", "other"]) F32 fun _ _ _ _ _ _ us hl => match us, hl with | [_, _], _ => rfl
  have g33 := He.glo_ok X G (c.fact 22 (f := .glo "_law_cell") rfl)
  have b33 : Binds K fd33 ["_law_script", "_law_k"] [] := FunD.bindsN (ps := ["_law_script", "_law_k"]) F33 fun _ _ _ _ _ _ us hl => match us, hl with | [_, _], _ => rfl
  have g34 := He.glo_ok X G (c.fact 23 (f := .glo "_law_digits") rfl)
  have b34 : Binds K fd34 ["_law_cell_here", "_law_many", "_law_count"] [] := FunD.bindsN (ps := ["_law_cell_here", "_law_many", "_law_count"]) F34 fun _ _ _ _ _ _ us hl => match us, hl with | [_, _, _], _ => rfl
  have g35 := He.glo_ok X G (c.fact 24 (f := .glo "_law_shape") rfl)
  have b35 : Binds K fd35 ["_law_cell_here"] [] := FunD.bindsN (ps := ["_law_cell_here"]) F35 fun _ _ _ _ _ _ us hl => match us, hl with | [_], _ => rfl
  have g36 := He.glo_ok X G (c.fact 25 (f := .glo "_law_names") rfl)
  have b36 : Binds K fd36 ["_law_cell_here", "_law_count"] [] := FunD.bindsN (ps := ["_law_cell_here", "_law_count"]) F36 fun _ _ _ _ _ _ us hl => match us, hl with | [_, _], _ => rfl
  have g37 := He.glo_ok X G (c.fact 26 (f := .glo "_law_points") rfl)
  have b37 : Binds K fd37 ["_law_prime", "_law_count"] [] := FunD.bindsN (ps := ["_law_prime", "_law_count"]) F37 fun _ _ _ _ _ _ us hl => match us, hl with | [_, _], _ => rfl
  have g38 := He.glo_ok X G (c.fact 27 (f := .glo "_law_made") rfl)
  have b38 : Binds K fd38 ["_law_prime", "_law_numbers"] [] := FunD.bindsN (ps := ["_law_prime", "_law_numbers"]) F38 fun _ _ _ _ _ _ us hl => match us, hl with | [_, _], _ => rfl
  have g39 := He.glo_ok X G (c.fact 28 (f := .glo "_law_drawn") rfl)
  have b39 : Binds K fd39 ["_law_prime", "_law_count", "_law_cell_here"] [] := FunD.bindsN (ps := ["_law_prime", "_law_count", "_law_cell_here"]) F39 fun _ _ _ _ _ _ us hl => match us, hl with | [_, _, _], _ => rfl
  have g40 := He.glo_ok X G (c.fact 29 (f := .glo "_law_power_value") rfl)
  have b40 : Binds K fd40 ["_law_prime", "_law_power", "_law_point"] [] := FunD.bindsN (ps := ["_law_prime", "_law_power", "_law_point"]) F40 fun _ _ _ _ _ _ us hl => match us, hl with | [_, _, _], _ => rfl
  have g41 := He.glo_ok X G (c.fact 30 (f := .glo "_law_value") rfl)
  have b41 : Binds K fd41 ["_law_prime", "_law_one", "_law_point"] [] := FunD.bindsN (ps := ["_law_prime", "_law_one", "_law_point"]) F41 fun _ _ _ _ _ _ us hl => match us, hl with | [_, _, _], _ => rfl
  have g42 := He.glo_ok X G (c.fact 31 (f := .glo "_law_constant") rfl)
  have b42 : Binds K fd42 ["_law_prime", "_law_count", "_law_number"] [] := FunD.bindsN (ps := ["_law_prime", "_law_count", "_law_number"]) F42 fun _ _ _ _ _ _ us hl => match us, hl with | [_, _, _], _ => rfl
  have g43 := He.glo_ok X G (c.fact 32 (f := .glo "_law_unknown") rfl)
  have b43 : Binds K fd43 ["_law_count", "_law_index"] [] := FunD.bindsN (ps := ["_law_count", "_law_index"]) F43 fun _ _ _ _ _ _ us hl => match us, hl with | [_, _], _ => rfl
  have g44 := He.glo_ok X G (c.fact 33 (f := .glo "_law_take") rfl)
  have b44 : Binds K fd44 ["_law_state", "_law_many"] [] := FunD.bindsN (ps := ["_law_state", "_law_many"]) F44 fun _ _ _ _ _ _ us hl => match us, hl with | [_, _], _ => rfl
  have g45 := He.glo_ok X G (c.fact 34 (f := .glo "_law_sentence") rfl)
  have b45 : Binds K fd45 ["_law_prime", "_law_count", "_law_state", "_law_depth"] [] := FunD.bindsN (ps := ["_law_prime", "_law_count", "_law_state", "_law_depth"]) F45 fun _ _ _ _ _ _ us hl => match us, hl with | [_, _, _, _], _ => rfl
  have g46 := He.glo_ok X G (c.fact 35 (f := .glo "_law_some_sentence") rfl)
  have b46 : Binds K fd46 ["_law_prime", "_law_count", "_law_cell_here", "_law_depth"] [] := FunD.bindsN (ps := ["_law_prime", "_law_count", "_law_cell_here", "_law_depth"]) F46 fun _ _ _ _ _ _ us hl => match us, hl with | [_, _, _, _], _ => rfl
  have g47 := He.glo_ok X G (c.fact 36 (f := .glo "_law_true") rfl)
  have b47 : Binds K fd47 ["_law_prime", "_law_sentence_here", "_law_point"] [] := FunD.bindsN (ps := ["_law_prime", "_law_sentence_here", "_law_point"]) F47 fun _ _ _ _ _ _ us hl => match us, hl with | [_, _, _], _ => rfl
  have g48 := He.glo_ok X G (c.fact 37 (f := .glo "law") rfl)
  have b48 : Binds K fd48 ["_law_script"] [] := FunD.bindsN (ps := ["_law_script"]) F48 fun _ _ _ _ _ _ us hl => match us, hl with | [_], _ => rfl
  have e := hfa.symm.trans g48
  cases e
  have B : Bi mg := ⟨He.free_ok X G (c.fact 44 (f := .free "range") rfl), He.free_ok X G (c.fact 45 (f := .free "len") rfl), He.free_ok X G (c.fact 46 (f := .free "zip") rfl), He.free_ok X G (c.fact 47 (f := .free "sum") rfl), He.free_ok X G (c.fact 48 (f := .free "all") rfl), He.free_ok X G (c.fact 49 (f := .free "any") rfl), He.free_ok X G (c.fact 50 (f := .free "tuple") rfl), He.free_ok X G (c.fact 51 (f := .free "sorted") rfl), He.free_ok X G (c.fact 52 (f := .free "dict") rfl), He.free_ok X G (c.fact 53 (f := .free "list") rfl), He.free_ok X G (c.fact 54 (f := .free "set") rfl), He.free_ok X G (c.fact 55 (f := .free "int") rfl), He.free_ok X G (c.fact 56 (f := .free "enumerate") rfl)⟩
  have GC : Gc K mg := ⟨He.int_ok X G (c.fact 57 (f := .int "LONGEST_NAME" 12) rfl), He.int_ok X G (c.fact 58 (f := .int "MOST_NAMES" 8) rfl), He.str_ok X G (c.fact 59 (f := .str "LETTERS" "abcdefghijklmnopqrstuvwxyz") rfl), He.str_ok X G (c.fact 60 (f := .str "DIGITS" "0123456789") rfl), ⟨_, He.glo_ok X G (c.fact 42 (f := .glo "PRIMES") rfl), fun H => He.tupB_ok hPR H⟩, ⟨_, He.glo_ok X G (c.fact 43 (f := .glo "MOST_OF_PRIME") rfl), mopB_ok hMO⟩⟩
  have SF : ClsF K (He.ga K "Space") ["prime", "names", "count"] := ⟨He.cls_ok (c.fact 61 (f := .cls "Space") rfl), fun z hz => by
    simp only [List.mem_cons, List.not_mem_nil, or_false] at hz
    rcases hz with rfl | rfl | rfl
    · exact He.noat_ok (c.fact 63 (f := .noat "Space" "prime") rfl)
    · exact He.noat_ok (c.fact 64 (f := .noat "Space" "names") rfl)
    · exact He.noat_ok (c.fact 65 (f := .noat "Space" "count") rfl)
    ⟩
  have SY : ClsF K (He.ga K "System") ["space", "equations"] := ⟨He.cls_ok (c.fact 66 (f := .cls "System") rfl), fun z hz => by
    simp only [List.mem_cons, List.not_mem_nil, or_false] at hz
    rcases hz with rfl | rfl
    · exact He.noat_ok (c.fact 68 (f := .noat "System" "space") rfl)
    · exact He.noat_ok (c.fact 69 (f := .noat "System" "equations") rfl)
    ⟩
  have RW : ClsF K (He.ga K "Rows") ["space", "points", "rows"] := ⟨He.cls_ok (c.fact 70 (f := .cls "Rows") rfl), fun z hz => by
    simp only [List.mem_cons, List.not_mem_nil, or_false] at hz
    rcases hz with rfl | rfl | rfl
    · exact He.noat_ok (c.fact 72 (f := .noat "Rows" "space") rfl)
    · exact He.noat_ok (c.fact 73 (f := .noat "Rows" "points") rfl)
    · exact He.noat_ok (c.fact 74 (f := .noat "Rows" "rows") rfl)
    ⟩
  have PA : ClsF K (He.ga K "Paper") ["order", "rows", "points"] := ⟨He.cls_ok (c.fact 75 (f := .cls "Paper") rfl), fun z hz => by
    simp only [List.mem_cons, List.not_mem_nil, or_false] at hz
    rcases hz with rfl | rfl | rfl
    · exact He.noat_ok (c.fact 77 (f := .noat "Paper" "order") rfl)
    · exact He.noat_ok (c.fact 78 (f := .noat "Paper" "rows") rfl)
    · exact He.noat_ok (c.fact 79 (f := .noat "Paper" "points") rfl)
    ⟩
  refine ⟨fd48, [He.cT K ("ascending", none)], spLaw K (He.cT K ("ascending", none)).2, fun p hp => ?_, fun p hp => ?_, fun p hp => ?_, fun s u => FunD.bindsA (ps := ["_law_script"]) F48 (fun _ _ _ _ _ _ us hl => match us, hl with | [_], _ => rfl) s [u] rfl, fun H a ns hn _ hT hS => ⟨a, ns, rfl, hS, hT _ List.mem_cons_self, fun _ => rfl⟩, fun base XB GB TBs => ?_⟩
  · rw [List.mem_singleton.mp hp]
    exact s.empty _ List.mem_cons_self
  · rw [List.mem_singleton.mp hp]
    exact s.out _ List.mem_cons_self
  · rw [List.mem_singleton.mp hp]
    exact PySem.W.codeHd_of_K X (s.hd _ List.mem_cons_self)
  have TB := TBs _ List.mem_cons_self
  generalize hTT : (He.cT K ("ascending", none)).2 = T at TB
  have raised : Cal lw.prog w K mg base 1 "raised_number" ["prime", "number", "exponent"] spRaised := ⟨_, fd0, ok_raised F0 B, g0, F0.kp, b0⟩
  have inverse : Cal lw.prog w K mg base 2 "inverse" ["prime", "number"] spInverse := ⟨_, fd1, ok_inverse F1 raised, g1, F1.kp, b1⟩
  have tuples : Cal lw.prog w K mg base 1 "tuples_of" ["prime", "count"] spTuples := ⟨_, fd2, ok_tuples F2 B, g2, F2.kp, b2⟩
  have isname : Cal lw.prog w K mg base 1 "is_name" ["text"] spIsName := ⟨_, fd3, ok_isname F3 B GC, g3, F3.kp, b3⟩
  have degree : Cal lw.prog w K mg base 1 "degree_of" ["power"] (spDegree K) := ⟨_, fd4, ok_degree F4 B, g4, F4.kp, b4⟩
  have divides : Cal lw.prog w K mg base 1 "divides" ["one", "other"] (spDivides K) := ⟨_, fd5, ok_divides F5 B, g5, F5.kp, b5⟩
  have keyof : Cal lw.prog w K mg base 2 "key_of" ["order", "power"] (spKeyOf K) := ⟨_, fd6, ok_keyof F6 degree, g6, F6.kp, b6⟩
  have ascending : Cal lw.prog w K mg base 7 "ascending" ["order", "powers"] (spAscending K T) := ⟨_, fd7, ok_ascending (fnC_of F7) B TB keyof, g7, F7.kp, b7⟩
  have valueof : Cal lw.prog w K mg base 2 "value_of" ["space", "power", "point"] (spValueOf K (He.ga K "Space")) := ⟨_, fd8, ok_valueof F8 B SF raised, g8, F8.kp, b8⟩
  have spaceI : CCal lw.prog w K mg base 2 (He.ga K "Space") "Space" ["self", "prime", "names"] (spSpaceI K (He.ga K "Space")) := ⟨_, fd9, ok_spaceI F9 B GC SF isname, He.mkr_ok (c.fact 62 (f := .mkr "Space") rfl), He.glo_ok X G (c.fact 38 (f := .glo "Space") rfl), b9⟩
  have points : MCal lw.prog w K mg base 2 (He.ga K "Space") "points" ["self"] (spPoints (He.ga K "Space")) := ⟨_, fd10, ok_points F10 SF tuples, He.meth_ok (c.fact 80 (f := .meth "Space" "points") rfl), b10⟩
  have powers : MCal lw.prog w K mg base 8 (He.ga K "Space") "powers" ["self", "order"] (spPowers K (He.ga K "Space") T) := ⟨_, fd11, ok_powers F11 SF SF.cl points ascending, He.meth_ok (c.fact 81 (f := .meth "Space" "powers") rfl), b11⟩
  have fromn : Cal lw.prog w K mg base 1 "from_numbers" ["space", "numbers"] (spFromN K (He.ga K "Space")) := ⟨_, fd12, ok_fromn F12 B SF, g12, F12.kp, b12⟩
  have value : Cal lw.prog w K mg base 3 "value" ["space", "one", "point"] (spValue K (He.ga K "Space")) := ⟨_, fd13, ok_value F13 B SF valueof, g13, F13.kp, b13⟩
  have numbersof : Cal lw.prog w K mg base 2 "numbers_of" ["prime", "values"] (spNumbersOf K) := ⟨_, fd14, ok_numbersof F14 B raised, g14, F14.kp, b14⟩
  have polyof : Cal lw.prog w K mg base 3 "polynomial_of" ["space", "table"] (spPolyOf K (He.ga K "Space")) := ⟨_, fd15, ok_polyof F15 B SF points numbersof fromn, g15, F15.kp, b15⟩
  have sysI : CCal lw.prog w K mg base 1 (He.ga K "System") "System" ["self", "space", "equations"] (spSysI K (He.ga K "System") (He.ga K "Space")) := ⟨_, fd16, ok_sysI F16 B SY, He.mkr_ok (c.fact 67 (f := .mkr "System") rfl), He.glo_ok X G (c.fact 39 (f := .glo "System") rfl), b16⟩
  have issol : MCal lw.prog w K mg base 4 (He.ga K "System") "is_solution" ["self", "point"] (spIsSol K (He.ga K "System") (He.ga K "Space")) := ⟨_, fd17, ok_issol F17 B SY value, He.meth_ok (c.fact 82 (f := .meth "System" "is_solution") rfl), b17⟩
  have sols : MCal lw.prog w K mg base 5 (He.ga K "System") "solutions" ["self"] (spSols K (He.ga K "System") (He.ga K "Space")) := ⟨_, fd18, ok_sols F18 B SY SF points issol, He.meth_ok (c.fact 83 (f := .meth "System" "solutions") rfl), b18⟩
  have factors : Cal lw.prog w K mg base 4 "factors" ["system", "one"] (spFactors K (He.ga K "System") (He.ga K "Space")) := ⟨_, fd19, ok_factors F19 B SY SF points value inverse polyof, g19, F19.kp, b19⟩
  have istrue : Cal lw.prog w K mg base 9 "is_true" ["space", "sentence", "point"] (spIsTrue K (He.ga K "Space") 5) := ⟨_, fd20, ok_istrue F20 B value g20 b20 5, g20, F20.kp, b20⟩
  have polsen : Cal lw.prog w K mg base 10 "polynomial_of_sentence" ["space", "sentence"] (spPolSen K (He.ga K "Space")) := ⟨_, fd21, ok_polsen F21 B SF points istrue polyof, g21, F21.kp, b21⟩
  have systemof : Cal lw.prog w K mg base 11 "system_of" ["space", "sentences"] (spSystemOf K (He.ga K "System") (He.ga K "Space")) := ⟨_, fd22, ok_systemof F22 B polsen sysI, g22, F22.kp, b22⟩
  have follows : Cal lw.prog w K mg base 6 "follows" ["system", "one"] (spFollows K (He.ga K "System") (He.ga K "Space")) := ⟨_, fd23, ok_follows F23 B SY SF factors sols value, g23, F23.kp, b23⟩
  have rowsI : CCal lw.prog w K mg base 1 (He.ga K "Rows") "Rows" ["self", "space", "points"] (spRowsI K (He.ga K "Rows") (He.ga K "Space")) := ⟨_, fd24, ok_rowsI F24 RW, He.mkr_ok (c.fact 71 (f := .mkr "Rows") rfl), He.glo_ok X G (c.fact 40 (f := .glo "Rows") rfl), b24⟩
  have less : MCal lw.prog w K mg base 1 (He.ga K "Rows") "lessened" ["self", "values", "numbers"] (spLess K (He.ga K "Rows") (He.ga K "Space")) := ⟨_, fd25, ok_less F25 B RW SF, He.meth_ok (c.fact 84 (f := .meth "Rows" "lessened") rfl), b25⟩
  have keep : MCal lw.prog w K mg base 3 (He.ga K "Rows") "keep" ["self", "values", "numbers"] (spKeep K (He.ga K "Rows") (He.ga K "Space")) := ⟨_, fd26, ok_keep F26 B RW SF inverse, He.meth_ok (c.fact 85 (f := .meth "Rows" "keep") rfl), b26⟩
  have take : MCal lw.prog w K mg base 4 (He.ga K "Rows") "take" ["self", "power"] (spTake K (He.ga K "Rows") (He.ga K "Space")) := ⟨_, fd27, ok_take F27 B RW SF valueof less keep fromn, He.meth_ok (c.fact 86 (f := .meth "Rows" "take") rfl), b27⟩
  have walk : Cal lw.prog w K mg base 9 "walk" ["space", "points", "order"] (spWalk K (He.ga K "Space") T) := ⟨_, fd28, ok_walk F28 B RW SF rowsI powers divides take, g28, F28.kp, b28⟩
  have basis : Cal lw.prog w K mg base 10 "basis" ["space", "points", "order"] (spBasis K (He.ga K "Space") T) := ⟨_, fd29, ok_basis F29 walk, g29, F29.kp, b29⟩
  have paperI : CCal lw.prog w K mg base 1 (He.ga K "Paper") "Paper" ["self", "order", "rows", "points"] (spPaperI K (He.ga K "Paper")) := ⟨_, fd30, ok_paperI F30 B PA, He.mkr_ok (c.fact 76 (f := .mkr "Paper") rfl), He.glo_ok X G (c.fact 41 (f := .glo "Paper") rfl), b30⟩
  have paperof : Cal lw.prog w K mg base 11 "paper_of" ["system", "order"] (spPaperOf K (He.ga K "Paper") (He.ga K "System") (He.ga K "Space") T) := ⟨_, fd31, ok_paperof F31 B SY SF sols basis factors paperI, g31, F31.kp, b31⟩
  have compare : Cal lw.prog w K mg base 5 "compare" ["one", "other"] (spCompare K (He.ga K "System") (He.ga K "Space")) := ⟨_, fd32, ok_compare F32 B SY SF points factors issol, g32, F32.kp, b32⟩
  have lcell : Cal lw.prog w K mg base 1 "_law_cell" ["_law_script", "_law_k"] (spCellA K) := ⟨_, fd33, ok_cell F33 B, g33, F33.kp, b33⟩
  have ldigits : Cal lw.prog w K mg base 1 "_law_digits" ["_law_cell_here", "_law_many", "_law_count"] spDigits := ⟨_, fd34, ok_digits F34 B, g34, F34.kp, b34⟩
  have lshape : Cal lw.prog w K mg base 1 "_law_shape" ["_law_cell_here"] spShape := ⟨_, fd35, ok_shape F35 B, g35, F35.kp, b35⟩
  have lnames : Cal lw.prog w K mg base 1 "_law_names" ["_law_cell_here", "_law_count"] spNames := ⟨_, fd36, ok_names F36 B, g36, F36.kp, b36⟩
  have lpoints : Cal lw.prog w K mg base 1 "_law_points" ["_law_prime", "_law_count"] spTuples := ⟨_, fd37, ok_lpoints F37 B, g37, F37.kp, b37⟩
  have lmade : Cal lw.prog w K mg base 1 "_law_made" ["_law_prime", "_law_numbers"] (spMade K) := ⟨_, fd38, ok_made F38 B, g38, F38.kp, b38⟩
  have ldrawn : Cal lw.prog w K mg base 2 "_law_drawn" ["_law_prime", "_law_count", "_law_cell_here"] (spDrawn K) := ⟨_, fd39, ok_drawn F39 B ldigits lmade, g39, F39.kp, b39⟩
  have lpv : Cal lw.prog w K mg base 1 "_law_power_value" ["_law_prime", "_law_power", "_law_point"] (spLPv K) := ⟨_, fd40, ok_lpv F40 B, g40, F40.kp, b40⟩
  have lval : Cal lw.prog w K mg base 2 "_law_value" ["_law_prime", "_law_one", "_law_point"] (spLVal K) := ⟨_, fd41, ok_lval F41 B lpv, g41, F41.kp, b41⟩
  have lconst : Cal lw.prog w K mg base 2 "_law_constant" ["_law_prime", "_law_count", "_law_number"] (spConst K) := ⟨_, fd42, ok_const F42 B lmade, g42, F42.kp, b42⟩
  have lunk : Cal lw.prog w K mg base 1 "_law_unknown" ["_law_count", "_law_index"] (spUnk K) := ⟨_, fd43, ok_unk F43 B, g43, F43.kp, b43⟩
  have ltake : Cal lw.prog w K mg base 1 "_law_take" ["_law_state", "_law_many"] spTake2 := ⟨_, fd44, ok_ltake F44 B, g44, F44.kp, b44⟩
  have lsen : Cal lw.prog w K mg base 5 "_law_sentence" ["_law_prime", "_law_count", "_law_state", "_law_depth"] (spLSen K 2) := ⟨_, fd45, ok_lsen F45 B ltake ldrawn lunk g45 b45 2, g45, F45.kp, b45⟩
  have lsome : Cal lw.prog w K mg base 6 "_law_some_sentence" ["_law_prime", "_law_count", "_law_cell_here", "_law_depth"] (spSome K) := ⟨_, fd46, ok_some F46 ldigits lsen, g46, F46.kp, b46⟩
  have ltrue : Cal lw.prog w K mg base 7 "_law_true" ["_law_prime", "_law_sentence_here", "_law_point"] (spLTrue K 4) := ⟨_, fd47, ok_ltrue F47 B lval g47 b47 4, g47, F47.kp, b47⟩
  exact ok_law F48 B SY SF PA lcell lshape lnames spaceI lsome lpoints ltrue systemof sols follows polsen paperof lconst compare
end Z7
end

section
set_option Elab.async false
set_option linter.all false
set_option maxRecDepth 100000
set_option maxHeartbeats 0
namespace Z7
open PySem L2
abbrev hk : PySem.W.Hook := He.hookX 5 fa fn [] tf exB
def ob (s : PySem.W.SharedT) : He.AlX := He.obsX 5 fa fn [] tf exB (HandSHeadRun.getT s)
theorem ob_eq (s : PySem.W.SharedT) : ob s = hk.obs s.abs := He.obsX_eq (HandSHeadRun.getT_eq s)
theorem run (w : World) : HandSHeadRun.RunEq Rr (PySem.W.view Rr.prog [lawAt]) hk ob 3500 loose w := PySem.W.byRow2 "special-get-raises" (P := fun w => HandSHeadRun.RunEq Rr (PySem.W.view Rr.prog [lawAt]) hk ob 3500 loose w) (fun w => by
  intro os
  kernel_rfl) (fun w => by
  intro os
  kernel_rfl) w
end Z7
open PySem PySem.W PySem.Calls PyProof.Rows
theorem PySem.Challenge.cw_standingpowers_k71_whole_what_sentences_holds : PySem.Challenge.rw_standingpowers_k71_whole_what_sentences.Holds := by
  w_on; o_law
  refine HandSHeadRun.head_any (r := OpenLaw.row PySem.Challenge.rw_standingpowers_k71_whole_what_sentences) (q := view (OpenLaw.row PySem.Challenge.rw_standingpowers_k71_whole_what_sentences).prog [Z7.lawAt]) (H := Z7.hk) (ob := Z7.ob) (M := 3500) (loose := Z7.loose) (d := HandSHeadRun.topDef (OpenLaw.row PySem.Challenge.rw_standingpowers_k71_whole_what_sentences).prog Z7.lawAt) (kwd := []) Z7.ob_eq
    (by kernel_rfl) (fun s => by kernel_rfl) Z7.run (by kernel_rfl) (by kernel_rfl) (by kernel_rfl) (by rfl) (by first | assumption | decide +kernel) (by decide +kernel) ⟨rfl, rfl, rfl, rfl, rfl, by decide +kernel⟩ ?hw ?hc
  case hw => w_witness2
  case hc =>
    refine LamX.walk_ofTsE (l := PySem.Challenge.rw_standingpowers_k71_whole_what_sentences) (n := 63) (k := 12) (x := "_law_script") (CX := fun _ => L2.CX0) rfl (by decide) (by kernel_rfl) ⟨rfl, by decide, by decide⟩ ?F (fun _ _ _ _ _ z => z)
    intro w mg fa h Y G hmg0
    obtain ⟨K, KX, c⟩ := Y
    have hmg : mg ("law" : PySem.Str) = some (.ref fa) := by
      have e : (HandSHeadRun.topDef (OpenLaw.row PySem.Challenge.rw_standingpowers_k71_whole_what_sentences).prog Z7.lawAt).name = ("law" : PySem.Str) := by kernel_rfl
      rw [← e]
      exact hmg0
    exact ⟨K, KX, Z7.lawAtS KX G hmg c⟩
end
