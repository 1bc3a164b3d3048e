import PyProof.Rows.All
import Wide.All
import OpenK.AllK
import Wide.FinOn
import HandS.ForMost
import KE.GoesEnum
import HandS.Walk
import KE.SortData
import KE.KDictCopyH
import HandS.TupAny
import HandS.Evl
import HandS.Wide
import HandS.IsInst
import PySem.Challenge.RW_servedalone_k61_whole_rounds_write_as_th
set_option Elab.async false
set_option linter.all false
/-! Nets in plain Lean: what the program reckons, what the law reckons, and that both are the same. -/
namespace SA
abbrev Vec := List Int
abbrev Mat := List Vec
structure Lay where
  q : Mat
  k : Mat
  v : Mat
  f : Mat
  s : Mat
structure NetD where
  p : Int
  emb : Mat
  sh : Vec
  lay : List Lay
  out : Mat
abbrev Pair := Vec × Vec
abbrev RowD := List Pair × Vec

def dot (a b : Vec) : Int := (List.zipWith (fun x y => x * y) a b).sum
def tim (p : Int) (m : Mat) (v : Vec) : Vec := m.map fun r => dot r v % p
def plu (p : Int) (a b : Vec) : Vec := List.zipWith (fun x y => (x + y) % p) a b
def scl (c : Int) (v : Vec) : Vec := v.map fun x => c * x
def sq (v : Vec) : Vec := v.map fun n => n * n
def zer (v : Vec) : Vec := v.map fun _ => 0
/-- the program's looked_at -/
def lookF (p : Int) (q : Vec) (f : Vec) (kv : Pair) : Vec := plu p f (scl (dot q kv.1) kv.2)
def looked (p : Int) (q : Vec) (prs : List Pair) : Vec := prs.foldl (lookF p q) (zer q)
/-- the law's way: x goes on pair by pair -/
def lawF (p : Int) (q : Vec) (x : Vec) (kv : Pair) : Vec := List.zipWith (fun a b => (a + dot q kv.1 % p * b) % p) x kv.2
def lawed (p : Int) (q : Vec) (x : Vec) (prs : List Pair) : Vec := prs.foldl (lawF p q) x

/-- numbers from 0 to p - 1 -/
def Bnd (p : Int) (v : Vec) : Prop := ∀ x ∈ v, 0 ≤ x ∧ x < p
/-- a vector of the width -/
def VecOk (p : Int) (W : Nat) (v : Vec) : Prop := v.length = W ∧ Bnd p v
def MatOk (p : Int) (n W : Nat) (m : Mat) : Prop := m.length = n ∧ ∀ r ∈ m, VecOk p W r
structure LayOk (p : Int) (W : Nat) (l : Lay) : Prop where
  q : MatOk p W W l.q
  k : MatOk p W W l.k
  v : MatOk p W W l.v
  f : MatOk p W W l.f
  s : MatOk p W W l.s
structure NetOk (L W : Nat) (n : NetD) : Prop where
  p2 : 2 ≤ n.p
  p97 : n.p ≤ 97
  emb : MatOk n.p L W n.emb
  sh : VecOk n.p W n.sh
  lay : ∀ l ∈ n.lay, LayOk n.p W l
  few : n.lay.length ≤ 2
  out : MatOk n.p L W n.out
  l1 : 1 ≤ L
  l4 : L ≤ 4
  w1 : 1 ≤ W
  w3 : W ≤ 3
def PairOk (p : Int) (W : Nat) (kv : Pair) : Prop := VecOk p W kv.1 ∧ VecOk p W kv.2
structure RowOk (L W : Nat) (n : NetD) (r : RowD) : Prop where
  len : r.1.length = n.lay.length
  prs : ∀ kv ∈ r.1, PairOk n.p W kv
  wl : r.2.length = L
  wb : ∀ x ∈ r.2, 1 ≤ x ∧ x ≤ n.p

/-! ### lengths and bounds -/
theorem bnd_mod {p : Int} (hp : 0 < p) (x : Int) : 0 ≤ x % p ∧ x % p < p := ⟨Int.emod_nonneg _ (by omega), Int.emod_lt_of_pos _ hp⟩
theorem tim_ok {p : Int} (hp : 0 < p) {n : Nat} {m : Mat} (hm : m.length = n) (v : Vec) : VecOk p n (tim p m v) := by
  refine ⟨by simp [tim, hm], fun x hx => ?_⟩
  obtain ⟨r, _, rfl⟩ := List.mem_map.mp hx
  exact bnd_mod hp _
theorem plu_ok {p : Int} (hp : 0 < p) {W : Nat} {a b : Vec} (ha : a.length = W) (hb : b.length = W) : VecOk p W (plu p a b) := by
  refine ⟨by simp [plu, ha, hb], fun x hx => ?_⟩
  unfold plu at hx
  rw [List.zipWith_eq_zipWith_take_min] at hx
  obtain ⟨i, hi, rfl⟩ := List.mem_iff_getElem.mp hx
  rw [List.getElem_zipWith]
  exact bnd_mod hp _
theorem lookF_ok {p : Int} (hp : 0 < p) {W : Nat} {q f : Vec} {kv : Pair} (hf : f.length = W) (hk : kv.2.length = W) : VecOk p W (lookF p q f kv) := plu_ok hp hf (by simp [scl, hk])
theorem looked_len {p : Int} (hp : 0 < p) {W : Nat} {q : Vec} : ∀ {prs : List Pair} {f : Vec}, f.length = W → (∀ kv ∈ prs, kv.2.length = W) → (prs.foldl (lookF p q) f).length = W
  | [], f, hf, _ => hf
  | kv :: r, f, hf, h => by
    rw [List.foldl_cons]
    exact looked_len hp (lookF_ok (q := q) hp hf (h kv List.mem_cons_self)).1 fun z hz => h z (List.mem_cons_of_mem _ hz)

/-! ### both ways to look at the pairs are one -/
theorem mod_one (p a z d b : Int) : (a + (z + d * b) % p) % p = ((a + z) % p + d % p * b) % p := by
  have h1 : (a + (z + d * b) % p) % p = (a + (z + d * b)) % p := by
    rw [Int.add_emod, Int.emod_emod_of_dvd _ (Int.dvd_refl p), ← Int.add_emod]
  have h2 : ((a + z) % p + d % p * b) % p = ((a + z) + d * b) % p := by
    rw [Int.add_emod, Int.emod_emod_of_dvd _ (Int.dvd_refl p), Int.mul_emod, Int.emod_emod_of_dvd _ (Int.dvd_refl p), ← Int.mul_emod, ← Int.add_emod]
  rw [h1, h2, Int.add_assoc]
theorem look_step {p : Int} {W : Nat} {q x z : Vec} {kv : Pair} (hx : x.length = W) (hz : z.length = W) (hk : kv.2.length = W) : plu p x (lookF p q z kv) = lawF p q (plu p x z) kv := by
  apply List.ext_getElem
  · simp [plu, lookF, lawF, scl, hx, hz, hk]
  · intro i h1 h2
    simp only [plu, lookF, lawF, scl, List.getElem_zipWith, List.getElem_map]
    exact mod_one _ _ _ _ _
theorem look_fold {p : Int} (hp : 0 < p) {W : Nat} {q x : Vec} (hx : x.length = W) : ∀ {prs : List Pair} {z : Vec}, z.length = W → (∀ kv ∈ prs, kv.2.length = W) → plu p x (prs.foldl (lookF p q) z) = prs.foldl (lawF p q) (plu p x z)
  | [], z, _, _ => rfl
  | kv :: r, z, hz, h => by
    rw [List.foldl_cons, List.foldl_cons, ← look_step hx hz (h kv List.mem_cons_self)]
    exact look_fold hp hx (lookF_ok hp hz (h kv List.mem_cons_self)).1 fun k hk => h k (List.mem_cons_of_mem _ hk)
theorem plu_zer {p : Int} {W : Nat} {x q : Vec} (hx : VecOk p W x) (hq : q.length = W) : plu p x (zer q) = x := by
  apply List.ext_getElem
  · simp [plu, zer, hx.1, hq]
  · intro i h1 h2
    simp only [plu, zer, List.getElem_zipWith, List.getElem_map]
    have hb := hx.2 x[i] (List.getElem_mem _)
    rw [Int.add_zero]
    exact Int.emod_eq_of_lt hb.1 hb.2
theorem looked_lawed {p : Int} (hp : 0 < p) {W : Nat} {x q : Vec} {prs : List Pair} (hx : VecOk p W x) (hq : q.length = W) (h : ∀ kv ∈ prs, kv.2.length = W) : plu p x (looked p q prs) = lawed p q x prs := by
  unfold looked lawed
  rw [look_fold hp hx.1 (by simp [zer, hq]) h, plu_zer hx hq]

/-! ### a row -/
/-- one layer: the x and the pairs so far -/
def layS (p : Int) (rows : List RowD) (st : Vec × List Pair) (i : Nat) (l : Lay) : Vec × List Pair :=
  let pr : Pair := (tim p l.k st.1, tim p l.v st.1)
  let prs := rows.map (fun r => r.1.getD i ([], [])) ++ [pr]
  let x1 := plu p st.1 (looked p (tim p l.q st.1) prs)
  (plu p x1 (tim p l.s (sq (tim p l.f x1))), st.2 ++ [pr])
def layT (p : Int) (rows : List RowD) : List Lay → Nat → Vec × List Pair → Vec × List Pair
  | [], _, st => st
  | l :: r, i, st => layT p rows r (i + 1) (layS p rows st i l)
def start0 (n : NetD) (rows : List RowD) (a : Nat) : Vec := plu n.p (n.emb.getD a []) (scl (rows.length : Nat) n.sh)
def wOf (n : NetD) (x : Vec) : Vec := n.out.map fun r => 1 + dot r x % n.p
def rowF (n : NetD) (rows : List RowD) (a : Nat) : RowD :=
  let st := layT n.p rows n.lay 0 (start0 n rows a, [])
  (st.2, wOf n st.1)
/-- the rows of letters, each behind those ahead of it -/
def rowsOf (n : NetD) (ls : List Nat) : List RowD := ls.foldl (fun rows a => rows ++ [rowF n rows a]) []
def wts (n : NetD) (ls : List Nat) : Vec := ((rowsOf n ls).getLast?.getD ([], [])).2

structure StOk (p : Int) (W i : Nat) (st : Vec × List Pair) : Prop where
  x : VecOk p W st.1
  len : st.2.length = i
  prs : ∀ kv ∈ st.2, PairOk p W kv
theorem getD_ok {p : Int} {W i m : Nat} {l : List Pair} (hl : l.length = m) (hi : i < m) (h : ∀ kv ∈ l, PairOk p W kv) : PairOk p W (l.getD i ([], [])) := by
  have hi' : i < l.length := by omega
  rw [List.getD_eq_getElem?_getD, List.getElem?_eq_getElem hi']
  exact h _ (List.getElem_mem _)
theorem layS_ok {p : Int} (hp : 0 < p) {W i m : Nat} {rows : List RowD} {st : Vec × List Pair} {l : Lay} (hi : i < m) (hr : ∀ r ∈ rows, r.1.length = m ∧ ∀ kv ∈ r.1, PairOk p W kv) (hs : StOk p W i st) (hl : LayOk p W l) : StOk p W (i + 1) (layS p rows st i l) := by
  have h1 : VecOk p W (tim p l.k st.1) := tim_ok hp hl.k.1 _
  have h2 : VecOk p W (tim p l.v st.1) := tim_ok hp hl.v.1 _
  have hq : VecOk p W (tim p l.q st.1) := tim_ok hp hl.q.1 _
  have hprs : ∀ kv ∈ rows.map (fun r => r.1.getD i ([], [])) ++ [((tim p l.k st.1, tim p l.v st.1) : Pair)], PairOk p W kv := by
    intro kv hkv
    rcases List.mem_append.mp hkv with h | h
    · obtain ⟨r, hr', rfl⟩ := List.mem_map.mp h
      exact getD_ok (hr r hr').1 hi (hr r hr').2
    · rw [List.mem_singleton.mp h]
      exact ⟨h1, h2⟩
  have hx1 : VecOk p W (plu p st.1 (looked p (tim p l.q st.1) (rows.map (fun r => r.1.getD i ([], [])) ++ [(tim p l.k st.1, tim p l.v st.1)]))) :=
    plu_ok hp hs.x.1 (looked_len hp (by simp [zer, hq.1]) fun kv hkv => (hprs kv hkv).2.1)
  refine ⟨plu_ok hp hx1.1 (tim_ok hp hl.s.1 _).1, ?_, ?_⟩
  · show (st.2 ++ [_]).length = i + 1
    rw [List.length_append, hs.len]; rfl
  · intro kv hkv
    rcases List.mem_append.mp hkv with h | h
    · exact hs.prs kv h
    · rw [List.mem_singleton.mp h]
      exact ⟨h1, h2⟩
theorem layT_ok {p : Int} (hp : 0 < p) {W m : Nat} {rows : List RowD} (hr : ∀ r ∈ rows, r.1.length = m ∧ ∀ kv ∈ r.1, PairOk p W kv) : ∀ {ls : List Lay} {i : Nat} {st : Vec × List Pair}, i + ls.length = m → StOk p W i st → (∀ l ∈ ls, LayOk p W l) → StOk p W m (layT p rows ls i st)
  | [], i, st, hi, hs, _ => by
    have e : i = m := by simpa using hi
    subst e
    exact hs
  | l :: r, i, st, hi, hs, h => by
    have hi2 : i + 1 + r.length = m := by simp at hi; omega
    show StOk p W m (layT p rows r (i + 1) (layS p rows st i l))
    exact layT_ok hp hr hi2 (layS_ok hp (by omega) hr hs (h l List.mem_cons_self)) fun z hz => h z (List.mem_cons_of_mem _ hz)
theorem start_ok {L W : Nat} {n : NetD} (N : NetOk L W n) {rows : List RowD} {a : Nat} (ha : a < L) : VecOk n.p W (start0 n rows a) := by
  have ha' : a < n.emb.length := by rw [N.emb.1]; exact ha
  have e : n.emb.getD a [] = n.emb[a] := by rw [List.getD_eq_getElem?_getD, List.getElem?_eq_getElem ha']; rfl
  unfold start0
  rw [e]
  exact plu_ok (by have := N.p2; omega) (N.emb.2 _ (List.getElem_mem _)).1 (by simp [scl, N.sh.1])
theorem row_st {L W : Nat} {n : NetD} (N : NetOk L W n) {rows : List RowD} (hr : ∀ r ∈ rows, RowOk L W n r) {a : Nat} (ha : a < L) : StOk n.p W n.lay.length (layT n.p rows n.lay 0 (start0 n rows a, [])) :=
  layT_ok (by have := N.p2; omega) (fun r h => ⟨(hr r h).len, (hr r h).prs⟩) (by omega) ⟨start_ok N ha, rfl, fun _ h => nomatch h⟩ N.lay
theorem rowF_ok {L W : Nat} {n : NetD} (N : NetOk L W n) {rows : List RowD} (hr : ∀ r ∈ rows, RowOk L W n r) {a : Nat} (ha : a < L) : RowOk L W n (rowF n rows a) := by
  have h := row_st N hr ha
  refine ⟨h.len, h.prs, by simp [rowF, wOf, N.out.1], fun x hx => ?_⟩
  obtain ⟨r, _, rfl⟩ := List.mem_map.mp hx
  have := bnd_mod (p := n.p) (by have := N.p2; omega) (dot r (layT n.p rows n.lay 0 (start0 n rows a, [])).1)
  omega
theorem rows_fold {n : NetD} : ∀ (ls : List Nat) (acc : List RowD), (ls.foldl (fun rows a => rows ++ [rowF n rows a]) acc).length = acc.length + ls.length
  | [], acc => rfl
  | a :: r, acc => by
    rw [List.foldl_cons, rows_fold r]
    simp
    omega
theorem rowsOf_len (n : NetD) (ls : List Nat) : (rowsOf n ls).length = ls.length := by
  unfold rowsOf
  rw [rows_fold]
  simp
theorem rowsOf_snoc (n : NetD) (ls : List Nat) (a : Nat) : rowsOf n (ls ++ [a]) = rowsOf n ls ++ [rowF n (rowsOf n ls) a] := by
  unfold rowsOf
  rw [List.foldl_append]
  rfl
theorem rowsOf_ok {L W : Nat} {n : NetD} (N : NetOk L W n) {ls : List Nat} (h : ∀ a ∈ ls, a < L) : ∀ r ∈ rowsOf n ls, RowOk L W n r := by
  have go : ∀ (k : Nat) (ls : List Nat), ls.length = k → (∀ a ∈ ls, a < L) → ∀ r ∈ rowsOf n ls, RowOk L W n r := by
    intro k
    induction k with
    | zero =>
      intro ls hl _ r hr
      have e : ls = [] := List.length_eq_zero_iff.mp hl
      subst e
      exact nomatch hr
    | succ k ih =>
      intro ls hl h r hr
      have hne : ls ≠ [] := fun z => by rw [z] at hl; simp at hl
      have e := (List.dropLast_concat_getLast hne).symm
      have hd : ∀ a ∈ ls.dropLast, a < L := fun a ha => h a (List.mem_of_mem_take (by rw [← List.dropLast_eq_take]; exact ha))
      have ih' := ih ls.dropLast (by rw [List.length_dropLast]; omega) hd
      rw [e, rowsOf_snoc] at hr
      rcases List.mem_append.mp hr with z | z
      · exact ih' r z
      · rw [List.mem_singleton.mp z]
        exact rowF_ok N ih' (h _ (List.getLast_mem hne))
  exact go _ ls rfl h
theorem rowsOf_take (n : NetD) : ∀ (ls : List Nat) (k : Nat), k ≤ ls.length → (rowsOf n ls).take k = rowsOf n (ls.take k) := by
  have go : ∀ (m : Nat) (ls : List Nat), ls.length = m → ∀ k, k ≤ m → (rowsOf n ls).take k = rowsOf n (ls.take k) := by
    intro m
    induction m with
    | zero =>
      intro ls hl k hk
      have e : ls = [] := List.length_eq_zero_iff.mp hl
      subst e
      have ek : k = 0 := by omega
      subst ek
      rfl
    | succ m ih =>
      intro ls hl k hk
      have hne : ls ≠ [] := fun z => by rw [z] at hl; simp at hl
      have e := (List.dropLast_concat_getLast hne).symm
      have hd : ls.dropLast.length = m := by rw [List.length_dropLast]; omega
      by_cases hk' : k = m + 1
      · rw [List.take_of_length_le (by rw [rowsOf_len]; omega), List.take_of_length_le (by omega)]
      · have hkm : k ≤ m := by omega
        have ih' := ih _ hd k hkm
        rw [e, rowsOf_snoc, List.take_append_of_le_length (by rw [rowsOf_len, hd]; exact hkm), List.take_append_of_le_length (by rw [hd]; exact hkm), ih']
  exact fun ls k hk => go _ ls rfl k hk
theorem wts_snoc (n : NetD) (ls : List Nat) (a : Nat) : wts n (ls ++ [a]) = (rowF n (rowsOf n ls) a).2 := by
  unfold wts
  rw [rowsOf_snoc, List.getLast?_concat]
  rfl
structure WOk (L : Nat) (w : Vec) : Prop where
  len : w.length = L
  bd : ∀ x ∈ w, 1 ≤ x ∧ x ≤ 97
theorem wts_ok {L W : Nat} {n : NetD} (N : NetOk L W n) {ls : List Nat} (h : ∀ a ∈ ls, a < L) (hne : ls ≠ []) : WOk L (wts n ls) := by
  have hm := rowsOf_ok N h
  have hl : rowsOf n ls ≠ [] := fun z => by
    have := rowsOf_len n ls
    rw [z] at this
    exact hne (List.length_eq_zero_iff.mp this.symm)
  have hr := hm _ (List.getLast_mem hl)
  unfold wts
  rw [List.getLast?_eq_some_getLast hl]
  exact ⟨hr.wl, fun x hx => ⟨(hr.wb x hx).1, Int.le_trans (hr.wb x hx).2 N.p97⟩⟩
end SA
/-! Fractions and the round in plain Lean. -/
namespace SA
/-! ### fractions -/
def fr (a b : Int) : Rat := (a : Rat) / (b : Rat)
theorem fr_div (a b : Int) : fr a b = Rat.divInt a b := (Rat.divInt_eq_div a b).symm
theorem fr_num {a b : Int} (hb : 0 < b) : (fr a b).num = a / (Int.gcd a b : Int) := by
  rw [fr_div, Rat.num_divInt, Int.sign_eq_one_of_pos hb, Int.one_mul, Int.gcd_comm]
theorem fr_den {a b : Int} (hb : 0 < b) : ((fr a b).den : Int) = b / (Int.gcd a b : Int) := by
  rw [fr_div, Rat.den_divInt, if_neg (by omega), Int.gcd_comm, Int.natCast_ediv]
  congr 1
  omega
theorem den_pos (q : Rat) : (0 : Int) < (q.den : Int) := by
  have := q.den_pos
  omega
theorem fr_self (q : Rat) : fr q.num q.den = q := by
  rw [fr_div]; exact Rat.num_divInt_den q
theorem fr_add (p q : Rat) : fr (p.num * q.den + q.num * p.den) (p.den * q.den) = p + q := by
  rw [fr_div]
  have h := Rat.divInt_add_divInt p.num q.num (d₁ := p.den) (d₂ := q.den) (by have := den_pos p; omega) (by have := den_pos q; omega)
  rw [Rat.num_divInt_den, Rat.num_divInt_den] at h
  exact h.symm
theorem fr_sub (p q : Rat) : fr (p.num * q.den - q.num * p.den) (p.den * q.den) = p - q := by
  rw [fr_div]
  have h := Rat.divInt_sub_divInt p.num q.num (d₁ := p.den) (d₂ := q.den) (by have := den_pos p; omega) (by have := den_pos q; omega)
  rw [Rat.num_divInt_den, Rat.num_divInt_den] at h
  exact h.symm
theorem fr_mul (p q : Rat) : fr (p.num * q.num) (p.den * q.den) = p * q := by
  rw [fr_div]
  have h := Rat.divInt_mul_divInt p.num q.num (d₁ := p.den) (d₂ := q.den)
  rw [Rat.num_divInt_den, Rat.num_divInt_den] at h
  exact h.symm
theorem rat_lt (p q : Rat) : p < q ↔ p.num * q.den < q.num * p.den := Rat.lt_iff p q
theorem num_pos {q : Rat} : 0 < q.num ↔ 0 < q := by
  have h := Rat.lt_iff 0 q
  simp at h
  exact h.symm
theorem fr_pos {a b : Int} (ha : 0 < a) (hb : 0 < b) : 0 < fr a b := by
  rw [← num_pos, fr_num hb]
  exact Int.ediv_pos_of_pos_of_dvd ha (by omega) (Int.gcd_dvd_left a b)

/-! ### Euclid -/
def euc : Nat → Int → Int → Int
  | 0, a, _ => a
  | k + 1, a, b => if b = 0 then a else euc k b (a % b)
theorem gcd_step {a b : Int} (ha : 0 ≤ a) (hb : 0 ≤ b) : Int.gcd b (a % b) = Int.gcd a b := by
  obtain ⟨m, rfl⟩ := Int.eq_ofNat_of_zero_le ha
  obtain ⟨n, rfl⟩ := Int.eq_ofNat_of_zero_le hb
  have e : ((m : Int) % (n : Int)) = ((m % n : Nat) : Int) := (Int.natCast_emod m n).symm
  rw [e]
  show Nat.gcd _ _ = Nat.gcd _ _
  rw [Int.natAbs_natCast, Int.natAbs_natCast, Int.natAbs_natCast, Nat.gcd_comm n, ← Nat.gcd_rec, Nat.gcd_comm]
theorem euc_zero (k : Nat) (a : Int) : euc k a 0 = a := by
  cases k <;> simp [euc]
theorem euc_gcd : ∀ (m k : Nat) (a b : Int), 0 ≤ a → 0 ≤ b → b < 2 ^ m → 2 * m ≤ k → euc k a b = Int.gcd a b
  | 0, k, a, b, ha, hb, hm, _ => by
    have e : b = 0 := by simp at hm; omega
    subst e
    rw [euc_zero, Int.gcd_zero]
    omega
  | m + 1, k, a, b, ha, hb, hm, hk => by
    obtain ⟨k, rfl⟩ : ∃ k', k = k' + 2 := ⟨k - 2, by omega⟩
    by_cases h0 : b = 0
    · subst h0
      rw [euc_zero, Int.gcd_zero]
      omega
    · have hb' : 0 < b := by omega
      have c0 : 0 ≤ a % b := Int.emod_nonneg _ h0
      have c1 : a % b < b := Int.emod_lt_of_pos _ hb'
      show (if b = 0 then a else (if a % b = 0 then b else euc k (a % b) (b % (a % b)))) = _
      rw [if_neg h0]
      by_cases h1 : a % b = 0
      · rw [if_pos h1, ← gcd_step ha hb, h1, Int.gcd_zero]
        omega
      · have c' : 0 < a % b := by omega
        have d0 : 0 ≤ b % (a % b) := Int.emod_nonneg _ h1
        have d1 : b % (a % b) < a % b := Int.emod_lt_of_pos _ c'
        have hlt : b % (a % b) < 2 ^ m := by
          have e := Int.mul_ediv_add_emod b (a % b)
          have q1 : 1 ≤ b / (a % b) := Int.le_ediv_of_mul_le c' (by omega)
          have q2 : (a % b) * 1 ≤ (a % b) * (b / (a % b)) := Int.mul_le_mul_of_nonneg_left q1 c0
          have p2 : (2 : Int) ^ (m + 1) = 2 ^ m * 2 := by rw [Int.pow_succ]
          rw [p2] at hm
          omega
        rw [if_neg h1, euc_gcd m k (a % b) (b % (a % b)) c0 d0 hlt (by omega), gcd_step hb c0, gcd_step ha hb]

/-! ### what divides -/
/-- q is a number of D-ths -/
def IsD (q : Rat) (D : Nat) : Prop := ∃ m : Int, q * (D : Rat) = (m : Rat)
theorem IsD.add {p q : Rat} {D : Nat} (a : IsD p D) (b : IsD q D) : IsD (p + q) D := by
  obtain ⟨m, hm⟩ := a
  obtain ⟨n, hn⟩ := b
  exact ⟨m + n, by rw [Rat.add_mul, hm, hn, Rat.intCast_add]⟩
theorem IsD.neg {q : Rat} {D : Nat} (b : IsD q D) : IsD (-q) D := by
  obtain ⟨n, hn⟩ := b
  exact ⟨-n, by rw [Rat.neg_mul, hn, Rat.intCast_neg]⟩
theorem IsD.sub {p q : Rat} {D : Nat} (a : IsD p D) (b : IsD q D) : IsD (p - q) D := by
  rw [Rat.sub_eq_add_neg]
  exact a.add b.neg
theorem IsD.mul {p q : Rat} {D E : Nat} (a : IsD p D) (b : IsD q E) : IsD (p * q) (D * E) := by
  obtain ⟨m, hm⟩ := a
  obtain ⟨n, hn⟩ := b
  refine ⟨m * n, ?_⟩
  rw [Rat.intCast_mul, ← hm, ← hn, Rat.natCast_mul]
  grind
theorem IsD.zero (D : Nat) : IsD 0 D := ⟨0, by rw [Rat.zero_mul]; rfl⟩
theorem IsD.one (D : Nat) : IsD 1 D := ⟨D, by rw [Rat.one_mul]; rfl⟩
theorem IsD.more {q : Rat} {D : Nat} (a : IsD q D) (E : Nat) : IsD q (D * E) := by
  have h := a.mul (IsD.one E)
  rw [Rat.mul_one] at h
  exact h
theorem IsD.more' {q : Rat} {D : Nat} (a : IsD q D) (E : Nat) : IsD q (E * D) := by
  rw [Nat.mul_comm]
  exact a.more E
theorem IsD.dvd {q : Rat} {D E : Nat} (a : IsD q D) (h : D ∣ E) : IsD q E := by
  obtain ⟨k, rfl⟩ := h
  exact a.more k
theorem isD_fr {a : Int} {b : Nat} (hb : 0 < b) : IsD (fr a b) b := by
  refine ⟨a, ?_⟩
  have h2 : ((b : Int) : Rat) ≠ 0 := by
    intro z
    have : (b : Int) = 0 := by exact_mod_cast z
    omega
  show fr a b * (((b : Nat) : Int) : Rat) = a
  unfold fr
  rw [Rat.div_mul_cancel h2]
theorem IsD.den_le {q : Rat} {D : Nat} (a : IsD q D) (hD : 0 < D) : q.den ≤ D := by
  obtain ⟨m, hm⟩ := a
  have h2 : ((D : Int) : Rat) ≠ 0 := by
    intro z
    have : (D : Int) = 0 := by exact_mod_cast z
    omega
  have e : q = fr m D := by
    unfold fr
    rw [← hm]
    show q = q * (((D : Nat) : Int) : Rat) / (((D : Nat) : Int) : Rat)
    rw [Rat.mul_div_cancel h2]
  have h := fr_den (a := m) (b := D) (by omega)
  rw [← e] at h
  have : (D : Int) / (Int.gcd m D : Int) ≤ (D : Int) := Int.ediv_le_self _ (by omega)
  omega
theorem isD_den (q : Rat) : IsD q q.den := by
  have h := isD_fr (a := q.num) (b := q.den) q.den_pos
  rw [fr_self] at h
  exact h
theorem den_mul_le (p q : Rat) : (p * q).den ≤ p.den * q.den := ((isD_den p).mul (isD_den q)).den_le (Nat.mul_pos p.den_pos q.den_pos)
theorem num_le_den {q : Rat} (h : q ≤ 1) : q.num ≤ q.den := by
  have := (Rat.le_iff q 1).mp h
  simp at this
  exact this
theorem num_nn {q : Rat} (h : 0 ≤ q) : 0 ≤ q.num := Rat.num_nonneg.mpr h
end SA
/-! The round in plain Lean: which rows it can write, with which chances; they are a share of one. -/
namespace SA
abbrev Ent := List Nat × Rat
def shr (w : List Int) : List Rat := w.map fun x => fr x w.sum
def les (p q : Rat) : Rat := if p < q then p else q
def abv (ps qs : List Rat) : List Rat := List.zipWith (fun p q => p - les p q) ps qs
def lss (ps qs : List Rat) : List Rat := List.zipWith les ps qs
/-- a row longer by each letter, with its part -/
def ext (r : List Nat) (s : Rat) : Nat → List Rat → List Ent
  | _, [] => []
  | i, p :: ps => (r ++ [i], s * p) :: ext r s (i + 1) ps
def pos (l : List Ent) : List Ent := l.filter fun x => decide (0 < x.2)
def S (φ : List Nat → Rat) (l : List Ent) : Rat := (l.map fun x => x.2 * φ x.1).sum
def hs (φ : List Nat → Rat) (r : List Nat) : Nat → List Rat → Rat
  | _, [] => 0
  | i, p :: ps => p * φ (r ++ [i]) + hs φ r (i + 1) ps

theorem sum_nil : ([] : List Rat).sum = 0 := rfl
theorem sum_cons (x : Rat) (l : List Rat) : (x :: l).sum = x + l.sum := List.sum_cons
theorem sum_app : ∀ (a b : List Rat), (a ++ b).sum = a.sum + b.sum
  | [], b => by rw [List.nil_append, sum_nil, Rat.zero_add]
  | x :: a, b => by rw [List.cons_append, sum_cons, sum_cons, sum_app a b, Rat.add_assoc]
theorem S_nil (φ : List Nat → Rat) : S φ [] = 0 := rfl
theorem S_cons (φ : List Nat → Rat) (x : Ent) (l : List Ent) : S φ (x :: l) = x.2 * φ x.1 + S φ l := by
  unfold S
  rw [List.map_cons, sum_cons]
theorem S_app (φ : List Nat → Rat) (a b : List Ent) : S φ (a ++ b) = S φ a + S φ b := by
  unfold S
  rw [List.map_append, sum_app]
theorem S_ext (φ : List Nat → Rat) (r : List Nat) (s : Rat) : ∀ (i : Nat) (ps : List Rat), S φ (ext r s i ps) = s * hs φ r i ps
  | _, [] => by show (0 : Rat) = s * 0; rw [Rat.mul_zero]
  | i, p :: ps => by
    show S φ ((r ++ [i], s * p) :: ext r s (i + 1) ps) = s * (p * φ (r ++ [i]) + hs φ r (i + 1) ps)
    rw [S_cons, S_ext φ r s (i + 1) ps]
    grind
theorem S_pos (φ : List Nat → Rat) : ∀ {l : List Ent}, (∀ x ∈ l, 0 ≤ x.2) → S φ (pos l) = S φ l
  | [], _ => rfl
  | x :: l, h => by
    have ih := S_pos φ (l := l) fun y hy => h y (List.mem_cons_of_mem _ hy)
    unfold pos at ih ⊢
    rw [List.filter_cons]
    by_cases hx : 0 < x.2
    · rw [if_pos (by simpa using hx), S_cons, S_cons, ih]
    · have h0 : x.2 = 0 := Rat.le_antisymm (Rat.not_lt.mp hx) (h x List.mem_cons_self)
      rw [if_neg (by simpa using hx), S_cons, ih, h0, Rat.zero_mul, Rat.zero_add]
theorem hs_split (φ : List Nat → Rat) (r : List Nat) : ∀ (i : Nat) (ps qs : List Rat), ps.length = qs.length → hs φ r i (abv ps qs) + hs φ r i (lss ps qs) = hs φ r i ps
  | _, [], [], _ => by show (0 : Rat) + 0 = 0; rw [Rat.add_zero]
  | _, [], _ :: _, h => by simp at h
  | _, _ :: _, [], h => by simp at h
  | i, p :: ps, q :: qs, h => by
    have ih := hs_split φ r (i + 1) ps qs (by simpa using h)
    show ((p - les p q) * φ (r ++ [i]) + hs φ r (i + 1) (abv ps qs)) + (les p q * φ (r ++ [i]) + hs φ r (i + 1) (lss ps qs)) = p * φ (r ++ [i]) + hs φ r (i + 1) ps
    rw [← ih]
    grind
theorem mem_ext {r : List Nat} {s : Rat} : ∀ {i : Nat} {ps : List Rat} {x : Ent}, x ∈ ext r s i ps → ∃ (j : Nat) (h : j < ps.length), x = (r ++ [i + j], s * ps[j])
  | _, [], x, h => nomatch h
  | i, p :: ps, x, h => by
    rcases List.mem_cons.mp h with e | h
    · exact ⟨0, by simp, by rw [e]; rfl⟩
    · obtain ⟨j, hj, e⟩ := mem_ext h
      refine ⟨j + 1, by simp; omega, ?_⟩
      rw [e]
      simp only [List.getElem_cons_succ]
      rw [show i + 1 + j = i + (j + 1) by omega]
theorem ext_len {r : List Nat} {s : Rat} : ∀ {i : Nat} {ps : List Rat}, (ext r s i ps).length = ps.length
  | _, [] => rfl
  | i, p :: ps => by
    show (ext r s (i + 1) ps).length + 1 = ps.length + 1
    rw [ext_len]
theorem ext_get {r : List Nat} {s : Rat} : ∀ {i : Nat} {ps : List Rat} {j : Nat} {p : Rat}, ps[j]? = some p → (ext r s i ps)[j]? = some (r ++ [i + j], s * p)
  | _, [], j, p, h => by simp at h
  | i, q :: ps, 0, p, h => by
    have e : q = p := by simpa using h
    subst e
    rfl
  | i, q :: ps, j + 1, p, h => by
    show (ext r s (i + 1) ps)[j]? = _
    rw [ext_get (i := i + 1) (ps := ps) (by simpa using h), show i + 1 + j = i + (j + 1) by omega]

/-! ### shares of weights -/
theorem sum_fr (T : Int) (hT : T ≠ 0) : ∀ w : List Int, (w.map fun x => fr x T).sum = fr w.sum T
  | [] => by
    show (0 : Rat) = fr 0 T
    unfold fr
    rw [show ((0 : Int) : Rat) = 0 from rfl, Rat.div_def, Rat.zero_mul]
  | x :: w => by
    rw [List.map_cons, sum_cons, sum_fr T hT w, List.sum_cons]
    unfold fr
    rw [Rat.intCast_add, Rat.div_def, Rat.div_def, Rat.div_def, Rat.add_mul]
theorem sum_low : ∀ {w : List Int}, (∀ x ∈ w, 1 ≤ x) → (w.length : Int) ≤ w.sum
  | [], _ => by simp
  | x :: w, h => by
    have ih := sum_low (w := w) fun y hy => h y (List.mem_cons_of_mem _ hy)
    have hx := h x List.mem_cons_self
    rw [List.sum_cons, List.length_cons]
    omega
theorem sum_high : ∀ {w : List Int}, (∀ x ∈ w, x ≤ 97) → w.sum ≤ 97 * (w.length : Int)
  | [], _ => by simp
  | x :: w, h => by
    have ih := sum_high (w := w) fun y hy => h y (List.mem_cons_of_mem _ hy)
    have hx := h x List.mem_cons_self
    rw [List.sum_cons, List.length_cons]
    omega
theorem le_sum : ∀ {w : List Int} {x : Int}, (∀ x ∈ w, 1 ≤ x) → x ∈ w → x ≤ w.sum
  | y :: w, x, h, hx => by
    have h' : ∀ x ∈ w, 1 ≤ x := fun z hz => h z (List.mem_cons_of_mem _ hz)
    have hs := sum_low h'
    rw [List.sum_cons]
    rcases List.mem_cons.mp hx with e | hx
    · rw [e]
      have : (0 : Int) ≤ w.length := by omega
      omega
    · have := le_sum h' hx
      have := h y List.mem_cons_self
      omega
theorem WOk.sum_pos {L : Nat} {w : List Int} (h : WOk L w) (hL : 1 ≤ L) : 0 < w.sum := by
  have := sum_low fun x hx => (h.bd x hx).1
  rw [h.len] at this
  omega
theorem WOk.sum_lt {L : Nat} {w : List Int} (h : WOk L w) (hL : L ≤ 4) : w.sum < 512 := by
  have := sum_high fun x hx => (h.bd x hx).2
  rw [h.len] at this
  omega
/-- how many-ths the shares of a row of weights are -/
def tot (w : List Int) : Nat := w.sum.toNat
theorem tot_pos {L : Nat} {w : List Int} (h : WOk L w) (hL : 1 ≤ L) : 0 < tot w := by
  have := h.sum_pos hL
  unfold tot
  omega
theorem tot_lt {L : Nat} {w : List Int} (h : WOk L w) (hL : L ≤ 4) : tot w < 512 := by
  have := h.sum_lt hL
  unfold tot
  omega
theorem shr_len (w : List Int) : (shr w).length = w.length := by simp [shr]
theorem shr_pos {L : Nat} {w : List Int} (h : WOk L w) (hL : 1 ≤ L) : ∀ p ∈ shr w, 0 < p := by
  intro p hp
  obtain ⟨x, hx, rfl⟩ := List.mem_map.mp hp
  exact fr_pos (by have := (h.bd x hx).1; omega) (h.sum_pos hL)
theorem shr_isD {L : Nat} {w : List Int} (h : WOk L w) (hL : 1 ≤ L) : ∀ p ∈ shr w, IsD p (tot w) := by
  intro p hp
  obtain ⟨x, hx, rfl⟩ := List.mem_map.mp hp
  have hp := h.sum_pos hL
  have e : w.sum = ((tot w : Nat) : Int) := by unfold tot; omega
  rw [e]
  exact isD_fr (tot_pos h hL)
theorem shr_sum {L : Nat} {w : List Int} (h : WOk L w) (hL : 1 ≤ L) : (shr w).sum = 1 := by
  have hp := h.sum_pos hL
  unfold shr
  rw [sum_fr _ (by omega)]
  have h2 : ((w.sum : Int) : Rat) ≠ 0 := by
    intro z
    have : w.sum = 0 := by exact_mod_cast z
    omega
  unfold fr
  rw [Rat.div_def, Rat.mul_inv_cancel _ h2]
theorem shr_le {L : Nat} {w : List Int} (h : WOk L w) (hL : 1 ≤ L) : ∀ p ∈ shr w, p ≤ 1 := by
  intro p hp
  obtain ⟨x, hx, rfl⟩ := List.mem_map.mp hp
  have hx' := le_sum (fun x hx => (h.bd x hx).1) hx
  have hp := h.sum_pos hL
  rw [Rat.le_iff, fr_num hp, fr_den hp]
  simp
  exact Int.ediv_le_ediv (by
    have : 0 < Int.gcd x w.sum := Int.gcd_pos_of_ne_zero_right _ (by omega)
    omega) hx'
theorem les_cases (p q : Rat) : les p q = p ∨ les p q = q := by
  unfold les
  split
  · exact .inl rfl
  · exact .inr rfl
theorem les_le (p q : Rat) : les p q ≤ p := by
  unfold les
  split
  · exact Rat.le_refl
  · rename_i h
    exact Rat.not_lt.mp h
theorem les_pos {p q : Rat} (hp : 0 < p) (hq : 0 < q) : 0 < les p q := by
  rcases les_cases p q with e | e <;> rw [e] <;> assumption
theorem abv_len {ps qs : List Rat} (h : ps.length = qs.length) : (abv ps qs).length = ps.length := by simp [abv, h]
theorem lss_len {ps qs : List Rat} (h : ps.length = qs.length) : (lss ps qs).length = ps.length := by simp [lss, h]
theorem abv_nn {ps qs : List Rat} : ∀ p ∈ abv ps qs, 0 ≤ p := by
  intro p hp
  unfold abv at hp
  rw [List.zipWith_eq_zipWith_take_min] at hp
  obtain ⟨i, hi, rfl⟩ := List.mem_iff_getElem.mp hp
  rw [List.getElem_zipWith]
  have := les_le ((ps.take (min ps.length qs.length))[i]'(by simp at hi ⊢; omega)) ((qs.take (min ps.length qs.length))[i]'(by simp at hi ⊢; omega))
  grind
theorem sum_nn : ∀ {l : List Rat}, (∀ p ∈ l, 0 ≤ p) → 0 ≤ l.sum
  | [], _ => Rat.le_refl
  | x :: l, h => by
    have ih := sum_nn (l := l) fun y hy => h y (List.mem_cons_of_mem _ hy)
    have hx := h x List.mem_cons_self
    rw [sum_cons]
    grind
theorem sum_zero : ∀ {l : List Rat}, (∀ p ∈ l, 0 ≤ p) → ¬ 0 < l.sum → ∀ p ∈ l, p = 0
  | x :: l, h, hs, p, hp => by
    have hl : ∀ p ∈ l, 0 ≤ p := fun y hy => h y (List.mem_cons_of_mem _ hy)
    have h1 := sum_nn hl
    have hx := h x List.mem_cons_self
    rw [sum_cons] at hs
    rcases List.mem_cons.mp hp with e | hp
    · rw [e]
      grind
    · exact sum_zero hl (by grind) p hp
theorem hs_zero (φ : List Nat → Rat) (r : List Nat) : ∀ (i : Nat) {ps : List Rat}, (∀ p ∈ ps, p = 0) → hs φ r i ps = 0
  | _, [], _ => rfl
  | i, p :: ps, h => by
    show p * φ (r ++ [i]) + hs φ r (i + 1) ps = 0
    rw [h p List.mem_cons_self, hs_zero φ r (i + 1) fun q hq => h q (List.mem_cons_of_mem _ hq), Rat.zero_mul, Rat.add_zero]

/-! ### the round -/
section
variable (w1 w2 : List Nat → List Int)
def psO (x : Ent) : List Rat := shr (w1 x.1)
def goE (x : Ent) : List Ent := if 0 < (abv (shr (w1 x.1)) (shr (w2 x.1))).sum then pos (ext x.1 x.2 0 (abv (shr (w1 x.1)) (shr (w2 x.1)))) else []
def goA (x : Ent) : List Ent := ext x.1 x.2 0 (lss (shr (w1 x.1)) (shr (w2 x.1)))
def fin (x : Ent) : List Ent := pos (ext x.1 x.2 0 (shr (w1 x.1)))
def acc : Nat → List Ent
  | 0 => [([], 1)]
  | d + 1 => pos ((acc d).flatMap (goA w1 w2))
def lev (d : Nat) : List Ent := (acc w1 w2 d).flatMap (goE w1 w2)
def ents (many : Nat) : List Ent := (List.range many).flatMap (lev w1 w2) ++ (acc w1 w2 many).flatMap (fin w1)
end
/-- the weights behind rows of letters below L, up to the length many -/
structure WW (L many : Nat) (w1 w2 : List Nat → List Int) : Prop where
  l1 : 1 ≤ L
  l4 : L ≤ 4
  a : ∀ r, r.length ≤ many → (∀ a ∈ r, a < L) → WOk L (w1 r)
  b : ∀ r, r.length ≤ many → (∀ a ∈ r, a < L) → WOk L (w2 r)
def Harm (L many : Nat) (w : List Nat → List Int) (φ : List Nat → Rat) : Prop := ∀ r, r.length ≤ many → (∀ a ∈ r, a < L) → hs φ r 0 (shr (w r)) = φ r
structure AOk (L d : Nat) (x : Ent) : Prop where
  len : x.1.length = d
  let_ : ∀ a ∈ x.1, a < L
  pos : 0 < x.2
section
variable {L many : Nat} {w1 w2 : List Nat → List Int} (W : WW L many w1 w2)
include W
theorem both_len {x : Ent} {d : Nat} (hd : d ≤ many) (h : AOk L d x) : (shr (w1 x.1)).length = L ∧ (shr (w2 x.1)).length = L := by
  rw [shr_len, shr_len]
  exact ⟨(W.a _ (by rw [h.len]; exact hd) h.let_).len, (W.b _ (by rw [h.len]; exact hd) h.let_).len⟩
theorem goA_mem {x y : Ent} {d : Nat} (hd : d ≤ many) (h : AOk L d x) (hy : y ∈ goA w1 w2 x) : ∃ (j : Nat) (p q : Rat), j < L ∧ (shr (w1 x.1))[j]? = some p ∧ (shr (w2 x.1))[j]? = some q ∧ y = (x.1 ++ [j], x.2 * les p q) ∧ 0 < p ∧ 0 < q := by
  obtain ⟨h1, h2⟩ := both_len W hd h
  obtain ⟨j, hj, e⟩ := mem_ext hy
  have hjL : j < L := by rw [lss_len (h1.trans h2.symm), h1] at hj; exact hj
  have g1 : j < (shr (w1 x.1)).length := by omega
  have g2 : j < (shr (w2 x.1)).length := by omega
  refine ⟨j, (shr (w1 x.1))[j], (shr (w2 x.1))[j], hjL, List.getElem?_eq_getElem g1, List.getElem?_eq_getElem g2, ?_, ?_, ?_⟩
  · rw [e, Nat.zero_add]
    simp [lss]
  · exact shr_pos (W.a _ (by rw [h.len]; exact hd) h.let_) W.l1 _ (List.getElem_mem _)
  · exact shr_pos (W.b _ (by rw [h.len]; exact hd) h.let_) W.l1 _ (List.getElem_mem _)
theorem goA_ok {x y : Ent} {d : Nat} (hd : d ≤ many) (h : AOk L d x) (hy : y ∈ goA w1 w2 x) : AOk L (d + 1) y := by
  obtain ⟨j, p, q, hj, _, _, e, hp, hq⟩ := goA_mem W hd h hy
  rw [e]
  refine ⟨by simp [h.len], fun a ha => ?_, Rat.mul_pos h.pos (les_pos hp hq)⟩
  rcases List.mem_append.mp ha with z | z
  · exact h.let_ a z
  · rw [List.mem_singleton.mp z]; exact hj
theorem pos_all {l : List Ent} (h : ∀ x ∈ l, 0 < x.2) : pos l = l := by
  unfold pos
  exact List.filter_eq_self.mpr fun x hx => by simpa using h x hx
theorem acc_ok : ∀ (d : Nat), d ≤ many + 1 → ∀ x ∈ acc w1 w2 d, AOk L d x
  | 0, _, x, hx => by
    have e : x = ([], 1) := by simpa [acc] using hx
    rw [e]
    exact ⟨rfl, (fun _ h => nomatch h), by decide⟩
  | d + 1, hd, x, hx => by
    have hx' := (List.mem_filter.mp hx).1
    obtain ⟨y, hy, hxy⟩ := List.mem_flatMap.mp hx'
    exact goA_ok W (by omega) (acc_ok d (by omega) y hy) hxy
theorem acc_succ {d : Nat} (hd : d ≤ many) : acc w1 w2 (d + 1) = (acc w1 w2 d).flatMap (goA w1 w2) := by
  show pos _ = _
  refine pos_all W fun x hx => ?_
  obtain ⟨y, hy, hxy⟩ := List.mem_flatMap.mp hx
  exact (goA_ok W hd (acc_ok W d (by omega) y hy) hxy).pos
theorem go_both {φ : List Nat → Rat} {x : Ent} {d : Nat} (hd : d ≤ many) (h : AOk L d x) (H : Harm L many w1 φ) : S φ (goE w1 w2 x) + S φ (goA w1 w2 x) = x.2 * φ x.1 := by
  obtain ⟨h1, h2⟩ := both_len W hd h
  have e : S φ (goE w1 w2 x) = x.2 * hs φ x.1 0 (abv (shr (w1 x.1)) (shr (w2 x.1))) := by
    unfold goE
    split
    · rw [S_pos, S_ext]
      intro y hy
      obtain ⟨j, hj, e⟩ := mem_ext hy
      rw [e]
      exact Rat.mul_nonneg (Rat.le_of_lt h.pos) (abv_nn _ (List.getElem_mem _))
    · rename_i hn
      rw [hs_zero φ x.1 0 (sum_zero abv_nn hn), S_nil, Rat.mul_zero]
  rw [e]
  unfold goA
  rw [S_ext, ← Rat.mul_add, hs_split φ x.1 0 _ _ (h1.trans h2.symm), H x.1 (by rw [h.len]; exact hd) h.let_]
theorem fin_all {φ : List Nat → Rat} {x : Ent} {d : Nat} (hd : d ≤ many) (h : AOk L d x) (H : Harm L many w1 φ) : S φ (fin w1 x) = x.2 * φ x.1 := by
  unfold fin
  rw [S_pos, S_ext, H x.1 (by rw [h.len]; exact hd) h.let_]
  intro y hy
  obtain ⟨j, hj, e⟩ := mem_ext hy
  rw [e]
  exact Rat.mul_nonneg (Rat.le_of_lt h.pos) (Rat.le_of_lt (shr_pos (W.a _ (by rw [h.len]; exact hd) h.let_) W.l1 _ (List.getElem_mem _)))
omit W in
theorem S_flat2 {φ : List Nat → Rat} {f g : Ent → List Ent} : ∀ {l : List Ent}, (∀ x ∈ l, S φ (f x) + S φ (g x) = x.2 * φ x.1) → S φ (l.flatMap f) + S φ (l.flatMap g) = S φ l
  | [], _ => by rw [List.flatMap_nil, List.flatMap_nil, S_nil, Rat.add_zero]
  | x :: l, h => by
    have ih := S_flat2 (l := l) (f := f) (g := g) fun y hy => h y (List.mem_cons_of_mem _ hy)
    have hx := h x List.mem_cons_self
    rw [List.flatMap_cons, List.flatMap_cons, S_app, S_app, S_cons, ← ih, ← hx]
    grind
omit W in
theorem S_flat1 {φ : List Nat → Rat} {f : Ent → List Ent} : ∀ {l : List Ent}, (∀ x ∈ l, S φ (f x) = x.2 * φ x.1) → S φ (l.flatMap f) = S φ l
  | [], _ => rfl
  | x :: l, h => by
    rw [List.flatMap_cons, S_app, S_cons, S_flat1 (l := l) fun y hy => h y (List.mem_cons_of_mem _ hy), h x List.mem_cons_self]
theorem levels {φ : List Nat → Rat} (H : Harm L many w1 φ) : ∀ (n : Nat), n ≤ many → S φ ((List.range n).flatMap (lev w1 w2)) + S φ (acc w1 w2 n) = φ []
  | 0, _ => by
    show S φ [] + S φ [([], 1)] = φ []
    rw [S_nil, S_cons, S_nil, Rat.one_mul, Rat.add_zero, Rat.zero_add]
  | n + 1, hn => by
    have ih := levels H n (by omega)
    have st := S_flat2 (φ := φ) (f := goE w1 w2) (g := goA w1 w2) (l := acc w1 w2 n) fun x hx => go_both W (by omega) (acc_ok W n (by omega) x hx) H
    rw [List.range_succ, List.flatMap_append, S_app, acc_succ W (by omega), List.flatMap_singleton]
    show S φ ((List.range n).flatMap (lev w1 w2)) + S φ ((acc w1 w2 n).flatMap (goE w1 w2)) + S φ ((acc w1 w2 n).flatMap (goA w1 w2)) = φ []
    rw [Rat.add_assoc, st, ih]
/-- THE LAW OF THE ROUND -/
theorem ents_harm {φ : List Nat → Rat} (H : Harm L many w1 φ) : S φ (ents w1 w2 many) = φ [] := by
  unfold ents
  rw [S_app, S_flat1 (φ := φ) (f := fin w1) (l := acc w1 w2 many) fun x hx => fin_all W (Nat.le_refl _) (acc_ok W many (by omega) x hx) H]
  exact levels W H many (Nat.le_refl _)
end
/-! ### two functions that are their own mean -/
theorem hs_one (r : List Nat) : ∀ (i : Nat) (ps : List Rat), hs (fun _ => 1) r i ps = ps.sum
  | _, [] => rfl
  | i, p :: ps => by
    show p * 1 + hs (fun _ => 1) r (i + 1) ps = (p :: ps).sum
    rw [Rat.mul_one, hs_one r (i + 1) ps, sum_cons]
theorem harm_one {L many : Nat} {w1 w2 : List Nat → List Int} (W : WW L many w1 w2) : Harm L many w1 (fun _ => 1) := fun r hr hl => by
  rw [hs_one, shr_sum (W.a r hr hl) W.l1]
/-- the chance that the letters of t come behind r -/
def ts (w : List Nat → List Int) : List Nat → List Nat → Rat
  | _, [] => 1
  | r, a :: t => (shr (w r)).getD a 0 * ts w (r ++ [a]) t
def phi (w : List Nat → List Int) (t : List Nat) (r : List Nat) : Rat := if t.take r.length = r then ts w r (t.drop r.length) else 0
theorem hs_pick (φ : List Nat → Rat) (r : List Nat) (a : Nat) (v : Rat) (h0 : ∀ i, i ≠ a → φ (r ++ [i]) = 0) (ha : φ (r ++ [a]) = v) : ∀ (i : Nat) (ps : List Rat), hs φ r i ps = (if i ≤ a then ps.getD (a - i) 0 else 0) * v
  | i, [] => by
    show (0 : Rat) = _
    rw [List.getD_nil]
    split <;> rw [Rat.zero_mul]
  | i, p :: ps => by
    show p * φ (r ++ [i]) + hs φ r (i + 1) ps = _
    rw [hs_pick φ r a v h0 ha (i + 1) ps]
    by_cases h1 : i = a
    · subst h1
      rw [ha, if_neg (by omega), if_pos (Nat.le_refl _), Nat.sub_self, List.getD_cons_zero, Rat.zero_mul, Rat.add_zero]
    · rw [h0 i h1, Rat.mul_zero, Rat.zero_add]
      by_cases h2 : i ≤ a
      · rw [if_pos h2, if_pos (by omega), show a - i = (a - (i + 1)) + 1 by omega, List.getD_cons_succ]
      · rw [if_neg h2, if_neg (by omega)]
theorem take_snoc {t r : List Nat} {i : Nat} (h : t.take (r ++ [i]).length = r ++ [i]) : t.take r.length = r ∧ t[r.length]? = some i := by
  have e : (r ++ [i]).length = r.length + 1 := by simp
  rw [e] at h
  have h1 := congrArg (List.take r.length) h
  rw [List.take_take, Nat.min_eq_left (by omega), List.take_left' rfl] at h1
  have h2 := congrArg (fun l => l[r.length]?) h
  simp at h2
  exact ⟨h1, h2⟩
theorem harm_phi {L many : Nat} {w : List Nat → List Int} {t : List Nat} (ht : t.length = many + 1) : Harm L many w (phi w t) := fun r hr _ => by
  by_cases hp : t.take r.length = r
  · have hlt : r.length < t.length := by omega
    have e : t[r.length]? = some t[r.length] := List.getElem?_eq_getElem hlt
    have hd : t.drop r.length = t[r.length] :: t.drop (r.length + 1) := List.drop_eq_getElem_cons hlt
    have tk : t.take (r ++ [t[r.length]]).length = r ++ [t[r.length]] := by
      rw [List.length_append, List.length_singleton, List.take_add_one, hp, e]
      rfl
    rw [hs_pick (phi w t) r t[r.length] (ts w (r ++ [t[r.length]]) (t.drop (r.length + 1))) ?h0 ?ha 0]
    · rw [if_pos (Nat.zero_le _), Nat.sub_zero]
      unfold phi
      rw [if_pos hp, hd]
      rfl
    case h0 =>
      intro i hi
      unfold phi
      rw [if_neg]
      intro z
      have := (take_snoc z).2
      rw [e] at this
      exact hi (Option.some.inj this).symm
    case ha =>
      unfold phi
      rw [if_pos tk, List.length_append, List.length_singleton]
  · have h0 : ∀ i, phi w t (r ++ [i]) = 0 := fun i => by
      unfold phi
      rw [if_neg]
      intro z
      exact hp (take_snoc z).1
    rw [hs_pick (phi w t) r 0 0 (fun i _ => h0 i) (h0 0) 0, Rat.mul_zero]
    unfold phi
    rw [if_neg hp]
end SA
/-! Sizes: which rows the round has, how many, over which divisor their chances stand. -/
namespace SA
/-! ### the rows -/
def rows (L : Nat) : Nat → List (List Nat)
  | 0 => [[]]
  | d + 1 => (rows L d).flatMap fun r => (List.range L).map fun a => r ++ [a]
theorem rows_mem {L : Nat} : ∀ {d : Nat} {r : List Nat}, r ∈ rows L d ↔ r.length = d ∧ ∀ a ∈ r, a < L
  | 0, r => by
    show r ∈ [[]] ↔ _
    rw [List.mem_singleton]
    refine ⟨fun h => by rw [h]; exact ⟨rfl, fun _ h => nomatch h⟩, fun h => List.length_eq_zero_iff.mp h.1⟩
  | d + 1, r => by
    show r ∈ (rows L d).flatMap _ ↔ _
    rw [List.mem_flatMap]
    constructor
    · rintro ⟨q, hq, hr⟩
      obtain ⟨a, ha, rfl⟩ := List.mem_map.mp hr
      obtain ⟨h1, h2⟩ := rows_mem.mp hq
      refine ⟨by simp [h1], fun b hb => ?_⟩
      rcases List.mem_append.mp hb with z | z
      · exact h2 b z
      · rw [List.mem_singleton.mp z]; exact List.mem_range.mp ha
    · rintro ⟨h1, h2⟩
      have hne : r ≠ [] := fun z => by rw [z] at h1; simp at h1
      have e := (List.dropLast_concat_getLast hne)
      refine ⟨r.dropLast, rows_mem.mpr ⟨by rw [List.length_dropLast]; omega, fun a ha => h2 a (List.mem_of_mem_take (by rw [← List.dropLast_eq_take]; exact ha))⟩, ?_⟩
      exact List.mem_map.mpr ⟨r.getLast hne, List.mem_range.mpr (h2 _ (List.getLast_mem hne)), e⟩
theorem len_flat {α β : Type} {f : α → List β} {n : Nat} : ∀ {l : List α}, (∀ x ∈ l, (f x).length = n) → (l.flatMap f).length = l.length * n
  | [], _ => by simp
  | x :: l, h => by
    rw [List.flatMap_cons, List.length_append, h x List.mem_cons_self, len_flat (l := l) fun y hy => h y (List.mem_cons_of_mem _ hy), List.length_cons, Nat.add_mul, Nat.one_mul, Nat.add_comm]
theorem rows_len (L : Nat) : ∀ d, (rows L d).length = L ^ d
  | 0 => rfl
  | d + 1 => by
    show ((rows L d).flatMap _).length = _
    rw [len_flat (n := L) (fun r _ => by simp), rows_len L d, Nat.pow_succ]
theorem nodup_flat {α β : Type} {f : α → List β} {l : List α} (h1 : ∀ x ∈ l, (f x).Nodup) (h2 : l.Pairwise fun a b => ∀ x ∈ f a, x ∉ f b) : (l.flatMap f).Nodup := by
  unfold List.Nodup
  rw [List.pairwise_flatMap]
  refine ⟨h1, h2.imp fun {a b} h x hx y hy e => ?_⟩
  subst e
  exact h x hx hy
theorem snoc_inj {r q : List Nat} {a b : Nat} (h : r ++ [a] = q ++ [b]) : r = q ∧ a = b := by
  have := List.append_inj' h rfl
  exact ⟨this.1, by simpa using this.2⟩
theorem rows_nodup (L : Nat) : ∀ d, (rows L d).Nodup
  | 0 => by show ([[]] : List (List Nat)).Nodup; simp
  | d + 1 => by
    refine nodup_flat (fun r _ => ?_) ?_
    · unfold List.Nodup
      rw [List.pairwise_map]
      exact (List.nodup_range (n := L)).imp fun h e => h (snoc_inj e).2
    · refine (rows_nodup L d).imp fun h x hx hy => ?_
      obtain ⟨a, _, rfl⟩ := List.mem_map.mp hx
      obtain ⟨b, _, e⟩ := List.mem_map.mp hy
      exact h (snoc_inj e).1.symm

/-! ### the keys of the round -/
theorem ext_keys {r : List Nat} {s : Rat} : ∀ {i : Nat} {ps : List Rat}, (ext r s i ps).map (·.1) = (List.range' i ps.length).map fun a => r ++ [a]
  | _, [] => rfl
  | i, p :: ps => by
    show (r ++ [i]) :: (ext r s (i + 1) ps).map (·.1) = _
    rw [ext_keys, List.length_cons, List.range'_succ, List.map_cons]
theorem range'_zero (n : Nat) : List.range' 0 n = List.range n := (List.range_eq_range').symm
section
variable {L many : Nat} {w1 w2 : List Nat → List Int} (W : WW L many w1 w2)
include W
theorem acc_keys : ∀ d, d ≤ many + 1 → (acc w1 w2 d).map (·.1) = rows L d
  | 0, _ => rfl
  | d + 1, hd => by
    rw [acc_succ W (by omega), List.map_flatMap]
    show _ = (rows L d).flatMap _
    rw [← acc_keys d (by omega), List.flatMap_map]
    have go : ∀ l : List Ent, (∀ x ∈ l, AOk L d x) → (l.flatMap fun x => (goA w1 w2 x).map (·.1)) = l.flatMap fun x => (List.range L).map fun a => x.1 ++ [a] := by
      intro l
      induction l with
      | nil => intro _; rfl
      | cons x l ih =>
        intro h
        rw [List.flatMap_cons, List.flatMap_cons, ih fun y hy => h y (List.mem_cons_of_mem _ hy)]
        obtain ⟨h1, h2⟩ := both_len W (by omega) (h x List.mem_cons_self)
        unfold goA
        rw [ext_keys, lss_len (h1.trans h2.symm), h1, range'_zero]
    exact go _ fun x hx => acc_ok W d (by omega) x hx
theorem goE_mem {x y : Ent} {d : Nat} (hd : d ≤ many) (h : AOk L d x) (hy : y ∈ goE w1 w2 x) : ∃ (j : Nat) (p q : Rat), j < L ∧ (shr (w1 x.1))[j]? = some p ∧ (shr (w2 x.1))[j]? = some q ∧ y = (x.1 ++ [j], x.2 * (p - les p q)) ∧ 0 < p ∧ 0 < q ∧ 0 < y.2 := by
  obtain ⟨h1, h2⟩ := both_len W hd h
  unfold goE at hy
  split at hy
  · obtain ⟨hm, hp⟩ := List.mem_filter.mp hy
    obtain ⟨j, hj, e⟩ := mem_ext hm
    have hjL : j < L := by rw [abv_len (h1.trans h2.symm), h1] at hj; exact hj
    have g1 : j < (shr (w1 x.1)).length := by omega
    have g2 : j < (shr (w2 x.1)).length := by omega
    refine ⟨j, (shr (w1 x.1))[j], (shr (w2 x.1))[j], hjL, List.getElem?_eq_getElem g1, List.getElem?_eq_getElem g2, ?_, ?_, ?_, by simpa using hp⟩
    · rw [e, Nat.zero_add]
      simp [abv]
    · exact shr_pos (W.a _ (by rw [h.len]; exact hd) h.let_) W.l1 _ (List.getElem_mem _)
    · exact shr_pos (W.b _ (by rw [h.len]; exact hd) h.let_) W.l1 _ (List.getElem_mem _)
  · exact nomatch hy
theorem fin_eq {x : Ent} {d : Nat} (hd : d ≤ many) (h : AOk L d x) : fin w1 x = ext x.1 x.2 0 (shr (w1 x.1)) := by
  unfold fin
  refine pos_all W fun y hy => ?_
  obtain ⟨j, hj, e⟩ := mem_ext hy
  rw [e]
  exact Rat.mul_pos h.pos (shr_pos (W.a _ (by rw [h.len]; exact hd) h.let_) W.l1 _ (List.getElem_mem _))
theorem fin_mem {x y : Ent} {d : Nat} (hd : d ≤ many) (h : AOk L d x) (hy : y ∈ fin w1 x) : ∃ (j : Nat) (p : Rat), j < L ∧ (shr (w1 x.1))[j]? = some p ∧ y = (x.1 ++ [j], x.2 * p) ∧ 0 < p ∧ 0 < y.2 := by
  obtain ⟨h1, h2⟩ := both_len W hd h
  obtain ⟨hm, hp⟩ := List.mem_filter.mp hy
  obtain ⟨j, hj, e⟩ := mem_ext hm
  refine ⟨j, (shr (w1 x.1))[j], by omega, List.getElem?_eq_getElem hj, by rw [e, Nat.zero_add], shr_pos (W.a _ (by rw [h.len]; exact hd) h.let_) W.l1 _ (List.getElem_mem _), by simpa using hp⟩
/-- the keys that might be -/
theorem goE_keys {x : Ent} {d : Nat} (hd : d ≤ many) (h : AOk L d x) : ((goE w1 w2 x).map (·.1)).Sublist ((List.range L).map fun a => x.1 ++ [a]) := by
  obtain ⟨h1, h2⟩ := both_len W hd h
  unfold goE
  split
  · have := (List.filter_sublist (l := ext x.1 x.2 0 (abv (shr (w1 x.1)) (shr (w2 x.1)))) (p := fun y => decide (0 < y.2))).map (·.1)
    rw [ext_keys, abv_len (h1.trans h2.symm), h1, range'_zero] at this
    exact this
  · exact List.nil_sublist _
theorem fin_keys {x : Ent} {d : Nat} (hd : d ≤ many) (h : AOk L d x) : (fin w1 x).map (·.1) = (List.range L).map fun a => x.1 ++ [a] := by
  rw [fin_eq W hd h, ext_keys, (both_len W hd h).1, range'_zero]
omit W in
theorem sub_flat {α β : Type} {f g : α → List β} : ∀ {l : List α}, (∀ x ∈ l, (f x).Sublist (g x)) → (l.flatMap f).Sublist (l.flatMap g)
  | [], _ => List.Sublist.refl _
  | x :: l, h => by
    rw [List.flatMap_cons, List.flatMap_cons]
    exact (h x List.mem_cons_self).append (sub_flat fun y hy => h y (List.mem_cons_of_mem _ hy))
theorem lev_keys {d : Nat} (hd : d ≤ many) : ((lev w1 w2 d).map (·.1)).Sublist (rows L (d + 1)) := by
  unfold lev
  rw [List.map_flatMap]
  show List.Sublist _ ((rows L d).flatMap _)
  rw [← acc_keys W d (by omega), List.flatMap_map]
  exact sub_flat fun x hx => goE_keys W hd (acc_ok W d (by omega) x hx)
theorem last_keys : ((acc w1 w2 many).flatMap (fin w1)).map (·.1) = rows L (many + 1) := by
  rw [List.map_flatMap]
  show _ = (rows L many).flatMap _
  rw [← acc_keys W many (by omega), List.flatMap_map]
  have go : ∀ l : List Ent, (∀ x ∈ l, AOk L many x) → (l.flatMap fun x => (fin w1 x).map (·.1)) = l.flatMap fun x => (List.range L).map fun a => x.1 ++ [a] := by
    intro l
    induction l with
    | nil => intro _; rfl
    | cons x l ih =>
      intro h
      rw [List.flatMap_cons, List.flatMap_cons, ih fun y hy => h y (List.mem_cons_of_mem _ hy), fin_keys W (Nat.le_refl _) (h x List.mem_cons_self)]
  exact go _ fun x hx => acc_ok W many (by omega) x hx
theorem ents_keys : ((ents w1 w2 many).map (·.1)).Sublist ((List.range (many + 1)).flatMap fun d => rows L (d + 1)) := by
  unfold ents
  rw [List.map_append, last_keys W, List.map_flatMap, List.range_succ, List.flatMap_append, List.flatMap_singleton]
  exact (sub_flat fun d hd => lev_keys W (by have := List.mem_range.mp hd; omega)).append (List.Sublist.refl _)
theorem ents_nodup : ((ents w1 w2 many).map (·.1)).Nodup := by
  refine List.Sublist.nodup (ents_keys W) (nodup_flat (fun d _ => rows_nodup L _) ?_)
  refine (List.nodup_range (n := many + 1)).imp fun h x hx hy => ?_
  have h1 := (rows_mem.mp hx).1
  have h2 := (rows_mem.mp hy).1
  omega
/-- what holds of each row of the round -/
structure EOk (L many : Nat) (x : Ent) : Prop where
  lo : 1 ≤ x.1.length
  hi : x.1.length ≤ many + 1
  let_ : ∀ a ∈ x.1, a < L
  pos : 0 < x.2
theorem ents_ok : ∀ x ∈ ents w1 w2 many, EOk L many x := by
  intro x hx
  have hk := (ents_keys W).subset (List.mem_map.mpr ⟨x, hx, rfl⟩)
  obtain ⟨d, hd, hr⟩ := List.mem_flatMap.mp hk
  obtain ⟨h1, h2⟩ := rows_mem.mp hr
  have hd := List.mem_range.mp hd
  refine ⟨by omega, by omega, h2, ?_⟩
  rcases List.mem_append.mp hx with z | z
  · obtain ⟨e, he, z⟩ := List.mem_flatMap.mp z
    obtain ⟨y, hy, z⟩ := List.mem_flatMap.mp z
    have he := List.mem_range.mp he
    obtain ⟨_, _, _, _, _, _, _, _, _, hp⟩ := goE_mem W (d := e) (by omega) (acc_ok W e (by omega) y hy) z
    exact hp
  · obtain ⟨y, hy, z⟩ := List.mem_flatMap.mp z
    obtain ⟨_, _, _, _, _, _, hp⟩ := fin_mem W (Nat.le_refl _) (acc_ok W many (by omega) y hy) z
    exact hp
theorem ents_len : ((ents w1 w2 many).filter fun x => decide (x.1.length = many + 1)).length = L ^ (many + 1) := by
  unfold ents
  rw [List.filter_append, List.length_append]
  have h1 : ((List.range many).flatMap (lev w1 w2)).filter (fun x => decide (x.1.length = many + 1)) = [] := by
    rw [List.filter_eq_nil_iff]
    intro x hx
    obtain ⟨d, hd, z⟩ := List.mem_flatMap.mp hx
    have hd := List.mem_range.mp hd
    have := (rows_mem.mp ((lev_keys W (d := d) (by omega)).subset (List.mem_map.mpr ⟨x, z, rfl⟩))).1
    simp
    omega
  have h2 : ((acc w1 w2 many).flatMap (fin w1)).filter (fun x => decide (x.1.length = many + 1)) = (acc w1 w2 many).flatMap (fin w1) := by
    rw [List.filter_eq_self]
    intro x hx
    have hm : x.1 ∈ ((acc w1 w2 many).flatMap (fin w1)).map (·.1) := List.mem_map.mpr ⟨x, hx, rfl⟩
    rw [last_keys W] at hm
    simpa using (rows_mem.mp hm).1
  rw [h1, h2]
  have := congrArg List.length (last_keys W)
  rw [List.length_map, rows_len] at this
  rw [this]
  simp
end

/-! ### the divisor of all -/
def lprod : List Nat → Nat
  | [] => 1
  | x :: l => x * lprod l
theorem lprod_dvd {x : Nat} : ∀ {l : List Nat}, x ∈ l → x ∣ lprod l
  | y :: l, h => by
    rcases List.mem_cons.mp h with e | h
    · rw [e]; exact Nat.dvd_mul_right _ _
    · exact Nat.dvd_trans (lprod_dvd h) (Nat.dvd_mul_left _ _)
theorem lprod_le {b : Nat} : ∀ {l : List Nat}, (∀ x ∈ l, x ≤ 2 ^ b) → lprod l ≤ 2 ^ (b * l.length)
  | [], _ => by simp [lprod]
  | y :: l, h => by
    have ih := lprod_le (l := l) fun x hx => h x (List.mem_cons_of_mem _ hx)
    have hy := h y List.mem_cons_self
    rw [List.length_cons, Nat.mul_add, Nat.mul_one, Nat.add_comm, Nat.pow_add]
    exact Nat.mul_le_mul hy ih
theorem lprod_pos : ∀ {l : List Nat}, (∀ x ∈ l, 0 < x) → 0 < lprod l
  | [], _ => Nat.one_pos
  | y :: l, h => Nat.mul_pos (h y List.mem_cons_self) (lprod_pos fun x hx => h x (List.mem_cons_of_mem _ hx))
section
variable (L many : Nat) (w1 w2 : List Nat → List Int)
/-- the divisor of a level -/
def lv (d : Nat) : Nat := if d < many then lprod ((rows L d).map fun r => tot (w1 r) * tot (w2 r)) else lprod ((rows L d).map fun r => tot (w1 r))
/-- n levels from k on -/
def tl : Nat → Nat → Nat
  | _, 0 => 1
  | k, n + 1 => lv L many w1 w2 k * tl (k + 1) n
def bigD : Nat := tl L many w1 w2 0 (many + 1)
end
section
variable {L many : Nat} {w1 w2 : List Nat → List Int}
/-- a function of rows whose values behind d letters are of the levels from d on -/
def Tail (φ : List Nat → Rat) : Prop := ∀ r, r.length ≤ many + 1 → (∀ a ∈ r, a < L) → IsD (φ r) (tl L many w1 w2 r.length (many + 1 - r.length))
theorem tl_split : ∀ (m k n : Nat), tl L many w1 w2 k (m + n) = tl L many w1 w2 k m * tl L many w1 w2 (k + m) n
  | 0, k, n => by
    rw [Nat.zero_add, Nat.add_zero]
    show _ = 1 * _
    rw [Nat.one_mul]
  | m + 1, k, n => by
    rw [show m + 1 + n = (m + n) + 1 by omega]
    show lv L many w1 w2 k * tl L many w1 w2 (k + 1) (m + n) = lv L many w1 w2 k * tl L many w1 w2 (k + 1) m * _
    rw [tl_split m (k + 1) n, Nat.mul_assoc, show k + 1 + m = k + (m + 1) by omega]
variable (W : WW L many w1 w2)
include W
theorem tot1_lv {r : List Nat} {d : Nat} (hd : d ≤ many) (hr : r.length = d) (hl : ∀ a ∈ r, a < L) : tot (w1 r) ∣ lv L many w1 w2 d := by
  unfold lv
  split
  · exact Nat.dvd_trans (Nat.dvd_mul_right _ _) (lprod_dvd (List.mem_map.mpr ⟨r, rows_mem.mpr ⟨hr, hl⟩, rfl⟩))
  · exact lprod_dvd (List.mem_map.mpr ⟨r, rows_mem.mpr ⟨hr, hl⟩, rfl⟩)
theorem tot12_lv {r : List Nat} {d : Nat} (hd : d < many) (hr : r.length = d) (hl : ∀ a ∈ r, a < L) : tot (w1 r) * tot (w2 r) ∣ lv L many w1 w2 d := by
  unfold lv
  rw [if_pos hd]
  exact lprod_dvd (List.mem_map.mpr ⟨r, rows_mem.mpr ⟨hr, hl⟩, rfl⟩)
theorem shr1_isD {r : List Nat} (hr : r.length ≤ many) (hl : ∀ a ∈ r, a < L) {j : Nat} {p : Rat} (h : (shr (w1 r))[j]? = some p) : IsD p (tot (w1 r)) :=
  shr_isD (W.a r hr hl) W.l1 p (List.mem_of_getElem? h)
theorem shr2_isD {r : List Nat} (hr : r.length ≤ many) (hl : ∀ a ∈ r, a < L) {j : Nat} {p : Rat} (h : (shr (w2 r))[j]? = some p) : IsD p (tot (w2 r)) :=
  shr_isD (W.b r hr hl) W.l1 p (List.mem_of_getElem? h)
theorem les_isD {r : List Nat} (hr : r.length ≤ many) (hl : ∀ a ∈ r, a < L) {j : Nat} {p q : Rat} (h1 : (shr (w1 r))[j]? = some p) (h2 : (shr (w2 r))[j]? = some q) : IsD (les p q) (tot (w1 r) * tot (w2 r)) := by
  rcases les_cases p q with e | e <;> rw [e]
  · exact (shr1_isD W hr hl h1).more _
  · exact (shr2_isD W hr hl h2).more' _
theorem acc_isD : ∀ (d : Nat), d ≤ many → ∀ x ∈ acc w1 w2 d, IsD x.2 (tl L many w1 w2 0 d)
  | 0, _, x, hx => by
    have e : x = ([], 1) := by simpa [acc] using hx
    rw [e]
    exact IsD.one _
  | d + 1, hd, x, hx => by
    rw [acc_succ W (by omega)] at hx
    obtain ⟨y, hy, hx⟩ := List.mem_flatMap.mp hx
    have ok := acc_ok W d (by omega) y hy
    obtain ⟨j, p, q, hj, h1, h2, e, _, _⟩ := goA_mem W (by omega) ok hx
    have ih := acc_isD d (by omega) y hy
    rw [e, tl_split d 0 1]
    refine ih.mul ?_
    rw [Nat.zero_add]
    show IsD _ (lv L many w1 w2 d * 1)
    rw [Nat.mul_one]
    exact (les_isD W (by rw [ok.len]; omega) ok.let_ h1 h2).dvd (tot12_lv W (by omega) ok.len ok.let_)
theorem ents_isD {φ : List Nat → Rat} (T : Tail (L := L) (many := many) (w1 := w1) (w2 := w2) φ) : ∀ x ∈ ents w1 w2 many, IsD (x.2 * φ x.1) (bigD L many w1 w2) := by
  intro x hx
  have ex := ents_ok W x hx
  have hT := T x.1 ex.hi ex.let_
  suffices IsD x.2 (tl L many w1 w2 0 x.1.length) by
    have h := this.mul hT
    have e := tl_split (L := L) (many := many) (w1 := w1) (w2 := w2) x.1.length 0 (many + 1 - x.1.length)
    rw [Nat.zero_add] at e
    rw [← e, show x.1.length + (many + 1 - x.1.length) = many + 1 by have := ex.hi; omega] at h
    exact h
  rcases List.mem_append.mp hx with z | z
  · obtain ⟨d, hd, z⟩ := List.mem_flatMap.mp z
    obtain ⟨y, hy, z⟩ := List.mem_flatMap.mp z
    have hd := List.mem_range.mp hd
    have ok := acc_ok W d (by omega) y hy
    obtain ⟨j, p, q, hj, h1, h2, e, _, _, _⟩ := goE_mem W (by omega) ok z
    rw [e]
    show IsD _ (tl L many w1 w2 0 (y.1 ++ [j]).length)
    rw [List.length_append, List.length_singleton, ok.len, tl_split d 0 1]
    refine (acc_isD W d (by omega) y hy).mul ?_
    rw [Nat.zero_add]
    show IsD _ (lv L many w1 w2 d * 1)
    rw [Nat.mul_one]
    have hr : y.1.length ≤ many := by rw [ok.len]; omega
    exact (((shr1_isD W hr ok.let_ h1).more _).sub (les_isD W hr ok.let_ h1 h2)).dvd (tot12_lv W (by omega) ok.len ok.let_)
  · obtain ⟨y, hy, z⟩ := List.mem_flatMap.mp z
    have ok := acc_ok W many (by omega) y hy
    obtain ⟨j, p, hj, h1, e, _, _⟩ := fin_mem W (Nat.le_refl _) ok z
    rw [e]
    show IsD _ (tl L many w1 w2 0 (y.1 ++ [j]).length)
    rw [List.length_append, List.length_singleton, ok.len, tl_split many 0 1]
    refine (acc_isD W many (Nat.le_refl _) y hy).mul ?_
    rw [Nat.zero_add]
    show IsD _ (lv L many w1 w2 many * 1)
    rw [Nat.mul_one]
    exact (shr1_isD W (by rw [ok.len]; omega) ok.let_ h1).dvd (tot1_lv W (Nat.le_refl _) ok.len ok.let_)
theorem tail_one : Tail (L := L) (many := many) (w1 := w1) (w2 := w2) (fun _ => 1) := fun _ _ _ => IsD.one _
theorem getD_isD {r : List Nat} (hr : r.length ≤ many) (hl : ∀ a ∈ r, a < L) (a : Nat) : IsD ((shr (w1 r)).getD a 0) (tot (w1 r)) := by
  rw [List.getD_eq_getElem?_getD]
  cases h : (shr (w1 r))[a]? with
  | none => exact IsD.zero _
  | some p => exact shr1_isD W hr hl h
theorem ts_isD : ∀ (t : List Nat) (r : List Nat), r.length + t.length = many + 1 → (∀ a ∈ r, a < L) → (∀ a ∈ t, a < L) → IsD (ts w1 r t) (tl L many w1 w2 r.length t.length)
  | [], r, _, _, _ => IsD.one _
  | a :: t, r, h, hr, ht => by
    have hlen : r.length + 1 + t.length = many + 1 := by simp at h; omega
    have ih := ts_isD t (r ++ [a]) (by simp; omega) (fun b hb => by
      rcases List.mem_append.mp hb with z | z
      · exact hr b z
      · rw [List.mem_singleton.mp z]; exact ht a List.mem_cons_self) fun b hb => ht b (List.mem_cons_of_mem _ hb)
    rw [List.length_append, List.length_singleton] at ih
    show IsD ((shr (w1 r)).getD a 0 * ts w1 (r ++ [a]) t) (lv L many w1 w2 r.length * tl L many w1 w2 (r.length + 1) t.length)
    exact ((getD_isD W (by omega) hr a).dvd (tot1_lv W (by omega) rfl hr)).mul ih
theorem tail_phi {t : List Nat} (ht : t.length = many + 1) (hl : ∀ a ∈ t, a < L) : Tail (L := L) (many := many) (w1 := w1) (w2 := w2) (phi w1 t) := fun r hr hlr => by
  unfold phi
  split
  · have h := ts_isD W (t.drop r.length) r (by rw [List.length_drop]; omega) hlr fun a ha => hl a (List.mem_of_mem_drop ha)
    rw [List.length_drop, ht] at h
    exact h
  · exact IsD.zero _
theorem lv_pos {d : Nat} (hd : d ≤ many) : 0 < lv L many w1 w2 d := by
  unfold lv
  split
  · refine lprod_pos fun x hx => ?_
    obtain ⟨r, hr, rfl⟩ := List.mem_map.mp hx
    obtain ⟨h1, h2⟩ := rows_mem.mp hr
    exact Nat.mul_pos (tot_pos (W.a r (by omega) h2) W.l1) (tot_pos (W.b r (by omega) h2) W.l1)
  · refine lprod_pos fun x hx => ?_
    obtain ⟨r, hr, rfl⟩ := List.mem_map.mp hx
    obtain ⟨h1, h2⟩ := rows_mem.mp hr
    exact tot_pos (W.a r (by omega) h2) W.l1
theorem tl_pos : ∀ (n k : Nat), k + n ≤ many + 1 → 0 < tl L many w1 w2 k n
  | 0, _, _ => Nat.one_pos
  | n + 1, k, h => Nat.mul_pos (lv_pos W (by omega)) (tl_pos n (k + 1) (by omega))
theorem bigD_pos : 0 < bigD L many w1 w2 := tl_pos W _ 0 (by omega)
theorem lv_le {d : Nat} (hd : d ≤ many) : lv L many w1 w2 d ≤ 2 ^ ((if d < many then 18 else 9) * 4 ^ d) := by
  have hlen : (rows L d).length ≤ 4 ^ d := by
    rw [rows_len]
    exact Nat.pow_le_pow_left W.l4 d
  unfold lv
  split
  · refine Nat.le_trans (lprod_le (b := 18) fun x hx => ?_) (Nat.pow_le_pow_right (by decide) (by rw [List.length_map]; exact Nat.mul_le_mul_left _ hlen))
    obtain ⟨r, hr, rfl⟩ := List.mem_map.mp hx
    obtain ⟨h1, h2⟩ := rows_mem.mp hr
    have a := tot_lt (W.a r (by omega) h2) W.l4
    have b := tot_lt (W.b r (by omega) h2) W.l4
    exact Nat.le_trans (Nat.mul_le_mul (Nat.le_of_lt a) (Nat.le_of_lt b)) (by decide)
  · refine Nat.le_trans (lprod_le (b := 9) fun x hx => ?_) (Nat.pow_le_pow_right (by decide) (by rw [List.length_map]; exact Nat.mul_le_mul_left _ hlen))
    obtain ⟨r, hr, rfl⟩ := List.mem_map.mp hx
    obtain ⟨h1, h2⟩ := rows_mem.mp hr
    have a := tot_lt (W.a r (by omega) h2) W.l4
    show tot (w1 r) ≤ 512
    omega
theorem bigD_le (h3 : many ≤ 3) {B : Nat} (hB : 954 ≤ B) : bigD L many w1 w2 ≤ 2 ^ B := by
  have two : ∀ {a b m n : Nat}, a ≤ 2 ^ m → b ≤ 2 ^ n → a * b ≤ 2 ^ (m + n) := fun h1 h2 => by
    rw [Nat.pow_add]
    exact Nat.mul_le_mul h1 h2
  have up : ∀ {a m : Nat}, a ≤ 2 ^ m → m ≤ 954 → a ≤ 2 ^ B := fun h1 h2 => Nat.le_trans h1 (Nat.pow_le_pow_right (by decide) (by omega))
  have lv : ∀ d, d ≤ many → lv L many w1 w2 d ≤ 2 ^ ((if d < many then 18 else 9) * 4 ^ d) := fun d hd => lv_le W hd
  have one : (1 : Nat) ≤ 2 ^ 0 := Nat.le_refl _
  show tl L many w1 w2 0 (many + 1) ≤ _
  rcases (by omega : many = 0 ∨ many = 1 ∨ many = 2 ∨ many = 3) with e | e | e | e
  · subst e
    exact up (two (lv 0 (by omega)) one) (by decide)
  · subst e
    exact up (two (lv 0 (by omega)) (two (lv 1 (by omega)) one)) (by decide)
  · subst e
    exact up (two (lv 0 (by omega)) (two (lv 1 (by omega)) (two (lv 2 (by omega)) one))) (by decide)
  · subst e
    exact up (two (lv 0 (by omega)) (two (lv 1 (by omega)) (two (lv 2 (by omega)) (two (lv 3 (by omega)) one)))) (by decide)
end
end SA
/-! How small shares are. -/
namespace SA
structure Lo (B : Nat) (q : Rat) : Prop where
  nn : 0 ≤ q
  le : q ≤ 1
  den : q.den ≤ 2 ^ B
theorem Lo.mul {A B : Nat} {p q : Rat} (a : Lo A p) (b : Lo B q) : Lo (A + B) (p * q) := by
  refine ⟨Rat.mul_nonneg a.nn b.nn, ?_, ?_⟩
  · have h : 0 ≤ (1 - p) * q := Rat.mul_nonneg (by have := a.le; grind) b.nn
    have hb := b.le
    grind
  · refine Nat.le_trans (den_mul_le p q) ?_
    rw [Nat.pow_add]
    exact Nat.mul_le_mul a.den b.den
theorem Lo.more {A B : Nat} {p : Rat} (a : Lo A p) (h : A ≤ B) : Lo B p := ⟨a.nn, a.le, Nat.le_trans a.den (Nat.pow_le_pow_right (by decide) h)⟩
theorem Lo.zero (B : Nat) : Lo B 0 := ⟨Rat.le_refl, by decide, Nat.one_le_two_pow⟩
theorem Lo.one (B : Nat) : Lo B 1 := ⟨by decide, Rat.le_refl, Nat.one_le_two_pow⟩
theorem Lo.num {B : Nat} {q : Rat} (a : Lo B q) : q.num.natAbs ≤ 2 ^ B := by
  have h1 := num_le_den a.le
  have h2 := num_nn a.nn
  have h3 := a.den
  omega
theorem Lo.ofD {B D : Nat} {q : Rat} (h0 : 0 ≤ q) (h1 : q ≤ 1) (h : IsD q D) (hD : 0 < D) (hB : D ≤ 2 ^ B) : Lo B q := ⟨h0, h1, Nat.le_trans (h.den_le hD) hB⟩
theorem tot9 {L : Nat} {w : List Int} (h : WOk L w) (hL : L ≤ 4) : tot w ≤ 2 ^ 9 := by
  have := tot_lt h hL
  omega
section
variable {L : Nat} (l1 : 1 ≤ L) (l4 : L ≤ 4)
include l1 l4
theorem lo_shr {w : List Int} (h : WOk L w) : ∀ p ∈ shr w, Lo 9 p := fun p hp =>
  Lo.ofD (by have := shr_pos h l1 p hp; exact Rat.le_of_lt this) (shr_le h l1 p hp) (shr_isD h l1 p hp) (tot_pos h l1) (tot9 h l4)
theorem lo_getD {w : List Int} (h : WOk L w) (a : Nat) : Lo 9 ((shr w).getD a 0) := by
  rw [List.getD_eq_getElem?_getD]
  cases e : (shr w)[a]? with
  | none => exact Lo.zero 9
  | some p => exact lo_shr l1 l4 h p (List.mem_of_getElem? e)
end
theorem lo_les {B : Nat} {p q : Rat} (a : Lo B p) (b : Lo B q) : Lo B (les p q) := by
  rcases les_cases p q with e | e <;> rw [e] <;> assumption
section
variable {L : Nat} (l1 : 1 ≤ L) (l4 : L ≤ 4) {w v : List Int} (hw : WOk L w) (hv : WOk L v)
include l1 l4 hw hv
theorem tt_le : tot w * tot v ≤ 2 ^ 18 := by
  have h := Nat.mul_le_mul (tot9 hw l4) (tot9 hv l4)
  rw [← Nat.pow_add] at h
  exact h
theorem abv_D : ∀ p ∈ abv (shr w) (shr v), IsD p (tot w * tot v) := by
  intro p hp
  unfold abv at hp
  obtain ⟨i, hi, rfl⟩ := List.mem_iff_getElem.mp hp
  rw [List.getElem_zipWith]
  have h1 := (shr_isD hw l1 _ (List.getElem_mem (l := shr w) (n := i) (by simp at hi; omega))).more (tot v)
  have h2 := (shr_isD hv l1 _ (List.getElem_mem (l := shr v) (n := i) (by simp at hi; omega))).more' (tot w)
  refine h1.sub ?_
  rcases les_cases ((shr w)[i]'(by simp at hi; omega)) ((shr v)[i]'(by simp at hi; omega)) with e | e <;> rw [e] <;> assumption
end
theorem abv_sum_le : ∀ {ps qs : List Rat}, (∀ p ∈ ps, 0 ≤ p) → (∀ q ∈ qs, 0 ≤ q) → (abv ps qs).sum ≤ ps.sum
  | [], qs, _, _ => by
    unfold abv
    rw [List.zipWith_nil_left]
    exact Rat.le_refl
  | p :: ps, [], h, _ => by
    unfold abv
    rw [List.zipWith_nil_right]
    exact sum_nn h
  | p :: ps, q :: qs, h, k => by
    have ih := abv_sum_le (ps := ps) (qs := qs) (fun x hx => h x (List.mem_cons_of_mem _ hx)) (fun x hx => k x (List.mem_cons_of_mem _ hx))
    have hp := h p List.mem_cons_self
    have hq := k q List.mem_cons_self
    have hl : 0 ≤ les p q := by rcases les_cases p q with e | e <;> rw [e] <;> assumption
    show ((p - les p q) :: abv ps qs).sum ≤ _
    rw [sum_cons, sum_cons]
    grind
theorem take_sum_le {l : List Rat} (h : ∀ p ∈ l, 0 ≤ p) (i : Nat) : (l.take i).sum ≤ l.sum := by
  have e := sum_app (l.take i) (l.drop i)
  rw [List.take_append_drop] at e
  have hn := sum_nn (l := l.drop i) fun p hp => h p (List.mem_of_mem_drop hp)
  rw [e]
  grind
theorem sum_D {D : Nat} : ∀ {l : List Rat}, (∀ p ∈ l, IsD p D) → IsD l.sum D
  | [], _ => IsD.zero D
  | x :: l, h => by
    rw [sum_cons]
    exact (h x List.mem_cons_self).add (sum_D fun p hp => h p (List.mem_cons_of_mem _ hp))
theorem sumR_take {zs : List Rat} {i : Nat} {z : Rat} (h : zs[i]? = some z) : (zs.take (i + 1)).sum = (zs.take i).sum + z := by
  rw [List.take_add_one, h, sum_app]
  show _ + (z + 0) = _
  rw [Rat.add_zero]
section
variable {L : Nat} (l1 : 1 ≤ L) (l4 : L ≤ 4) {w v : List Int} (hw : WOk L w) (hv : WOk L v)
include l1 l4 hw hv
theorem lo_abvsum (i : Nat) : Lo 18 ((abv (shr w) (shr v)).take i).sum := by
  have h1 : (abv (shr w) (shr v)).sum ≤ (shr w).sum := abv_sum_le (fun p hp => Rat.le_of_lt (shr_pos hw l1 p hp)) (fun p hp => Rat.le_of_lt (shr_pos hv l1 p hp))
  rw [shr_sum hw l1] at h1
  have h2 := take_sum_le (l := abv (shr w) (shr v)) abv_nn i
  exact Lo.ofD (sum_nn fun p hp => abv_nn p (List.mem_of_mem_take hp)) (by grind) (sum_D fun p hp => abv_D l1 l4 hw hv p (List.mem_of_mem_take hp)) (Nat.mul_pos (tot_pos hw l1) (tot_pos hv l1)) (tt_le l1 l4 hw hv)
theorem lo_abv : ∀ p ∈ abv (shr w) (shr v), Lo 18 p := by
  intro p hp
  have hle : p ≤ 1 := by
    unfold abv at hp
    obtain ⟨i, hi, rfl⟩ := List.mem_iff_getElem.mp hp
    rw [List.getElem_zipWith]
    have g1 : i < (shr w).length := by simp at hi; omega
    have g2 : i < (shr v).length := by simp at hi; omega
    have h1 := shr_le hw l1 _ (List.getElem_mem g1)
    have h2 := shr_pos hw l1 _ (List.getElem_mem g1)
    have h3 := shr_pos hv l1 _ (List.getElem_mem g2)
    have := les_pos h2 h3
    grind
  exact Lo.ofD (abv_nn p hp) hle (abv_D l1 l4 hw hv p hp) (Nat.mul_pos (tot_pos hw l1) (tot_pos hv l1)) (tt_le l1 l4 hw hv)
end
/-- weights behind all rows of letters below L -/
def WA (L : Nat) (w : List Nat → List Int) : Prop := ∀ r, (∀ a ∈ r, a < L) → WOk L (w r)
section
variable {L many : Nat} {w1 w2 : List Nat → List Int} (W : WW L many w1 w2)
include W
theorem acc_lo : ∀ (d : Nat), d ≤ many → ∀ x ∈ acc w1 w2 d, Lo (18 * d) x.2
  | 0, _, x, hx => by
    have e : x = ([], 1) := by simpa [acc] using hx
    rw [e]
    exact Lo.one _
  | d + 1, hd, x, hx => by
    rw [acc_succ W (by omega)] at hx
    obtain ⟨y, hy, hxy⟩ := List.mem_flatMap.mp hx
    have oy := acc_ok W d (by omega) y hy
    obtain ⟨j, p, q, hj, h1, h2, e, hp, hq⟩ := goA_mem W (by omega) oy hxy
    rw [e]
    have l1 := lo_shr W.l1 W.l4 (W.a y.1 (by rw [oy.len]; omega) oy.let_) p (List.mem_of_getElem? h1)
    have l2 := lo_shr W.l1 W.l4 (W.b y.1 (by rw [oy.len]; omega) oy.let_) q (List.mem_of_getElem? h2)
    exact (Lo.mul (acc_lo d (by omega) y hy) (lo_les l1 l2)).more (by omega)
theorem ents_lo : ∀ x ∈ ents w1 w2 many, Lo (18 * (many + 1)) x.2 := by
  intro x hx
  unfold ents at hx
  rcases List.mem_append.mp hx with h | h
  · obtain ⟨d, hd, h⟩ := List.mem_flatMap.mp h
    obtain ⟨y, hy, h⟩ := List.mem_flatMap.mp h
    have hd' := List.mem_range.mp hd
    have oy := acc_ok W d (by omega) y hy
    obtain ⟨j, p, q, hj, h1, h2, e, hp, hq, _⟩ := goE_mem W (by omega) oy h
    rw [e]
    have hw := W.a y.1 (by rw [oy.len]; omega) oy.let_
    have hv := W.b y.1 (by rw [oy.len]; omega) oy.let_
    have l3 : Lo 18 (p - les p q) := lo_abv W.l1 W.l4 hw hv _ (by
      refine List.mem_of_getElem? (i := j) ?_
      unfold abv
      rw [List.getElem?_zipWith, h1, h2])
    exact (Lo.mul (acc_lo W d (by omega) y hy) l3).more (by omega)
  · obtain ⟨y, hy, h⟩ := List.mem_flatMap.mp h
    have oy := acc_ok W many (by omega) y hy
    obtain ⟨j, p, hj, h1, e, hp, _⟩ := fin_mem W (by omega) oy h
    rw [e]
    exact (Lo.mul (acc_lo W many (by omega) y hy) (lo_shr W.l1 W.l4 (W.a y.1 (by rw [oy.len]; omega) oy.let_) p (List.mem_of_getElem? h1))).more (by omega)
theorem ents_pos : ∀ x ∈ ents w1 w2 many, 0 < x.2 := by
  intro x hx
  unfold ents at hx
  rcases List.mem_append.mp hx with h | h
  · obtain ⟨d, hd, h⟩ := List.mem_flatMap.mp h
    obtain ⟨y, hy, h⟩ := List.mem_flatMap.mp h
    have hd' := List.mem_range.mp hd
    have oy := acc_ok W d (by omega) y hy
    obtain ⟨j, p, q, hj, h1, h2, e, hp, hq, h⟩ := goE_mem W (by omega) oy h
    exact h
  · obtain ⟨y, hy, h⟩ := List.mem_flatMap.mp h
    have oy := acc_ok W many (by omega) y hy
    obtain ⟨j, p, hj, h1, e, hp, h⟩ := fin_mem W (by omega) oy h
    exact h
end
theorem ts_snoc (w : List Nat → List Int) (b : Nat) : ∀ (t r : List Nat), ts w r (t ++ [b]) = ts w r t * (shr (w (r ++ t))).getD b 0
  | [], r => by
    show (shr (w r)).getD b 0 * 1 = 1 * _
    rw [Rat.mul_one, Rat.one_mul, List.append_nil]
  | a :: t, r => by
    show (shr (w r)).getD a 0 * ts w (r ++ [a]) (t ++ [b]) = (shr (w r)).getD a 0 * ts w (r ++ [a]) t * _
    rw [ts_snoc w b t (r ++ [a]), List.append_assoc, Rat.mul_assoc]
    rfl
theorem ts_lo {L : Nat} (l1 : 1 ≤ L) (l4 : L ≤ 4) {w : List Nat → List Int} (W : WA L w) : ∀ (t r : List Nat), (∀ a ∈ r, a < L) → (∀ a ∈ t, a < L) → Lo (9 * t.length) (ts w r t)
  | [], r, _, _ => Lo.one _
  | a :: t, r, hr, ht => by
    have hr' : ∀ b ∈ r ++ [a], b < L := fun b hb => by
      rcases List.mem_append.mp hb with h | h
      · exact hr b h
      · rw [List.mem_singleton.mp h]; exact ht a List.mem_cons_self
    have ih := ts_lo l1 l4 W t (r ++ [a]) hr' fun b hb => ht b (List.mem_cons_of_mem _ hb)
    exact (Lo.mul (lo_getD l1 l4 (W r hr) a) ih).more (by simp; omega)
end SA
/-! Parts of the entries. -/
namespace SA
theorem range_pre {α : Type} (f : Nat → List α) {n : Nat} : ∀ {m : Nat}, n ≤ m → ∃ t, (List.range m).flatMap f = (List.range n).flatMap f ++ t
  | 0, h => ⟨[], by rw [show n = 0 by omega, List.append_nil]⟩
  | m + 1, h => by
    by_cases e : n = m + 1
    · exact ⟨[], by rw [e, List.append_nil]⟩
    · obtain ⟨t, ht⟩ := range_pre f (n := n) (m := m) (by omega)
      exact ⟨t ++ f m, by rw [List.range_succ, List.flatMap_append, ht, List.flatMap_singleton, List.append_assoc]⟩
theorem take_flat {α β : Type} {f : α → List β} {l : List α} {j : Nat} {x : α} (h : l[j]? = some x) : ∃ t, l.flatMap f = (l.take j).flatMap f ++ f x ++ t := by
  have hj := (List.getElem?_eq_some_iff.mp h).1
  have e := List.take_append_drop j l
  rw [List.drop_eq_getElem_cons hj] at e
  rw [List.getElem?_eq_getElem hj] at h
  rw [Option.some.inj h] at e
  refine ⟨(l.drop (j + 1)).flatMap f, ?_⟩
  conv => lhs; rw [← e]
  rw [List.flatMap_append, List.flatMap_cons, List.append_assoc]
theorem flat_take {α β : Type} {f : α → List β} {l : List α} {j : Nat} {x : α} (h : l[j]? = some x) : (l.take (j + 1)).flatMap f = (l.take j).flatMap f ++ f x := by
  rw [List.take_add_one, h, List.flatMap_append]
  show _ ++ [x].flatMap f = _
  rw [List.flatMap_singleton]
theorem nd_inj {β : Type} : ∀ {l : List (List Nat × β)}, (l.map (·.1)).Nodup → ∀ x ∈ l, ∀ y ∈ l, x.1 = y.1 → x = y
  | z :: l, h, x, hx, y, hy, e => by
    rw [List.map_cons, List.nodup_cons] at h
    rcases List.mem_cons.mp hx with ex | hx
    · rcases List.mem_cons.mp hy with ey | hy
      · rw [ex, ey]
      · exact (h.1 (List.mem_map.mpr ⟨y, hy, by rw [← e, ex]⟩)).elim
    · rcases List.mem_cons.mp hy with ey | hy
      · exact (h.1 (List.mem_map.mpr ⟨x, hx, by rw [e, ey]⟩)).elim
      · exact nd_inj h.2 x hx y hy e
def kapI (r : List Nat) : List Int := r.map fun n : Nat => (n : Int)
theorem kapI_inj : ∀ {r s : List Nat}, kapI r = kapI s → r = s
  | [], [], _ => rfl
  | [], _ :: _, h => by simp [kapI] at h
  | _ :: _, [], h => by simp [kapI] at h
  | a :: r, b :: s, h => by
    simp only [kapI, List.map_cons, List.cons.injEq] at h
    rw [kapI_inj (r := r) (s := s) h.2, show a = b by omega]
/-- the entry at a key -/
def pick {β : Type} (l : List (List Nat × β)) (b : β) (k : List Int) : List Nat × β := (l.find? fun x => decide (kapI x.1 = k)).getD ([], b)
theorem pick_at {β : Type} {l : List (List Nat × β)} {b : β} (h : (l.map (·.1)).Nodup) {x : List Nat × β} (hx : x ∈ l) : pick l b (kapI x.1) = x := by
  unfold pick
  cases e : l.find? fun y => decide (kapI y.1 = kapI x.1) with
  | none =>
    have := List.find?_eq_none.mp e x hx
    simp at this
  | some y =>
    have h1 := List.find?_some e
    have h2 := List.mem_of_find?_eq_some e
    show y = x
    exact nd_inj h y h2 x hx (kapI_inj (by simpa using h1))
theorem pick_perm {β : Type} {l : List (List Nat × β)} {b : β} (h : (l.map (·.1)).Nodup) {ks : List (List Int)} (p : ks.Perm (l.map fun x => kapI x.1)) : (ks.map (pick l b)).Perm l := by
  have q := p.map (pick l b)
  rw [List.map_map] at q
  have e : l.map (pick l b ∘ fun x => kapI x.1) = l := by
    conv => rhs; rw [← List.map_id l]
    refine List.map_congr_left fun x hx => ?_
    exact pick_at h hx
  rw [e] at q
  exact q
section
variable {L many : Nat} {w1 w2 : List Nat → List Int} (W : WW L many w1 w2)
include W
theorem acc_len {d : Nat} (hd : d ≤ many) (h3 : many ≤ 3) : (acc w1 w2 d).length ≤ 64 := by
  have h := congrArg List.length (acc_keys W d (by omega))
  rw [List.length_map, rows_len] at h
  have h1 : L ^ d ≤ 4 ^ d := Nat.pow_le_pow_left W.l4 d
  have h2 : 4 ^ d ≤ 4 ^ 3 := Nat.pow_le_pow_right (by decide) (by omega)
  have : (4 : Nat) ^ 3 = 64 := by decide
  omega
theorem ents_le (h3 : many ≤ 3) : (ents w1 w2 many).length ≤ 340 := by
  have h := (ents_keys W).length_le
  rw [List.length_map] at h
  refine Nat.le_trans h ?_
  have p1 : L ^ 1 ≤ 4 := by have := W.l4; simpa using this
  have p2 : L ^ 2 ≤ 16 := Nat.pow_le_pow_left W.l4 2
  have p3 : L ^ 3 ≤ 64 := Nat.pow_le_pow_left W.l4 3
  have p4 : L ^ 4 ≤ 256 := Nat.pow_le_pow_left W.l4 4
  rcases (show many = 0 ∨ many = 1 ∨ many = 2 ∨ many = 3 by omega) with rfl | rfl | rfl | rfl
  · show ((List.range 1).flatMap fun d => rows L (d + 1)).length ≤ 340
    rw [show List.range 1 = [0] from rfl]
    simp only [List.flatMap_cons, List.flatMap_nil, List.length_append, rows_len, List.length_nil, Nat.zero_add, Nat.reduceAdd]
    omega
  · rw [show List.range (1 + 1) = [0, 1] from rfl]
    simp only [List.flatMap_cons, List.flatMap_nil, List.length_append, rows_len, List.length_nil, Nat.zero_add, Nat.reduceAdd]
    omega
  · rw [show List.range (2 + 1) = [0, 1, 2] from rfl]
    simp only [List.flatMap_cons, List.flatMap_nil, List.length_append, rows_len, List.length_nil, Nat.zero_add, Nat.reduceAdd]
    omega
  · rw [show List.range (3 + 1) = [0, 1, 2, 3] from rfl]
    simp only [List.flatMap_cons, List.flatMap_nil, List.length_append, rows_len, List.length_nil, Nat.zero_add, Nat.reduceAdd]
    omega
theorem part_go {d j : Nat} {x : Ent} (hd : d < many) (h : (acc w1 w2 d)[j]? = some x) : (((List.range d).flatMap (lev w1 w2) ++ ((acc w1 w2 d).take j).flatMap (goE w1 w2)) ++ goE w1 w2 x).Sublist (ents w1 w2 many) := by
  obtain ⟨t, ht⟩ := range_pre (lev w1 w2) (n := d + 1) (m := many) (by omega)
  obtain ⟨u, hu⟩ := take_flat (f := goE w1 w2) h
  have e : ents w1 w2 many = (((List.range d).flatMap (lev w1 w2) ++ ((acc w1 w2 d).take j).flatMap (goE w1 w2)) ++ goE w1 w2 x) ++ (u ++ (t ++ (acc w1 w2 many).flatMap (fin w1))) := by
    show (List.range many).flatMap (lev w1 w2) ++ _ = _
    rw [ht, List.range_succ, List.flatMap_append, List.flatMap_singleton]
    show ((List.range d).flatMap (lev w1 w2) ++ (acc w1 w2 d).flatMap (goE w1 w2)) ++ t ++ _ = _
    rw [hu]
    simp only [List.append_assoc]
  rw [e]
  exact List.sublist_append_left _ _
theorem part_fin {j : Nat} {x : Ent} (h : (acc w1 w2 many)[j]? = some x) : (((List.range many).flatMap (lev w1 w2) ++ ((acc w1 w2 many).take j).flatMap (fin w1)) ++ fin w1 x).Sublist (ents w1 w2 many) := by
  obtain ⟨u, hu⟩ := take_flat (f := fin w1) h
  have e : ents w1 w2 many = (((List.range many).flatMap (lev w1 w2) ++ ((acc w1 w2 many).take j).flatMap (fin w1)) ++ fin w1 x) ++ u := by
    show (List.range many).flatMap (lev w1 w2) ++ _ = _
    rw [hu]
    simp only [List.append_assoc]
  rw [e]
  exact List.sublist_append_left _ _
theorem goA_len {d : Nat} {x : Ent} (hd : d ≤ many) (h : AOk L d x) : (goA w1 w2 x).length = L := by
  obtain ⟨h1, h2⟩ := both_len W hd h
  show (ext x.1 x.2 0 (lss (shr (w1 x.1)) (shr (w2 x.1)))).length = L
  rw [ext_len, lss_len (h1.trans h2.symm), h1]
end
theorem ww_of {L many : Nat} {w1 w2 : List Nat → List Int} (l1 : 1 ≤ L) (l4 : L ≤ 4) (a : WA L w1) (b : WA L w2) : WW L many w1 w2 := ⟨l1, l4, fun r _ h => a r h, fun r _ h => b r h⟩
end SA
/-! Sums over the entries in any order. -/
namespace SA
theorem S_perm {φ : List Nat → Rat} {a b : List Ent} (h : a.Perm b) : S φ a = S φ b := by
  induction h with
  | nil => rfl
  | cons x _ ih => rw [S_cons, S_cons, ih]
  | swap x y l => rw [S_cons, S_cons, S_cons, S_cons]; grind
  | trans _ _ i1 i2 => rw [i1, i2]
theorem S_nn {φ : List Nat → Rat} : ∀ {l : List Ent}, (∀ x ∈ l, 0 ≤ x.2 * φ x.1) → 0 ≤ S φ l
  | [], _ => Rat.le_refl
  | x :: l, h => by
    have ih := S_nn (φ := φ) (l := l) fun y hy => h y (List.mem_cons_of_mem _ hy)
    have hx := h x List.mem_cons_self
    rw [S_cons]
    grind
theorem S_D {φ : List Nat → Rat} {D : Nat} : ∀ {l : List Ent}, (∀ x ∈ l, IsD (x.2 * φ x.1) D) → IsD (S φ l) D
  | [], _ => IsD.zero D
  | x :: l, h => by
    rw [S_cons]
    exact (h x List.mem_cons_self).add (S_D fun y hy => h y (List.mem_cons_of_mem _ hy))
theorem part_lo {L many : Nat} {w1 w2 : List Nat → List Int} (W : WW L many w1 w2) (h3 : many ≤ 3) {φ : List Nat → Rat} (T : Tail (L := L) (many := many) (w1 := w1) (w2 := w2) φ) (H : Harm L many w1 φ) (h1 : φ [] ≤ 1) {es : List Ent} (p : es.Perm (ents w1 w2 many)) (hn : ∀ x ∈ es, 0 ≤ φ x.1) (i : Nat) : Lo 1000 (S φ (es.take i)) := by
  have hs : S φ es = φ [] := by rw [S_perm p]; exact ents_harm W H
  have hx : ∀ x ∈ es, 0 ≤ x.2 * φ x.1 := fun x hx => Rat.mul_nonneg (ents_lo W x (p.subset hx)).nn (hn x hx)
  have e := S_app φ (es.take i) (es.drop i)
  rw [List.take_append_drop, hs] at e
  have hd := S_nn (φ := φ) (l := es.drop i) fun x h => hx x (List.mem_of_mem_drop h)
  refine Lo.ofD (D := bigD L many w1 w2) (S_nn fun x h => hx x (List.mem_of_mem_take h)) (by grind) (S_D fun x h => ents_isD W T x (p.subset (List.mem_of_mem_take h))) (bigD_pos W) (bigD_le W h3 (by decide))
theorem phi_nil (w : List Nat → List Int) (t : List Nat) : phi w t [] = ts w [] t := by
  unfold phi
  rw [List.length_nil, List.take_zero, if_pos rfl, List.drop_zero]
theorem phi_nn {L : Nat} (l1 : 1 ≤ L) (l4 : L ≤ 4) {w : List Nat → List Int} (W : WA L w) {t : List Nat} (ht : ∀ a ∈ t, a < L) (r : List Nat) : 0 ≤ phi w t r := by
  unfold phi
  split
  · rename_i h
    exact (ts_lo l1 l4 W _ _ (fun a ha => ht a (by rw [← h] at ha; exact List.mem_of_mem_take ha)) fun a ha => ht a (List.mem_of_mem_drop ha)).nn
  · exact Rat.le_refl
end SA
set_option maxRecDepth 100000
set_option maxHeartbeats 4000000
/-! Rules of our own: + - * of two instances of a class of the text's own. -/
namespace SA
open PySem PySem.Spec PyProof.Rows L2
/-- x op y of two instances of C by the text's own def; it hands back an object -/
def rOwn (C : Addr) (sp : Sp) (E : XK) : R2 := fun x y H Q => ∃ a b dx dy fs gs, x = .ref a ∧ y = .ref b ∧ H a = some (.ins C dx fs) ∧ H b = some (.ins C dy gs) ∧ sp [.ref a, .ref b] H (fun v H' => (∃ p, v = .ref p) ∧ Q v H') E
theorem op_own {X : Cx} {CX : CXT} {n : Nat} {C f : Addr} {fd : FuncData} {ps : List Str} {sp : Sp} {E : XK} {op : Operator} (F : FnOk X.prog X.w X.K X.mg X.base CX n f fd ps sp) (hr : Room n X.A)
    (hc : PySem.W.selfFirst X.K C = true) (hs : PySem.W.findIn X.K (.ref C) (PySem.dunder op.info.2) = some (some (.ref f))) (hf : PySem.W.isFn X.K (.ref f) = true) (hb : Binds X.K fd ps []) (hx : Passes CX X E) :
    OpR X (binaryOp op) (rOwn C sp E) := by
  intro pins s σ H x y u v Q I rx ry d
  obtain ⟨a, b, dx, dy, fs, gs, rfl, rfl, ha, hb', hsp⟩ := d
  cases rx
  cases ry
  obtain ⟨mA, J, _⟩ := ins_get I.hok ha
  obtain ⟨mB, J', _⟩ := ins_get I.hok hb'
  obtain ⟨od, J, _⟩ := J.look
  obtain ⟨od', J', _⟩ := J'.look
  obtain ⟨m, hF⟩ := I.fr
  have r2 : Vals [V.ref a, V.ref b] [Value.ref a, Value.ref b] := .cons rfl (.cons rfl .nil)
  refine PySem.W.binop_K hF I.ok.mod.kin J J'.type hc hs hf (thn (run_fn F hr hb .nil hx I r2 hsp) fun w s' q => ?_)
  obtain ⟨z, H', I', rz, ⟨p, rfl⟩, q⟩ := q
  cases rz
  exact ⟨.ref p, H', I', rfl, q⟩
end SA
set_option maxRecDepth 100000
set_option maxHeartbeats 4000000
/-! enumerate(tuple), enumerate(zip(tuple, tuple)), zip of lists and tuples in any mix. -/
namespace SAZ
open PySem PySem.Spec PyProof.Rows
/-- a zip's record, its first two fields open -/
abbrev ZipR (h : Heap) (z TI TO : Addr) (a : Value) (b : Bool) : Prop :=
  h.get? z = some { cls := .type "zip", dict := none, data := .fields #[a, .bool b, .bool false, .ref TI, .ref TO], slots := #[] }
/-- its tuple is not out, or was handed out as the one at a -/
def ZOk (v : Value) : Prop := v = .none ∨ ∃ a : Addr, v = rawInt a
section
variable {prog : Program} {w : World} {A : Around} {E : Value → Shared → Prop} {s : Shared} {z TI TO i1 i2 : Addr} {fp1 fp2 : List Addr} {n1 n2 i : Nat} {P1 P2 : Nat → Value → Prop} {St1 St2 : Nat → Heap → Prop}
theorem alive_ok {a : Addr} {Q : Option Obj → Shared → Prop} (h : Q (s.heap.get? a) s) : wpAny (model prog w) A (loadIfAlive a) Q E s := fun _ _ _ => h
theorem free_any {a : Value} {b : Bool} {Q : Bool → Shared → Prop} (hz : ZipR s.heap z TI TO a b) (ok : ZOk a)
    (h : ∀ k h' b', ZipR h' z TI TO a b' → Heap.SameBut z s.heap h' → Q k { s with heap := h' }) : wpAny (model prog w) A (Builtin.SmallTypes.ownedTupleIsFree (.ref z)) Q E s := by
  unfold Builtin.SmallTypes.ownedTupleIsFree
  refine wpAny_bind (wpAny_field hz rfl (x := a) rfl ?_)
  rcases ok with rfl | ⟨T, rfl⟩
  · exact wpAny_pure (h true s.heap b hz (Heap.SameBut.refl _ _))
  · show wpAny _ _ (loadIfAlive ((T : Int).toNat) >>= _) _ _ _
    refine wpAny_bind (alive_ok ?_)
    cases s.heap.get? ((T : Int).toNat) with
    | none =>
      simp only [Option.isNone_none, if_true]
      exact wpAny_pure (h true s.heap b hz (Heap.SameBut.refl _ _))
    | some o =>
      simp only [Option.isNone_some, Bool.false_eq_true, if_false]
      refine wpAny_bind (wpAny_field hz rfl (x := .bool b) rfl ?_)
      by_cases hb : (Value.bool b != Value.bool true) = true
      · rw [if_pos hb]
        exact wpAny_bind (wpAny_setField_rec hz (by simp) fun h1 z1 s1 => wpAny_pure (h false h1 true z1 s1))
      · rw [if_neg hb]
        exact wpAny_pure (h false s.heap b hz (Heap.SameBut.refl _ _))
/-- one more pair, whether the tuple is out or not -/
theorem zip_more {a b1 b2 : Value} {b : Bool} {Q : Value → Shared → Prop} (S : ZipSep2 z TI TO i1 i2 fp1 fp2) (D1 : Draws prog w A i1 fp1 n1 P1 St1) (D2 : Draws prog w A i2 fp2 n2 P2 St2)
    (hz : ZipR s.heap z TI TO a b) (ok : ZOk a) (hTI : IsTupOf2 s.heap TI (.ref i1) (.ref i2)) (hTO : IsTupOf2 s.heap TO b1 b2) (st1 : St1 i s.heap) (st2 : St2 i s.heap) (l1 : i < n1) (l2 : i < n2)
    (hQ : ∀ x1 x2 h' tk a' b' c1 c2, P1 i x1 → P2 i x2 → ZipR h' z TI TO a' b' → ZOk a' → IsTupOf2 h' TO c1 c2 → St1 (i + 1) h' → St2 (i + 1) h' → IsTupOf2 h' s.heap.objs.size x1 x2 → h'.objs.size = s.heap.objs.size + 1 →
      (∀ c o, c ≠ z → c ≠ TO → c ≠ i1 → c ≠ i2 → s.heap.get? c = some o → h'.get? c = some o) → Q (.ref s.heap.objs.size) { s with heap := h', toks := tk }) :
    wpAny (model prog w) A (Builtin.«zip.__next__» ⟨[.ref z], []⟩) (fun fin s' => ∃ v, fin = .done (.ret v) ∧ Q v s') E s := by
  obtain ⟨hp, g, d, tk0, os⟩ := s
  show wpAny _ _ (field (.ref z) 2 >>= _) _ _ _
  refine wpAny_bind (wpAny_field hz rfl (x := .bool false) rfl ?_)
  show wpAny _ _ (field (.ref z) 3 >>= _) _ _ _
  refine wpAny_bind (wpAny_field hz rfl (x := .ref TI) rfl ?_)
  refine wpAny_bind (wpAny_seqItems hTI rfl ?_)
  show wpAny _ _ (Builtin.SmallTypes.ownedTupleIsFree (.ref z) >>= _) _ _ _
  refine wpAny_bind (free_any hz ok fun k q0 b' zq0 sq0 => ?_)
  replace sq0 : Heap.SameBut z hp q0 := sq0
  cases k with
  | true =>
    simp only [if_true]
    refine wpAny_bind (wpAny_rule ?_)
    refine wpAny_bind (wpAny_field (s := ⟨q0, g, d, tk0, os⟩) zq0 rfl (x := .ref TO) rfl ?_)
    refine wpAny_bind (wpAny_setField_rec (s := ⟨q0, g, d, tk0, os⟩) zq0 (by simp) fun g0 z0 s0' => ?_)
    replace z0 : ZipR g0 z TI TO .ellipsis b' := z0
    have s0 : Heap.SameBut z hp g0 := ⟨s0'.1.trans sq0.1, fun c hc => (s0'.2 c hc).trans (sq0.2 c hc)⟩
    refine wpAny_bind ?_
    simp only [List.zipIdx_cons, List.zipIdx_nil, List.forIn_cons, List.forIn_nil]
    refine wpAny_bind (wpAny_bind (wpAny_onRaise ?_))
    show wpAny _ _ (Builtin.SmallTypes.nextOf (.ref i1) >>= _) _ _ ⟨g0, g, d, tk0, os⟩
    refine wpAny_bind (D1.item i _ _ _ l1 (D1.over st1 s0 S.zf1) fun x1 p1 t1 e1 m1 r1 => wpAny_pure ?_)
    replace r1 : Heap.SameBut i1 g0 p1 := r1
    have u1 : IsTupOf2 p1 TO b1 b2 := r1.extBut _ _ S.Ti1 (s0.extBut _ _ S.TOz hTO)
    refine wpAny_bind (wpAny_seqItems (s := ⟨p1, g, d, t1, os⟩) u1 rfl ?_)
    refine wpAny_bind (updateSeq_IsTupOf2 (s := ⟨p1, g, d, t1, os⟩) u1 fun g1 v1 s1 => ?_)
    replace v1 : IsTupOf2 g1 TO x1 b2 := v1
    replace s1 : Heap.SameBut TO p1 g1 := s1
    refine wpAny_bind (wpAny_letGo (wpAny_pure ?_))
    refine wpAny_bind (wpAny_bind (wpAny_onRaise ?_))
    show wpAny _ _ (Builtin.SmallTypes.nextOf (.ref i2) >>= _) _ _ ⟨g1, g, d, t1, os⟩
    refine wpAny_bind (D2.item i _ _ _ l2 (D2.over (D2.over (D2.over st2 s0 S.zf2) r1 S.sep1_2) s1 S.Tf2) fun x2 p2 t2 e2 m2 r2 => wpAny_pure ?_)
    replace r2 : Heap.SameBut i2 g1 p2 := r2
    have u2 : IsTupOf2 p2 TO x1 b2 := r2.extBut _ _ S.Ti2 v1
    refine wpAny_bind (wpAny_seqItems (s := ⟨p2, g, d, t2, os⟩) u2 rfl ?_)
    refine wpAny_bind (updateSeq_IsTupOf2 (s := ⟨p2, g, d, t2, os⟩) u2 fun g2 v2 s2 => ?_)
    replace v2 : IsTupOf2 g2 TO x1 x2 := v2
    replace s2 : Heap.SameBut TO p2 g2 := s2
    refine wpAny_bind (wpAny_letGo (wpAny_pure (wpAny_pure ?_)))
    refine wpAny_bind (wpAny_seqItems (s := ⟨g2, g, d, t2, os⟩) v2 rfl ?_)
    refine wpAny_bind (wpAny_newTuple ?_)
    have size : g2.objs.size = hp.objs.size := by rw [s2.1, r2.1, s1.1, r1.1, s0.1]
    have zz : ZipR g2 z TI TO .ellipsis b' := s2.extBut _ _ S.TOz.symm (r2.extBut _ _ S.zi2 (s1.extBut _ _ S.TOz.symm (r1.extBut _ _ S.zi1 z0)))
    have kept : ∀ c o, c ≠ z → c ≠ TO → c ≠ i1 → c ≠ i2 → hp.get? c = some o → g2.get? c = some o := fun c o k1 k2 k3 k4 e =>
      s2.extBut _ _ k2 (r2.extBut _ _ k4 (s1.extBut _ _ k2 (r1.extBut _ _ k3 (s0.extBut _ _ k1 e))))
    have m1' : St1 (i + 1) g2 := D1.over (D1.over (D1.over m1 s1 S.Tf1) r2 S.sep2_1) s2 S.Tf1
    have m2' : St2 (i + 1) g2 := D2.over m2 s2 S.Tf2
    have zl : z < g2.objs.size := Heap.lt_size zz
    show wpAny _ _ (Builtin.SmallTypes.ownedTupleHandOut (.ref z) (.ref g2.objs.size) >>= _) _ _ ⟨g2.push { cls := .type "tuple", data := .seq #[x1, x2] }, g, d, t2, os⟩
    refine wpAny_bind ?_
    unfold Builtin.SmallTypes.ownedTupleHandOut
    have z6 : ZipR (g2.push { cls := .type "tuple", data := .seq #[x1, x2] }) z TI TO .ellipsis b' := Heap.get?_push_of_some _ zz
    refine wpAny_bind (wpAny_setField_rec z6 (by simp) fun h7 z7 s7 => ?_)
    replace z7 : ZipR h7 z TI TO (rawInt g2.objs.size) b' := z7
    refine wpAny_setField_rec z7 (by simp) fun h8 z8 s8 => ?_
    replace z8 : ZipR h8 z TI TO (rawInt g2.objs.size) false := z8
    replace s7 : Heap.SameBut z (g2.push { cls := .type "tuple", data := .seq #[x1, x2] }) h7 := s7
    replace s8 : Heap.SameBut z h7 h8 := s8
    have up : ∀ c o, c ≠ z → g2.get? c = some o → h8.get? c = some o := fun c o k e => s8.extBut _ _ k (s7.extBut _ _ k (Heap.get?_push_of_some _ e))
    have T8 : IsTupOf2 h8 g2.objs.size x1 x2 := s8.extBut _ _ (Nat.ne_of_gt zl) (s7.extBut _ _ (Nat.ne_of_gt zl) (Heap.get?_push_size _ rfl))
    have n8 : h8.objs.size = g2.objs.size + 1 := by rw [s8.1, s7.1, Heap.size_push]
    rw [size] at z8 T8 n8
    refine wpAny_pure ⟨_, rfl, ?_⟩
    show Q (.ref g2.objs.size) ⟨h8, g, d, t2, os⟩
    rw [size]
    exact hQ x1 x2 h8 t2 _ _ _ _ e1 e2 z8 (.inr ⟨_, rfl⟩) (up _ _ S.TOz v2) (D1.frame _ _ _ m1' fun c hc o e => up c o (fun q => S.zf1 (q ▸ hc)) e) (D2.frame _ _ _ m2' fun c hc o e => up c o (fun q => S.zf2 (q ▸ hc)) e) T8 n8
      fun c o k1 k2 k3 k4 e => up c o k1 (kept c o k1 k2 k3 k4 e)
  | false =>
    simp only [Bool.false_eq_true, if_false]
    refine wpAny_bind ?_
    rw [← Array.forIn_toList]
    simp only [List.forIn_cons, List.forIn_nil]
    refine wpAny_bind (wpAny_bind (wpAny_holding ?_))
    show wpAny _ _ (Builtin.SmallTypes.nextOf (.ref i1) >>= _) _ _ _
    refine wpAny_bind (D1.item i _ _ _ l1 (D1.over st1 sq0 S.zf1) fun x1 p1 t1 e1 m1 r1 => wpAny_pure ?_)
    replace r1 : Heap.SameBut i1 q0 p1 := r1
    refine wpAny_pure ?_
    refine wpAny_bind (wpAny_bind (wpAny_holding ?_))
    show wpAny _ _ (Builtin.SmallTypes.nextOf (.ref i2) >>= _) _ _ _
    refine wpAny_bind (D2.item i _ _ _ l2 (D2.over (D2.over st2 sq0 S.zf2) r1 S.sep1_2) fun x2 p2 t2 e2 m2 r2 => wpAny_pure ?_)
    replace r2 : Heap.SameBut i2 p1 p2 := r2
    refine wpAny_pure (wpAny_pure ?_)
    show wpAny _ _ (newTuple [x1, x2] >>= _) _ _ _
    refine wpAny_bind (wpAny_newTuple ?_)
    have size : p2.objs.size = hp.objs.size := by rw [r2.1, r1.1, sq0.1]
    have zz : ZipR p2 z TI TO a b' := r2.extBut _ _ S.zi2 (r1.extBut _ _ S.zi1 zq0)
    have kept : ∀ c o, c ≠ z → c ≠ i1 → c ≠ i2 → hp.get? c = some o → p2.get? c = some o := fun c o k1 k2 k3 e => r2.extBut _ _ k3 (r1.extBut _ _ k2 (sq0.extBut _ _ k1 e))
    have m1' : St1 (i + 1) p2 := D1.over m1 r2 S.sep2_1
    refine wpAny_pure ⟨_, rfl, ?_⟩
    show Q (.ref p2.objs.size) _
    have T8 : IsTupOf2 (p2.push { cls := .type "tuple", data := .seq #[x1, x2] }) p2.objs.size x1 x2 := Heap.get?_push_size _ rfl
    have n8 : (p2.push { cls := .type "tuple", data := .seq #[x1, x2] }).objs.size = p2.objs.size + 1 := Heap.size_push ..
    rw [size] at T8 n8 ⊢
    exact hQ x1 x2 _ t2 _ _ _ _ e1 e2 (Heap.get?_push_of_some _ zz) ok (Heap.get?_push_of_some _ (kept _ _ S.TOz S.Ti1 S.Ti2 hTO)) (D1.frame _ _ _ m1' fun c hc o e => Heap.get?_push_of_some _ e)
      (D2.frame _ _ _ m2 fun c hc o e => Heap.get?_push_of_some _ e) T8 n8 fun c o k1 k2 k3 k4 e => Heap.get?_push_of_some _ (kept c o k1 k3 k4 e)
theorem zip_over {n : Nat} {a b1 b2 : Value} {b : Bool} {Q : PySem.Fin → Shared → Prop} (S : ZipSep2 z TI TO i1 i2 fp1 fp2) (D1 : Draws prog w A i1 fp1 n P1 St1)
    (hz : ZipR s.heap z TI TO a b) (ok : ZOk a) (hTI : IsTupOf2 s.heap TI (.ref i1) (.ref i2)) (hTO : IsTupOf2 s.heap TO b1 b2) (st1 : St1 n s.heap)
    (hE : ∀ h' tk e, (∀ c o, c ≠ z → c ≠ TO → c ≠ i1 → c ≠ i2 → s.heap.get? c = some o → h'.get? c = some o) → (∃ o, h'.get? e = some o ∧ o.cls = .type "StopIteration") → E (.ref e) { s with heap := h', toks := tk }) :
    wpAny (model prog w) A (Builtin.«zip.__next__» ⟨[.ref z], []⟩) Q E s := by
  obtain ⟨hp, g, d, tk0, os⟩ := s
  show wpAny _ _ (field (.ref z) 2 >>= _) _ _ _
  refine wpAny_bind (wpAny_field hz rfl (x := .bool false) rfl ?_)
  show wpAny _ _ (field (.ref z) 3 >>= _) _ _ _
  refine wpAny_bind (wpAny_field hz rfl (x := .ref TI) rfl ?_)
  refine wpAny_bind (wpAny_seqItems hTI rfl ?_)
  show wpAny _ _ (Builtin.SmallTypes.ownedTupleIsFree (.ref z) >>= _) _ _ _
  refine wpAny_bind (free_any hz ok fun k q0 b' zq0 sq0 => ?_)
  replace sq0 : Heap.SameBut z hp q0 := sq0
  cases k with
  | true =>
    simp only [if_true]
    refine wpAny_bind (wpAny_rule ?_)
    refine wpAny_bind (wpAny_field (s := ⟨q0, g, d, tk0, os⟩) zq0 rfl (x := .ref TO) rfl ?_)
    refine wpAny_bind (wpAny_setField_rec (s := ⟨q0, g, d, tk0, os⟩) zq0 (by simp) fun g0 z0 s0' => ?_)
    replace z0 : ZipR g0 z TI TO .ellipsis b' := z0
    have s0 : Heap.SameBut z hp g0 := ⟨s0'.1.trans sq0.1, fun c hc => (s0'.2 c hc).trans (sq0.2 c hc)⟩
    refine wpAny_bind ?_
    simp only [List.zipIdx_cons, List.zipIdx_nil, List.forIn_cons, List.forIn_nil]
    refine wpAny_bind (wpAny_bind (wpAny_onRaise ?_))
    show wpAny _ _ (Builtin.SmallTypes.nextOf (.ref i1) >>= _) _ _ ⟨g0, g, d, tk0, os⟩
    refine wpAny_bind (D1.done ⟨g0, g, d, tk0, os⟩ _ _ (D1.over st1 s0 S.zf1) fun q e hq he => ?_)
    replace hq : Heap.ExtBut i1 g0 q := hq
    obtain ⟨oe, hoe, hce⟩ := he
    replace hoe : q.get? e = some oe := hoe
    have zq : ZipR q z TI TO .ellipsis b' := hq _ _ S.zi1 z0
    have ne : e ≠ z := fun x => by subst x; rw [zq] at hoe; cases hoe; simp at hce
    refine wpAny_setField_rec (s := ⟨q, g, d, tk0, os⟩) zq (by simp) fun q' _ hq' => ?_
    replace hq' : Heap.SameBut z q q' := hq'
    exact hE q' tk0 e (fun c o k1 k2 k3 k4 x => hq'.extBut _ _ k1 (hq _ _ k3 (s0.extBut _ _ k1 x))) ⟨oe, hq'.extBut _ _ ne hoe, hce⟩
  | false =>
    simp only [Bool.false_eq_true, if_false]
    refine wpAny_bind ?_
    rw [← Array.forIn_toList]
    simp only [List.forIn_cons, List.forIn_nil]
    refine wpAny_bind (wpAny_bind (wpAny_holding ?_))
    show wpAny _ _ (Builtin.SmallTypes.nextOf (.ref i1) >>= _) _ _ _
    refine wpAny_bind (D1.done ⟨q0, g, d, tk0, os⟩ _ _ (D1.over st1 sq0 S.zf1) fun q e hq he => ?_)
    replace hq : Heap.ExtBut i1 q0 q := hq
    exact hE q tk0 e (fun c o k1 k2 k3 k4 x => hq _ _ k3 (sq0.extBut _ _ k1 x)) he
/-- the zip as another built-in draws from it -/
theorem draw_zip {a : Value} {b : Bool} {Q : Value → Shared → Prop} (hz : ZipR s.heap z TI TO a b) (h : wpAny (model prog w) A.in1 (Builtin.«zip.__next__» ⟨[.ref z], []⟩) (fun fin s' => ∃ v, fin = .done (.ret v) ∧ Q v s') E s) :
    wpAny (model prog w) A (Builtin.SmallTypes.nextOf (.ref z)) Q E s := by
  have hT : s.TypeIs (.ref z) "zip" := ⟨_, hz, rfl⟩
  unfold Builtin.SmallTypes.nextOf
  exact wpAny_bind (wpAny_callSpecial?_slot (name := Str.ofString "__next__") hT F.slot_zip_next
    (wpAny_call_entry F.slot_zip_next hT F.entry_zip_next (wpAny_mono h (fun fin s' ⟨v, e, q⟩ => ⟨v, e, wpAny_pure q⟩) fun _ _ x => x) (F.args_zip_next_1 _)))
theorem draw_zip_end {a : Value} {b : Bool} {Q : Value → Shared → Prop} (hz : ZipR s.heap z TI TO a b) (h : wpAny (model prog w) A.in1 (Builtin.«zip.__next__» ⟨[.ref z], []⟩) (fun _ _ => False) E s) :
    wpAny (model prog w) A (Builtin.SmallTypes.nextOf (.ref z)) Q E s :=
  draw_zip hz (wpAny_mono h (fun _ _ x => x.elim) fun _ _ x => x)
theorem iter_zip {a : Value} {b : Bool} {Q : Value → Shared → Prop} (hz : ZipR s.heap z TI TO a b) (h : Q (.ref z) s) : wpAny (model prog w) A (pyIter (.ref z)) Q E s := by
  have hT : s.TypeIs (.ref z) "zip" := ⟨_, hz, rfl⟩
  refine wpAny_pyIter_slot hT F.slot_zip_iter (wpAny_call_entry F.slot_zip_iter hT F.entry_zip_iter ?_ (F.args_zip_iter_1 _))
  show wpAny _ _ (ret (.ref z)) _ _ s
  exact wpAny_pure ⟨_, rfl, "zip", _, hT, F.slot_zip_next.lookup, h⟩
/-- enumerate's next, over whatever draws -/
theorem enum_more {e it : Addr} {i : Nat} {old : Value} {R : Value → Heap → Nat → Prop} {Q : Option Value → Shared → Prop} (he : IsEnum s.heap e it i old)
    (hn : ∀ (Q' E' : Value → Shared → Prop), (∀ x h1 tk, R x h1 tk → IsEnum h1 e it i old → Q' x { s with heap := h1, toks := tk }) → wpAny (model prog w) A.in1 (Builtin.SmallTypes.nextOf (.ref it)) Q' E' s)
    (hQ : ∀ x h1 tk h', R x h1 tk → IsEnumOut h' e it ((i : Int) + 1) x h1.objs.size → h'.get? h1.objs.size = some { cls := .type "tuple", data := .seq #[.int i tk, x] } → h'.objs.size = h1.objs.size + 1 →
      (∀ b o, b ≠ e → h1.get? b = some o → h'.get? b = some o) → Q (some (.ref h1.objs.size)) { s with heap := h', toks := tk + 1 }) :
    wpAny (model prog w) A (pyNext (.ref e)) Q E s := by
  have hT : s.TypeIs (.ref e) "enumerate" := ⟨_, he, rfl⟩
  unfold pyNext
  refine wpAny_bind (wpAny_attempt (wpAny_callSpecial?_slot (name := Str.ofString "__next__") hT F.slot_enumerate_next
    (wpAny_call_entry F.slot_enumerate_next hT F.entry_enumerate_next ?_ (F.args_enumerate_next_1 _))))
  obtain ⟨hp, g, d, tk0, os⟩ := s
  show wpAny _ _ (field (.ref e) 2 >>= _) _ _ _
  refine wpAny_bind (wpAny_field he rfl (x := .ref it) rfl ?_)
  refine wpAny_bind (hn _ _ fun x h1 tk r e1 => ?_)
  show wpAny _ _ (field (.ref e) 3 >>= _) _ _ ⟨h1, g, d, tk, os⟩
  refine wpAny_bind (wpAny_field e1 rfl (x := rawInt i) rfl ?_)
  show wpAny _ _ (field (.ref e) 4 >>= _) _ _ ⟨h1, g, d, tk, os⟩
  refine wpAny_bind (wpAny_field e1 rfl (x := .none) rfl ?_)
  show wpAny _ _ (mkInt i >>= _) _ _ ⟨h1, g, d, tk, os⟩
  refine wpAny_bind (wpAny_mkInt ?_)
  show wpAny _ _ (setField (.ref e) 3 (rawInt ((i : Int) + 1)) >>= _) _ _ ⟨h1, g, d, tk + 1, os⟩
  refine wpAny_bind (wpAny_setField_rec e1 (by simp) fun h2 e2 s2 => ?_)
  replace s2 : Heap.SameBut e h1 h2 := s2
  replace e2 : IsEnum h2 e it ((i : Int) + 1) old := e2
  show wpAny _ _ (setField (.ref e) 4 .none >>= _) _ _ ⟨h2, g, d, tk + 1, os⟩
  refine wpAny_bind (wpAny_setField_rec e2 (by simp) fun h3 e3 s3 => ?_)
  replace s3 : Heap.SameBut e h2 h3 := s3
  replace e3 : IsEnum h3 e it ((i : Int) + 1) old := e3
  show wpAny _ _ (newTuple [.int i tk, x] >>= _) _ _ ⟨h3, g, d, tk + 1, os⟩
  refine wpAny_bind (wpAny_newTuple ?_)
  have e4 : IsEnum (h3.push { cls := .type "tuple", data := .seq #[.int i tk, x] }) e it ((i : Int) + 1) old := Heap.get?_push_of_some _ e3
  have size : h3.objs.size = h1.objs.size := by rw [s3.1, s2.1]
  have el : e < h1.objs.size := Heap.lt_size e1
  have t4 : (h3.push { cls := .type "tuple", data := .seq #[.int i tk, x] }).get? h1.objs.size = some { cls := .type "tuple", data := .seq #[.int i tk, x] } := by rw [← size]; exact Heap.get?_push_size _ rfl
  have n4 : (h3.push { cls := .type "tuple", data := .seq #[.int i tk, x] }).objs.size = h1.objs.size + 1 := by rw [Heap.size_push, size]
  have k4 : ∀ b o, b ≠ e → h1.get? b = some o → (h3.push { cls := .type "tuple", data := .seq #[.int i tk, x] }).get? b = some o := fun b o hb q => Heap.get?_push_of_some _ (s3.extBut b o hb (s2.extBut b o hb q))
  generalize h3.push { cls := .type "tuple", data := .seq #[.int i tk, x] } = h4 at e4 t4 n4 k4
  show wpAny _ _ (Builtin.SmallTypes.ownedTupleIsFree (.ref e) >>= _) _ _ ⟨h4, g, d, tk + 1, os⟩
  rw [size]
  refine wpAny_bind ?_
  unfold Builtin.SmallTypes.ownedTupleIsFree
  refine wpAny_bind (wpAny_field e4 rfl (x := .none) rfl (wpAny_pure ?_))
  simp only [if_true]
  refine wpAny_bind (wpAny_rule ?_)
  refine wpAny_bind (wpAny_field e4 rfl (x := old) rfl ?_)
  refine wpAny_bind (wpAny_setField_rec e4 (by simp) fun h5 e5 s5 => ?_)
  replace s5 : Heap.SameBut e h4 h5 := s5
  replace e5 : IsEnum h5 e it ((i : Int) + 1) x := e5
  show wpAny _ _ (Builtin.SmallTypes.ownedTupleHandOut (.ref e) (.ref h1.objs.size) >>= _) _ _ ⟨h5, g, d, tk + 1, os⟩
  refine wpAny_bind ?_
  unfold Builtin.SmallTypes.ownedTupleHandOut
  refine wpAny_bind (wpAny_setField_rec e5 (by simp) fun h6 e6 s6 => ?_)
  replace s6 : Heap.SameBut e h5 h6 := s6
  replace e6 : IsEnumOut h6 e it ((i : Int) + 1) x h1.objs.size := e6
  refine wpAny_setField_rec e6 (by simp) fun h7 e7 s7 => ?_
  replace s7 : Heap.SameBut e h6 h7 := s7
  replace e7 : IsEnumOut h7 e it ((i : Int) + 1) x h1.objs.size := e7
  have up : ∀ b o, b ≠ e → h4.get? b = some o → h7.get? b = some o := fun b o hb q => s7.extBut b o hb (s6.extBut b o hb (s5.extBut b o hb q))
  exact wpAny_bind (wpAny_letGo (wpAny_pure ⟨_, rfl, wpAny_pure (hQ x h1 tk h7 r e7 (up _ _ (Nat.ne_of_gt el) t4) (by rw [s7.1, s6.1, s5.1, n4]) fun b o hb q => up b o hb (k4 b o hb q))⟩))
theorem enum_over {e it : Addr} {i : Int} {old : Value} {R : Heap → Nat → Prop} {Q : Option Value → Shared → Prop} (he : IsEnum s.heap e it i old)
    (hn : ∀ (Q' : Value → Shared → Prop) (E' : Value → Shared → Prop), (∀ h1 tk x, R h1 tk → (∃ o, h1.get? x = some o ∧ o.cls = .type "StopIteration") → E' (.ref x) { s with heap := h1, toks := tk }) → wpAny (model prog w) A.in1 (Builtin.SmallTypes.nextOf (.ref it)) Q' E' s)
    (hQ : ∀ h1 tk, R h1 tk → Q none { s with heap := h1, toks := tk }) : wpAny (model prog w) A (pyNext (.ref e)) Q E s := by
  have hT : s.TypeIs (.ref e) "enumerate" := ⟨_, he, rfl⟩
  unfold pyNext
  refine wpAny_bind (wpAny_attempt (wpAny_callSpecial?_slot (name := Str.ofString "__next__") hT F.slot_enumerate_next
    (wpAny_call_entry F.slot_enumerate_next hT F.entry_enumerate_next ?_ (F.args_enumerate_next_1 _))))
  show wpAny _ _ (field (.ref e) 2 >>= _) _ _ _
  refine wpAny_bind (wpAny_field he rfl (x := .ref it) rfl ?_)
  refine wpAny_bind (hn _ _ fun h1 tk x r hx => ?_)
  obtain ⟨o, ho, hc⟩ := hx
  refine wpAny_bind (wpAny_isInstance (T := "StopIteration") (b := true) ⟨o, ho, hc⟩ isSubtype_stop ?_)
  exact wpAny_pure (hQ _ _ r)
end
/-! ### enumerate(v) begins -/
/-- iter(v) of v gives it, at the heap g of the heap -/
structure Iters (v : Value) (it : Heap → Addr) (g : Heap → Heap) (H : Heap → Prop) : Prop where
  iter : ∀ (prog : Program) (w : World) (A : Around) (E : Value → Shared → Prop) (s : Shared) (Q : Value → Shared → Prop), H s.heap → Q (.ref (it s.heap)) { s with heap := g s.heap } → wpAny (model prog w) A (pyIter v) Q E s
theorem meets_enum1 {v : Value} {it : Heap → Addr} {f : Heap → Heap} {H : Heap → Prop} (B : Iters v it f H) :
    Meets (Builtin.«enumerate.__new__» ⟨[.type "enumerate", v], []⟩) (fun _ R s => H s.heap ∧
      R (.ok (.ret (.ref (f s.heap).objs.size))) { s with heap := (f s.heap).push { cls := .type "enumerate", data := .fields #[.none, .bool false, .ref (it s.heap), rawInt 0, .none, .none] } }) :=
  .of_wp fun prog w A R s h => by
    obtain ⟨hp, g, d, tk, os⟩ := s; obtain ⟨h1, h⟩ := h
    have hsub := sub_enumerate
    have q1 : ∀ {A' : Around} {E : Value → Shared → Prop} {Q : Value → Shared → Prop}, Q (.ref (it hp)) ⟨f hp, g, d, tk, os⟩ → wpAny (model prog w) A' (pyIter v) Q E ⟨hp, g, d, tk, os⟩ :=
      fun q => B.iter prog w _ _ ⟨hp, g, d, tk, os⟩ _ h1 q
    wp_walk using q1
    refine wpAny_stack_any fun st => wpAny_pure ?_
    split
    · rename_i c _ _ _ _ _
      cases (c == Value.type "enumerate")
      · wp_walk using q1
        exact ⟨_, rfl, h⟩
      · wp_walk using q1
        exact ⟨_, rfl, h⟩
    · wp_walk using q1
      exact ⟨_, rfl, h⟩
theorem call_enum1 {prog : Program} {w : World} {A : Around} {E : Value → Shared → Prop} {s : Shared} {v : Value} {it : Heap → Addr} {f : Heap → Heap} {H : Heap → Prop} {Q : Value → Shared → Prop} (B : Iters v it f H) (h1 : H s.heap)
    (h : ∀ h', IsEnum h' (f s.heap).objs.size (it s.heap) 0 .none → (∀ b o, (f s.heap).get? b = some o → h'.get? b = some o) → Q (.ref (f s.heap).objs.size) { s with heap := h' }) :
    wpAny (model prog w) A (call (.type "enumerate") [v]) Q E s := by
  refine callType_new F.called_enumerate (by decide) (F.typeCall_enumerate_1 _) (F.newCall_enumerate_1 _) (fun obj => F.args_object_init_2 obj _) F.entry_enumerate_new
    (meets_enum1 B) ⟨h1, ?_⟩
  have he := Heap.get?_push_size (f s.heap) (o := { cls := .type "enumerate", data := .fields #[.none, .bool false, .ref (it s.heap), rawInt 0, .none, .none] }) rfl
  exact ⟨⟨_, he, rfl⟩, h _ he fun b o x => Heap.get?_push_of_some _ x⟩
theorem iters_tuple (t : Addr) (items : Array Value) : Iters (.ref t) (fun h => h.objs.size) (fun h => h.push { cls := .type "tuple_iterator", data := .fields #[.ref t, .int 0 0] }) (fun h => h.IsTuple t items) :=
  ⟨fun _ _ _ _ _ _ ht h => wpAny_pyIter_tuple ht h⟩
theorem iters_zip (z TI TO : Addr) : Iters (.ref z) (fun _ => z) (fun h => h) (fun h => IsZip h z TI TO .none) :=
  ⟨fun _ _ _ _ _ _ hz h => wpAny_pyIter_zip hz h⟩
end SAZ
set_option maxRecDepth 100000
set_option maxHeartbeats 4000000
/-! The same over the layer. -/
namespace SAZ
open PySem PySem.Spec PyProof.Rows L2
/-- a list (true) or a tuple (false) that is read -/
def Sq (k : Bool) (K : PySem.W.Frag) (H : Hp) (a : Addr) (xs : List V) : Prop := if k = true then SqL K H a xs else SqT K H a xs
def IsSq (k : Bool) (h : Heap) (a : Addr) (its : Array Value) : Prop := if k = true then h.IsList a its else h.IsTuple a its
def SqI (k : Bool) (h : Heap) (it a : Addr) (i : Nat) : Prop := if k = true then h.IsListIter it a i else h.IsTupleIter it a i
def sqObj (k : Bool) (a : Addr) : Obj := if k = true then { cls := .type "list_iterator", data := .fields #[.ref a, .int 0 0] } else { cls := .type "tuple_iterator", data := .fields #[.ref a, .int 0 0] }
theorem Sq.get {X : Cx} {pins : List (Addr × Obj)} {σ : L2.St} {H : Hp} {s : Shared} {k : Bool} {a : Addr} {xs : List V} (I : Inv X pins σ H s) (h : Sq k X.K H a xs) : ∃ its : List Value, Vals xs its ∧ IsSq k s.heap a its.toArray ∧ a < s.heap.objs.size := by
  cases k with
  | true =>
    obtain ⟨its, r, p, _⟩ := I.list (show SqL X.K H a xs from h)
    exact ⟨its, r, p.isList, p.lt⟩
  | false =>
    obtain ⟨its, r, p, _⟩ := I.tuple (show SqT X.K H a xs from h)
    exact ⟨its, r, p, p.lt⟩
theorem Sq.inj {X : Cx} {pins : List (Addr × Obj)} {σ : L2.St} {H : Hp} {s : Shared} {k : Bool} {a : Addr} {xs ys : List V} (I : Inv X pins σ H s) (h : Sq k X.K H a xs) (h' : Sq k X.K H a ys) : xs = ys := by
  cases k with
  | true => exact I.list_inj h h'
  | false => exact I.tuple_inj h h'
theorem IsSq.keep {k : Bool} {h h' : Heap} {a : Addr} {its : Array Value} (x : IsSq k h a its) (hk : ∀ o, h.get? a = some o → h'.get? a = some o) : IsSq k h' a its := by
  cases k with
  | true => exact Heap.IsList.at x hk
  | false => exact Heap.IsTuple.at x hk
theorem SqI.keep {k : Bool} {h h' : Heap} {it a : Addr} {i : Nat} (x : SqI k h it a i) (hk : ∀ o, h.get? it = some o → h'.get? it = some o) : SqI k h' it a i := by
  cases k with
  | true => exact Heap.IsListIter.at x hk
  | false => exact Heap.IsTupleIter.at x hk
theorem SqI.obj {k : Bool} {h : Heap} {it a : Addr} {i : Nat} (x : SqI k h it a i) : ∃ o, h.get? it = some o ∧ ∀ v, o.data ≠ .cell v := by
  cases k with
  | true =>
    obtain ⟨o, e, _, d⟩ := (show h.IsListIter it a i from x)
    exact ⟨o, e, fun v q => by rw [d] at q; cases q⟩
  | false =>
    obtain ⟨o, e, _, d⟩ := (show h.IsTupleIter it a i from x)
    exact ⟨o, e, fun v q => by rw [d] at q; cases q⟩
theorem SqI.new {k : Bool} {h : Heap} {it a : Addr} (e : h.get? it = some (sqObj k a)) : SqI k h it a 0 := by
  cases k with
  | true => exact ⟨_, e, rfl, rfl⟩
  | false => exact ⟨_, e, rfl, rfl⟩
theorem sq_ne {k : Bool} {h : Heap} {it a b : Addr} {i : Nat} {its : Array Value} (p : IsSq k h a its) (q : SqI k h it b i) : a ≠ it := by
  intro e
  subst e
  cases k with
  | true =>
    obtain ⟨o, e1, c1, _⟩ := (show h.IsList a its from p)
    obtain ⟨o2, e2, c2, _⟩ := (show h.IsListIter a b i from q)
    rw [e1] at e2; cases e2; rw [c1] at c2; injection c2 with q; exact absurd q (by decide)
  | false =>
    obtain ⟨o, e1, c1, _⟩ := (show h.IsTuple a its from p)
    obtain ⟨o2, e2, c2, _⟩ := (show h.IsTupleIter a b i from q)
    rw [e1] at e2; cases e2; rw [c1] at c2; injection c2 with q; exact absurd q (by decide)
theorem draws_sq {prog : Program} {w : World} {A : Around} (k : Bool) (hh : A.handled = none) (it a : Addr) (hne : a ≠ it) (its : Array Value) :
    Draws prog w A it [it, a] its.size (fun i v => its[i]? = some v) (fun i h => SqI k h it a i ∧ IsSq k h a its) := by
  cases k with
  | true => exact Draws.list hh it a hne its
  | false => exact Draws.tuple hh it a hne its
theorem begins_sq (k : Bool) (a : Addr) (its : Array Value) : Begins (.ref a) (sqObj k a) fun h => IsSq k h a its := by
  cases k with
  | true => exact begins_list a its
  | false => exact begins_tuple a its
theorem iters_sq (k : Bool) (a : Addr) (its : Array Value) : Iters (.ref a) (fun h => h.objs.size) (fun h => h.push (sqObj k a)) (fun h => IsSq k h a its) :=
  ⟨fun P w A E s Q ht h => (begins_sq k a its).iter P w A E s Q ht h⟩
theorem sqObj_free (k : Bool) (a : Addr) : (sqObj k a).isFreed = false := by cases k <;> rfl

/-! ### zip -/
def Itx (K : PySem.W.Frag) (a b : Addr) (k l : Bool) : It :=
  ⟨fun i H => ∃ (xs ys : List V) (x y : V), Sq k K H a xs ∧ Sq l K H b ys ∧ xs[i]? = some x ∧ ys[i]? = some y,
    fun i H v H' => ∃ T x y, v = .ref T ∧ H T = none ∧ H' = upd H T (.tup [x, y]) ∧ (∀ xs, Sq k K H a xs → xs[i]? = some x) ∧ ∀ ys, Sq l K H b ys → ys[i]? = some y,
    fun i H => ∃ xs ys : List V, Sq k K H a xs ∧ Sq l K H b ys ∧ i ≤ xs.length ∧ i ≤ ys.length ∧ (i = xs.length ∨ i = ys.length)⟩
theorem five {z TI TO i1 i2 c : Addr} (h : c ∈ [z, TI, TO, i1, i2]) : c = z ∨ c = TI ∨ c = TO ∨ c = i1 ∨ c = i2 := by simpa using h
theorem turn_x {P : Program} {w : World} {K : PySem.W.Frag} {elts : List Expr} {kk : Nat} {tpos : Pos} {a b z TI TO i1 i2 : Addr} {k l : Bool} (S : ZipSep2 z TI TO i1 i2 [i1, a] [i2, b]) :
    Turn P w K (.Tuple elts kk tpos) (Itx K a b k l) [z, TI, TO, i1, i2] z (fun i h => IsZip h z TI TO .none ∧ IsTupOf2 h TI (.ref i1) (.ref i2) ∧ (∃ x y, IsTupOf2 h TO x y) ∧ SqI k h i1 a i ∧ SqI l h i2 b i) where
  mem := by simp
  obj := fun i h st c hc => by
    obtain ⟨hz, hTI, ⟨x, y, hTO⟩, h1, h2⟩ := st
    rcases five hc with q | q | q | q | q
    · rw [q]; exact ⟨_, hz, fun v q => nomatch q⟩
    · rw [q]; exact ⟨_, hTI, fun v q => nomatch q⟩
    · rw [q]; exact ⟨_, hTO, fun v q => nomatch q⟩
    · rw [q]; exact h1.obj
    · rw [q]; exact h2.obj
  keep := fun i h h' st kp => by
    obtain ⟨hz, hTI, ⟨x, y, hTO⟩, h1, h2⟩ := st
    exact ⟨kp z (by simp) _ hz, kp TI (by simp) _ hTI, ⟨x, y, kp TO (by simp) _ hTO⟩, h1.keep fun o q => kp i1 (by simp) o q, h2.keep fun o q => kp i2 (by simp) o q⟩
  item := by
    intro X hP hw hK hc i pins s σ H E I hf st hg
    subst hP hw hK
    obtain ⟨hz, hTI, ⟨x0, y0, hTO⟩, h1, h2⟩ := st
    obtain ⟨xs, ys, x, y, hqx, hqy, hx, hy⟩ := hg
    obtain ⟨its, rv, p, _⟩ := hqx.get I
    obtain ⟨its2, rv2, p2, _⟩ := hqy.get I
    obtain ⟨u, hu, ru⟩ := rv.get hx
    obtain ⟨u2, hu2, ru2⟩ := rv2.get hy
    have hh : X.A.in1.handled = none := I.ok.hd hc
    have na : a ≠ i1 := sq_ne p h1
    have nb : b ≠ i2 := sq_ne p2 h2
    have D1 := draws_sq (prog := X.prog) (w := X.w) k hh i1 a na its.toArray
    have D2 := draws_sq (prog := X.prog) (w := X.w) l hh i2 b nb its2.toArray
    have hzl : z < s.heap.objs.size := Heap.lt_size hz
    have li : i < its.toArray.size := by
      rw [List.size_toArray]
      exact (List.getElem?_eq_some_iff.mp hu).1
    have li2 : i < its2.toArray.size := by
      rw [List.size_toArray]
      exact (List.getElem?_eq_some_iff.mp hu2).1
    refine wpAny_pyNext_zipD2_item S D1 D2 hz hTI hTO ⟨h1, p⟩ ⟨h2, p2⟩ li li2 fun v1 v2 h' tk q1 q2 z' TO' m1 m2 hT hsz hk => ?_
    have ev1 : v1 = u := Option.some.inj (q1.symm.trans (by simpa using hu))
    have ev2 : v2 = u2 := Option.some.inj (q2.symm.trans (by simpa using hu2))
    subst ev1 ev2
    refine ⟨_, rfl, wpAny_letOwnedTupleGo_zip (s := { s with heap := h', toks := tk }) z' fun h'' z'' sb => ?_⟩
    have hT2 : h''.get? s.heap.objs.size = some { cls := .type "tuple", data := .seq #[v1, v2] } := (sb.2 _ (Nat.ne_of_gt hzl)).trans hT
    have new : ObjOk X.prog X.w (upd H s.heap.objs.size (.tup [x, y])) h'' s.heap.objs.size (.tup [x, y]) :=
      ⟨by show 2 ≤ sizeLine; decide, [v1, v2], .cons ru (.cons ru2 .nil), ⟨_, hT2, rfl, _, rfl⟩⟩
    have I1 : Inv X pins σ (upd H s.heap.objs.size (.tup [x, y])) { s with heap := h'', toks := tk } :=
      I.turnedNew (ch := [z, TI, TO, i1, i2]) (fun c o hb q => (sb.2 c (fun q' => hb (by simp [q']))).trans (hk c o (fun q' => hb (by simp [q'])) (fun q' => hb (by simp [q'])) (fun q' => hb (by simp [q'])) (fun q' => hb (by simp [q'])) q)) hf (Nat.le_refl _) new
    refine ⟨.ref s.heap.objs.size, _, I1, rfl, ⟨_, x, y, rfl, I.hok.fresh (Nat.le_refl _), rfl, fun xs' hl => by rw [hl.inj I hqx]; exact hx, fun xs' hl => by rw [hl.inj I hqy]; exact hy⟩, ⟨z'', ?_, ⟨v1, v2, ?_⟩, ?_, ?_⟩, fun c hcm => ?_⟩
    · exact (sb.2 _ S.TIz).trans (hk _ _ S.TIz S.TITO S.TIi1 S.TIi2 hTI)
    · exact (sb.2 _ S.TOz).trans TO'
    · exact m1.1.keep fun o q => (sb.2 _ S.zi1.symm).trans q
    · exact m2.1.keep fun o q => (sb.2 _ S.zi2.symm).trans q
    · have hlt : c < s.heap.objs.size := by
        rcases five hcm with q | q | q | q | q
        · rw [q]; exact hzl
        · rw [q]; exact Heap.lt_size hTI
        · rw [q]; exact Heap.lt_size hTO
        · rw [q]; obtain ⟨_, e, _⟩ := h1.obj; exact Heap.lt_size e
        · rw [q]; obtain ⟨_, e, _⟩ := h2.obj; exact Heap.lt_size e
      rw [upd_ne (Nat.ne_of_lt hlt)]
      exact (hf c hcm).1
  done := by
    intro X hP hw hK hc i pins s σ H E I hf st hg
    subst hP hw hK
    obtain ⟨hz, hTI, ⟨x0, y0, hTO⟩, h1, h2⟩ := st
    obtain ⟨xs, ys, hqx, hqy, e1, e2, hend⟩ := hg
    obtain ⟨its, rv, p, _⟩ := hqx.get I
    obtain ⟨its2, rv2, p2, _⟩ := hqy.get I
    have hh : X.A.in1.handled = none := I.ok.hd hc
    have na : a ≠ i1 := sq_ne p h1
    have nb : b ≠ i2 := sq_ne p2 h2
    have D1 := draws_sq (prog := X.prog) (w := X.w) k hh i1 a na its.toArray
    have D2 := draws_sq (prog := X.prog) (w := X.w) l hh i2 b nb its2.toArray
    have s1 : its.toArray.size = xs.length := by rw [List.size_toArray]; exact rv.length.symm
    have s2 : its2.toArray.size = ys.length := by rw [List.size_toArray]; exact rv2.length.symm
    exact wpAny_pyNext_zipD2_end S D1 D2 hz hTI hTO ⟨h1, p⟩ ⟨h2, p2⟩ (by rw [s1]; exact e1) (by rw [s2]; exact e2) (by rw [s1, s2]; exact hend) fun h' tk hk => ⟨rfl, I.turnedL (ch := [z, TI, TO, i1, i2]) (fun c o hb q =>
      hk c o (fun q' => hb (by simp [q'])) (fun q' => hb (by simp [q'])) (fun q' => hb (by simp [q'])) (fun q' => hb (by simp [q'])) q) hf⟩
  self := fun A i s Q E st h => wpAny_pyIter_zip st.1 h
def iX (K : PySem.W.Frag) (ta : TA) : TI := fun σ H R => ta σ H fun vs H1 => ∃ a b k l xs ys, vs = [.ref a, .ref b] ∧ Sq k K H1 a xs ∧ Sq l K H1 b ys ∧ R (Itx K a b k l) H1
theorem five_new {X : Cx} {pins : List (Addr × Obj)} {σ : L2.St} {H : Hp} {s : Shared} (I : Inv X pins σ H s) : ∀ c, c ∈ [s.heap.objs.size + 4, s.heap.objs.size + 2, s.heap.objs.size + 3, s.heap.objs.size, s.heap.objs.size + 1] → FpOk X pins H c := fun c hcm => by
  have hle : s.heap.objs.size ≤ c := by
    rcases five hcm with q | q | q | q | q <;> (rw [q]; first | exact Nat.le_add_right _ _ | exact Nat.le_refl _)
  exact I.fpOk hle (I.hok.fresh hle)
theorem pi_x {X : Cx} {e e2 : Expr} {ta : TA} {p pos tpos : Pos} {elts : List Expr} {kk : Nat} (hg : Gl X "zip") (hm : X.mg "zip" = none) (ha : PA X [e, e2] ta)
    (hs : starEach [e, e2] X.env = (false, eval e X.env) :: starEach [e2] X.env := by rfl) (hpl : (backTo pos (starEach [e2] X.env)).any (·.1) = false := by rfl) :
    PI X (.Tuple elts kk tpos) (.Call (.Name "zip" p) [e, e2] [] pos) (iX X.K ta) := by
  refine ⟨fun pins s σ H R I h => Call_ (ld_blt I hg hm PyProof.Rows.boot_zip (PyProof.Rows.callWith_type1 (thn (ha.run pos pins s σ H _ I h) fun us s1 ⟨vs, H1, I1, r1, q1⟩ => ?_) hs hpl))⟩
  obtain ⟨a, b, k, l, xs, ys, ex, hqx, hqy, q⟩ := q1
  subst ex
  obtain ⟨u1, u2, rfl, ra, rb⟩ := vals2 r1
  cases ra
  cases rb
  obtain ⟨its, rv, p1, la⟩ := hqx.get I1
  obtain ⟨its2, rv2, p2, lb⟩ := hqy.get I1
  refine zip_begins2 (begins_sq k a its.toArray) (begins_sq l b its2.toArray) p1 p2 fun h' hz hTI hTO g1 g2 hsz hk => wpAny_pyIter_zip hz ?_
  have I2 : Inv X pins σ H1 { s1 with heap := h' } := I1.kept (t' := s1.toks) hk
  exact ⟨s1.heap.objs.size + 4, [s1.heap.objs.size + 4, s1.heap.objs.size + 2, s1.heap.objs.size + 3, s1.heap.objs.size, s1.heap.objs.size + 1], _, _, H1, rfl, I2,
    turn_x (zip_sep2 (fp1 := [a]) (fp2 := [b]) (fun c hc => by rw [List.mem_singleton.mp hc]; exact la) (fun c hc => by rw [List.mem_singleton.mp hc]; exact lb)), ⟨hz, hTI, ⟨_, _, hTO⟩, SqI.new g1, SqI.new g2⟩, five_new I1, q⟩
theorem walk_x {K : PySem.W.Frag} {a b : Addr} {k l : Bool} {xs ys : List V} {n : Nat} (hx : xs.length = n) (hy : ys.length = n) : Walk (Itx K a b k l) n (fun H => Sq k K H a xs ∧ Sq l K H b ys) (YPair (fun i => xs[i]?) (fun i => ys[i]?)) where
  goes := fun i H hi g => ⟨xs, ys, xs[i], ys[i], g.1, g.2, List.getElem?_eq_getElem _, List.getElem?_eq_getElem _⟩
  stops := fun H g => ⟨xs, ys, g.1, g.2, by omega, by omega, .inl hx.symm⟩
  yields := fun i H x H' hi g y => by
    obtain ⟨T, x1, y1, ev, hT, hH, f1, f2⟩ := y
    exact ⟨T, x1, y1, ev, hT, hH, f1 xs g.1, f2 ys g.2⟩
end SAZ
set_option maxRecDepth 100000
set_option maxHeartbeats 4000000
/-! enumerate over the layer: of a list, a tuple; of a zip. -/
namespace SAZ
open PySem PySem.Spec PyProof.Rows L2
def Ity (K : PySem.W.Frag) (a : Addr) (k : Bool) : It :=
  ⟨fun i H => ∃ (xs : List V) (x : V), Sq k K H a xs ∧ xs[i]? = some x,
    fun i H v H' => ∃ T x, v = .ref T ∧ H T = none ∧ H' = upd H T (.tup [.int (i : Nat), x]) ∧ ∀ xs, Sq k K H a xs → xs[i]? = some x,
    fun i H => ∃ xs : List V, Sq k K H a xs ∧ i = xs.length⟩
theorem turn_y {P : Program} {w : World} {K : PySem.W.Frag} {elts : List Expr} {kk : Nat} {tpos : Pos} {k : Bool} (a e it : Addr) :
    Turn P w K (.Tuple elts kk tpos) (Ity K a k) [e, it] e (fun i h => (∃ old, IsEnum h e it ((i : Nat) : Int) old) ∧ SqI k h it a i ∧ e ≠ it) where
  mem := by simp
  obj := fun i h st b hb => by
    obtain ⟨⟨old, he⟩, hi, _⟩ := st
    have e' : b = e ∨ b = it := by simpa using hb
    rcases e' with q | q
    · rw [q]; exact ⟨_, he, fun v q => nomatch q⟩
    · rw [q]; exact hi.obj
  keep := fun i h h' st kp => let ⟨⟨old, he⟩, hi, hne⟩ := st; ⟨⟨old, kp e (by simp) _ he⟩, hi.keep fun o q => kp it (by simp) o q, hne⟩
  item := by
    intro X hP hw hK hc i pins s σ H E I hf st hg
    subst hP hw hK
    obtain ⟨⟨old, he⟩, hit, hne⟩ := st
    obtain ⟨xs, x, hq, hx⟩ := hg
    obtain ⟨its, rv, p, _⟩ := hq.get I
    obtain ⟨u, hu, ru⟩ := rv.get hx
    have hh : X.A.in1.handled = none := I.ok.hd hc
    have D := draws_sq (prog := X.prog) (w := X.w) k hh it a (sq_ne p hit) its.toArray
    have hel : e < s.heap.objs.size := Heap.lt_size he
    have hil : it < s.heap.objs.size := by obtain ⟨_, q, _⟩ := hit.obj; exact Heap.lt_size q
    have li : i < its.toArray.size := by
      rw [List.size_toArray]
      exact (List.getElem?_eq_some_iff.mp hu).1
    refine enum_more (A := X.A) (R := fun y h1 _ => y = u ∧ SqI k h1 it a (i + 1) ∧ Heap.SameBut it s.heap h1) he (fun Q' E' h => ?_) fun y h1 tk h' r ho hT hz hk => ?_
    · exact D.item i s _ _ li ⟨hit, p⟩ fun y h1 tk q m sb => h y h1 tk ⟨Option.some.inj (q.symm.trans (by simpa using hu)), m.1, sb⟩ ((sb.2 e hne).trans he)
    · obtain ⟨rfl, m, sb⟩ := r
      refine ⟨_, rfl, wpAny_letOwnedTupleGo_enum (s := { s with heap := h', toks := tk + 1 }) ho fun h'' he' sb' => ?_⟩
      have sz : h1.objs.size = s.heap.objs.size := sb.1
      rw [sz] at hT hz ho ⊢
      have hT2 : h''.get? s.heap.objs.size = some { cls := .type "tuple", data := .seq #[.int i tk, y] } := (sb'.2 _ (Nat.ne_of_gt hel)).trans hT
      have new : ObjOk X.prog X.w (upd H s.heap.objs.size (.tup [.int (i : Nat), x])) h'' s.heap.objs.size (.tup [.int (i : Nat), x]) :=
        ⟨by show 2 ≤ sizeLine; decide, [.int i tk, y], .cons ⟨_, rfl⟩ (.cons ru .nil), ⟨_, hT2, rfl, _, rfl⟩⟩
      have I1 : Inv X pins σ (upd H s.heap.objs.size (.tup [.int (i : Nat), x])) { s with heap := h'', toks := tk + 1 } :=
        I.turnedNew (ch := [e, it]) (fun b ob hb q => (sb'.2 b (fun z => hb (by simp [z]))).trans (hk b ob (fun z => hb (by simp [z])) ((sb.2 b (fun z => hb (by simp [z]))).trans q))) hf (Nat.le_refl _) new
      refine ⟨.ref s.heap.objs.size, _, I1, rfl, ⟨_, x, rfl, I.hok.fresh (Nat.le_refl _), rfl, fun ys hy => by rw [hy.inj I hq]; exact hx⟩, ⟨⟨y, ?_⟩, (m.keep fun o q => hk it o (Ne.symm hne) q).keep fun o q => (sb'.2 it (Ne.symm hne)).trans q, hne⟩, fun b hb => ?_⟩
      · have e1 : ((i + 1 : Nat) : Int) = (i : Int) + 1 := by omega
        rw [e1]; exact he'
      · have hb' : b < s.heap.objs.size := by
          have e' : b = e ∨ b = it := by simpa using hb
          rcases e' with q | q
          · rw [q]; exact hel
          · rw [q]; exact hil
        rw [upd_ne (Nat.ne_of_lt hb')]
        exact (hf b hb).1
  done := by
    intro X hP hw hK hc i pins s σ H E I hf st hg
    subst hP hw hK
    obtain ⟨⟨old, he⟩, hit, hne⟩ := st
    obtain ⟨xs, hq, hx⟩ := hg
    obtain ⟨its, rv, p, _⟩ := hq.get I
    have hh : X.A.in1.handled = none := I.ok.hd hc
    have D := draws_sq (prog := X.prog) (w := X.w) k hh it a (sq_ne p hit) its.toArray
    have ei : i = its.toArray.size := by rw [List.size_toArray, ← rv.length]; exact hx
    refine enum_over (A := X.A) (R := fun h1 tk => tk = s.toks ∧ Heap.ExtBut it s.heap h1) he (fun Q' E' h => ?_) fun h1 tk r => ?_
    · exact D.done s _ _ (by rw [← ei]; exact ⟨hit, p⟩) fun h1 x eb hx => h h1 s.toks x ⟨rfl, eb⟩ hx
    · obtain ⟨f0, f1, f2, f3, f4, f5⟩ := hf it (by simp)
      exact ⟨rfl, I.turned (t' := tk) (fun b o hb q => r.2 b o hb q) f0 f1 f3 f4 f5⟩
  self := fun A i s Q E st h => let ⟨⟨_, he⟩, _⟩ := st; wpAny_pyIter_enum he h
def iY (K : PySem.W.Frag) (ta : TA) : TI := fun σ H R => ta σ H fun vs H1 => ∃ a k xs, vs = [.ref a] ∧ Sq k K H1 a xs ∧ R (Ity K a k) H1
theorem pi_y {X : Cx} {e : Expr} {ta : TA} {p pos tpos : Pos} {elts : List Expr} {kk : Nat} (hg : Gl X "enumerate") (hm : X.mg "enumerate" = none) (ha : PA X [e] ta) (hs : starEach [e] X.env = [(false, eval e X.env)] := by rfl) :
    PI X (.Tuple elts kk tpos) (.Call (.Name "enumerate" p) [e] [] pos) (iY X.K ta) := by
  refine ⟨fun pins s σ H R I h => Call_ (ld_blt I hg hm boot_enumerate (PyProof.Rows.callWith_type1 (thn (ha.run pos pins s σ H _ I h) fun us s1 ⟨vs, H1, I1, r1, q1⟩ => ?_) hs rfl))⟩
  obtain ⟨a, k, xs, ex, hq, q⟩ := q1
  subst ex
  obtain ⟨u, rfl, ra⟩ := vals1 r1
  cases ra
  obtain ⟨its, rv, p', la⟩ := hq.get I1
  refine call_enum1 (iters_sq k a its.toArray) p' fun h' he hk => wpAny_pyIter_enum he ?_
  have hsz : (s1.heap.push (sqObj k a)).objs.size = s1.heap.objs.size + 1 := Heap.size_push ..
  rw [hsz] at he ⊢
  have k0 : ∀ b o, s1.heap.get? b = some o → h'.get? b = some o := fun b o q => hk b o (Heap.get?_push_of_some _ q)
  have I2 : Inv X pins σ H1 { s1 with heap := h' } := I1.kept (t' := s1.toks) k0
  refine ⟨s1.heap.objs.size + 1, [s1.heap.objs.size + 1, s1.heap.objs.size], _, _, H1, rfl, I2, turn_y a (s1.heap.objs.size + 1) s1.heap.objs.size, ⟨⟨.none, he⟩, SqI.new (hk _ _ (Heap.get?_push_size _ (sqObj_free k a))), Nat.succ_ne_self _⟩, fun b hb => ?_, q⟩
  have e' : b = s1.heap.objs.size + 1 ∨ b = s1.heap.objs.size := by simpa using hb
  have hle : s1.heap.objs.size ≤ b := by
    rcases e' with z | z
    · rw [z]; exact Nat.le_add_right _ _
    · rw [z]; exact Nat.le_refl _
  exact I1.fpOk hle (I1.hok.fresh hle)
theorem walk_y {K : PySem.W.Frag} {a : Addr} {k : Bool} {xs : List V} : Walk (Ity K a k) xs.length (fun H => Sq k K H a xs) (YPair (fun i => some (.int (i : Nat))) (fun i => xs[i]?)) where
  goes := fun i H hi g => ⟨xs, xs[i], g, List.getElem?_eq_getElem _⟩
  stops := fun H g => ⟨xs, g, rfl⟩
  yields := fun i H x H' hi g y => by
    obtain ⟨T, x1, ev, hT, hH, f1⟩ := y
    exact ⟨T, _, x1, ev, hT, hH, rfl, f1 xs g⟩

/-! ### enumerate(zip(a, b)) -/
def Itw (K : PySem.W.Frag) (a b : Addr) (k l : Bool) : It :=
  ⟨fun i H => ∃ (xs ys : List V) (x y : V), Sq k K H a xs ∧ Sq l K H b ys ∧ xs[i]? = some x ∧ ys[i]? = some y,
    fun i H v H' => ∃ T T1 x y, v = .ref T ∧ H T1 = none ∧ H T = none ∧ T ≠ T1 ∧ H' = upd (upd H T1 (.tup [x, y])) T (.tup [.int (i : Nat), .ref T1]) ∧ (∀ xs, Sq k K H a xs → xs[i]? = some x) ∧ ∀ ys, Sq l K H b ys → ys[i]? = some y,
    fun i H => ∃ xs ys : List V, Sq k K H a xs ∧ Sq l K H b ys ∧ i = xs.length⟩
theorem six {e z TI TO i1 i2 c : Addr} (h : c ∈ [e, z, TI, TO, i1, i2]) : c = e ∨ c = z ∨ c = TI ∨ c = TO ∨ c = i1 ∨ c = i2 := by simpa using h
theorem turn_w {P : Program} {w : World} {K : PySem.W.Frag} {elts : List Expr} {kk : Nat} {tpos : Pos} {a b e z TI TO i1 i2 : Addr} {k l : Bool} (S : ZipSep2 z TI TO i1 i2 [i1, a] [i2, b]) (ne : e ∉ [z, TI, TO, i1, i2]) :
    Turn P w K (.Tuple elts kk tpos) (Itw K a b k l) [e, z, TI, TO, i1, i2] e (fun i h => (∃ old, IsEnum h e z ((i : Nat) : Int) old) ∧ (∃ f g, ZipR h z TI TO f g ∧ ZOk f) ∧ IsTupOf2 h TI (.ref i1) (.ref i2) ∧ (∃ x y, IsTupOf2 h TO x y) ∧ SqI k h i1 a i ∧ SqI l h i2 b i) where
  mem := by simp
  obj := fun i h st c hc => by
    obtain ⟨⟨old, he⟩, ⟨f, g, hz, _⟩, hTI, ⟨x, y, hTO⟩, h1, h2⟩ := st
    rcases six hc with q | q | q | q | q | q
    · rw [q]; exact ⟨_, he, fun v q => nomatch q⟩
    · rw [q]; exact ⟨_, hz, fun v q => nomatch q⟩
    · rw [q]; exact ⟨_, hTI, fun v q => nomatch q⟩
    · rw [q]; exact ⟨_, hTO, fun v q => nomatch q⟩
    · rw [q]; exact h1.obj
    · rw [q]; exact h2.obj
  keep := fun i h h' st kp => by
    obtain ⟨⟨old, he⟩, ⟨f, g, hz, ok⟩, hTI, ⟨x, y, hTO⟩, h1, h2⟩ := st
    exact ⟨⟨old, kp e (by simp) _ he⟩, ⟨f, g, kp z (by simp) _ hz, ok⟩, kp TI (by simp) _ hTI, ⟨x, y, kp TO (by simp) _ hTO⟩, h1.keep fun o q => kp i1 (by simp) o q, h2.keep fun o q => kp i2 (by simp) o q⟩
  item := by
    intro X hP hw hK hc i pins s σ H E I hf st hg
    subst hP hw hK
    obtain ⟨⟨old, he⟩, ⟨f, g, hz, ok⟩, hTI, ⟨x0, y0, hTO⟩, h1, h2⟩ := st
    obtain ⟨xs, ys, x, y, hqx, hqy, hx, hy⟩ := hg
    obtain ⟨its, rv, p, _⟩ := hqx.get I
    obtain ⟨its2, rv2, p2, _⟩ := hqy.get I
    obtain ⟨u, hu, ru⟩ := rv.get hx
    obtain ⟨u2, hu2, ru2⟩ := rv2.get hy
    have hh : X.A.in1.in1.handled = none := I.ok.hd hc
    have D1 := draws_sq (prog := X.prog) (w := X.w) k hh i1 a (sq_ne p h1) its.toArray
    have D2 := draws_sq (prog := X.prog) (w := X.w) l hh i2 b (sq_ne p2 h2) its2.toArray
    have nez : e ≠ z := fun q => ne (by simp [q])
    have neI : e ≠ TI := fun q => ne (by simp [q])
    have neO : e ≠ TO := fun q => ne (by simp [q])
    have ne1 : e ≠ i1 := fun q => ne (by simp [q])
    have ne2 : e ≠ i2 := fun q => ne (by simp [q])
    have hel : e < s.heap.objs.size := Heap.lt_size he
    have li : i < its.toArray.size := by
      rw [List.size_toArray]
      exact (List.getElem?_eq_some_iff.mp hu).1
    have li2 : i < its2.toArray.size := by
      rw [List.size_toArray]
      exact (List.getElem?_eq_some_iff.mp hu2).1
    refine enum_more (A := X.A) (R := fun v h1' _ => v = .ref s.heap.objs.size ∧ (∃ f g, ZipR h1' z TI TO f g ∧ ZOk f) ∧ (∃ c d, IsTupOf2 h1' TO c d) ∧ SqI k h1' i1 a (i + 1) ∧ SqI l h1' i2 b (i + 1) ∧ IsTupOf2 h1' s.heap.objs.size u u2 ∧
      h1'.objs.size = s.heap.objs.size + 1 ∧ ∀ c o, c ≠ z → c ≠ TO → c ≠ i1 → c ≠ i2 → s.heap.get? c = some o → h1'.get? c = some o) he (fun Q' E' h => ?_) fun v h1' tk h' r ho hT hsz hk => ?_
    · refine draw_zip hz (zip_more S D1 D2 hz ok hTI hTO ⟨h1, p⟩ ⟨h2, p2⟩ li li2 fun v1 v2 h' tk f' g' c1 c2 q1 q2 z' ok' TO' m1 m2 T' n' k' => ?_)
      have ev1 : v1 = u := Option.some.inj (q1.symm.trans (by simpa using hu))
      have ev2 : v2 = u2 := Option.some.inj (q2.symm.trans (by simpa using hu2))
      subst ev1 ev2
      exact h _ h' tk ⟨rfl, ⟨f', g', z', ok'⟩, ⟨c1, c2, TO'⟩, m1.1, m2.1, T', n', k'⟩ (k' _ _ nez neO ne1 ne2 he)
    · obtain ⟨rfl, ⟨f', g', z', ok'⟩, ⟨c1, c2, TO'⟩, m1, m2, T1, n1, k1⟩ := r
      refine ⟨_, rfl, wpAny_letOwnedTupleGo_enum (s := { s with heap := h', toks := tk + 1 }) ho fun h'' he' sb' => ?_⟩
      rw [n1] at hT hsz ho ⊢
      have up : ∀ c o, c ≠ e → h1'.get? c = some o → h''.get? c = some o := fun c o hc q => (sb'.2 c hc).trans (hk c o hc q)
      have hT2 : h''.get? (s.heap.objs.size + 1) = some { cls := .type "tuple", data := .seq #[.int i tk, .ref s.heap.objs.size] } := (sb'.2 _ (Nat.ne_of_gt (Nat.lt_succ_of_lt hel))).trans hT
      have new1 : ObjOk X.prog X.w (upd H s.heap.objs.size (.tup [x, y])) h1' s.heap.objs.size (.tup [x, y]) :=
        ⟨by show 2 ≤ sizeLine; decide, [u, u2], .cons ru (.cons ru2 .nil), ⟨_, T1, rfl, _, rfl⟩⟩
      have I1 : Inv X pins σ (upd H s.heap.objs.size (.tup [x, y])) { s with heap := h1', toks := tk } :=
        I.turnedNew (ch := [e, z, TI, TO, i1, i2]) (fun c o hb q => k1 c o (fun q' => hb (by simp [q'])) (fun q' => hb (by simp [q'])) (fun q' => hb (by simp [q'])) (fun q' => hb (by simp [q'])) q) hf (Nat.le_refl _) new1
      have low : ∀ c ∈ [e, z, TI, TO, i1, i2], c < s.heap.objs.size := fun c hcm => by
        rcases six hcm with q | q | q | q | q | q
        · rw [q]; exact hel
        · rw [q]; exact Heap.lt_size hz
        · rw [q]; exact Heap.lt_size hTI
        · rw [q]; exact Heap.lt_size hTO
        · rw [q]; obtain ⟨_, e, _⟩ := h1.obj; exact Heap.lt_size e
        · rw [q]; obtain ⟨_, e, _⟩ := h2.obj; exact Heap.lt_size e
      have fr1 : ∀ c ∈ [e, z, TI, TO, i1, i2], FpOk X pins (upd H s.heap.objs.size (.tup [x, y])) c := fun c hcm =>
        ⟨by rw [upd_ne (Nat.ne_of_lt (low c hcm))]; exact (hf c hcm).1, (hf c hcm).2⟩
      have new2 : ObjOk X.prog X.w (upd (upd H s.heap.objs.size (.tup [x, y])) (s.heap.objs.size + 1) (.tup [.int (i : Nat), .ref s.heap.objs.size])) h'' (s.heap.objs.size + 1) (.tup [.int (i : Nat), .ref s.heap.objs.size]) :=
        ⟨by show 2 ≤ sizeLine; decide, [.int i tk, .ref s.heap.objs.size], .cons ⟨_, rfl⟩ (.cons rfl .nil), ⟨_, hT2, rfl, _, rfl⟩⟩
      have I2 : Inv X pins σ (upd (upd H s.heap.objs.size (.tup [x, y])) (s.heap.objs.size + 1) (.tup [.int (i : Nat), .ref s.heap.objs.size])) { s with heap := h'', toks := tk + 1 } :=
        I1.turnedNew (s := { s with heap := h1', toks := tk }) (ch := [e, z, TI, TO, i1, i2]) (fun c o hb q => up c o (fun q' => hb (by simp [q'])) q) fr1 (by show h1'.objs.size ≤ _; rw [n1]; exact Nat.le_refl _) new2
      refine ⟨.ref (s.heap.objs.size + 1), _, I2, rfl, ⟨_, s.heap.objs.size, x, y, rfl, I.hok.fresh (Nat.le_refl _), I.hok.fresh (Nat.le_succ _), Nat.succ_ne_self _, rfl, fun xs' hl => by rw [hl.inj I hqx]; exact hx, fun xs' hl => by rw [hl.inj I hqy]; exact hy⟩, ⟨⟨.ref s.heap.objs.size, ?_⟩, ⟨f', g', up _ _ nez.symm z', ok'⟩, ?_, ⟨c1, c2, up _ _ neO.symm TO'⟩, m1.keep fun o q => up _ _ ne1.symm q, m2.keep fun o q => up _ _ ne2.symm q⟩, fun c hcm => ?_⟩
      · have e1 : ((i + 1 : Nat) : Int) = (i : Int) + 1 := by omega
        rw [e1]; exact he'
      · exact up _ _ neI.symm (k1 _ _ S.TIz S.TITO S.TIi1 S.TIi2 hTI)
      · rw [upd_ne (Nat.ne_of_lt (Nat.lt_succ_of_lt (low c hcm)))]
        exact (fr1 c hcm).1
  done := by
    intro X hP hw hK hc i pins s σ H E I hf st hg
    subst hP hw hK
    obtain ⟨⟨old, he⟩, ⟨f, g, hz, ok⟩, hTI, ⟨x0, y0, hTO⟩, h1, h2⟩ := st
    obtain ⟨xs, ys, hqx, hqy, ei⟩ := hg
    obtain ⟨its, rv, p, _⟩ := hqx.get I
    have hh : X.A.in1.in1.handled = none := I.ok.hd hc
    have D1 := draws_sq (prog := X.prog) (w := X.w) k hh i1 a (sq_ne p h1) its.toArray
    have ei : i = its.toArray.size := by rw [List.size_toArray, ← rv.length]; exact ei
    refine enum_over (A := X.A) (R := fun h1' _ => ∀ c o, c ≠ z → c ≠ TO → c ≠ i1 → c ≠ i2 → s.heap.get? c = some o → h1'.get? c = some o) he (fun Q' E' h => ?_) fun h1' tk r => ?_
    · exact draw_zip_end hz (zip_over (fp2 := [i2, b]) S D1 hz ok hTI hTO (by rw [← ei]; exact ⟨h1, p⟩) fun h' tk x kp hx => h h' tk x kp hx)
    · exact ⟨rfl, I.turnedL (ch := [e, z, TI, TO, i1, i2]) (fun c o hb q => r c o (fun q' => hb (by simp [q'])) (fun q' => hb (by simp [q'])) (fun q' => hb (by simp [q'])) (fun q' => hb (by simp [q'])) q) hf⟩
  self := fun A i s Q E st h => let ⟨⟨_, he⟩, _⟩ := st; wpAny_pyIter_enum he h
def iW (K : PySem.W.Frag) (ta : TA) : TI := fun σ H R => ta σ H fun vs H1 => ∃ a b k l xs ys, vs = [.ref a, .ref b] ∧ Sq k K H1 a xs ∧ Sq l K H1 b ys ∧ R (Itw K a b k l) H1
theorem pi_w {X : Cx} {e e2 : Expr} {ta : TA} {p p2 pos pos2 tpos : Pos} {elts : List Expr} {kk : Nat} (hg : Gl X "enumerate") (hm : X.mg "enumerate" = none) (hg2 : Gl X "zip") (hm2 : X.mg "zip" = none) (ha : PA X [e, e2] ta)
    (hs : starEach [e, e2] X.env = (false, eval e X.env) :: starEach [e2] X.env := by rfl) (hpl : (backTo pos2 (starEach [e2] X.env)).any (·.1) = false := by rfl)
    (na : starEach [.Call (.Name "zip" p2) [e, e2] [] pos2] X.env = (false, eval (.Call (.Name "zip" p2) [e, e2] [] pos2) X.env) :: starEach [] X.env := by rfl) :
    PI X (.Tuple elts kk tpos) (.Call (.Name "enumerate" p) [.Call (.Name "zip" p2) [e, e2] [] pos2] [] pos) (iW X.K ta) := by
  refine ⟨fun pins s σ H R I h => Call_ (ld_blt I hg hm boot_enumerate (PyProof.Rows.callWith_type1 (PyProof.Rows.args_cons (Call_ (ld_blt I hg2 hm2 PyProof.Rows.boot_zip (PyProof.Rows.callWith_type1 (thn (ha.run pos2 pins s σ H _ I h) fun us s1 ⟨vs, H1, I1, r1, q1⟩ => ?_) hs hpl))) na) na rfl))⟩
  obtain ⟨a, b, k, l, xs, ys, ex, hqx, hqy, q⟩ := q1
  subst ex
  obtain ⟨u1, u2, rfl, ra, rb⟩ := vals2 r1
  cases ra
  cases rb
  obtain ⟨its, rv, p1, la⟩ := hqx.get I1
  obtain ⟨its2, rv2, p2, lb⟩ := hqy.get I1
  refine zip_begins2 (begins_sq k a its.toArray) (begins_sq l b its2.toArray) p1 p2 fun h' hz hTI hTO g1 g2 hsz hk => PyProof.Rows.args_nil ?_
  refine call_enum1 (s := { s1 with heap := h' }) (iters_zip _ _ _) hz fun h'' he hk2 => wpAny_pyIter_enum he ?_
  have hsz' : h'.objs.size = s1.heap.objs.size + 5 := hsz
  replace he : IsEnum h'' h'.objs.size (s1.heap.objs.size + 4) 0 .none := he
  rw [hsz'] at he
  show PIE X pins σ _ R (.ref h'.objs.size) _
  rw [hsz']
  have I2 : Inv X pins σ H1 { s1 with heap := h'' } := I1.kept (t' := s1.toks) fun b o q => hk2 b o (hk b o q)
  refine ⟨s1.heap.objs.size + 5, [s1.heap.objs.size + 5, s1.heap.objs.size + 4, s1.heap.objs.size + 2, s1.heap.objs.size + 3, s1.heap.objs.size, s1.heap.objs.size + 1], _, _, H1, rfl, I2,
    turn_w (zip_sep2 (fp1 := [a]) (fp2 := [b]) (fun c hc => by rw [List.mem_singleton.mp hc]; exact la) (fun c hc => by rw [List.mem_singleton.mp hc]; exact lb)) (by simp),
    ⟨⟨.none, he⟩, ⟨.none, false, hk2 _ _ hz, .inl rfl⟩, hk2 _ _ hTI, ⟨_, _, hk2 _ _ hTO⟩, SqI.new (hk2 _ _ g1), SqI.new (hk2 _ _ g2)⟩, fun c hcm => ?_, q⟩
  have hle : s1.heap.objs.size ≤ c := by
    rcases six hcm with q | q | q | q | q | q <;> (rw [q]; first | exact Nat.le_add_right _ _ | exact Nat.le_refl _)
  exact I1.fpOk hle (I1.hok.fresh hle)
/-- a new pair of the place and a new pair -/
def YPP (xs ys : Nat → Option V) : Nat → Hp → V → Hp → Prop := fun i H v H' => ∃ T T1 x y, v = .ref T ∧ H T1 = none ∧ H T = none ∧ T ≠ T1 ∧ H' = upd (upd H T1 (.tup [x, y])) T (.tup [.int (i : Nat), .ref T1]) ∧ xs i = some x ∧ ys i = some y
theorem walk_w {K : PySem.W.Frag} {a b : Addr} {k l : Bool} {xs ys : List V} {n : Nat} (hx : xs.length = n) (hy : ys.length = n) : Walk (Itw K a b k l) n (fun H => Sq k K H a xs ∧ Sq l K H b ys) (YPP (fun i => xs[i]?) (fun i => ys[i]?)) where
  goes := fun i H hi g => ⟨xs, ys, xs[i], ys[i], g.1, g.2, List.getElem?_eq_getElem _, List.getElem?_eq_getElem _⟩
  stops := fun H g => ⟨xs, ys, g.1, g.2, hx.symm⟩
  yields := fun i H x H' hi g y => by
    obtain ⟨T, T1, x1, y1, ev, h1, hT, hn, hH, f1, f2⟩ := y
    exact ⟨T, T1, x1, y1, ev, h1, hT, hn, hH, f1 xs g.1, f2 ys g.2⟩
end SAZ
set_option maxRecDepth 100000
set_option maxHeartbeats 4000000
/-! sum(a tuple of ints); sorted(a dict whose keys are tuples of ints), of any length. -/
namespace SAZ
open PySem PySem.Spec PyProof.Rows L2
section
variable {prog : Program} {w : World} {A : Around} {E : Value → Shared → Prop} {s : Shared}
theorem sum_tup {t : Addr} {its : List Value} {ns : List Int} {Q : Value → Shared → Prop} (hh : A.handled = none) (ht : s.heap.IsTuple t its.toArray) (hi : IntsAre its ns)
    (h : ∀ h' tk u, (∀ b o, s.heap.get? b = some o → h'.get? b = some o) → Q (.int ns.sum u) { s with heap := h', toks := tk }) : wpAny (model prog w) A (call (.builtin "sum") [.ref t]) Q E s := by
  obtain ⟨xs, e⟩ := hi.allInts.items
  have hn : numsOf (intItems xs).toList = ns := by rw [← e]; exact hi.numsOf
  rw [nums_intItems] at hn
  rw [e] at ht
  refine call_sum_walkG (wpAny_pyIter_tuple ht ?_)
  have tl : t < s.heap.objs.size := by obtain ⟨o, ho, _⟩ := ht; exact Heap.lt_size ho
  refine ⟨s.heap.objs.size, [s.heap.objs.size, t], [s.heap.objs.size], _, _, _, numAt xs, rfl, Walks.tuple (A := A.in1) hh _ t (Nat.ne_of_lt tl) (intItems xs), ⟨⟨_, Heap.get?_push_size _ rfl, rfl, rfl⟩, ht.push _⟩, fun b hb => ?_, (fun _ _ => intItems_at), fun h' tk u hk => ?_⟩
  · have hz : (s.heap.push { cls := .type "tuple_iterator", data := .fields #[.ref t, .int 0 0] }).objs.size = s.heap.objs.size + 1 := Heap.size_push ..
    show b < (s.heap.push _).objs.size
    rw [hz]
    have e' : b = s.heap.objs.size ∨ b = t := by simpa using hb
    rcases e' with q | q
    · rw [q]; exact Nat.lt_succ_self _
    · rw [q]; exact Nat.lt_succ_of_lt tl
  · have k0 : ∀ b o, s.heap.get? b = some o → h'.get? b = some o := fun b o q => hk b o (by rw [List.mem_singleton]; exact Nat.ne_of_lt (Heap.lt_size q)) (Heap.get?_push_of_some _ q)
    have r := h h' tk u k0
    have es : preSum (numAt xs) (intItems xs).size = ns.sum := by
      rw [preSum_eq, List.take_of_length_le (by simp [intItems]), hn]
    rw [es]
    exact r
end
def rSumT (K : PySem.W.Frag) : List V → Hp → VK → Prop := fun vs H Q => ∃ (a : Addr) (ns : List Int), vs = [V.ref a] ∧ SqT K H a (ns.map V.int) ∧ Q (.int ns.sum) H
theorem cr_sumT {X : Cx} (hc : X.calm = true) : CallR X (.builtin "sum") (rSumT X.K) := by
  intro pins s σ H vs us Q I r h
  obtain ⟨a, ns, rfl, hs, q⟩ := h
  obtain ⟨its, rv, hl, _⟩ := I.tuple hs
  rw [Vals.ref1 r]
  exact sum_tup (I.ok.hd hc) hl rv.ints fun h' tk u hk => ⟨.int _, H, I.kept hk, ⟨_, rfl⟩, q⟩

/-! ### sorted(d) -/
def encT (z : Addr × List Int) : PyData := .tuple (z.2.map .int)
theorem each_refs : ∀ {out : List Value} {bs : List (Addr × List Int)}, PySem.W.EachIs (fun v (z : Addr × List Int) => v = .ref z.1) out bs → out = bs.map fun z => Value.ref z.1
  | _, _, .nil => rfl
  | _, _, .cons e t => by rw [List.map_cons, ← each_refs t, ← e]
theorem each_of : ∀ (bs : List (Addr × List Int)), PySem.W.EachIs (fun v (z : Addr × List Int) => v = .ref z.1) (bs.map fun z => Value.ref z.1) bs
  | [] => .nil
  | _ :: r => .cons rfl (each_of r)
theorem each_mem {R : Value → Addr × List Int → Prop} : ∀ {bs : List (Addr × List Int)}, (∀ z ∈ bs, R (.ref z.1) z) → PySem.W.EachIs R (bs.map fun z => Value.ref z.1) bs
  | [], _ => .nil
  | z :: r, h => .cons (h z List.mem_cons_self) (each_mem fun y hy => h y (List.mem_cons_of_mem _ hy))
theorem dp_ints {K : PySem.W.Frag} {H : Hp} : ∀ ns : List Int, DpAll K H (ns.map V.int) (ns.map .int)
  | [] => .nil
  | n :: ns => .cons (.int n) (dp_ints ns)
theorem vals_refs : ∀ (zs : List (Addr × List Int)), Vals (zs.map fun z => V.ref z.1) (zs.map fun z => Value.ref z.1)
  | [] => .nil
  | _ :: r => .cons rfl (vals_refs r)
/-- the keys' tuples and what they hold -/
theorem keys_at {H : Hp} : ∀ {kvs : List (List L2.Key × V)} {xs : List (List L2.Key × Addr × Value)} {ks : List (List Int)}, KT H kvs xs → kvs.map (·.1) = ks.map (fun k => k.map Sum.inl) →
    ∃ bs : List (Addr × List Int), bs.map (·.2) = ks ∧ xs.map (fun x => Value.ref x.2.1) = bs.map (fun z => Value.ref z.1) ∧ ∀ z ∈ bs, H z.1 = some (.tup (z.2.map V.int))
  | _, _, [], .nil, _ => ⟨[], rfl, rfl, fun _ h => nomatch h⟩
  | _, _, _ :: _, .nil, h => by simp at h
  | _, _, [], .cons _ _, h => by simp at h
  | kv :: kvs, x :: xs, k :: ks, .cons r t, h => by
    obtain ⟨h1, h2⟩ : kv.1 = k.map Sum.inl ∧ kvs.map (·.1) = ks.map (fun k => k.map Sum.inl) := by simpa using h
    obtain ⟨bs, e1, e2, e3⟩ := keys_at t h2
    refine ⟨(x.2.1, k) :: bs, by rw [List.map_cons, e1], by rw [List.map_cons, List.map_cons, e2], fun z hz => ?_⟩
    rcases List.mem_cons.mp hz with rfl | hz
    · have q := r.2.1
      rw [h1, List.map_map] at q
      exact q
    · exact e3 z hz
def rSortT : List V → Hp → VK → Prop := fun vs H Q => ∃ (a : Addr) (kvs : List (List L2.Key × V)) (ks : List (List Int)), vs = [V.ref a] ∧ Rd H a (.dT kvs) ∧ kvs.map (·.1) = ks.map (fun k => k.map Sum.inl) ∧ (∀ k ∈ ks, k ≠ []) ∧
  ∀ (zs : List (Addr × List Int)) (p : Addr), (zs.map (·.2)).Perm ks → (∀ z ∈ zs, H z.1 = some (.tup (z.2.map V.int))) → H p = none → Q (.ref p) (upd H p (.lst (zs.map fun z => V.ref z.1)))
theorem cr_sortT {X : Cx} (hc : X.calm = true) (hu : X.A.units + 64 < cLine) : CallR X (.builtin "sorted") rSortT := by
  intro pins s σ H vs us Q I r q
  obtain ⟨a, kvs, ks, rfl, hd, hks, hne, q⟩ := q
  obtain ⟨u, rfl, rx⟩ := vals1 r
  cases rx
  obtain ⟨z, lo, xs, rel, o, es, ep, ho, hx, hdat, hes, _, _⟩ := dt_rd I.hok hd
  obtain ⟨bs, eb1, eb2, eb3⟩ := keys_at rel hks
  have lx : es.size = xs.length := by
    have e := congrArg List.length hes
    rw [Array.length_toList, List.length_map] at e
    exact e
  have lb : xs.length = bs.length := by
    have e := congrArg List.length eb2
    rw [List.length_map, List.length_map] at e
    exact e
  have lk : kvs.length = xs.length := Paired.length rel
  have h16 : es.size ≤ sizeLine := by rw [lx, ← lk]; exact z
  refine Calls.call_function_entry PyProof.Rows.kind_sorted PyProof.Rows.plain_sorted PyProof.Rows.entry_sorted (PyProof.Rows.args_sorted1 _) ?_
  unfold Builtin.«sorted»
  refine wpAny_bind (m := checkCount "sorted" 1 1 _) (wpAny_pure ?_)
  refine wpAny_bind (PySem.W.kdu_collect (A := X.A.in1) (KdlSrc.rawDict (prog := X.prog) (w := X.w) (d := a) (es := es) (ep := ep) lo) (I.ok.hd hc) ⟨o, ho, hx, hdat⟩ h16 fun h' tk acc hk hacc => ?_)
  have hacc' : acc.toList = bs.map fun z => Value.ref z.1 := by
    rw [← eb2]
    apply List.ext_getElem?
    intro j
    rw [List.getElem?_map]
    by_cases hj : j < es.size
    · have h1 : j < acc.toList.length := by rw [Array.length_toList, hacc.1]; exact hj
      rw [List.getElem?_eq_getElem h1]
      obtain ⟨_, e2⟩ := hacc.2 j acc.toList[j] (by rw [← Array.getElem?_toList, List.getElem?_eq_getElem h1])
      rw [e2]
      have h3 : j < xs.length := by omega
      rw [List.getElem?_eq_getElem h3]
      have e4 : es.toList[j]? = some (entryOfKey (tupleKind (mixKind X.prog X.w)) xs[j]) := by
        rw [hes, List.getElem?_map, List.getElem?_eq_getElem h3]; rfl
      rw [Array.getElem?_toList, Array.getElem?_eq_getElem hj] at e4
      rw [Option.some.inj e4]
      rfl
    · rw [List.getElem?_eq_none_iff.mpr (by rw [Array.length_toList, hacc.1]; omega), List.getElem?_eq_none_iff.mpr (by omega)]
      rfl
  have I1 : Inv X pins σ H { s with heap := h', toks := tk } := I.kept hk
  rw [hacc']
  have lout : (bs.map fun z => Value.ref z.1).length ≤ sizeLine := by rw [List.length_map, ← lb, ← lx]; exact h16
  refine wpAny_bind (wpAny_newList ?_ lout)
  have hoL : (h'.push (seqObj "list" (bs.map fun z => Value.ref z.1).toArray 0)).get? h'.objs.size = some (seqObj "list" (bs.map fun z => Value.ref z.1).toArray 0) := Heap.get?_push_size _ rfl
  show wpAny _ _ _ _ _ { s with heap := h'.push (seqObj "list" (bs.map fun z => Value.ref z.1).toArray 0), toks := tk }
  have hal : PySem.W.AllAlike (bs.map encT) := PySem.W.AllAlike.of fun b b' => PySem.W.alike_ints b.2 b'.2
  have hsrt : PySem.W.Sortable (bs.map encT) := .inl fun d hd' => by
    obtain ⟨b, hb, rfl⟩ := List.mem_map.mp hd'
    have : b.2 ≠ [] := hne b.2 (by rw [← eb1]; exact List.mem_map.mpr ⟨b, hb, rfl⟩)
    cases e : b.2 with
    | nil => exact absurd e this
    | cons x r => exact ⟨.int x, r.map .int, by unfold encT; rw [e]; rfl⟩
  have old : ∀ b ob, s.heap.get? b = some ob → (PySem.W.sortingHeap (h'.push (seqObj "list" (bs.map fun z => Value.ref z.1).toArray 0)) h'.objs.size (bs.map fun z => Value.ref z.1)).get? b = some ob := fun b ob e =>
    PySem.W.sortingHeap_old (Nat.ne_of_lt (Heap.lt_size (hk b ob e))) (Heap.get?_push_of_some _ (hk b ob e))
  have er : PySem.W.EachIs (fun v b => ∃ as, Reads (PySem.W.sortingHeap (h'.push (seqObj "list" (bs.map fun z => Value.ref z.1).toArray 0)) h'.objs.size (bs.map fun z => Value.ref z.1)) v (encT b) as) (bs.map fun z => Value.ref z.1) bs := each_mem fun b hb => by
    obtain ⟨as, rd⟩ := Dp.reads I (encT b) (.ref b.1) (.ref b.1) (.tup (SqT.of (eb3 b hb)) (dp_ints b.2)) rfl
    exact ⟨as, PyProof.Rows.Reads.keeps old rd⟩
  have dep : ∀ b, b ∈ bs → X.A.in1.in1.units + (encT b).depth < cLine := fun b _ => by
    have e : (encT b).depth = 1 := by
      unfold encT
      rw [PyData.depth, PySem.W.depth_ints]
    rw [e]
    show X.A.units + 1 + 1 + 1 < cLine
    omega
  refine wpAny_bind (wpAny_holding (wpAny_call_entry PyProof.Rows.slot_list_sort ⟨_, hoL, rfl⟩ PyProof.Rows.entry_list_sort
    (PySem.W.list_sort_vals (s := { s with heap := h'.push (seqObj "list" (bs.map fun z => Value.ref z.1).toArray 0), toks := tk }) hoL
      (PySem.W.SortsAt.data (s := { s with heap := PySem.W.sortingHeap (h'.push (seqObj "list" (bs.map fun z => Value.ref z.1).toArray 0)) h'.objs.size (bs.map fun z => Value.ref z.1), toks := tk }) (PySem.W.each_map encT er) hal hsrt (PySem.W.bound_map dep)) lout ⟨.none, rfl, ?_⟩) (PyProof.Rows.args_list_sort _)))
  have es1 := PySem.W.sortVals_data (R := fun v (z : Addr × List Int) => v = .ref z.1) false (each_of bs) er hal
  have eout := each_refs es1
  obtain ⟨e', he'⟩ := PyProof.Rows.sortedHeap_at (vs := bs.map fun z => Value.ref z.1) (out := (PySem.W.sortVals (PySem.W.dataKind (PySem.W.sortingHeap (h'.push (seqObj "list" (bs.map fun z => Value.ref z.1).toArray 0)) h'.objs.size (bs.map fun z => Value.ref z.1)) (bs.map encT)) false (bs.map fun z => Value.ref z.1) (bs.map fun z => Value.ref z.1)).toArray) hoL
  have pm := List.mergeSort_perm bs (PySem.W.dataLe false encT)
  have hlen : ((bs.mergeSort (PySem.W.dataLe false encT)).map fun z => V.ref z.1).length ≤ sizeLine := by
    rw [List.length_map, pm.length_eq, ← lb, ← lx]; exact h16
  have kF : ∀ b u, h'.get? b = some u → (sortedHeap (h'.push (seqObj "list" (bs.map fun z => Value.ref z.1).toArray 0)) h'.objs.size (bs.map fun z => Value.ref z.1) (PySem.W.sortVals (PySem.W.dataKind (PySem.W.sortingHeap (h'.push (seqObj "list" (bs.map fun z => Value.ref z.1).toArray 0)) h'.objs.size (bs.map fun z => Value.ref z.1)) (bs.map encT)) false (bs.map fun z => Value.ref z.1) (bs.map fun z => Value.ref z.1)).toArray).get? b = some u := fun b u e => by
    have hb : b < h'.objs.size := Heap.lt_size e
    rw [PyProof.Rows.sortedHeap_old (Nat.ne_of_lt hb) (by rw [size_push']; exact Nat.lt_succ_of_lt hb)]
    exact Heap.get?_push_of_some _ e
  refine wpAny_pure ⟨_, rfl, .ref h'.objs.size, upd H h'.objs.size (.lst ((bs.mergeSort (PySem.W.dataLe false encT)).map fun z => V.ref z.1)), I1.laid (t' := tk) kF (Nat.le_refl _)
    (show ObjOk X.prog X.w _ _ _ (.lst ((bs.mergeSort (PySem.W.dataLe false encT)).map fun z => V.ref z.1)) from ⟨hlen, _, e', by rw [eout]; exact vals_refs _, he'⟩), rfl, q _ _ ?_ ?_ (I1.hok.fresh (Nat.le_refl _))⟩
  · rw [← eb1]
    exact pm.map _
  · intro z hz
    exact eb3 z (pm.mem_iff.mp hz)
end SAZ
set_option maxRecDepth 100000
set_option maxHeartbeats 4000000
/-! What a value stands for; comprehensions whose items are told one by one. -/
namespace SA
open PySem PySem.Spec PyProof.Rows L2 Evl SAZ
/-- what never changes once it is made: tuples, instances -/
def imm : HO → Bool
  | .tup _ => true
  | .ins _ _ _ => true
  | _ => false
def Im (H H' : Hp) : Prop := ∀ a o, imm o = true → H a = some o → H' a = some o
theorem Im.refl (H : Hp) : Im H H := fun _ _ _ h => h
theorem Im.trans {H H1 H2 : Hp} (a : Im H H1) (b : Im H1 H2) : Im H H2 := fun x o i h => b x o i (a x o i h)
theorem im_ex {H H' : Hp} (e : Ex H H') : Im H H' := fun a o _ h => e a o h
theorem Im.lst {H : Hp} {p : Addr} {xs : List V} {o : HO} (h : H p = some (.lst xs)) : Im H (upd H p o) := fun a u i e => by
  by_cases q : a = p
  · subst q
    rw [h] at e
    cases e
    cases i
  · rw [upd_ne q]; exact e
theorem Im.dct {H : Hp} {p : Addr} {kvs : List (List L2.Key × V)} {o : HO} (h : H p = some (.dT kvs)) : Im H (upd H p o) := fun a u i e => by
  by_cases q : a = p
  · subst q
    rw [h] at e
    cases e
    cases i
  · rw [upd_ne q]; exact e
/-- a way to stand for something, that stays -/
abbrev Den (α : Type) := V → α → Hp → Prop
def Mono {α : Type} (R : Den α) : Prop := ∀ v x H H', Im H H' → R v x H → R v x H'
def AllD {α : Type} (R : Den α) (vs : List V) (xs : List α) (H : Hp) : Prop := vs.length = xs.length ∧ ∀ (i : Nat) v x, vs[i]? = some v → xs[i]? = some x → R v x H
def TupD {α : Type} (R : Den α) : Den (List α) := fun v xs H => ∃ a vs, v = .ref a ∧ H a = some (.tup vs) ∧ AllD R vs xs H
def LstD {α : Type} (R : Den α) : Den (List α) := fun v xs H => ∃ a vs, v = .ref a ∧ H a = some (.lst vs) ∧ AllD R vs xs H
def PairD {α β : Type} (R : Den α) (S : Den β) : Den (α × β) := fun v x H => ∃ a u w, v = .ref a ∧ H a = some (.tup [u, w]) ∧ R u x.1 H ∧ S w x.2 H
def IntD : Den Int := fun v i _ => v = .int i
def NatD : Den Nat := fun v n _ => v = .int (n : Int)
abbrev VecD : Den Vec := TupD IntD
abbrev MatD : Den Mat := TupD VecD
abbrev TxtD : Den (List Nat) := TupD NatD
section
variable {α β : Type} {R : Den α} {T : Den β} {H H' : Hp} {v : V} {vs : List V} {xs : List α}
theorem mono_int : Mono IntD := fun _ _ _ _ _ h => h
theorem mono_nat : Mono NatD := fun _ _ _ _ _ h => h
theorem AllD.mono (m : Mono R) (e : Im H H') (h : AllD R vs xs H) : AllD R vs xs H' := ⟨h.1, fun i v x a b => m v x H H' e (h.2 i v x a b)⟩
theorem mono_tup (m : Mono R) : Mono (TupD R) := fun v xs H H' e ⟨a, vs, hv, ha, h⟩ => ⟨a, vs, hv, e a _ rfl ha, h.mono m e⟩
theorem mono_pair (m : Mono R) (n : Mono T) : Mono (PairD R T) := fun v x H H' e ⟨a, u, w, hv, ha, h1, h2⟩ => ⟨a, u, w, hv, e a _ rfl ha, m _ _ _ _ e h1, n _ _ _ _ e h2⟩
theorem mono_vec : Mono VecD := mono_tup mono_int
theorem mono_mat : Mono MatD := mono_tup mono_vec
theorem mono_txt : Mono TxtD := mono_tup mono_nat
theorem AllD.nil : AllD R [] ([] : List α) H := ⟨rfl, fun i v x h _ => by simp at h⟩
theorem AllD.snoc {x : α} (h : AllD R vs xs H) (hx : R v x H) : AllD R (vs ++ [v]) (xs ++ [x]) H := by
  refine ⟨by simp [h.1], fun i u y hu hy => ?_⟩
  by_cases hi : i < vs.length
  · rw [List.getElem?_append_left hi] at hu
    rw [List.getElem?_append_left (by rw [← h.1]; exact hi)] at hy
    exact h.2 i u y hu hy
  · rw [List.getElem?_append_right (by omega)] at hu
    rw [List.getElem?_append_right (by rw [← h.1]; omega), ← h.1] at hy
    have e : i - vs.length = 0 := by
      rcases Nat.eq_zero_or_pos (i - vs.length) with z | z
      · exact z
      · rw [List.getElem?_eq_none (by simp; omega)] at hu; cases hu
    rw [e] at hu hy
    cases hu
    cases hy
    exact hx
theorem AllD.cons {x : α} (hx : R v x H) (h : AllD R vs xs H) : AllD R (v :: vs) (x :: xs) H := by
  refine ⟨by simp [h.1], fun i u y hu hy => ?_⟩
  cases i with
  | zero =>
    cases hu
    cases hy
    exact hx
  | succ i => exact h.2 i u y (by simpa using hu) (by simpa using hy)
theorem AllD.get (h : AllD R vs xs H) {i : Nat} {x : α} (hx : xs[i]? = some x) : ∃ u, vs[i]? = some u ∧ R u x H := by
  have hi : i < vs.length := by rw [h.1]; exact (List.getElem?_eq_some_iff.mp hx).1
  exact ⟨vs[i], List.getElem?_eq_getElem hi, h.2 i _ _ (List.getElem?_eq_getElem hi) hx⟩
theorem AllD.get' (h : AllD R vs xs H) {i : Nat} {u : V} (hu : vs[i]? = some u) : ∃ x, xs[i]? = some x ∧ R u x H := by
  have hi : i < xs.length := by rw [← h.1]; exact (List.getElem?_eq_some_iff.mp hu).1
  exact ⟨xs[i], List.getElem?_eq_getElem hi, h.2 i _ _ hu (List.getElem?_eq_getElem hi)⟩
theorem AllD.take (h : AllD R vs xs H) (n : Nat) : AllD R (vs.take n) (xs.take n) H := by
  refine ⟨by simp [h.1], fun i u y hu hy => ?_⟩
  rw [List.getElem?_take] at hu hy
  split at hu
  · rw [if_pos (by assumption)] at hy
    exact h.2 i u y hu hy
  · cases hu
theorem AllD.drop (h : AllD R vs xs H) (n : Nat) : AllD R (vs.drop n) (xs.drop n) H := by
  refine ⟨by simp [h.1], fun i u y hu hy => ?_⟩
  rw [List.getElem?_drop] at hu hy
  exact h.2 _ u y hu hy
theorem AllD.append {ys : List α} {ws : List V} (h : AllD R vs xs H) (k : AllD R ws ys H) : AllD R (vs ++ ws) (xs ++ ys) H := by
  refine ⟨by simp [h.1, k.1], fun i u y hu hy => ?_⟩
  by_cases hi : i < vs.length
  · rw [List.getElem?_append_left hi] at hu
    rw [List.getElem?_append_left (by rw [← h.1]; exact hi)] at hy
    exact h.2 i u y hu hy
  · rw [List.getElem?_append_right (by omega)] at hu
    rw [List.getElem?_append_right (by rw [← h.1]; omega), ← h.1] at hy
    exact k.2 _ u y hu hy
theorem allD_ints {ns : List Int} (h : AllD IntD vs ns H) : vs = ns.map V.int := by
  apply List.ext_getElem?
  intro i
  rw [List.getElem?_map]
  cases e : ns[i]? with
  | none => exact List.getElem?_eq_none (by rw [h.1]; exact List.getElem?_eq_none_iff.mp e)
  | some x =>
    obtain ⟨u, hu, r⟩ := h.get e
    rw [hu]
    have r' : u = .int x := r
    rw [r']
    rfl
theorem allD_nats {ns : List Nat} (h : AllD NatD vs ns H) : vs = ns.map fun n : Nat => V.int (n : Int) := by
  apply List.ext_getElem?
  intro i
  rw [List.getElem?_map]
  cases e : ns[i]? with
  | none => exact List.getElem?_eq_none (by rw [h.1]; exact List.getElem?_eq_none_iff.mp e)
  | some x =>
    obtain ⟨u, hu, r⟩ := h.get e
    rw [hu]
    have r' : u = .int (x : Int) := r
    rw [r']
    rfl
theorem ints_allD (ns : List Int) : AllD IntD (ns.map V.int) ns H := ⟨by simp, fun i u x hu hx => by
  rw [List.getElem?_map, hx] at hu
  exact (Option.some.inj hu).symm⟩
theorem nats_allD (ns : List Nat) : AllD NatD (ns.map fun n : Nat => V.int (n : Int)) ns H := ⟨by simp, fun i u x hu hx => by
  rw [List.getElem?_map, hx] at hu
  exact (Option.some.inj hu).symm⟩
end

/-! ### comprehensions -/
/-- every item told one by one -/
theorem lc_go {J : It} {n : Nat} {G : Hp → Prop} {Y : Nat → Hp → V → Hp → Prop} {g : TG} {te : TE} {ws : List Nat} {σ : L2.St} {H1 : Hp} {D : Addr} {Qd : Hp → Prop} {P : Nat → V → Hp → Prop} (w : Walk J n G Y) (hn : n ≤ 100000) (hD : H1 D = none) (hG : ∀ H', Ex H1 H' → G H')
    (mono : ∀ i v H H', Im H H' → P i v H → P i v H')
    (hs : ∀ i x H H' (Q' : VK), i < n → Ex H1 H → Y i H x H' → (∀ y H4, Ex H H4 → P i y H4 → Q' y H4) → g x (wipe σ ws) H' fun σ2 H2 => wipe σ2 ws = wipe σ ws ∧ te σ2 H2 Q')
    (hd : ∀ acc H', Ex H1 H' → H' D = some (.lst acc) → acc.length = n → (∀ i y, acc[i]? = some y → P i y H') → Qd H') :
    ∃ W : Nat → Nat → Hp → Prop, (∃ m, W 0 m (upd H1 D (.lst []))) ∧ ∀ i m H, W i m H →
      (J.stop i H ∧ Qd H) ∨ (J.go i H ∧ ∃ Nx : Hp → Prop, (∀ H', Nx H' → ∃ m', m' < m ∧ W (i + 1) m' H') ∧ ∀ x H', J.yld i H x H' → g x (wipe σ ws) H' fun σ2 H2 => wipe σ2 ws = wipe σ ws ∧ tYes σ2 H2 fun b H3 =>
        if b = true then te σ2 H3 fun y H4 => ∃ acc, H4 D = some (.lst acc) ∧ acc.length < sizeLine ∧ Nx (upd H4 D (.lst (acc ++ [y]))) else Nx H3) := by
  refine ⟨fun i m H => m = n - i ∧ i ≤ n ∧ Ex H1 H ∧ ∃ acc, H D = some (.lst acc) ∧ acc.length = i ∧ ∀ j y, acc[j]? = some y → P j y H, ⟨n, by simp, Nat.zero_le _, Ex.new hD, [], upd_same, rfl, fun j y h => by simp at h⟩, ?_⟩
  rintro i m H ⟨rfl, hi, ex, acc, hacc, hl, hp⟩
  by_cases hlt : i < n
  · refine .inr ⟨w.goes i H hlt (hG H ex), fun H' => i + 1 ≤ n ∧ Ex H1 H' ∧ ∃ acc, H' D = some (.lst acc) ∧ acc.length = i + 1 ∧ ∀ j y, acc[j]? = some y → P j y H', fun H' p' => ⟨n - (i + 1), by omega, rfl, p'.1, p'.2.1, p'.2.2⟩, fun x H' y => ?_⟩
    show g x (wipe σ ws) H' fun σ2 H2 => wipe σ2 ws = wipe σ ws ∧ te σ2 H2 fun y H4 => ∃ acc, H4 D = some (.lst acc) ∧ acc.length < sizeLine ∧ (i + 1 ≤ n ∧ Ex H1 (upd H4 D (.lst (acc ++ [y]))) ∧ ∃ acc', upd H4 D (.lst (acc ++ [y])) D = some (.lst acc') ∧ acc'.length = i + 1 ∧ ∀ j z, acc'[j]? = some z → P j z (upd H4 D (.lst (acc ++ [y]))))
    refine hs i x H H' _ hlt ex (w.yields i H x H' hlt (hG H ex) y) fun y H4 e4 p4 => ⟨acc, e4 D _ hacc, sz_lt (by omega), hlt, Ex.mut (ex.trans e4) hD, acc ++ [y], upd_same, by simp [hl], fun j z hz => ?_⟩
    have im : Im H4 (upd H4 D (.lst (acc ++ [y]))) := Im.lst (e4 D _ hacc)
    by_cases hj : j < acc.length
    · rw [List.getElem?_append_left hj] at hz
      exact mono _ _ _ _ ((im_ex e4).trans im) (hp j z hz)
    · rw [List.getElem?_append_right (by omega)] at hz
      have e0 : j - acc.length = 0 := by
        rcases Nat.eq_zero_or_pos (j - acc.length) with q | q
        · exact q
        · rw [List.getElem?_eq_none (by simp; omega)] at hz; cases hz
      rw [e0] at hz
      cases hz
      have ej : j = i := by omega
      rw [ej]
      exact mono _ _ _ _ im p4
  · have e : i = n := by omega
    subst e
    exact .inl ⟨w.stops H (hG H ex), hd acc H ex hacc hl hp⟩
end SA
set_option maxRecDepth 100000
set_option maxHeartbeats 4000000
/-! The text by places; what its top has written. Printed by gen_top.py. -/
namespace SA
open PySem L2
def top (i : Nat) : Stmt := PySem.Challenge.pw_servedalone_k61_whole_rounds_write_as_th.main.body.getD i (.Pass ⟨0, 0, 0, 0⟩)

abbrev st_rows_of : Stmt := top 5
abbrev n_rows_of : List Str := ["net", "letters", "rows", "letter"]
abbrev p_rows_of : List Str := ["net", "letters"]
theorem sc_rows_of : FnScope n_rows_of p_rows_of (defScope st_rows_of) := ⟨rfl, rfl, rfl, by decide +kernel, rfl, by decide +kernel, by decide +kernel⟩
abbrev st_weights_behind : Stmt := top 6
abbrev n_weights_behind : List Str := ["net", "letters"]
abbrev p_weights_behind : List Str := ["net", "letters"]
theorem sc_weights_behind : FnScope n_weights_behind p_weights_behind (defScope st_weights_behind) := ⟨rfl, rfl, rfl, by decide +kernel, rfl, by decide +kernel, by decide +kernel⟩
abbrev st_greatest_divisor : Stmt := top 8
abbrev n_greatest_divisor : List Str := ["one", "two"]
abbrev p_greatest_divisor : List Str := ["one", "two"]
theorem sc_greatest_divisor : FnScope n_greatest_divisor p_greatest_divisor (defScope st_greatest_divisor) := ⟨rfl, rfl, rfl, by decide +kernel, rfl, by decide +kernel, by decide +kernel⟩
abbrev st_Share_init : Stmt := inClass (top 9) 0
abbrev n_Share_init : List Str := ["self", "over", "under", "by"]
abbrev p_Share_init : List Str := ["self", "over", "under"]
theorem sc_Share_init : FnScope n_Share_init p_Share_init (defScope st_Share_init) := ⟨rfl, rfl, rfl, by decide +kernel, rfl, by decide +kernel, by decide +kernel⟩
abbrev st_Share_add : Stmt := inClass (top 9) 1
abbrev n_Share_add : List Str := ["self", "other"]
abbrev p_Share_add : List Str := ["self", "other"]
theorem sc_Share_add : FnScope n_Share_add p_Share_add (defScope st_Share_add) := ⟨rfl, rfl, rfl, by decide +kernel, rfl, by decide +kernel, by decide +kernel⟩
abbrev st_Share_sub : Stmt := inClass (top 9) 2
abbrev n_Share_sub : List Str := ["self", "other"]
abbrev p_Share_sub : List Str := ["self", "other"]
theorem sc_Share_sub : FnScope n_Share_sub p_Share_sub (defScope st_Share_sub) := ⟨rfl, rfl, rfl, by decide +kernel, rfl, by decide +kernel, by decide +kernel⟩
abbrev st_Share_mul : Stmt := inClass (top 9) 3
abbrev n_Share_mul : List Str := ["self", "other"]
abbrev p_Share_mul : List Str := ["self", "other"]
theorem sc_Share_mul : FnScope n_Share_mul p_Share_mul (defScope st_Share_mul) := ⟨rfl, rfl, rfl, by decide +kernel, rfl, by decide +kernel, by decide +kernel⟩
abbrev st_Share_is_below : Stmt := inClass (top 9) 5
abbrev n_Share_is_below : List Str := ["self", "other"]
abbrev p_Share_is_below : List Str := ["self", "other"]
theorem sc_Share_is_below : FnScope n_Share_is_below p_Share_is_below (defScope st_Share_is_below) := ⟨rfl, rfl, rfl, by decide +kernel, rfl, by decide +kernel, by decide +kernel⟩
abbrev st_lesser_of : Stmt := top 10
abbrev n_lesser_of : List Str := ["share", "other"]
abbrev p_lesser_of : List Str := ["share", "other"]
theorem sc_lesser_of : FnScope n_lesser_of p_lesser_of (defScope st_lesser_of) := ⟨rfl, rfl, rfl, by decide +kernel, rfl, by decide +kernel, by decide +kernel⟩
abbrev st_next_shares : Stmt := top 12
abbrev n_next_shares : List Str := ["net", "letters", "weights", "total", "weight"]
abbrev p_next_shares : List Str := ["net", "letters"]
theorem sc_next_shares : FnScope n_next_shares p_next_shares (defScope st_next_shares) := ⟨rfl, rfl, rfl, by decide +kernel, rfl, by decide +kernel, by decide +kernel⟩
abbrev st_text_share : Stmt := top 13
abbrev n_text_share : List Str := ["net", "prompt", "text", "share", "letters", "letter"]
abbrev p_text_share : List Str := ["net", "prompt", "text"]
theorem sc_text_share : FnScope n_text_share p_text_share (defScope st_text_share) := ⟨rfl, rfl, rfl, by decide +kernel, rfl, by decide +kernel, by decide +kernel⟩
abbrev st_shares_above : Stmt := top 14
abbrev n_shares_above : List Str := ["ps", "qs", "p", "q"]
abbrev p_shares_above : List Str := ["ps", "qs"]
theorem sc_shares_above : FnScope n_shares_above p_shares_above (defScope st_shares_above) := ⟨rfl, rfl, rfl, by decide +kernel, rfl, by decide +kernel, by decide +kernel⟩
abbrev st_Round_init : Stmt := inClass (top 15) 0
abbrev n_Round_init : List Str := ["self", "net", "lesser", "prompt"]
abbrev p_Round_init : List Str := ["self", "net", "lesser", "prompt"]
theorem sc_Round_init : FnScope n_Round_init p_Round_init (defScope st_Round_init) := ⟨rfl, rfl, rfl, by decide +kernel, rfl, by decide +kernel, by decide +kernel⟩
abbrev st_Round_gather : Stmt := inClass (top 15) 1
abbrev n_Round_gather : List Str := ["self", "row", "share"]
abbrev p_Round_gather : List Str := ["self", "row", "share"]
theorem sc_Round_gather : FnScope n_Round_gather p_Round_gather (defScope st_Round_gather) := ⟨rfl, rfl, rfl, by decide +kernel, rfl, by decide +kernel, by decide +kernel⟩
abbrev st_Round_end_by : Stmt := inClass (top 15) 2
abbrev n_Round_end_by : List Str := ["self", "row", "share", "shares", "letter", "part"]
abbrev p_Round_end_by : List Str := ["self", "row", "share", "shares"]
theorem sc_Round_end_by : FnScope n_Round_end_by p_Round_end_by (defScope st_Round_end_by) := ⟨rfl, rfl, rfl, by decide +kernel, rfl, by decide +kernel, by decide +kernel⟩
abbrev st_Round_go_on : Stmt := inClass (top 15) 3
abbrev n_Round_go_on : List Str := ["self", "row", "share", "ps", "qs", "above", "refused", "part", "letter", "p", "q"]
abbrev p_Round_go_on : List Str := ["self", "row", "share"]
theorem sc_Round_go_on : FnScope n_Round_go_on p_Round_go_on (defScope st_Round_go_on) := ⟨rfl, rfl, rfl, by decide +kernel, rfl, by decide +kernel, by decide +kernel⟩
abbrev st_round_shares : Stmt := top 16
abbrev n_round_shares : List Str := ["net", "lesser", "prompt", "many", "found", "accepted", "_", "longer", "row", "share"]
abbrev p_round_shares : List Str := ["net", "lesser", "prompt", "many"]
theorem sc_round_shares : FnScope n_round_shares p_round_shares (defScope st_round_shares) := ⟨rfl, rfl, rfl, by decide +kernel, rfl, by decide +kernel, by decide +kernel⟩
abbrev st_is_between : Stmt := top 19
abbrev n_is_between : List Str := ["value", "least", "most"]
abbrev p_is_between : List Str := ["value", "least", "most"]
theorem sc_is_between : FnScope n_is_between p_is_between (defScope st_is_between) := ⟨rfl, rfl, rfl, by decide +kernel, rfl, by decide +kernel, by decide +kernel⟩
abbrev st_vector_of : Stmt := top 20
abbrev n_vector_of : List Str := ["numbers"]
abbrev p_vector_of : List Str := ["numbers"]
theorem sc_vector_of : FnScope n_vector_of p_vector_of (defScope st_vector_of) := ⟨rfl, rfl, rfl, by decide +kernel, rfl, by decide +kernel, by decide +kernel⟩
abbrev st_matrix_of : Stmt := top 21
abbrev n_matrix_of : List Str := ["rows", "row"]
abbrev p_matrix_of : List Str := ["rows"]
theorem sc_matrix_of : FnScope n_matrix_of p_matrix_of (defScope st_matrix_of) := ⟨rfl, rfl, rfl, by decide +kernel, rfl, by decide +kernel, by decide +kernel⟩
abbrev st_product_sum : Stmt := top 22
abbrev n_product_sum : List Str := ["one", "two", "total", "number", "other"]
abbrev p_product_sum : List Str := ["one", "two"]
theorem sc_product_sum : FnScope n_product_sum p_product_sum (defScope st_product_sum) := ⟨rfl, rfl, rfl, by decide +kernel, rfl, by decide +kernel, by decide +kernel⟩
abbrev st_Net_init : Stmt := inClass (top 23) 0
abbrev n_Net_init : List Str := ["self", "prime", "embed", "shift", "layers", "out", "end", "layer", "matrix"]
abbrev p_Net_init : List Str := ["self", "prime", "embed", "shift", "layers", "out", "end"]
theorem sc_Net_init : FnScope n_Net_init p_Net_init (defScope st_Net_init) := ⟨rfl, rfl, rfl, by decide +kernel, rfl, by decide +kernel, by decide +kernel⟩
abbrev st_Net_is_letter : Stmt := inClass (top 23) 2
abbrev n_Net_is_letter : List Str := ["self", "value"]
abbrev p_Net_is_letter : List Str := ["self", "value"]
theorem sc_Net_is_letter : FnScope n_Net_is_letter p_Net_is_letter (defScope st_Net_is_letter) := ⟨rfl, rfl, rfl, by decide +kernel, rfl, by decide +kernel, by decide +kernel⟩
abbrev st_Net_rest : Stmt := inClass (top 23) 3
abbrev n_Net_rest : List Str := ["self", "number"]
abbrev p_Net_rest : List Str := ["self", "number"]
theorem sc_Net_rest : FnScope n_Net_rest p_Net_rest (defScope st_Net_rest) := ⟨rfl, rfl, rfl, by decide +kernel, rfl, by decide +kernel, by decide +kernel⟩
abbrev st_Net_times : Stmt := inClass (top 23) 4
abbrev n_Net_times : List Str := ["self", "matrix", "vector", "row"]
abbrev p_Net_times : List Str := ["self", "matrix", "vector"]
theorem sc_Net_times : FnScope n_Net_times p_Net_times (defScope st_Net_times) := ⟨rfl, rfl, rfl, by decide +kernel, rfl, by decide +kernel, by decide +kernel⟩
abbrev st_Net_plus : Stmt := inClass (top 23) 5
abbrev n_Net_plus : List Str := ["self", "one", "two", "number", "other"]
abbrev p_Net_plus : List Str := ["self", "one", "two"]
theorem sc_Net_plus : FnScope n_Net_plus p_Net_plus (defScope st_Net_plus) := ⟨rfl, rfl, rfl, by decide +kernel, rfl, by decide +kernel, by decide +kernel⟩
abbrev st_Net_looked_at : Stmt := inClass (top 23) 6
abbrev n_Net_looked_at : List Str := ["self", "query", "pairs", "found", "key", "value", "part", "_", "number"]
abbrev p_Net_looked_at : List Str := ["self", "query", "pairs"]
theorem sc_Net_looked_at : FnScope n_Net_looked_at p_Net_looked_at (defScope st_Net_looked_at) := ⟨rfl, rfl, rfl, by decide +kernel, rfl, by decide +kernel, by decide +kernel⟩
abbrev st_Net_row : Stmt := inClass (top 23) 7
abbrev n_Net_row : List Str := ["self", "rows", "letter", "x", "own", "layer", "query", "key", "value", "first", "second", "pair", "pairs", "weights", "vector", "number", "row"]
abbrev p_Net_row : List Str := ["self", "rows", "letter"]
theorem sc_Net_row : FnScope n_Net_row p_Net_row (defScope st_Net_row) := ⟨rfl, rfl, rfl, by decide +kernel, rfl, by decide +kernel, by decide +kernel⟩
abbrev st_law_numbers : Stmt := top 25
abbrev n_law_numbers : List Str := ["_law_cell", "_law_at", "_law_many", "_law_great", "_law_rest", "_law_numbers_here", "_law_k", "_law_mixed"]
abbrev p_law_numbers : List Str := ["_law_cell", "_law_at", "_law_many"]
theorem sc_law_numbers : FnScope n_law_numbers p_law_numbers (defScope st_law_numbers) := ⟨rfl, rfl, rfl, by decide +kernel, rfl, by decide +kernel, by decide +kernel⟩
abbrev st_law_same : Stmt := top 26
abbrev n_law_same : List Str := ["_law_actual", "_law_expected", "_law_k"]
abbrev p_law_same : List Str := ["_law_actual", "_law_expected"]
theorem sc_law_same : FnScope n_law_same p_law_same (defScope st_law_same) := ⟨rfl, rfl, rfl, by decide +kernel, rfl, by decide +kernel, by decide +kernel⟩
abbrev st_law_vector : Stmt := top 27
abbrev n_law_vector : List Str := ["_law_numbers_here", "_law_at", "_law_width", "_law_prime", "_law_vector_here", "_law_j"]
abbrev p_law_vector : List Str := ["_law_numbers_here", "_law_at", "_law_width", "_law_prime"]
theorem sc_law_vector : FnScope n_law_vector p_law_vector (defScope st_law_vector) := ⟨rfl, rfl, rfl, by decide +kernel, rfl, by decide +kernel, by decide +kernel⟩
abbrev st_law_net : Stmt := top 28
abbrev n_law_net : List Str := ["_law_numbers_here", "_law_letters", "_law_width", "_law_many", "_law_prime", "_law_rows", "_law_j", "_law_layers", "_law_at", "_law_matrices", "_law_first"]
abbrev p_law_net : List Str := ["_law_numbers_here", "_law_letters", "_law_width", "_law_many", "_law_prime"]
theorem sc_law_net : FnScope n_law_net p_law_net (defScope st_law_net) := ⟨rfl, rfl, rfl, by decide +kernel, rfl, by decide +kernel, by decide +kernel⟩
abbrev st_law_dot : Stmt := top 29
abbrev n_law_dot : List Str := ["_law_one", "_law_other", "_law_prime", "_law_total", "_law_k"]
abbrev p_law_dot : List Str := ["_law_one", "_law_other", "_law_prime"]
theorem sc_law_dot : FnScope n_law_dot p_law_dot (defScope st_law_dot) := ⟨rfl, rfl, rfl, by decide +kernel, rfl, by decide +kernel, by decide +kernel⟩
abbrev st_law_times : Stmt := top 30
abbrev n_law_times : List Str := ["_law_matrix", "_law_vector_here", "_law_prime", "_law_row_here"]
abbrev p_law_times : List Str := ["_law_matrix", "_law_vector_here", "_law_prime"]
theorem sc_law_times : FnScope n_law_times p_law_times (defScope st_law_times) := ⟨rfl, rfl, rfl, by decide +kernel, rfl, by decide +kernel, by decide +kernel⟩
abbrev st_law_row : Stmt := top 31
abbrev n_law_row : List Str := ["_law_net_here", "_law_rows", "_law_letter", "_law_prime", "_law_x", "_law_pairs", "_law_at", "_law_layer", "_law_asked", "_law_pair", "_law_other", "_law_near", "_law_squares", "_law_more", "_law_k", "_law_one", "_law_row_here"]
abbrev p_law_row : List Str := ["_law_net_here", "_law_rows", "_law_letter"]
theorem sc_law_row : FnScope n_law_row p_law_row (defScope st_law_row) := ⟨rfl, rfl, rfl, by decide +kernel, rfl, by decide +kernel, by decide +kernel⟩
abbrev st_law_common : Stmt := top 32
abbrev n_law_common : List Str := ["_law_one", "_law_other", "_law_k", "_law_rest"]
abbrev p_law_common : List Str := ["_law_one", "_law_other"]
theorem sc_law_common : FnScope n_law_common p_law_common (defScope st_law_common) := ⟨rfl, rfl, rfl, by decide +kernel, rfl, by decide +kernel, by decide +kernel⟩
abbrev st_law_least : Stmt := top 33
abbrev n_law_least : List Str := ["_law_over", "_law_under", "_law_common_here"]
abbrev p_law_least : List Str := ["_law_over", "_law_under"]
theorem sc_law_least : FnScope n_law_least p_law_least (defScope st_law_least) := ⟨rfl, rfl, rfl, by decide +kernel, rfl, by decide +kernel, by decide +kernel⟩
abbrev st_law_plus : Stmt := top 34
abbrev n_law_plus : List Str := ["_law_one", "_law_other"]
abbrev p_law_plus : List Str := ["_law_one", "_law_other"]
theorem sc_law_plus : FnScope n_law_plus p_law_plus (defScope st_law_plus) := ⟨rfl, rfl, rfl, by decide +kernel, rfl, by decide +kernel, by decide +kernel⟩
abbrev st_law_by : Stmt := top 35
abbrev n_law_by : List Str := ["_law_one", "_law_other"]
abbrev p_law_by : List Str := ["_law_one", "_law_other"]
theorem sc_law_by : FnScope n_law_by p_law_by (defScope st_law_by) := ⟨rfl, rfl, rfl, by decide +kernel, rfl, by decide +kernel, by decide +kernel⟩
abbrev st_law_is_share : Stmt := top 36
abbrev n_law_is_share : List Str := ["_law_told", "_law_due"]
abbrev p_law_is_share : List Str := ["_law_told", "_law_due"]
theorem sc_law_is_share : FnScope n_law_is_share p_law_is_share (defScope st_law_is_share) := ⟨rfl, rfl, rfl, by decide +kernel, rfl, by decide +kernel, by decide +kernel⟩
abbrev st_law_shares : Stmt := top 37
abbrev n_law_shares : List Str := ["_law_net_here", "_law_kept", "_law_letters", "_law_rows", "_law_k", "_law_begun", "_law_weights", "_law_weight"]
abbrev p_law_shares : List Str := ["_law_net_here", "_law_kept", "_law_letters"]
theorem sc_law_shares : FnScope n_law_shares p_law_shares (defScope st_law_shares) := ⟨rfl, rfl, rfl, by decide +kernel, rfl, by decide +kernel, by decide +kernel⟩
abbrev st_law_text_share : Stmt := top 38
abbrev n_law_text_share : List Str := ["_law_net_here", "_law_kept", "_law_prompt", "_law_text", "_law_share", "_law_k"]
abbrev p_law_text_share : List Str := ["_law_net_here", "_law_kept", "_law_prompt", "_law_text"]
theorem sc_law_text_share : FnScope n_law_text_share p_law_text_share (defScope st_law_text_share) := ⟨rfl, rfl, rfl, by decide +kernel, rfl, by decide +kernel, by decide +kernel⟩
abbrev st_law_texts : Stmt := top 39
abbrev n_law_texts : List Str := ["_law_letters", "_law_many", "_law_drawn", "_law_texts_here", "_law_k", "_law_j"]
abbrev p_law_texts : List Str := ["_law_letters", "_law_many", "_law_drawn"]
theorem sc_law_texts : FnScope n_law_texts p_law_texts (defScope st_law_texts) := ⟨rfl, rfl, rfl, by decide +kernel, rfl, by decide +kernel, by decide +kernel⟩
abbrev st_law_sums_up : Stmt := top 40
abbrev n_law_sums_up : List Str := ["_law_net_here", "_law_kept", "_law_prompt", "_law_rows", "_law_text", "_law_due", "_law_total", "_law_row_here", "_law_rest"]
abbrev p_law_sums_up : List Str := ["_law_net_here", "_law_kept", "_law_prompt", "_law_rows", "_law_text", "_law_due"]
theorem sc_law_sums_up : FnScope n_law_sums_up p_law_sums_up (defScope st_law_sums_up) := ⟨rfl, rfl, rfl, by decide +kernel, rfl, by decide +kernel, by decide +kernel⟩
abbrev st_law : Stmt := top 41
abbrev n_law : List Str := ["_law_script", "_law_at", "_law_numbers_here", "_law_letters", "_law_nets", "_law_k", "_law_primes", "_law_prime", "_law_width", "_law_ends", "_law_told", "_law_prompt", "_law_many", "_law_rows", "_law_whole", "_law_most", "_law_row_here", "_law_kept", "_law_drawn", "_law_text", "_law_due"]
abbrev p_law : List Str := ["_law_script"]
theorem sc_law : FnScope n_law p_law (defScope st_law) := ⟨rfl, rfl, rfl, by decide +kernel, rfl, by decide +kernel, by decide +kernel⟩

/-- a def of the top -/
structure GF (K : PySem.W.Frag) (mg : Str → Option Value) (x : Str) (st : Stmt) (ps : List Str) : Type where
  f : Addr
  d : FuncData
  F : Fun K x x st f d
  g : mg x = some (.ref f)
  b : Binds K d ps []
/-- a method -/
structure MF (K : PySem.W.Frag) (C : Addr) (x q : Str) (st : Stmt) (ps : List Str) : Type where
  f : Addr
  d : FuncData
  F : Fun K x q st f d
  m : Meth K C x f
  b : Binds K d ps []
def primes : List Int := [2, 3, 5, 7, 11, 13, 17, 19, 23, 29, 31, 37, 41, 43, 47, 53, 59, 61, 67, 71, 73, 79, 83, 89, 97]
structure T (K : PySem.W.Frag) (mg : Str → Option Value) : Type where
  aShare : Addr
  aNet : Addr
  aRound : Addr
  aPrimes : Addr
  rows_of : GF K mg "rows_of" st_rows_of p_rows_of
  weights_behind : GF K mg "weights_behind" st_weights_behind p_weights_behind
  greatest_divisor : GF K mg "greatest_divisor" st_greatest_divisor p_greatest_divisor
  lesser_of : GF K mg "lesser_of" st_lesser_of p_lesser_of
  next_shares : GF K mg "next_shares" st_next_shares p_next_shares
  text_share : GF K mg "text_share" st_text_share p_text_share
  shares_above : GF K mg "shares_above" st_shares_above p_shares_above
  round_shares : GF K mg "round_shares" st_round_shares p_round_shares
  is_between : GF K mg "is_between" st_is_between p_is_between
  vector_of : GF K mg "vector_of" st_vector_of p_vector_of
  matrix_of : GF K mg "matrix_of" st_matrix_of p_matrix_of
  product_sum : GF K mg "product_sum" st_product_sum p_product_sum
  law_numbers : GF K mg "_law_numbers" st_law_numbers p_law_numbers
  law_same : GF K mg "_law_same" st_law_same p_law_same
  law_vector : GF K mg "_law_vector" st_law_vector p_law_vector
  law_net : GF K mg "_law_net" st_law_net p_law_net
  law_dot : GF K mg "_law_dot" st_law_dot p_law_dot
  law_times : GF K mg "_law_times" st_law_times p_law_times
  law_row : GF K mg "_law_row" st_law_row p_law_row
  law_common : GF K mg "_law_common" st_law_common p_law_common
  law_least : GF K mg "_law_least" st_law_least p_law_least
  law_plus : GF K mg "_law_plus" st_law_plus p_law_plus
  law_by : GF K mg "_law_by" st_law_by p_law_by
  law_is_share : GF K mg "_law_is_share" st_law_is_share p_law_is_share
  law_shares : GF K mg "_law_shares" st_law_shares p_law_shares
  law_text_share : GF K mg "_law_text_share" st_law_text_share p_law_text_share
  law_texts : GF K mg "_law_texts" st_law_texts p_law_texts
  law_sums_up : GF K mg "_law_sums_up" st_law_sums_up p_law_sums_up
  law : GF K mg "law" st_law p_law
  Share_init : MF K aShare "__init__" "Share.__init__" st_Share_init p_Share_init
  Share_add : MF K aShare "__add__" "Share.__add__" st_Share_add p_Share_add
  Share_sub : MF K aShare "__sub__" "Share.__sub__" st_Share_sub p_Share_sub
  Share_mul : MF K aShare "__mul__" "Share.__mul__" st_Share_mul p_Share_mul
  Share_is_below : MF K aShare "is_below" "Share.is_below" st_Share_is_below p_Share_is_below
  Round_init : MF K aRound "__init__" "Round.__init__" st_Round_init p_Round_init
  Round_gather : MF K aRound "gather" "Round.gather" st_Round_gather p_Round_gather
  Round_end_by : MF K aRound "end_by" "Round.end_by" st_Round_end_by p_Round_end_by
  Round_go_on : MF K aRound "go_on" "Round.go_on" st_Round_go_on p_Round_go_on
  Net_init : MF K aNet "__init__" "Net.__init__" st_Net_init p_Net_init
  Net_is_letter : MF K aNet "is_letter" "Net.is_letter" st_Net_is_letter p_Net_is_letter
  Net_rest : MF K aNet "rest" "Net.rest" st_Net_rest p_Net_rest
  Net_times : MF K aNet "times" "Net.times" st_Net_times p_Net_times
  Net_plus : MF K aNet "plus" "Net.plus" st_Net_plus p_Net_plus
  Net_looked_at : MF K aNet "looked_at" "Net.looked_at" st_Net_looked_at p_Net_looked_at
  Net_row : MF K aNet "row" "Net.row" st_Net_row p_Net_row
  cl_Share : Cls K aShare
  M_Share : Mk K aShare Share_init.f
  mg_Share : mg "Share" = some (.ref aShare)
  cl_Net : Cls K aNet
  M_Net : Mk K aNet Net_init.f
  mg_Net : mg "Net" = some (.ref aNet)
  cl_Round : Cls K aRound
  M_Round : Mk K aRound Round_init.f
  mg_Round : mg "Round" = some (.ref aRound)
  na_Share_over : NoAttr K aShare "over"
  na_Share_under : NoAttr K aShare "under"
  na_Net_prime : NoAttr K aNet "prime"
  na_Net_embed : NoAttr K aNet "embed"
  na_Net_shift : NoAttr K aNet "shift"
  na_Net_layers : NoAttr K aNet "layers"
  na_Net_out : NoAttr K aNet "out"
  na_Net_end : NoAttr K aNet "end"
  na_Round_net : NoAttr K aRound "net"
  na_Round_lesser : NoAttr K aRound "lesser"
  na_Round_prompt : NoAttr K aRound "prompt"
  na_Round_chances : NoAttr K aRound "chances"
  sf_Share : PySem.W.selfFirst K aShare = true
  o_add : PySem.W.findIn K (.ref aShare) (PySem.dunder (Operator.info .Add).2) = some (some (.ref Share_add.f))
  i_add : PySem.W.isFn K (.ref Share_add.f) = true
  o_sub : PySem.W.findIn K (.ref aShare) (PySem.dunder (Operator.info .Sub).2) = some (some (.ref Share_sub.f))
  i_sub : PySem.W.isFn K (.ref Share_sub.f) = true
  o_mul : PySem.W.findIn K (.ref aShare) (PySem.dunder (Operator.info .Mult).2) = some (some (.ref Share_mul.f))
  i_mul : PySem.W.isFn K (.ref Share_mul.f) = true
  mg_PRIMES : mg "PRIMES" = some (.ref aPrimes)
  sq_PRIMES : ∀ H : Hp, SqT K H aPrimes (primes.map V.int)
  z_tuple : mg "tuple" = none
  z_len : mg "len" = none
  z_int : mg "int" = none
  z_abs : mg "abs" = none
  z_min : mg "min" = none
  z_sum : mg "sum" = none
  z_list : mg "list" = none
  z_sorted : mg "sorted" = none
  z_isinstance : mg "isinstance" = none
  z_range : mg "range" = none
  z_zip : mg "zip" = none
  z_enumerate : mg "enumerate" = none
  z_str : mg "str" = none
  z_bool : mg "bool" = none
end SA
set_option maxRecDepth 100000
set_option maxHeartbeats 4000000
/-! Shares. -/
namespace SA
open PySem PySem.Spec PyProof.Rows L2 Evl SAZ
section
variable {P : Program} {w : World} {K : PySem.W.Frag} {mg : Str → Option Value} {base : Heap}
/-! ### greatest_divisor -/
def spGcd : Sp := fun vs H Q _ => ∃ a b : Int, vs = [.int a, .int b] ∧ 0 ≤ a ∧ 0 ≤ b ∧ Q (.int (Int.gcd a b : Nat)) H
theorem ok_greatest_divisor (t : T K mg) : FnOk P w K mg base CX0 1 t.greatest_divisor.f t.greatest_divisor.d p_greatest_divisor spGcd := by
  refine t.greatest_divisor.F.ok sc_greatest_divisor (fun vs H Q E h => ?_) (fun cdv A outer s H vs Q E hr h => ?_)
  · obtain ⟨a, b, rfl, _⟩ := h
    rfl
  · obtain ⟨a, b, rfl, ha, hb, q⟩ := h
    refine ⟨_, (pss_cons (ps_while PassesOwn.never (pt_cmpR op_gt (pv 1) pe_int (nomark _))
      (pss_one (ps_par (i := 0) (j := 1) (by rfl) sc_greatest_divisor.nd rfl rfl (by decide) rfl rfl (pa_cons (pv 1) (pa_cons (pe_op op_mod (pv 0) (pv 1)) pa_nil)) (by rfl))))
      (pss_one (ps_ret (pv 0)))), ?_⟩
    refine ⟨fun m σ H' => ∃ x y : Int, σ = [some (.int x), some (.int y)] ∧ 0 ≤ x ∧ 0 ≤ y ∧ Int.gcd x y = Int.gcd a b ∧ m = y.toNat ∧ H' = H, ⟨_, a, b, rfl, ha, hb, rfl, rfl, rfl⟩, ?_⟩
    rintro m σ H' ⟨x, y, rfl, hx, hy, hg, rfl, rfl⟩
    refine ⟨_, rfl, _, _, rfl, rfl, _, rfl, ?_⟩
    by_cases h0 : 0 < y
    · rw [decide_eq_true h0]
      refine iteT ⟨fun σ' H' => ∃ x y' : Int, σ' = [some (.int x), some (.int y')] ∧ 0 ≤ x ∧ 0 ≤ y' ∧ Int.gcd x y' = Int.gcd a b ∧ y'.toNat < y.toNat ∧ H' = _, fun σ' H' ⟨x', y', e1, e2, e3, e4, e5, e6⟩ => ⟨_, e5, x', y', e1, e2, e3, e4, rfl, e6⟩, ?_⟩
      refine ⟨_, rfl, _, rfl, _, rfl, _, _, rfl, rfl, h0, _, _, rfl, y, x % y, rfl, hy, Int.emod_nonneg _ (by omega), by rw [gcd_step hx hy, hg], ?_, rfl⟩
      have := Int.emod_lt_of_pos x h0
      have := Int.emod_nonneg x (show y ≠ 0 by omega)
      omega
    · rw [decide_eq_false h0]
      refine iteF ⟨_, rfl, ?_⟩
      have e : y = 0 := by omega
      subst e
      rw [Int.gcd_zero] at hg
      have ex : (x : Int) = ((Int.gcd a b : Nat) : Int) := by omega
      rw [ex]
      exact q
/-! ### Share -/
theorem ne_uo : ¬ (("under" : Str) = "over") := by decide +kernel
theorem ne_ou : ¬ (("over" : Str) = "under") := by decide +kernel
/-- a share's attributes -/
def shF (q : Rat) : List (Str × V) := putF "under" (.int (q.den : Nat)) (putF "over" (.int q.num) [])
theorem sh_over (q : Rat) : (shF q).lookup ("over" : Str) = some (.int q.num) := by
  unfold shF
  rw [lookup_putF, if_neg ne_ou, lookup_putF, if_pos rfl]
theorem sh_under (q : Rat) : (shF q).lookup ("under" : Str) = some (.int (q.den : Nat)) := by
  unfold shF
  rw [lookup_putF, if_pos rfl]
theorem sh_none (q : Rat) {m : Str} (h1 : ¬ m = "over") (h2 : ¬ m = "under") : (shF q).lookup m = none := by
  unfold shF
  rw [lookup_putF, if_neg h2, lookup_putF, if_neg h1]
  all_goals rfl
/-- a share at v -/
def ShD (C : Addr) : Den Rat := fun v q H => ∃ a dx, v = .ref a ∧ H a = some (.ins C dx (shF q))
theorem mono_sh {C : Addr} : Mono (ShD C) := fun v q H H' e ⟨a, dx, hv, ha⟩ => ⟨a, dx, hv, e a _ rfl ha⟩
/-- how large the numbers of a share may be -/
def bb : Nat := 2000
theorem bb_eq : bb = 2000 := rfl
structure Sz (q : Rat) : Prop where
  n : q.num.natAbs < 2 ^ bb
  d : q.den < 2 ^ bb
/-- a value told by R, what stood as it was -/
def RetP (R : V → Hp → Prop) (H : Hp) (Q : VK) : Prop := ∀ v H', Ex H H' → R v H' → Q v H'
def spShare_init (C : Addr) : Sp := fun vs H Q _ => ∃ (x dx : Addr) (a b : Int), vs = [.ref x, .int a, .int b] ∧ H x = some (.ins C dx []) ∧ 0 < b ∧ b.natAbs < 2 ^ (4 * bb) ∧ Q .non (upd H x (.ins C dx (shF (fr a b))))
theorem ok_Share_init (t : T K mg) : FnOk P w K mg base CX0 2 t.Share_init.f t.Share_init.d p_Share_init (spShare_init t.aShare) := by
  refine t.Share_init.F.ok sc_Share_init (fun vs H Q E h => ?_) (fun cdv A outer s H vs Q E hr h => ?_)
  · obtain ⟨x, dx, a, b, rfl, _⟩ := h
    rfl
  · obtain ⟨x, dx, a, b, rfl, hx, hb, hz, q⟩ := h
    refine ⟨_, (pss_cons (ps_if (pt_cmpR op_eq (pv 2) pe_int (nomark _))
      (pss_one ps_never)
      pss_nil)
      (pss_cons (ps_set (i := 3) sc_Share_init.nd rfl (Or.inl rfl) (pe_call (ok_greatest_divisor t) (hr.mono (by decide)) rfl t.greatest_divisor.g t.greatest_divisor.F.kp t.greatest_divisor.b .nil pass0 (pa_cons (pe_callB call_abs (by rfl) t.z_abs (by decide +kernel) (pa_cons (pv 1) pa_nil)) (pa_cons (pe_callB call_abs (by rfl) t.z_abs (by decide +kernel) (pa_cons (pv 2) pa_nil)) pa_nil))))
      (pss_cons (ps_if (pt_cmpR op_lt (pv 2) pe_int (nomark _))
      (pss_one (ps_set (i := 3) sc_Share_init.nd rfl (Or.inl rfl) (pe_un un_neg (pv 3))))
      pss_nil)
      (pss_cons (ps_fld (pv 0) (pe_op op_fdivW (pv 1) (pv 3)) rfl)
      (pss_one (ps_fld (pv 0) (pe_op op_fdivW (pv 2) (pv 3)) rfl)))))), ?_⟩
    -- under == 0: no
    refine ⟨_, rfl, rfl, _, rfl, ?_⟩
    rw [decide_eq_false (show ¬ (V.int b = V.int 0) by intro z; injection z with z; omega)]
    refine iteF ?_
    -- by
    have e2 : (if b < 0 then -b else b) = b := if_neg (by omega)
    have e1 : 0 ≤ (if a < 0 then -a else a) := by split <;> omega
    have eg : Int.gcd (if a < 0 then -a else a) b = Int.gcd a b := by
      split
      · rw [Int.neg_gcd]
      · rfl
    refine ⟨_, rfl, _, rfl, _, rfl, _, rfl, _, _, rfl, e1, by rw [e2]; omega, ?_⟩
    rw [e2, eg]
    have g0 : (0 : Int) < ((Int.gcd a b : Nat) : Int) := by
      have := Int.gcd_pos_of_ne_zero_right a (show b ≠ 0 by omega)
      omega
    have gle : Int.gcd a b ≤ b.natAbs := Int.gcd_le_natAbs_right a (by omega)
    have gz : (((Int.gcd a b : Nat) : Int)).natAbs < 2 ^ (4 * bb) := by
      rw [Int.natAbs_natCast]
      exact Nat.lt_of_le_of_lt gle hz
    have wd : ∀ i : Int, CDivW i ((Int.gcd a b : Nat) : Int) := fun i => wide_div g0 gz (by rw [bb_eq]; decide) (by rw [bb_eq]; decide)
    -- under < 0: no
    refine ⟨_, rfl, _, _, rfl, rfl, _, rfl, ?_⟩
    rw [decide_eq_false (show ¬ (b < 0) by omega)]
    refine iteF ?_
    refine ⟨_, rfl, _, rfl, _, _, rfl, rfl, wd _, _, rfl, x, t.aShare, dx, _, rfl, hx, t.cl_Share, t.na_Share_over, (by show 0 < 1000; decide), ?_⟩
    refine ⟨_, rfl, _, rfl, _, _, rfl, rfl, wd _, _, rfl, x, t.aShare, dx, _, rfl, upd_same, t.cl_Share, t.na_Share_under, (by show 1 < 1000; decide), ?_⟩
    rw [upd_upd]
    have e : putF "under" (V.int (b / ((Int.gcd a b : Nat) : Int))) (putF "over" (V.int (a / ((Int.gcd a b : Nat) : Int))) []) = shF (fr a b) := by
      unfold shF
      rw [fr_num hb, fr_den hb]
    rw [e]
    exact q
/-- two sizes -/
theorem bb_lt {n : Nat} (h : n ≤ 2000) : 2 ^ n ≤ 2 ^ bb := Nat.pow_le_pow_right (by decide) (by rw [bb_eq]; exact h)
theorem mulW {i j : Int} (hi : i.natAbs < 2 ^ bb) (hj : j.natAbs < 2 ^ bb) : CMulW i j := wide_mul hi hj (by rw [bb_eq]; decide) (by rw [bb_eq]; decide) (by rw [bb_eq]; decide)
theorem dd_lt {p q : Rat} (hp : Sz p) (hq : Sz q) : ((p.den : Int) * (q.den : Int)).natAbs < 2 ^ (4 * bb) := by
  have h := wide_lt (i := (p.den : Int)) (j := (q.den : Int)) (a := bb) (b := bb) (by rw [Int.natAbs_natCast]; exact hp.d) (by rw [Int.natAbs_natCast]; exact hq.d)
  exact Nat.lt_of_lt_of_le h (Nat.pow_le_pow_right (by decide) (by omega))
theorem dd_pos (p q : Rat) : 0 < (p.den : Int) * (q.den : Int) := Int.mul_pos (den_pos p) (den_pos q)
theorem Sz.dn {q : Rat} (h : Sz q) : ((q.den : Nat) : Int).natAbs < 2 ^ bb := by rw [Int.natAbs_natCast]; exact h.d
/-- two shares in, one out -/
def spShOp (C : Addr) (f : Rat → Rat → Rat) : Sp := fun vs H Q _ => ∃ (x y : V) (p q : Rat), vs = [x, y] ∧ ShD C x p H ∧ ShD C y q H ∧ Sz p ∧ Sz q ∧ RetP (fun v => ShD C v (f p q)) H Q
theorem ok_Share_add (t : T K mg) : FnOk P w K mg base CX0 4 t.Share_add.f t.Share_add.d p_Share_add (spShOp t.aShare fun p q => p + q) := by
  refine t.Share_add.F.ok sc_Share_add (fun vs H Q E h => ?_) (fun cdv A outer s H vs Q E hr h => ?_)
  · obtain ⟨x, y, p, q, rfl, _⟩ := h
    rfl
  · obtain ⟨x, y, p, q, rfl, ⟨a, dx, rfl, ha⟩, ⟨b, dy, rfl, hb⟩, sp, sq, k⟩ := h
    refine ⟨_, (pss_one (ps_ret (pe_make t.M_Share (ok_Share_init t) (hr.mono (by decide)) rfl t.mg_Share t.Share_init.b .nil pass0 (pa_cons (pe_op op_add (pe_op op_mulW (pe_fld (pv 0) rfl) (pe_fld (pv 1) rfl)) (pe_op op_mulW (pe_fld (pv 1) rfl) (pe_fld (pv 0) rfl))) (pa_cons (pe_op op_mulW (pe_fld (pv 0) rfl) (pe_fld (pv 1) rfl)) pa_nil))))), ?_⟩
    refine ⟨_, rfl, a, _, dx, _, _, rfl, ha, t.cl_Share, t.na_Share_over, sh_over p, _, rfl, b, _, dy, _, _, rfl, hb, t.cl_Share, t.na_Share_under, sh_under q, _, _, rfl, rfl, mulW sp.n sq.dn, ?_⟩
    refine ⟨_, rfl, b, _, dy, _, _, rfl, hb, t.cl_Share, t.na_Share_over, sh_over q, _, rfl, a, _, dx, _, _, rfl, ha, t.cl_Share, t.na_Share_under, sh_under p, _, _, rfl, rfl, mulW sq.n sp.dn, _, _, rfl, rfl, ?_⟩
    refine ⟨_, rfl, a, _, dx, _, _, rfl, ha, t.cl_Share, t.na_Share_under, sh_under p, _, rfl, b, _, dy, _, _, rfl, hb, t.cl_Share, t.na_Share_under, sh_under q, _, _, rfl, rfl, mulW sp.dn sq.dn, ?_⟩
    intro z dz nz ndz ne
    refine ⟨z, dz, _, _, rfl, upd_same, dd_pos p q, dd_lt sp sq, rfl, ?_⟩
    rw [upd_upd, fr_add]
    exact k (.ref z) _ ((Ex.new ndz).trans (Ex.new (by rw [upd_ne ne.symm]; exact nz))) (show ShD t.aShare (.ref z) (p + q) _ from ⟨z, dz, rfl, upd_same⟩)
theorem ok_Share_sub (t : T K mg) : FnOk P w K mg base CX0 4 t.Share_sub.f t.Share_sub.d p_Share_sub (spShOp t.aShare fun p q => p - q) := by
  refine t.Share_sub.F.ok sc_Share_sub (fun vs H Q E h => ?_) (fun cdv A outer s H vs Q E hr h => ?_)
  · obtain ⟨x, y, p, q, rfl, _⟩ := h
    rfl
  · obtain ⟨x, y, p, q, rfl, ⟨a, dx, rfl, ha⟩, ⟨b, dy, rfl, hb⟩, sp, sq, k⟩ := h
    refine ⟨_, (pss_one (ps_ret (pe_make t.M_Share (ok_Share_init t) (hr.mono (by decide)) rfl t.mg_Share t.Share_init.b .nil pass0 (pa_cons (pe_op op_sub (pe_op op_mulW (pe_fld (pv 0) rfl) (pe_fld (pv 1) rfl)) (pe_op op_mulW (pe_fld (pv 1) rfl) (pe_fld (pv 0) rfl))) (pa_cons (pe_op op_mulW (pe_fld (pv 0) rfl) (pe_fld (pv 1) rfl)) pa_nil))))), ?_⟩
    refine ⟨_, rfl, a, _, dx, _, _, rfl, ha, t.cl_Share, t.na_Share_over, sh_over p, _, rfl, b, _, dy, _, _, rfl, hb, t.cl_Share, t.na_Share_under, sh_under q, _, _, rfl, rfl, mulW sp.n sq.dn, ?_⟩
    refine ⟨_, rfl, b, _, dy, _, _, rfl, hb, t.cl_Share, t.na_Share_over, sh_over q, _, rfl, a, _, dx, _, _, rfl, ha, t.cl_Share, t.na_Share_under, sh_under p, _, _, rfl, rfl, mulW sq.n sp.dn, _, _, rfl, rfl, ?_⟩
    refine ⟨_, rfl, a, _, dx, _, _, rfl, ha, t.cl_Share, t.na_Share_under, sh_under p, _, rfl, b, _, dy, _, _, rfl, hb, t.cl_Share, t.na_Share_under, sh_under q, _, _, rfl, rfl, mulW sp.dn sq.dn, ?_⟩
    intro z dz nz ndz ne
    refine ⟨z, dz, _, _, rfl, upd_same, dd_pos p q, dd_lt sp sq, rfl, ?_⟩
    rw [upd_upd, fr_sub]
    exact k (.ref z) _ ((Ex.new ndz).trans (Ex.new (by rw [upd_ne ne.symm]; exact nz))) (show ShD t.aShare (.ref z) (p - q) _ from ⟨z, dz, rfl, upd_same⟩)
theorem ok_Share_mul (t : T K mg) : FnOk P w K mg base CX0 4 t.Share_mul.f t.Share_mul.d p_Share_mul (spShOp t.aShare fun p q => p * q) := by
  refine t.Share_mul.F.ok sc_Share_mul (fun vs H Q E h => ?_) (fun cdv A outer s H vs Q E hr h => ?_)
  · obtain ⟨x, y, p, q, rfl, _⟩ := h
    rfl
  · obtain ⟨x, y, p, q, rfl, ⟨a, dx, rfl, ha⟩, ⟨b, dy, rfl, hb⟩, sp, sq, k⟩ := h
    refine ⟨_, (pss_one (ps_ret (pe_make t.M_Share (ok_Share_init t) (hr.mono (by decide)) rfl t.mg_Share t.Share_init.b .nil pass0 (pa_cons (pe_op op_mulW (pe_fld (pv 0) rfl) (pe_fld (pv 1) rfl)) (pa_cons (pe_op op_mulW (pe_fld (pv 0) rfl) (pe_fld (pv 1) rfl)) pa_nil))))), ?_⟩
    refine ⟨_, rfl, a, _, dx, _, _, rfl, ha, t.cl_Share, t.na_Share_over, sh_over p, _, rfl, b, _, dy, _, _, rfl, hb, t.cl_Share, t.na_Share_over, sh_over q, _, _, rfl, rfl, mulW sp.n sq.n, ?_⟩
    refine ⟨_, rfl, a, _, dx, _, _, rfl, ha, t.cl_Share, t.na_Share_under, sh_under p, _, rfl, b, _, dy, _, _, rfl, hb, t.cl_Share, t.na_Share_under, sh_under q, _, _, rfl, rfl, mulW sp.dn sq.dn, ?_⟩
    intro z dz nz ndz ne
    refine ⟨z, dz, _, _, rfl, upd_same, dd_pos p q, dd_lt sp sq, rfl, ?_⟩
    rw [upd_upd, fr_mul]
    exact k (.ref z) _ ((Ex.new ndz).trans (Ex.new (by rw [upd_ne ne.symm]; exact nz))) (show ShD t.aShare (.ref z) (p * q) _ from ⟨z, dz, rfl, upd_same⟩)
def spIsBelow (C : Addr) : Sp := fun vs H Q _ => ∃ (x y : V) (p q : Rat), vs = [x, y] ∧ ShD C x p H ∧ ShD C y q H ∧ Sz p ∧ Sz q ∧ Q (.bl (decide (p < q))) H
theorem ok_Share_is_below (t : T K mg) : FnOk P w K mg base CX0 1 t.Share_is_below.f t.Share_is_below.d p_Share_is_below (spIsBelow t.aShare) := by
  refine t.Share_is_below.F.ok sc_Share_is_below (fun vs H Q E h => ?_) (fun cdv A outer s H vs Q E hr h => ?_)
  · obtain ⟨x, y, p, q, rfl, _⟩ := h
    rfl
  · obtain ⟨x, y, p, q, rfl, ⟨a, dx, rfl, ha⟩, ⟨b, dy, rfl, hb⟩, sp, sq, k⟩ := h
    refine ⟨_, (pss_one (ps_ret (pe_cmpR op_lt (pe_op op_mulW (pe_fld (pv 0) rfl) (pe_fld (pv 1) rfl)) (pe_op op_mulW (pe_fld (pv 1) rfl) (pe_fld (pv 0) rfl)) (nomark _)))), ?_⟩
    refine ⟨_, rfl, a, _, dx, _, _, rfl, ha, t.cl_Share, t.na_Share_over, sh_over p, _, rfl, b, _, dy, _, _, rfl, hb, t.cl_Share, t.na_Share_under, sh_under q, _, _, rfl, rfl, mulW sp.n sq.dn, ?_⟩
    refine ⟨_, rfl, b, _, dy, _, _, rfl, hb, t.cl_Share, t.na_Share_over, sh_over q, _, rfl, a, _, dx, _, _, rfl, ha, t.cl_Share, t.na_Share_under, sh_under p, _, _, rfl, rfl, mulW sq.n sp.dn, _, _, rfl, rfl, ?_⟩
    have e : decide (p.num * ((q.den : Nat) : Int) < q.num * ((p.den : Nat) : Int)) = decide (p < q) := decide_eq_decide.mpr (rat_lt p q).symm
    show Q (.bl (decide (p.num * ((q.den : Nat) : Int) < q.num * ((p.den : Nat) : Int)))) H
    rw [e]
    exact k
/-- the lesser one, itself -/
def spLesser (C : Addr) : Sp := fun vs H Q _ => ∃ (x y : V) (p q : Rat), vs = [x, y] ∧ ShD C x p H ∧ ShD C y q H ∧ Sz p ∧ Sz q ∧ RetP (fun v => ShD C v (les p q)) H Q
theorem ok_lesser_of (t : T K mg) : FnOk P w K mg base CX0 2 t.lesser_of.f t.lesser_of.d p_lesser_of (spLesser t.aShare) := by
  refine t.lesser_of.F.ok sc_lesser_of (fun vs H Q E h => ?_) (fun cdv A outer s H vs Q E hr h => ?_)
  · obtain ⟨x, y, p, q, rfl, _⟩ := h
    rfl
  · obtain ⟨x, y, p, q, rfl, hx, hy, sp, sq, k⟩ := h
    obtain ⟨a, dx, rfl, ha⟩ := id hx
    refine ⟨_, (pss_one (ps_ret (pe_ifExp (pt_val (pe_meth (pv 0) t.cl_Share t.Share_is_below.m (ok_Share_is_below t) (hr.mono (by decide)) t.Share_is_below.b .nil pass0 (pa_cons (pv 1) pa_nil))) (pv 0) (pv 1)))), ?_⟩
    refine ⟨_, rfl, a, dx, _, rfl, ha, sh_none p (by decide +kernel) (by decide +kernel), _, rfl, _, _, p, q, rfl, hx, hy, sp, sq, _, rfl, ?_⟩
    by_cases c : p < q
    · rw [decide_eq_true c]
      refine iteT ⟨_, rfl, k _ _ (Ex.refl _) ?_⟩
      unfold les
      rw [if_pos c]
      exact hx
    · rw [decide_eq_false c]
      refine iteF ⟨_, rfl, k _ _ (Ex.refl _) ?_⟩
      unfold les
      rw [if_neg c]
      exact hy
end
end SA
set_option maxRecDepth 100000
set_option maxHeartbeats 4000000
/-! More of the calculus: comprehensions that yield what a list stands for; vectors; nets. -/
namespace SA
open PySem PySem.Spec PyProof.Rows L2 Evl SAZ
theorem lc_den {β : Type} {R : Den β} {zs : List β} {J : It} {n : Nat} {G : Hp → Prop} {Y : Nat → Hp → V → Hp → Prop} {g : TG} {te : TE} {ws : List Nat} {σ : L2.St} {H1 : Hp} {D : Addr} {Qd : Hp → Prop} (w : Walk J n G Y) (hz : zs.length = n) (hn : n ≤ 100000) (hD : H1 D = none) (hG : ∀ H', Ex H1 H' → G H')
    (m : Mono R)
    (hs : ∀ i x H H' (Q' : VK) (z : β), zs[i]? = some z → Ex H1 H → Y i H x H' → (∀ y H4, Ex H H4 → R y z H4 → Q' y H4) → g x (wipe σ ws) H' fun σ2 H2 => wipe σ2 ws = wipe σ ws ∧ te σ2 H2 Q')
    (hd : ∀ acc H', Ex H1 H' → H' D = some (.lst acc) → acc.length = n → AllD R acc zs H' → Qd H') :
    ∃ W : Nat → Nat → Hp → Prop, (∃ m, W 0 m (upd H1 D (.lst []))) ∧ ∀ i m H, W i m H →
      (J.stop i H ∧ Qd H) ∨ (J.go i H ∧ ∃ Nx : Hp → Prop, (∀ H', Nx H' → ∃ m', m' < m ∧ W (i + 1) m' H') ∧ ∀ x H', J.yld i H x H' → g x (wipe σ ws) H' fun σ2 H2 => wipe σ2 ws = wipe σ ws ∧ tYes σ2 H2 fun b H3 =>
        if b = true then te σ2 H3 fun y H4 => ∃ acc, H4 D = some (.lst acc) ∧ acc.length < sizeLine ∧ Nx (upd H4 D (.lst (acc ++ [y]))) else Nx H3) := by
  refine lc_go (P := fun i v H => ∀ z, zs[i]? = some z → R v z H) w hn hD hG (fun i v H H' e h z hz => m v z H H' e (h z hz)) (fun i x H H' Q' hi ex y k => ?_) (fun acc H' ex h hl hp => hd acc H' ex h hl ⟨by rw [hl, hz], fun i v z a b => hp i v a z b⟩)
  have hi' : i < zs.length := by rw [hz]; exact hi
  have hzi : zs[i]? = some zs[i] := List.getElem?_eq_getElem hi'
  exact hs i x H H' Q' zs[i] hzi ex y fun y H4 e r => k y H4 e fun z hz' => by
    rw [hzi] at hz'
    cases hz'
    exact r
def rTupOf (K : PySem.W.Frag) : List V → Hp → VK → Prop := fun xs H Q => ∃ p ys, xs = [.ref p] ∧ ((SqL K H p ys ∧ ∀ l, H l = none → Q (.ref l) (upd H l (.tup ys))) ∨ (SqT K H p ys ∧ Q (.ref p) H))
def rListOf (K : PySem.W.Frag) : List V → Hp → VK → Prop := fun xs H Q => ∃ p ys, xs = [.ref p] ∧ (SqL K H p ys ∨ SqT K H p ys) ∧ ∀ l, H l = none → Q (.ref l) (upd H l (.lst ys))
def rLenOf (K : PySem.W.Frag) : List V → Hp → VK → Prop := fun xs H Q => ∃ p ys, xs = [.ref p] ∧ (SqL K H p ys ∨ SqT K H p ys) ∧ Q (.int ys.length) H
/-! ### vectors that are tuples or lists -/
def SeqV (K : PySem.W.Frag) (k : Bool) (v : V) (x : Vec) (H : Hp) : Prop := ∃ a, v = .ref a ∧ Sq k K H a (x.map V.int)
theorem sqT_of {K : PySem.W.Frag} {H : Hp} {a : Addr} {xs : List V} (h : H a = some (.tup xs)) : Sq false K H a xs := by
  unfold Sq
  rw [if_neg (by decide)]
  exact st_of h
theorem sqL_of {K : PySem.W.Frag} {H : Hp} {a : Addr} {xs : List V} (h : H a = some (.lst xs)) : Sq true K H a xs := by
  unfold Sq
  rw [if_pos rfl]
  exact sq_of h
theorem ex_sq {k : Bool} {K : PySem.W.Frag} {H H' : Hp} {a : Addr} {xs : List V} (e : Ex H H') (h : Sq k K H a xs) : Sq k K H' a xs := by
  unfold Sq at h ⊢
  cases k with
  | true =>
    rw [if_pos rfl] at h ⊢
    exact ex_l e h
  | false =>
    rw [if_neg (by decide)] at h ⊢
    exact ex_t e h
theorem SeqV.ex {k : Bool} {K : PySem.W.Frag} {H H' : Hp} {v : V} {x : Vec} (e : Ex H H') : SeqV K k v x H → SeqV K k v x H' := fun ⟨a, hv, h⟩ => ⟨a, hv, ex_sq e h⟩
theorem vec_tup {v : V} {x : Vec} {H : Hp} (h : VecD v x H) : ∃ a, v = .ref a ∧ H a = some (.tup (x.map V.int)) := by
  obtain ⟨a, vs, rfl, ha, h⟩ := h
  rw [allD_ints h] at ha
  exact ⟨a, rfl, ha⟩
theorem tup_vec {a : Addr} {x : Vec} {H : Hp} (h : H a = some (.tup (x.map V.int))) : VecD (.ref a) x H := ⟨a, _, rfl, h, ints_allD x⟩
theorem vec_sq {K : PySem.W.Frag} {v : V} {x : Vec} {H : Hp} (h : VecD v x H) : SeqV K false v x H := by
  obtain ⟨a, rfl, ha⟩ := vec_tup h
  exact ⟨a, rfl, sqT_of ha⟩
theorem lst_sq {K : PySem.W.Frag} {a : Addr} {x : Vec} {H : Hp} {vs : List V} (h : H a = some (.lst vs)) (hv : AllD IntD vs x H) : SeqV K true (.ref a) x H := by
  rw [allD_ints hv] at h
  exact ⟨a, rfl, sqL_of h⟩
/-- small numbers -/
def Sm (x : Vec) : Prop := ∀ n ∈ x, 0 ≤ n ∧ n < 2 ^ 64
theorem p64 : (2 : Int) ^ 64 = 18446744073709551616 := by decide +kernel
theorem Sm.of {p : Int} (hp : p ≤ 97) {x : Vec} (h : Bnd p x) : Sm x := fun n hn => by
  have := h n hn
  have := p64
  omega
theorem cmul {i j : Int} (h : 0 ≤ i ∧ i < 2 ^ 64) : CMul i j := by
  have := p64
  exact Or.inl ⟨by omega, h.2⟩
theorem cmul' {i j : Int} (h : 0 ≤ j ∧ j < 2 ^ 64) : CMul i j := by
  have := p64
  exact Or.inr ⟨by omega, h.2⟩
theorem sum_take {zs : List Int} {i : Nat} {z : Int} (h : zs[i]? = some z) : (zs.take (i + 1)).sum = (zs.take i).sum + z := by
  rw [List.take_add_one, h]
  simp
/-! ### nets -/
def netF (p : Int) (e s l o z : V) : List (Str × V) := putF "end" z (putF "out" o (putF "layers" l (putF "shift" s (putF "embed" e (putF "prime" (.int p) [])))))
def layL (l : Lay) : List Mat := [l.q, l.k, l.v, l.f, l.s]
def LayD : Den Lay := fun v l H => TupD MatD v (layL l) H
theorem mono_lay : Mono LayD := fun v l H H' e h => mono_tup mono_mat v _ H H' e h
structure NetV (C : Addr) (n : NetD) (H : Hp) (a : Addr) (dx : Addr) (e s l o z : V) : Prop where
  at_ : H a = some (.ins C dx (netF n.p e s l o z))
  e : MatD e n.emb H
  s : VecD s n.sh H
  l : TupD LayD l n.lay H
  o : MatD o n.out H
def NetAt (C : Addr) : Den NetD := fun v n H => ∃ a dx e s l o z, v = .ref a ∧ NetV C n H a dx e s l o z
theorem mono_netv {C : Addr} {n : NetD} {H H' : Hp} {a dx : Addr} {e s l o z : V} (i : Im H H') (h : NetV C n H a dx e s l o z) : NetV C n H' a dx e s l o z :=
  ⟨i _ _ rfl h.at_, mono_mat _ _ _ _ i h.e, mono_vec _ _ _ _ i h.s, mono_tup mono_lay _ _ _ _ i h.l, mono_mat _ _ _ _ i h.o⟩
theorem mono_net {C : Addr} : Mono (NetAt C) := fun v n H H' i ⟨a, dx, e, s, l, o, z, hv, h⟩ => ⟨a, dx, e, s, l, o, z, hv, mono_netv i h⟩
section
variable {p : Int} {e s l o z : V}
theorem nf_prime : (netF p e s l o z).lookup ("prime" : Str) = some (.int p) := by
  unfold netF
  rw [lookup_putF, if_neg (by decide +kernel), lookup_putF, if_neg (by decide +kernel), lookup_putF, if_neg (by decide +kernel), lookup_putF, if_neg (by decide +kernel), lookup_putF, if_neg (by decide +kernel), lookup_putF, if_pos rfl]
theorem nf_embed : (netF p e s l o z).lookup ("embed" : Str) = some e := by
  unfold netF
  rw [lookup_putF, if_neg (by decide +kernel), lookup_putF, if_neg (by decide +kernel), lookup_putF, if_neg (by decide +kernel), lookup_putF, if_neg (by decide +kernel), lookup_putF, if_pos rfl]
theorem nf_shift : (netF p e s l o z).lookup ("shift" : Str) = some s := by
  unfold netF
  rw [lookup_putF, if_neg (by decide +kernel), lookup_putF, if_neg (by decide +kernel), lookup_putF, if_neg (by decide +kernel), lookup_putF, if_pos rfl]
theorem nf_layers : (netF p e s l o z).lookup ("layers" : Str) = some l := by
  unfold netF
  rw [lookup_putF, if_neg (by decide +kernel), lookup_putF, if_neg (by decide +kernel), lookup_putF, if_pos rfl]
theorem nf_out : (netF p e s l o z).lookup ("out" : Str) = some o := by
  unfold netF
  rw [lookup_putF, if_neg (by decide +kernel), lookup_putF, if_pos rfl]
theorem nf_none {m : Str} (h1 : ¬ m = "prime") (h2 : ¬ m = "embed") (h3 : ¬ m = "shift") (h4 : ¬ m = "layers") (h5 : ¬ m = "out") (h6 : ¬ m = "end") : (netF p e s l o z).lookup m = none := by
  unfold netF
  rw [lookup_putF, if_neg h6, lookup_putF, if_neg h5, lookup_putF, if_neg h4, lookup_putF, if_neg h3, lookup_putF, if_neg h2, lookup_putF, if_neg h1]
  rfl
theorem nf_m1 : (netF p e s l o z).lookup ("rest" : Str) = none := nf_none (by decide +kernel) (by decide +kernel) (by decide +kernel) (by decide +kernel) (by decide +kernel) (by decide +kernel)
theorem nf_m2 : (netF p e s l o z).lookup ("plus" : Str) = none := nf_none (by decide +kernel) (by decide +kernel) (by decide +kernel) (by decide +kernel) (by decide +kernel) (by decide +kernel)
theorem nf_m3 : (netF p e s l o z).lookup ("times" : Str) = none := nf_none (by decide +kernel) (by decide +kernel) (by decide +kernel) (by decide +kernel) (by decide +kernel) (by decide +kernel)
theorem nf_m4 : (netF p e s l o z).lookup ("looked_at" : Str) = none := nf_none (by decide +kernel) (by decide +kernel) (by decide +kernel) (by decide +kernel) (by decide +kernel) (by decide +kernel)
theorem nf_m5 : (netF p e s l o z).lookup ("row" : Str) = none := nf_none (by decide +kernel) (by decide +kernel) (by decide +kernel) (by decide +kernel) (by decide +kernel) (by decide +kernel)
theorem nf_m6 : (netF p e s l o z).lookup ("is_letter" : Str) = none := nf_none (by decide +kernel) (by decide +kernel) (by decide +kernel) (by decide +kernel) (by decide +kernel) (by decide +kernel)
end
end SA
set_option maxRecDepth 100000
set_option maxHeartbeats 4000000
/-! Nets, a. -/
namespace SA
open PySem PySem.Spec PyProof.Rows L2 Evl SAZ
section
variable {P : Program} {w : World} {K : PySem.W.Frag} {mg : Str → Option Value} {base : Heap}
def spIsBetween : Sp := fun vs H Q _ => ∃ i a b : Int, vs = [.int i, .int a, .int b] ∧ a ≤ i ∧ i ≤ b ∧ Q (.bl true) H
theorem ok_is_between (t : T K mg) : FnOk P w K mg base CX0 1 t.is_between.f t.is_between.d p_is_between spIsBetween := by
  refine t.is_between.F.ok sc_is_between (fun vs H Q E h => ?_) (fun cdv A outer s H vs Q E hr h => ?_)
  · obtain ⟨i, a, b, rfl, _⟩ := h
    rfl
  · obtain ⟨i, a, b, rfl, ha, hb, q⟩ := h
    refine ⟨_, (pss_one (ps_ret (pe_and (pe_callB call_isi (by rfl) t.z_isinstance (by decide +kernel) (pa_cons (pv 0) (pa_cons (pe_bltn (v := .ty "int") rfl t.z_int (by decide +kernel) rfl) pa_nil))) (pe_and (pe_not (pe_callB call_isi (by rfl) t.z_isinstance (by decide +kernel) (pa_cons (pv 0) (pa_cons (pe_bltn (v := .ty "bool") rfl t.z_bool (by decide +kernel) rfl) pa_nil)))) (pe_one (pe_chain op_le op_le (pv 1) (pv 0) (pv 2))))))), ?_⟩
    refine ⟨_, rfl, _, _, _, _, _, rfl, ClsV.ty _, TyX.base (.int _), kit_ty (a := "int") (b := "int") (r := true) (by decide +kernel), _, rfl, ?_⟩
    rw [if_pos rfl]
    refine ⟨_, rfl, _, _, _, _, _, rfl, ClsV.ty _, TyX.base (.int _), kit_ty (a := "int") (b := "bool") (r := false) (by decide +kernel), _, rfl, _, rfl, ?_⟩
    rw [if_pos (by rfl)]
    refine ⟨_, rfl, _, rfl, _, _, rfl, rfl, _, rfl, ?_⟩
    rw [if_pos (decide_eq_true ha)]
    refine ⟨_, rfl, _, _, rfl, rfl, ?_⟩
    show Q (.bl (decide (i ≤ b))) H
    rw [decide_eq_true hb]
    exact q
def spVec : Sp := fun vs H Q _ => ∃ (v : V) (x : Vec), vs = [v] ∧ VecD v x H ∧ Q v H
theorem ok_vector_of (t : T K mg) : FnOk P w K mg base CX0 1 t.vector_of.f t.vector_of.d p_vector_of spVec := by
  refine t.vector_of.F.ok sc_vector_of (fun vs H Q E h => ?_) (fun cdv A outer s H vs Q E hr h => ?_)
  · obtain ⟨v, x, rfl, _⟩ := h
    rfl
  · obtain ⟨v, x, rfl, hv, q⟩ := h
    refine ⟨_, (pss_one (ps_ret (pe_callTy call_tuple_of (by rfl) t.z_tuple (by decide +kernel) (pa_cons (pv 0) pa_nil)))), ?_⟩
    obtain ⟨a, rfl, ha⟩ := vec_tup hv
    exact ⟨_, rfl, a, _, rfl, Or.inr ⟨st_of ha, q⟩⟩
def spMat : Sp := fun vs H Q _ => ∃ (v : V) (m : Mat), vs = [v] ∧ MatD v m H ∧ m.length ≤ 1000 ∧ RetP (fun v => MatD v m) H Q
theorem ok_matrix_of (t : T K mg) : FnOk P w K mg base CX0 2 t.matrix_of.f t.matrix_of.d p_matrix_of spMat := by
  refine t.matrix_of.F.ok sc_matrix_of (fun vs H Q E h => ?_) (fun cdv A outer s H vs Q E hr h => ?_)
  · obtain ⟨v, m, rfl, _⟩ := h
    rfl
  · obtain ⟨v, m, rfl, hv, hl, k⟩ := h
    refine ⟨_, (pss_one (ps_ret (pe_callTy call_tuple_of (by rfl) t.z_tuple (by decide +kernel) (pa_cons (pe_lc (own := [("row", 1)]) (g := (gName 1)) (tt := tYes) rfl sc_matrix_of.nd (pi_tup (pv 0)) (blkOk_by (own := [("row", 1)]) (N := n_matrix_of) (sc := defScope st_matrix_of) (by decide +kernel)) (fun _ _ _ _ _ => (pg_name (i := 1) sc_matrix_of.nd rfl (Or.inl rfl))) (fun _ _ _ _ _ => pts_nil) (fun _ _ _ _ _ => (pe_call (ok_vector_of t) (hr.mono (by decide)) rfl t.vector_of.g t.vector_of.F.kp t.vector_of.b .nil pass0 (pa_cons (pv 1) pa_nil)))) pa_nil)))), ?_⟩
    obtain ⟨a, vs, rfl, ha, hv⟩ := hv
    refine ⟨_, rfl, a, rfl, ⟨_, st_of ha⟩, fun D hD => ?_⟩
    refine lc_den (R := VecD) (zs := m) (n := vs.length) walk_tup hv.1.symm (by rw [hv.1]; omega) hD (fun H' e => ex_t e (st_of ha)) mono_vec (fun i x H2 H' Q' z hz ex y q => ?_) (fun acc H' ex hacc hlen hall => ?_)
    · obtain ⟨rfl, hx⟩ := y
      exact ⟨rfl, _, rfl, x, z, rfl, hv.mono mono_vec (im_ex ex) |>.2 i x z hx hz, q _ _ (Ex.refl _) (hv.mono mono_vec (im_ex ex) |>.2 i x z hx hz)⟩
    · refine ⟨D, acc, rfl, Or.inl ⟨sq_of hacc, fun l hl => ?_⟩⟩
      exact k (.ref l) _ (ex.trans (Ex.new hl)) (show MatD (.ref l) m _ from ⟨l, acc, rfl, upd_same, hall.mono mono_vec (im_ex (Ex.new hl))⟩)
def spProd (K : PySem.W.Frag) : Sp := fun vs H Q _ => ∃ (u v : V) (k l : Bool) (x y : Vec), vs = [u, v] ∧ SeqV K k u x H ∧ SeqV K l v y H ∧ x.length = y.length ∧ Sm x ∧ RetP (fun v _ => v = .int (dot x y)) H Q
theorem ok_product_sum (t : T K mg) : FnOk P w K mg base CX0 1 t.product_sum.f t.product_sum.d p_product_sum (spProd K) := by
  refine t.product_sum.F.ok sc_product_sum (fun vs H Q E h => ?_) (fun cdv A outer s H vs Q E hr h => ?_)
  · obtain ⟨u, v, k, l, x, y, rfl, _⟩ := h
    rfl
  · obtain ⟨u, v, k, l, x, y, rfl, ⟨a, rfl, ha⟩, ⟨b, rfl, hb⟩, hl, sx, q⟩ := h
    refine ⟨_, (pss_cons (ps_set (i := 2) sc_product_sum.nd rfl (Or.inl rfl) pe_int)
      (pss_cons (ps_for PassesOwn.never rfl (SAZ.pi_x (by rfl) t.z_zip (pa_cons (pv 0) (pa_cons (pv 1) pa_nil))) (pg_tup rfl (pgs_cons (pg_name (i := 3) sc_product_sum.nd rfl (Or.inl rfl)) (pgs_cons (pg_name (i := 4) sc_product_sum.nd rfl (Or.inl rfl)) pgs_nil)))
      (pss_one (ps_aug (i := 2) sc_product_sum.nd rfl (Or.inl rfl) (pe_op op_mul (pv 3) (pv 4)) ip_add)))
      (pss_one (ps_ret (pv 2))))), ?_⟩
    refine ⟨_, rfl, _, rfl, a, b, k, l, _, _, rfl, ha, hb, ?_⟩
    refine for_it (walk_x (n := x.length) (xs := x.map V.int) (ys := y.map V.int) (by simp) (by simp [hl])) (fun i σ H' => ∃ n m : Option V, σ = [some (.ref a), some (.ref b), some (.int ((List.zipWith (fun x y => x * y) x y).take i).sum), n, m] ∧ Ex H H') ⟨_, _, rfl, Ex.refl _⟩
      (fun i σ H' _ ⟨_, _, _, e⟩ => ⟨ex_sq e ha, ex_sq e hb⟩) (fun i z σ H1 H' hi p yy => ?_) (fun σ H' p => ?_)
    · obtain ⟨n, m, rfl, ex⟩ := p
      obtain ⟨T, z1, z2, rfl, hT, rfl, h1, h2⟩ := yy
      obtain ⟨n1, hn1, rfl⟩ := Option.map_eq_some_iff.mp (by rw [← List.getElem?_map]; exact h1)
      obtain ⟨n2, hn2, rfl⟩ := Option.map_eq_some_iff.mp (by rw [← List.getElem?_map]; exact h2)
      refine ⟨T, _, rfl, st_of upd_same, rfl, _, _, rfl, _, _, rfl, rfl, ?_⟩
      refine ⟨_, rfl, _, rfl, _, rfl, _, _, rfl, rfl, cmul (sx n1 (List.mem_of_getElem? hn1)), _, _, rfl, rfl, some (.int n1), some (.int n2), ?_, ex.trans (Ex.new hT)⟩
      rw [sum_take (z := n1 * n2) (by rw [List.getElem?_zipWith, hn1, hn2])]
      rfl
    · obtain ⟨n, m, rfl, ex⟩ := p
      refine ⟨_, rfl, q _ _ ex ?_⟩
      rw [List.take_of_length_le (by simp; omega)]
      rfl
def spRest (C : Addr) : Sp := fun vs H Q _ => ∃ (v : V) (n : NetD) (i : Int), vs = [v, .int i] ∧ NetAt C v n H ∧ 0 < n.p ∧ Q (.int (i % n.p)) H
theorem ok_Net_rest (t : T K mg) : FnOk P w K mg base CX0 1 t.Net_rest.f t.Net_rest.d p_Net_rest (spRest t.aNet) := by
  refine t.Net_rest.F.ok sc_Net_rest (fun vs H Q E h => ?_) (fun cdv A outer s H vs Q E hr h => ?_)
  · obtain ⟨v, n, i, rfl, _⟩ := h
    rfl
  · obtain ⟨v, n, i, rfl, ⟨a, dx, e, s, l, o, z, rfl, N⟩, hp, q⟩ := h
    refine ⟨_, (pss_one (ps_ret (pe_op op_mod (pe_callTy call_int1 (by rfl) t.z_int (by decide +kernel) (pa_cons (pv 1) pa_nil)) (pe_fld (pv 0) rfl)))), ?_⟩
    exact ⟨_, rfl, Or.inl ⟨_, rfl, _, rfl, a, _, dx, _, _, rfl, N.at_, t.cl_Net, t.na_Net_prime, nf_prime, _, _, rfl, rfl, hp, q⟩⟩
def spTimes (K : PySem.W.Frag) (C : Addr) : Sp := fun vs H Q _ => ∃ (v u x : V) (n : NetD) (k : Bool) (m : Mat) (y : Vec), vs = [v, u, x] ∧ NetAt C v n H ∧ 0 < n.p ∧ MatD u m H ∧ m.length ≤ 1000 ∧ SeqV K k x y H ∧ (∀ r ∈ m, r.length = y.length ∧ Sm r) ∧ RetP (fun v => VecD v (tim n.p m y)) H Q
theorem ok_Net_times (t : T K mg) : FnOk P w K mg base CX0 2 t.Net_times.f t.Net_times.d p_Net_times (spTimes K t.aNet) := by
  refine t.Net_times.F.ok sc_Net_times (fun vs H Q E h => ?_) (fun cdv A outer s H vs Q E hr h => ?_)
  · obtain ⟨v, u, x, n, k, m, y, rfl, _⟩ := h
    rfl
  · obtain ⟨v, u, x, n, k, m, y, rfl, N, hp, hm, hml, hy, hb, q⟩ := h
    refine ⟨_, (pss_one (ps_ret (pe_callTy call_tuple_of (by rfl) t.z_tuple (by decide +kernel) (pa_cons (pe_lc (own := [("row", 3)]) (g := (gName 3)) (tt := tYes) rfl sc_Net_times.nd (pi_tup (pv 1)) (blkOk_by (own := [("row", 3)]) (N := n_Net_times) (sc := defScope st_Net_times) (by decide +kernel)) (fun _ _ _ _ _ => (pg_name (i := 3) sc_Net_times.nd rfl (Or.inl rfl))) (fun _ _ _ _ _ => pts_nil) (fun _ _ _ _ _ => (pe_meth (pv 0) t.cl_Net t.Net_rest.m (ok_Net_rest t) (hr.mono (by decide)) t.Net_rest.b .nil pass0 (pa_cons (pe_call (ok_product_sum t) (hr.mono (by decide)) rfl t.product_sum.g t.product_sum.F.kp t.product_sum.b .nil pass0 (pa_cons (pv 3) (pa_cons (pv 2) pa_nil))) pa_nil)))) pa_nil)))), ?_⟩
    obtain ⟨b, vs, rfl, hb1, hv⟩ := hm
    refine ⟨_, rfl, b, rfl, ⟨_, st_of hb1⟩, fun D hD => ?_⟩
    refine lc_den (R := IntD) (zs := tim n.p m y) (n := vs.length) walk_tup (by simp [tim, hv.1]) (by rw [hv.1]; omega) hD (fun H' e => ex_t e (st_of hb1)) mono_int (fun i c H2 H' Q' z hz ex yy q' => ?_) (fun acc H' ex hacc hlen hall => ?_)
    · obtain ⟨rfl, hx⟩ := yy
      obtain ⟨r, hr1, hr2⟩ := hv.get' hx
      obtain ⟨r0, hr0, rfl⟩ := Option.map_eq_some_iff.mp (by rw [← List.getElem?_map]; exact hz)
      rw [hr1] at hr0
      cases hr0
      have hrm := hb r (List.mem_of_getElem? hr1)
      refine ⟨rfl, ?_⟩
      obtain ⟨a, dx, e, s, l, o, z, rfl, N'⟩ := id (mono_net _ _ _ _ (im_ex ex) N)
      refine ⟨_, rfl, a, dx, _, rfl, N'.at_, nf_m1, _, rfl, _, rfl, c, x, false, k, r, y, rfl, vec_sq (mono_vec _ _ _ _ (im_ex ex) hr2), hy.ex ex, hrm.1, hrm.2, ?_⟩
      rintro w2 H3 e3 rfl
      exact ⟨_, n, _, rfl, mono_net _ _ _ _ (im_ex (ex.trans e3)) N, hp, q' _ _ e3 rfl⟩
    · refine ⟨D, acc, rfl, Or.inl ⟨sq_of hacc, fun l hl => ?_⟩⟩
      exact q (.ref l) _ (ex.trans (Ex.new hl)) (show VecD (.ref l) (tim n.p m y) _ from ⟨l, acc, rfl, upd_same, hall.mono mono_int (im_ex (Ex.new hl))⟩)
def spPlus (K : PySem.W.Frag) (C : Addr) : Sp := fun vs H Q _ => ∃ (v u w : V) (n : NetD) (l : Bool) (x y : Vec), vs = [v, u, w] ∧ NetAt C v n H ∧ 0 < n.p ∧ VecD u x H ∧ SeqV K l w y H ∧ x.length = y.length ∧ x.length ≤ 1000 ∧ RetP (fun v => VecD v (plu n.p x y)) H Q
theorem ok_Net_plus (t : T K mg) : FnOk P w K mg base CX0 2 t.Net_plus.f t.Net_plus.d p_Net_plus (spPlus K t.aNet) := by
  refine t.Net_plus.F.ok sc_Net_plus (fun vs H Q E h => ?_) (fun cdv A outer s H vs Q E hr h => ?_)
  · obtain ⟨v, u, w, n, l, x, y, rfl, _⟩ := h
    rfl
  · obtain ⟨v, u, w, n, l, x, y, rfl, N, hp, hx, hy, hl, hz, q⟩ := h
    refine ⟨_, (pss_one (ps_ret (pe_callTy call_tuple_of (by rfl) t.z_tuple (by decide +kernel) (pa_cons (pe_lc (own := [("number", 3), ("other", 4)]) (g := (gTup K 2 (gCons (gName 3) (gCons (gName 4) gNil)))) (tt := tYes) rfl sc_Net_plus.nd (SAZ.pi_x (by rfl) t.z_zip (pa_cons (pv 1) (pa_cons (pv 2) pa_nil))) (blkOk_by (own := [("number", 3), ("other", 4)]) (N := n_Net_plus) (sc := defScope st_Net_plus) (by decide +kernel)) (fun _ _ _ _ _ => (pg_tup rfl (pgs_cons (pg_name (i := 3) sc_Net_plus.nd rfl (Or.inl rfl)) (pgs_cons (pg_name (i := 4) sc_Net_plus.nd rfl (Or.inl rfl)) pgs_nil)))) (fun _ _ _ _ _ => pts_nil) (fun _ _ _ _ _ => (pe_meth (pv 0) t.cl_Net t.Net_rest.m (ok_Net_rest t) (hr.mono (by decide)) t.Net_rest.b .nil pass0 (pa_cons (pe_op op_add (pv 3) (pv 4)) pa_nil)))) pa_nil)))), ?_⟩
    obtain ⟨a, rfl, ha⟩ := vec_sq (K := K) hx
    obtain ⟨b, rfl, hb⟩ := hy
    refine ⟨_, rfl, _, rfl, a, b, false, l, _, _, rfl, ha, hb, fun D hD => ?_⟩
    refine lc_den (R := IntD) (zs := plu n.p x y) (n := x.length) (walk_x (xs := x.map V.int) (ys := y.map V.int) (by simp) (by simp [hl])) (by simp [plu, hl]) (by omega) hD (fun H' e => ⟨ex_sq e ha, ex_sq e hb⟩) mono_int (fun i c H2 H' Q' z hz ex yy q' => ?_) (fun acc H' ex hacc hlen hall => ?_)
    · obtain ⟨T, z1, z2, rfl, hT, rfl, h1, h2⟩ := yy
      obtain ⟨n1, hn1, rfl⟩ := Option.map_eq_some_iff.mp (by rw [← List.getElem?_map]; exact h1)
      obtain ⟨n2, hn2, rfl⟩ := Option.map_eq_some_iff.mp (by rw [← List.getElem?_map]; exact h2)
      unfold plu at hz
      rw [List.getElem?_zipWith, hn1, hn2] at hz
      cases hz
      obtain ⟨a1, dx, e, s, l1, o, z, rfl, N'⟩ := id (mono_net _ _ _ _ (im_ex (ex.trans (Ex.new (o := .tup [V.int n1, V.int n2]) hT))) N)
      refine ⟨T, _, rfl, st_of upd_same, rfl, _, _, rfl, _, _, rfl, rfl, rfl, ?_⟩
      refine ⟨_, rfl, a1, dx, _, rfl, N'.at_, nf_m1, _, rfl, _, rfl, _, _, rfl, rfl, ?_⟩
      exact ⟨_, n, _, rfl, ⟨a1, dx, e, s, l1, o, z, rfl, N'⟩, hp, q' _ _ (Ex.new hT) rfl⟩
    · refine ⟨D, acc, rfl, Or.inl ⟨sq_of hacc, fun l hl => ?_⟩⟩
      exact q (.ref l) _ (ex.trans (Ex.new hl)) (show VecD (.ref l) (plu n.p x y) _ from ⟨l, acc, rfl, upd_same, hall.mono mono_int (im_ex (Ex.new hl))⟩)
end
end SA
set_option maxRecDepth 100000
set_option maxHeartbeats 4000000
/-! Nets, b. -/
namespace SA
open PySem PySem.Spec PyProof.Rows L2 Evl SAZ
section
variable {P : Program} {w : World} {K : PySem.W.Frag} {mg : Str → Option Value} {base : Heap}
/-! ### Net.__init__ -/
/-- the scope of the comprehension in tuple([..]), and its item -/
def lcOf : Expr → Expr × Scope
  | .Call _ [.ListComp elt _ sc _] _ _ => (elt, sc)
  | e => (e, { kind := .function, names := [], isGenerator := false, isCoroutine := false })
def valOf : Stmt → Expr
  | .Assign _ v _ => v
  | _ => .Tuple [] 0 ⟨0, 0, 0, 0⟩
def niE : Expr := valOf ((defBody st_Net_init).getD 4 (.Pass ⟨0, 0, 0, 0⟩))
theorem ni_blk : BlkOk n_Net_init (relS (lcOf niE).2 (defScope st_Net_init)) (lcOf (lcOf niE).1).2 [("matrix", 8)] := blkOk_by (by decide +kernel)
/-- what x's own making leaves as it was -/
def Off (x : Addr) (H H' : Hp) : Prop := ∀ a o, a ≠ x → H a = some o → H' a = some o
def spNet_init (C : Addr) : Sp := fun vs H Q _ => ∃ (x dx : Addr) (n : NetD) (e s l o z : V), vs = [.ref x, .int n.p, e, s, l, o, z] ∧ H x = some (.ins C dx []) ∧ n.p ∈ primes ∧ 2 ≤ n.p ∧ n.p ≤ 97 ∧ MatD e n.emb H ∧ n.emb.length ≤ 1000 ∧ VecD s n.sh H ∧ TupD LayD l n.lay H ∧ n.lay.length ≤ 1000 ∧ (∀ y ∈ n.lay, ∀ m ∈ layL y, m.length ≤ 1000) ∧ MatD o n.out H ∧ n.out.length ≤ 1000 ∧
  ∀ H' e' s' l' o', Off x H H' → NetV C n H' x dx e' s' l' o' z → Q .non H'
theorem Off.of {x : Addr} {H H' : Hp} (h : Ex H H') : Off x H H' := fun a o _ e => h a o e
theorem Off.trans {x : Addr} {H H1 H2 : Hp} (a : Off x H H1) (b : Off x H1 H2) : Off x H H2 := fun c o n e => b c o n (a c o n e)
theorem Off.upd {x : Addr} {H : Hp} {o : HO} : Off x H (upd H x o) := fun a u n e => by rw [upd_ne n]; exact e
theorem prime_in {p : Int} (h : p ∈ primes) : inV (.int p) (primes.map V.int) = true := by
  unfold inV
  rw [List.any_eq_true]
  exact ⟨.int p, List.mem_map.mpr ⟨p, h, rfl⟩, by simp [eqV]⟩
/-- tuples stay -/
def Tm (H H' : Hp) : Prop := ∀ a vs, H a = some (.tup vs) → H' a = some (.tup vs)
theorem Tm.trans {H H1 H2 : Hp} (a : Tm H H1) (b : Tm H1 H2) : Tm H H2 := fun x o h => b x o (a x o h)
theorem Tm.ex {H H' : Hp} (e : Ex H H') : Tm H H' := fun a vs h => e a _ h
theorem Tm.ins {H : Hp} {x C dx : Addr} {fs : List (Str × V)} {o : HO} (h : H x = some (.ins C dx fs)) : Tm H (upd H x o) := fun a vs e => by
  by_cases q : a = x
  · subst q
    rw [h] at e
    cases e
  · rw [upd_ne q]; exact e
theorem tm_vec {v : V} {x : Vec} {H H' : Hp} (m : Tm H H') : VecD v x H → VecD v x H' := fun ⟨a, vs, hv, ha, h⟩ => ⟨a, vs, hv, m _ _ ha, h.1, fun i v x a b => h.2 i v x a b⟩
theorem tm_mat {v : V} {x : Mat} {H H' : Hp} (m : Tm H H') : MatD v x H → MatD v x H' := fun ⟨a, vs, hv, ha, h⟩ => ⟨a, vs, hv, m _ _ ha, h.1, fun i v x a b => tm_vec m (h.2 i v x a b)⟩
theorem tm_lay {v : V} {x : Lay} {H H' : Hp} (m : Tm H H') : LayD v x H → LayD v x H' := fun ⟨a, vs, hv, ha, h⟩ => ⟨a, vs, hv, m _ _ ha, h.1, fun i v x a b => tm_mat m (h.2 i v x a b)⟩
theorem tm_lays {v : V} {x : List Lay} {H H' : Hp} (m : Tm H H') : TupD LayD v x H → TupD LayD v x H' := fun ⟨a, vs, hv, ha, h⟩ => ⟨a, vs, hv, m _ _ ha, h.1, fun i v x a b => tm_lay m (h.2 i v x a b)⟩
theorem ok_Net_init (t : T K mg) : FnOk P w K mg base CX0 3 t.Net_init.f t.Net_init.d p_Net_init (spNet_init t.aNet) := by
  refine t.Net_init.F.ok sc_Net_init (fun vs H Q E h => ?_) (fun cdv A outer s H vs Q E hr h => ?_)
  · obtain ⟨x, dx, n, e, s, l, o, z, rfl, _⟩ := h
    rfl
  · obtain ⟨x, dx, n, e, s, l, o, z, rfl, hx, hp, hp2, hp97, he, hez, hs, hl, hlz, hmz, ho, hoz, q⟩ := h
    refine ⟨_, (pss_cons (ps_if (PW.pt (pw_or (pt_not (pt_val (pe_call (ok_is_between t) (hr.mono (by decide)) rfl t.is_between.g t.is_between.F.kp t.is_between.b .nil pass0 (pa_cons (pv 1) (pa_cons pe_int (pa_cons pe_int pa_nil)))))) (pw_or1 (pt_cmpR op_notIn_seq (pv 1) (pe_glob (v := V.ref t.aPrimes) rfl t.mg_PRIMES rfl) (by rfl)))))
      (pss_one ps_never)
      pss_nil)
      (pss_cons (ps_fld (pv 0) (pv 1) rfl)
      (pss_cons (ps_fld (pv 0) (pe_call (ok_matrix_of t) (hr.mono (by decide)) rfl t.matrix_of.g t.matrix_of.F.kp t.matrix_of.b .nil pass0 (pa_cons (pv 2) pa_nil)) rfl)
      (pss_cons (ps_fld (pv 0) (pe_call (ok_vector_of t) (hr.mono (by decide)) rfl t.vector_of.g t.vector_of.F.kp t.vector_of.b .nil pass0 (pa_cons (pv 3) pa_nil)) rfl)
      (pss_cons (ps_fld (pv 0) (pe_callTy (T := "tuple") call_tuple_of (by rfl) t.z_tuple (by decide +kernel) (pa_cons (pe_lc (own := [("layer", 7)]) (g := (gName 7)) (tt := tYes) (te := (tCB (rTupOf K) (tCons (tLc (iTup K _) (gName 8) tYes _ [8]) tNil))) rfl sc_Net_init.nd (pi_tup (pv 4)) (blkOk_by (own := [("layer", 7)]) (N := n_Net_init) (sc := defScope st_Net_init) (by decide +kernel)) (fun _ _ _ _ _ => (pg_name (i := 7) sc_Net_init.nd rfl (Or.inl rfl))) (fun _ _ _ _ _ => pts_nil) (fun _ _ _ _ _ => (pe_callTy (T := "tuple") call_tuple_of (by rfl) t.z_tuple (by decide +kernel) (pa_cons (pe_lc (own := [("matrix", 8)]) (g := (gName 8)) (tt := tYes) rfl sc_Net_init.nd (pi_tup (pv 7)) ni_blk (fun _ _ _ _ _ => (pg_name (i := 8) sc_Net_init.nd rfl (Or.inl rfl))) (fun _ _ _ _ _ => pts_nil) (fun _ _ _ _ _ => (pe_call (ok_matrix_of t) (hr.mono (by decide)) rfl t.matrix_of.g t.matrix_of.F.kp t.matrix_of.b .nil pass0 (pa_cons (pv 8) pa_nil)))) pa_nil)))) pa_nil)) rfl)
      (pss_cons (ps_fld (pv 0) (pe_call (ok_matrix_of t) (hr.mono (by decide)) rfl t.matrix_of.g t.matrix_of.F.kp t.matrix_of.b .nil pass0 (pa_cons (pv 5) pa_nil)) rfl)
      (pss_one (ps_fld (pv 0) (pv 6) rfl)))))))), ?_⟩
    refine ⟨_, rfl, _, _, _, rfl, hp2, hp97, _, rfl, ?_⟩
    refine iteF ?_
    refine ⟨_, rfl, t.aPrimes, _, rfl, Or.inr (t.sq_PRIMES _), rfl, by decide +kernel, _, rfl, ?_⟩
    rw [prime_in hp]
    refine iteF ?_
    refine ⟨_, rfl, _, rfl, x, t.aNet, dx, _, rfl, hx, t.cl_Net, t.na_Net_prime, (by show 0 < 1000; decide), ?_⟩
    have m1 : Tm H (upd H x (.ins t.aNet dx (putF "prime" (.int n.p) []))) := Tm.ins hx
    have o1 : Off x H (upd H x (.ins t.aNet dx (putF "prime" (.int n.p) []))) := Off.upd
    have x1 : upd H x (.ins t.aNet dx (putF "prime" (.int n.p) [])) x = some (.ins t.aNet dx (putF "prime" (.int n.p) [])) := upd_same
    generalize upd H x (.ins t.aNet dx (putF "prime" (.int n.p) [])) = H1 at *
    refine ⟨_, rfl, e, n.emb, rfl, tm_mat m1 he, hez, ?_⟩
    intro e' H2 E2 he'
    refine ⟨_, rfl, x, t.aNet, dx, _, rfl, E2 _ _ x1, t.cl_Net, t.na_Net_embed, (by show 1 < 1000; decide), ?_⟩
    have m2 := m1.trans ((Tm.ex E2).trans (Tm.ins (o := .ins t.aNet dx (putF "embed" e' (putF "prime" (.int n.p) []))) (E2 _ _ x1)))
    have o2 := o1.trans ((Off.of E2).trans (Off.upd (o := .ins t.aNet dx (putF "embed" e' (putF "prime" (.int n.p) [])))))
    have x2 : upd H2 x (.ins t.aNet dx (putF "embed" e' (putF "prime" (.int n.p) []))) x = _ := upd_same
    have he2 := tm_mat (Tm.ins (o := .ins t.aNet dx (putF "embed" e' (putF "prime" (.int n.p) []))) (E2 _ _ x1)) he'
    generalize upd H2 x (.ins t.aNet dx (putF "embed" e' (putF "prime" (.int n.p) []))) = H3 at *
    refine ⟨_, rfl, s, n.sh, rfl, tm_vec m2 hs, ?_⟩
    refine ⟨_, rfl, x, t.aNet, dx, _, rfl, x2, t.cl_Net, t.na_Net_shift, (by show 2 < 1000; decide), ?_⟩
    have mm := Tm.ins (o := .ins t.aNet dx (putF "shift" s (putF "embed" e' (putF "prime" (.int n.p) [])))) x2
    have m3 := m2.trans mm
    have o3 := o2.trans (Off.upd (o := .ins t.aNet dx (putF "shift" s (putF "embed" e' (putF "prime" (.int n.p) [])))))
    have x3 : upd H3 x (.ins t.aNet dx (putF "shift" s (putF "embed" e' (putF "prime" (.int n.p) [])))) x = _ := upd_same
    have he3 := tm_mat mm he2
    have hs3 := tm_vec m3 hs
    generalize upd H3 x (.ins t.aNet dx (putF "shift" s (putF "embed" e' (putF "prime" (.int n.p) [])))) = H4 at *
    obtain ⟨la, lvs, rfl, hla, hlv⟩ := tm_lays m3 hl
    refine ⟨_, rfl, la, rfl, ⟨_, st_of hla⟩, fun D hD => ?_⟩
    refine lc_den (R := LayD) (zs := n.lay) (n := lvs.length) walk_tup hlv.1.symm (by rw [hlv.1]; omega) hD (fun H' e => ex_t e (st_of hla)) mono_lay (fun i y H5 H' Q' z hz ex yy q' => ?_) (fun acc H5 E5 hacc hlen hall => ?_)
    · obtain ⟨rfl, hy⟩ := yy
      have hyz : LayD y z H' := mono_lay _ _ _ _ (im_ex ex) (hlv.2 i y z hy hz)
      obtain ⟨ya, yvs, rfl, hya, hyv⟩ := hyz
      refine ⟨rfl, _, rfl, ya, rfl, ⟨_, st_of hya⟩, fun D2 hD2 => ?_⟩
      refine lc_den (R := MatD) (zs := layL z) (n := yvs.length) walk_tup hyv.1.symm (by rw [hyv.1]; show 5 ≤ 100000; decide) hD2 (fun H' e => ex_t e (st_of hya)) mono_mat (fun j c H6 H7 Q7 m hm ex7 y7 q7 => ?_) (fun acc H7 E7 hacc7 hlen7 hall7 => ?_)
      · obtain ⟨rfl, hc⟩ := y7
        exact ⟨rfl, _, rfl, c, m, rfl, mono_mat _ _ _ _ (im_ex ex7) (hyv.2 j c m hc hm), hmz z (List.mem_of_getElem? hz) m (List.mem_of_getElem? hm), fun v8 H8 E8 h8 => q7 v8 H8 E8 h8⟩
      · refine ⟨D2, acc, rfl, Or.inl ⟨sq_of hacc7, fun l7 hl7 => ?_⟩⟩
        exact q' (.ref l7) _ (E7.trans (Ex.new hl7)) (show LayD (.ref l7) z _ from ⟨l7, acc, rfl, upd_same, hall7.mono mono_mat (im_ex (Ex.new hl7))⟩)
    · refine ⟨D, acc, rfl, Or.inl ⟨sq_of hacc, fun l5 hl5 => ?_⟩⟩
      have E6 : Ex H4 (upd H5 l5 (.tup acc)) := E5.trans (Ex.new hl5)
      have hl6 : TupD LayD (.ref l5) n.lay (upd H5 l5 (.tup acc)) := ⟨l5, acc, rfl, upd_same, hall.mono mono_lay (im_ex (Ex.new hl5))⟩
      generalize upd H5 l5 (.tup acc) = H6 at *
      refine ⟨_, rfl, x, t.aNet, dx, _, rfl, E6 _ _ x3, t.cl_Net, t.na_Net_layers, (by show 3 < 1000; decide), ?_⟩
      have m7 := Tm.ins (o := .ins t.aNet dx (putF "layers" (.ref l5) (putF "shift" s (putF "embed" e' (putF "prime" (.int n.p) []))))) (E6 _ _ x3)
      have o7 := (o3.trans (Off.of E6)).trans (Off.upd (o := .ins t.aNet dx (putF "layers" (.ref l5) (putF "shift" s (putF "embed" e' (putF "prime" (.int n.p) []))))))
      have x7 : upd H6 x (.ins t.aNet dx (putF "layers" (.ref l5) (putF "shift" s (putF "embed" e' (putF "prime" (.int n.p) []))))) x = _ := upd_same
      have h7 := (Tm.ex E6).trans m7
      have hl7 := tm_lays m7 hl6
      generalize upd H6 x (.ins t.aNet dx (putF "layers" (.ref l5) (putF "shift" s (putF "embed" e' (putF "prime" (.int n.p) []))))) = H7 at *
      refine ⟨_, rfl, o, n.out, rfl, tm_mat (m3.trans h7) ho, hoz, ?_⟩
      intro o' H8 E8 ho'
      refine ⟨_, rfl, x, t.aNet, dx, _, rfl, E8 _ _ x7, t.cl_Net, t.na_Net_out, (by show 4 < 1000; decide), ?_⟩
      have m9 := Tm.ins (o := .ins t.aNet dx (putF "out" o' (putF "layers" (.ref l5) (putF "shift" s (putF "embed" e' (putF "prime" (.int n.p) [])))))) (E8 _ _ x7)
      have o9 := (o7.trans (Off.of E8)).trans (Off.upd (o := .ins t.aNet dx (putF "out" o' (putF "layers" (.ref l5) (putF "shift" s (putF "embed" e' (putF "prime" (.int n.p) [])))))))
      have x9 : upd H8 x (.ins t.aNet dx (putF "out" o' (putF "layers" (.ref l5) (putF "shift" s (putF "embed" e' (putF "prime" (.int n.p) [])))))) x = _ := upd_same
      have h9 := (h7.trans (Tm.ex E8)).trans m9
      have hl9 := tm_lays ((Tm.ex E8).trans m9) hl7
      have ho9 := tm_mat m9 ho'
      generalize upd H8 x (.ins t.aNet dx (putF "out" o' (putF "layers" (.ref l5) (putF "shift" s (putF "embed" e' (putF "prime" (.int n.p) [])))))) = H9 at *
      refine ⟨_, rfl, _, rfl, x, t.aNet, dx, _, rfl, x9, t.cl_Net, t.na_Net_end, (by show 5 < 1000; decide), ?_⟩
      have m10 := Tm.ins (o := .ins t.aNet dx (netF n.p e' s (.ref l5) o' z)) x9
      have h10 := h9.trans m10
      exact q _ e' s (.ref l5) o' (o9.trans Off.upd) ⟨upd_same, tm_mat h10 he3, tm_vec h10 hs3, tm_lays m10 hl9, tm_mat m10 ho9⟩
end
end SA
set_option maxRecDepth 100000
set_option maxHeartbeats 4000000
/-! Nets, c: the rows. -/
namespace SA
open PySem PySem.Spec PyProof.Rows L2 Evl SAZ
theorem foldl_take {α β : Type} {f : β → α → β} {z : β} {xs : List α} {i : Nat} {x : α} (h : xs[i]? = some x) : (xs.take (i + 1)).foldl f z = f ((xs.take i).foldl f z) x := by
  rw [List.take_add_one, h, List.foldl_append]
  rfl
abbrev PrD : Den Pair := PairD VecD VecD
abbrev RwD : Den RowD := PairD (TupD PrD) VecD
theorem mono_pr : Mono PrD := mono_pair mono_vec mono_vec
theorem mono_rw : Mono RwD := mono_pair (mono_tup mono_pr) mono_vec
theorem layT_app (p : Int) (rows : List RowD) : ∀ (a b : List Lay) (i : Nat) (st : Vec × List Pair), layT p rows (a ++ b) i st = layT p rows b (i + a.length) (layT p rows a i st)
  | [], b, i, st => rfl
  | l :: r, b, i, st => by
    show layT p rows (r ++ b) (i + 1) (layS p rows st i l) = _
    rw [layT_app p rows r b (i + 1)]
    show layT p rows b (i + 1 + r.length) _ = layT p rows b (i + (r.length + 1)) _
    rw [show i + 1 + r.length = i + (r.length + 1) by omega]
    rfl
theorem layT_take {p : Int} {rows : List RowD} {ls : List Lay} {i : Nat} {l : Lay} {st : Vec × List Pair} (h : ls[i]? = some l) : layT p rows (ls.take (i + 1)) 0 st = layS p rows (layT p rows (ls.take i) 0 st) i l := by
  have hi := (List.getElem?_eq_some_iff.mp h).1
  rw [List.take_add_one, h, layT_app]
  show layT p rows [l] _ _ = _
  rw [List.length_take, Nat.min_eq_left (by omega), Nat.zero_add]
  rfl
theorem allD_five {α : Type} {R : Den α} {vs : List V} {a b c d e : α} {H : Hp} (h : AllD R vs [a, b, c, d, e] H) : ∃ v1 v2 v3 v4 v5, vs = [v1, v2, v3, v4, v5] ∧ R v1 a H ∧ R v2 b H ∧ R v3 c H ∧ R v4 d H ∧ R v5 e H := by
  obtain ⟨hl, hr⟩ := h
  match vs, hl with
  | [v1, v2, v3, v4, v5], _ => exact ⟨v1, v2, v3, v4, v5, rfl, hr 0 _ _ rfl rfl, hr 1 _ _ rfl rfl, hr 2 _ _ rfl rfl, hr 3 _ _ rfl rfl, hr 4 _ _ rfl rfl⟩
theorem matk {p : Int} {W : Nat} {m : Mat} {y : Vec} (hp : p ≤ 97) (h : MatOk p W W m) (hy : y.length = W) : ∀ r ∈ m, r.length = y.length ∧ Sm r := fun r hr => ⟨by rw [hy]; exact (h.2 r hr).1, Sm.of hp (h.2 r hr).2⟩
section
variable {P : Program} {w : World} {K : PySem.W.Frag} {mg : Str → Option Value} {base : Heap}
def spIsLetter (C : Addr) : Sp := fun vs H Q _ => ∃ (v : V) (n : NetD) (a : Nat), vs = [v, .int (a : Int)] ∧ NetAt C v n H ∧ a < n.emb.length ∧ Q (.bl true) H
theorem ok_Net_is_letter (t : T K mg) : FnOk P w K mg base CX0 2 t.Net_is_letter.f t.Net_is_letter.d p_Net_is_letter (spIsLetter t.aNet) := by
  refine t.Net_is_letter.F.ok sc_Net_is_letter (fun vs H Q E h => ?_) (fun cdv A outer s H vs Q E hr h => ?_)
  · obtain ⟨v, n, a, rfl, _⟩ := h
    rfl
  · obtain ⟨v, n, a, rfl, ⟨b, dx, e, s, l, o, z, rfl, N⟩, ha, q⟩ := h
    refine ⟨_, (pss_one (ps_ret (pe_call (ok_is_between t) (hr.mono (by decide)) rfl t.is_between.g t.is_between.F.kp t.is_between.b .nil pass0 (pa_cons (pv 1) (pa_cons pe_int (pa_cons (pe_op op_sub (pe_callB call_len_seq (by rfl) t.z_len PySem.boot_len (pa_cons (pe_fld (pv 0) rfl) pa_nil)) pe_int) pa_nil)))))), ?_⟩
    obtain ⟨c, vs, rfl, hc, hv⟩ := id N.e
    refine ⟨_, rfl, _, rfl, b, _, dx, _, _, rfl, N.at_, t.cl_Net, t.na_Net_embed, nf_embed, c, vs, rfl, Or.inr (st_of hc), _, _, rfl, rfl, ?_⟩
    exact ⟨_, _, _, rfl, by omega, by rw [hv.1]; omega, q⟩
def spLooked (K : PySem.W.Frag) (C : Addr) : Sp := fun vs H Q _ => ∃ (v u x : V) (n : NetD) (q : Vec) (prs : List Pair), vs = [v, u, x] ∧ NetAt C v n H ∧ 0 < n.p ∧ VecD u q H ∧ q.length ≤ 1000 ∧ Sm q ∧ LstD PrD x prs H ∧ (∀ kv ∈ prs, kv.1.length = q.length ∧ kv.2.length = q.length ∧ Sm kv.2) ∧ RetP (fun v => VecD v (looked n.p q prs)) H Q
theorem ok_Net_looked_at (t : T K mg) : FnOk P w K mg base CX0 3 t.Net_looked_at.f t.Net_looked_at.d p_Net_looked_at (spLooked K t.aNet) := by
  refine t.Net_looked_at.F.ok sc_Net_looked_at (fun vs H Q E h => ?_) (fun cdv A outer s H vs Q E hr h => ?_)
  · obtain ⟨v, u, x, n, q, prs, rfl, _⟩ := h
    rfl
  · obtain ⟨v, u, x, n, q, prs, rfl, N, hp, hu, hql, sq, hx, hb, k⟩ := h
    refine ⟨_, (pss_cons (ps_set (i := 3) sc_Net_looked_at.nd rfl (Or.inl rfl) (pe_callTy (T := "tuple") call_tuple_of (by rfl) t.z_tuple (by decide +kernel) (pa_cons (pe_lc (own := [("_", 7)]) (g := (gName 7)) (tt := tYes) rfl sc_Net_looked_at.nd (pi_tup (pv 1)) (blkOk_by (own := [("_", 7)]) (N := n_Net_looked_at) (sc := defScope st_Net_looked_at) (by decide +kernel)) (fun _ _ _ _ _ => (pg_name (i := 7) sc_Net_looked_at.nd rfl (Or.inl rfl))) (fun _ _ _ _ _ => pts_nil) (fun _ _ _ _ _ => pe_int)) pa_nil)))
      (pss_cons (ps_for PassesOwn.never rfl (pi_list (pv 2)) (pg_tup rfl (pgs_cons (pg_name (i := 4) sc_Net_looked_at.nd rfl (Or.inl rfl)) (pgs_cons (pg_name (i := 5) sc_Net_looked_at.nd rfl (Or.inl rfl)) pgs_nil)))
      (pss_cons (ps_set (i := 6) sc_Net_looked_at.nd rfl (Or.inr rfl) (pe_call (ok_product_sum t) (hr.mono (by decide)) rfl t.product_sum.g t.product_sum.F.kp t.product_sum.b .nil pass0 (pa_cons (pv 1) (pa_cons (pv 4) pa_nil))))
        (pss_one (ps_set (i := 3) sc_Net_looked_at.nd rfl (Or.inl rfl) (pe_meth (pv 0) t.cl_Net t.Net_plus.m (ok_Net_plus t) (hr.mono (by decide)) t.Net_plus.b .nil pass0 (pa_cons (pv 3) (pa_cons (pe_lc (own := [("number", 8)]) (g := (gName 8)) (tt := tYes) rfl sc_Net_looked_at.nd (pi_tup (pv 5)) (blkOk_by (own := [("number", 8)]) (N := n_Net_looked_at) (sc := defScope st_Net_looked_at) (by decide +kernel)) (fun _ _ _ _ _ => (pg_name (i := 8) sc_Net_looked_at.nd rfl (Or.inl rfl))) (fun _ _ _ _ _ => pts_nil) (fun _ _ _ _ _ => (pe_op op_mul (pv 6) (pv 8)))) pa_nil)))))))
      (pss_one (ps_ret (pv 3))))), ?_⟩
    obtain ⟨ua, rfl, hua⟩ := vec_tup hu
    obtain ⟨xa, xvs, rfl, hxa, hxv⟩ := hx
    refine ⟨_, rfl, ua, rfl, ⟨_, st_of hua⟩, fun D hD => ?_⟩
    refine lc_den (R := IntD) (zs := zer q) (n := (q.map V.int).length) walk_tup (by simp [zer]) (by simp; omega) hD (fun H' e => ex_t e (st_of hua)) mono_int (fun i y H5 H' Q' z hz ex yy q' => ?_) (fun acc H5 E5 hacc hlen hall => ?_)
    · obtain ⟨rfl, hy⟩ := yy
      obtain ⟨z0, hz0, rfl⟩ := Option.map_eq_some_iff.mp (by rw [← List.getElem?_map]; exact hz)
      exact ⟨rfl, q' _ _ (Ex.refl _) rfl⟩
    · refine ⟨D, acc, rfl, Or.inl ⟨sq_of hacc, fun l5 hl5 => ?_⟩⟩
      have E6 : Ex H (upd H5 l5 (.tup acc)) := E5.trans (Ex.new hl5)
      have hf : VecD (.ref l5) (zer q) (upd H5 l5 (.tup acc)) := ⟨l5, acc, rfl, upd_same, hall.mono mono_int (im_ex (Ex.new hl5))⟩
      generalize upd H5 l5 (.tup acc) = H6 at *
      refine ⟨_, rfl, xa, rfl, ⟨_, sq_of (E6 _ _ hxa)⟩, ?_⟩
      refine for_it (walk_list (xs := xvs)) (fun i σ H' => ∃ (f : V) (a b c : Option V), σ = [some v, some (.ref ua), some (.ref xa), some f, a, b, c, none, none] ∧ Ex H H' ∧ VecD f ((prs.take i).foldl (lookF n.p q) (zer q)) H') ⟨_, _, _, _, rfl, E6, hf⟩
        (fun i σ H' _ ⟨_, _, _, _, _, e, _⟩ => ex_l e (sq_of hxa)) (fun i y σ H7 H8 hi p yy => ?_) (fun σ H' p => ?_)
      · obtain ⟨f, a, b, c, rfl, E7, hf7⟩ := p
        obtain ⟨rfl, hy⟩ := yy
        obtain ⟨kv, hkv, hyd⟩ := hxv.get' hy
        have hyd' : PrD y kv H8 := mono_pr _ _ _ _ (im_ex E7) hyd
        obtain ⟨ya, y1, y2, rfl, hya, hy1, hy2⟩ := hyd'
        obtain ⟨b1, b2, b3⟩ := hb kv (List.mem_of_getElem? hkv)
        have hu7 : VecD (.ref ua) q H8 := mono_vec _ _ _ _ (im_ex E7) hu
        refine ⟨ya, _, rfl, st_of hya, rfl, _, _, rfl, _, _, rfl, rfl, ?_⟩
        refine ⟨_, rfl, _, rfl, _, _, false, false, q, kv.1, rfl, vec_sq hu7, vec_sq hy1, b1.symm, sq, ?_⟩
        rintro w2 H9 E9 rfl
        have N9 := mono_net _ _ _ _ (im_ex (E7.trans E9)) N
        obtain ⟨na, dx, e, s, l, o, z, rfl, N9'⟩ := id N9
        obtain ⟨y2a, rfl, hy2a⟩ := vec_tup (mono_vec _ _ _ _ (im_ex E9) hy2)
        refine ⟨_, rfl, na, dx, _, rfl, N9'.at_, nf_m2, _, rfl, _, rfl, y2a, rfl, ⟨_, st_of hy2a⟩, fun D2 hD2 => ?_⟩
        refine lc_den (R := IntD) (zs := scl (dot q kv.1) kv.2) (n := (kv.2.map V.int).length) walk_tup (by simp [scl]) (by simp [b2]; omega) hD2 (fun H' e => ex_t e (st_of hy2a)) mono_int (fun j y H10 H11 Q' z hz ex yy q' => ?_) (fun acc2 H10 E10 hacc2 hlen2 hall2 => ?_)
        · obtain ⟨rfl, hy⟩ := yy
          obtain ⟨z0, hz0, rfl⟩ := Option.map_eq_some_iff.mp (by rw [← List.getElem?_map]; exact hz)
          obtain ⟨z1, hz1, rfl⟩ := Option.map_eq_some_iff.mp (by rw [← List.getElem?_map]; exact hy)
          rw [hz0] at hz1
          cases hz1
          exact ⟨rfl, _, rfl, _, rfl, _, _, rfl, rfl, cmul' (b3 _ (List.mem_of_getElem? hz0)), q' _ _ (Ex.refl _) rfl⟩
        · have hfl : ((prs.take i).foldl (lookF n.p q) (zer q)).length = q.length := looked_len hp (by simp [zer]) fun kv hkv => (hb kv (List.mem_of_mem_take hkv)).2.1
          refine ⟨_, _, _, n, true, _, _, rfl, mono_net _ _ _ _ (im_ex E10) N9, hp, mono_vec _ _ _ _ (im_ex (E9.trans E10)) hf7, lst_sq hacc2 hall2, by rw [hfl]; simp [scl, b2], by rw [hfl]; exact hql, ?_⟩
          intro w3 H12 E12 hw3
          refine ⟨w3, some y1, some (.ref y2a), some (.int (dot q kv.1)), rfl, E7.trans (E9.trans (E10.trans E12)), ?_⟩
          rw [foldl_take hkv]
          exact hw3
      · obtain ⟨f, a, b, c, rfl, E7, hf7⟩ := p
        rw [List.take_of_length_le (by rw [hxv.1]; exact Nat.le_refl _)] at hf7
        exact ⟨_, rfl, k _ _ E7 hf7⟩
def spRow (C : Addr) : Sp := fun vs H Q _ => ∃ (v x : V) (n : NetD) (L W : Nat) (rows : List RowD) (a : Nat), vs = [v, x, .int (a : Int)] ∧ NetAt C v n H ∧ NetOk L W n ∧ LstD RwD x rows H ∧ (∀ r ∈ rows, RowOk L W n r) ∧ rows.length ≤ 1000 ∧ a < L ∧ RetP (fun v => RwD v (rowF n rows a)) H Q
theorem ok_Net_row (t : T K mg) : FnOk P w K mg base CX0 4 t.Net_row.f t.Net_row.d p_Net_row (spRow t.aNet) := by
  refine t.Net_row.F.ok sc_Net_row (fun vs H Q E h => ?_) (fun cdv A outer s H vs Q E hr h => ?_)
  · obtain ⟨v, x, n, L, W, rows, a, rfl, _⟩ := h
    rfl
  · obtain ⟨v, x, n, L, W, rows, a, rfl, N, ok, hx, hrw, hrl, ha, k⟩ := h
    refine ⟨_, (pss_cons (ps_if (pt_not (pt_val (pe_meth (pv 0) t.cl_Net t.Net_is_letter.m (ok_Net_is_letter t) (hr.mono (by decide)) t.Net_is_letter.b .nil pass0 (pa_cons (pv 2) pa_nil))))
      (pss_one ps_never)
      pss_nil)
      (pss_cons (ps_set (i := 3) sc_Net_row.nd rfl (Or.inr rfl) (pe_meth (pv 0) t.cl_Net t.Net_plus.m (ok_Net_plus t) (hr.mono (by decide)) t.Net_plus.b .nil pass0 (pa_cons (pe_ix ix_tup (pe_fld (pv 0) rfl) (pv 2) (fun _ _ => rfl)) (pa_cons (pe_lc (own := [("number", 15)]) (g := (gName 15)) (tt := tYes) (te := (tOp _ (tCB (rLenOf K) (tCons _ tNil)) _)) rfl sc_Net_row.nd (pi_tup (pe_fld (pv 0) rfl)) (blkOk_by (own := [("number", 15)]) (N := n_Net_row) (sc := defScope st_Net_row) (by decide +kernel)) (fun _ _ _ _ _ => (pg_name (i := 15) sc_Net_row.nd rfl (Or.inl rfl))) (fun _ _ _ _ _ => pts_nil) (fun _ _ _ _ _ => (pe_op op_mul (pe_callB call_len_seq (by rfl) t.z_len PySem.boot_len (pa_cons (pv 1) pa_nil)) (pv 15)))) pa_nil))))
      (pss_cons (ps_set (i := 4) sc_Net_row.nd rfl (Or.inl rfl) (pe_lst pa_nil))
      (pss_cons (ps_for PassesOwn.never rfl (SAZ.pi_y (by rfl) t.z_enumerate (pa_cons (pe_fld (pv 0) rfl) pa_nil)) (pg_tup rfl (pgs_cons (pg_name (i := 5) sc_Net_row.nd rfl (Or.inr rfl)) (pgs_cons (pg_tup rfl (pgs_cons (pg_name (i := 6) sc_Net_row.nd rfl (Or.inl rfl)) (pgs_cons (pg_name (i := 7) sc_Net_row.nd rfl (Or.inl rfl)) (pgs_cons (pg_name (i := 8) sc_Net_row.nd rfl (Or.inl rfl)) (pgs_cons (pg_name (i := 9) sc_Net_row.nd rfl (Or.inl rfl)) (pgs_cons (pg_name (i := 10) sc_Net_row.nd rfl (Or.inl rfl)) pgs_nil)))))) pgs_nil)))
      (pss_cons (ps_set (i := 11) sc_Net_row.nd rfl (Or.inl rfl) (pe_tup (pa_cons (pe_meth (pv 0) t.cl_Net t.Net_times.m (ok_Net_times t) (hr.mono (by decide)) t.Net_times.b .nil pass0 (pa_cons (pv 7) (pa_cons (pv 3) pa_nil))) (pa_cons (pe_meth (pv 0) t.cl_Net t.Net_times.m (ok_Net_times t) (hr.mono (by decide)) t.Net_times.b .nil pass0 (pa_cons (pv 8) (pa_cons (pv 3) pa_nil))) pa_nil))))
        (pss_cons (ps_set (i := 12) sc_Net_row.nd rfl (Or.inl rfl) (pe_op op_cat (pe_lc (own := [("row", 16)]) (g := (gName 16)) (tt := tYes) (te := (tOp (rIxT K) (tOp (rIxT K) _ _) _)) rfl sc_Net_row.nd (pi_list (pv 1)) (blkOk_by (own := [("row", 16)]) (N := n_Net_row) (sc := defScope st_Net_row) (by decide +kernel)) (fun _ _ _ _ _ => (pg_name (i := 16) sc_Net_row.nd rfl (Or.inl rfl))) (fun _ _ _ _ _ => pts_nil) (fun _ _ _ _ _ => (pe_ix ix_tup (pe_ix ix_tup (pv 16) pe_int (fun _ _ => rfl)) (pv 5) (fun _ _ => rfl)))) (pe_lst (pa_cons (pv 11) pa_nil))))
        (pss_cons (ps_set (i := 3) sc_Net_row.nd rfl (Or.inr rfl) (pe_meth (pv 0) t.cl_Net t.Net_plus.m (ok_Net_plus t) (hr.mono (by decide)) t.Net_plus.b .nil pass0 (pa_cons (pv 3) (pa_cons (pe_meth (pv 0) t.cl_Net t.Net_looked_at.m (ok_Net_looked_at t) (hr.mono (by decide)) t.Net_looked_at.b .nil pass0 (pa_cons (pe_meth (pv 0) t.cl_Net t.Net_times.m (ok_Net_times t) (hr.mono (by decide)) t.Net_times.b .nil pass0 (pa_cons (pv 6) (pa_cons (pv 3) pa_nil))) (pa_cons (pv 12) pa_nil))) pa_nil))))
        (pss_cons (ps_set (i := 3) sc_Net_row.nd rfl (Or.inr rfl) (pe_meth (pv 0) t.cl_Net t.Net_plus.m (ok_Net_plus t) (hr.mono (by decide)) t.Net_plus.b .nil pass0 (pa_cons (pv 3) (pa_cons (pe_meth (pv 0) t.cl_Net t.Net_times.m (ok_Net_times t) (hr.mono (by decide)) t.Net_times.b .nil pass0 (pa_cons (pv 10) (pa_cons (pe_lc (own := [("number", 15)]) (g := (gName 15)) (tt := tYes) rfl sc_Net_row.nd (pi_tup (pe_meth (pv 0) t.cl_Net t.Net_times.m (ok_Net_times t) (hr.mono (by decide)) t.Net_times.b .nil pass0 (pa_cons (pv 9) (pa_cons (pv 3) pa_nil)))) (blkOk_by (own := [("number", 15)]) (N := n_Net_row) (sc := defScope st_Net_row) (by decide +kernel)) (fun _ _ _ _ _ => (pg_name (i := 15) sc_Net_row.nd rfl (Or.inl rfl))) (fun _ _ _ _ _ => pts_nil) (fun _ _ _ _ _ => (pe_op op_mul (pv 15) (pv 15)))) pa_nil))) pa_nil))))
        (pss_one (ps_expr (pe_bm PySem.F.plainAttrs_list PySem.F.slot_list_append PySem.F.type_list_append mt_append (pv 4) (pa_cons (pv 11) pa_nil)))))))))
      (pss_cons (ps_setLc (i := 13) (own := [("vector", 14)]) (g := (gName 14)) (tt := tYes) rfl sc_Net_row.nd rfl rfl (sw_true rfl rfl rfl (by decide +kernel)) (pi_tup (pe_fld (pv 0) rfl)) (blkOk_by (own := [("vector", 14)]) (N := n_Net_row) (sc := defScope st_Net_row) (by decide +kernel)) (fun _ _ _ _ _ => (pg_name (i := 14) sc_Net_row.nd rfl (Or.inl rfl))) (fun _ _ _ _ _ => pts_nil) (fun _ _ _ _ _ => (pe_op op_add pe_int (pe_meth (pv 0) t.cl_Net t.Net_rest.m (ok_Net_rest t) (hr.mono (by decide)) t.Net_rest.b .nil pass0 (pa_cons (pe_call (ok_product_sum t) (hr.mono (by decide)) rfl t.product_sum.g t.product_sum.F.kp t.product_sum.b .nil pass0 (pa_cons (pv 14) (pa_cons (pv 3) pa_nil))) pa_nil)))))
      (pss_one (ps_ret (pe_tup (pa_cons (pe_callTy (T := "tuple") call_tuple_of (by rfl) t.z_tuple (by decide +kernel) (pa_cons (pv 4) pa_nil)) (pa_cons (pe_callTy (T := "tuple") call_tuple_of (by rfl) t.z_tuple (by decide +kernel) (pa_cons (pv 13) pa_nil)) pa_nil)))))))))), ?_⟩
    have hp : 0 < n.p := by have := ok.p2; omega
    have w3 := ok.w3
    have l4 := ok.l4
    obtain ⟨na, dx, e, s, l, o, z, rfl, N0⟩ := id N
    obtain ⟨xa, xvs, rfl, hxa, hxv⟩ := id hx
    obtain ⟨ea, evs, rfl, hea, hev⟩ := id N0.e
    obtain ⟨sa, rfl, hsa⟩ := vec_tup N0.s
    obtain ⟨la, lvs, rfl, hla, hlv⟩ := id N0.l
    have ha' : a < n.emb.length := by rw [ok.emb.1]; exact ha
    refine ⟨_, rfl, na, dx, _, rfl, N0.at_, nf_m6, _, rfl, _, n, a, rfl, N, ha', _, rfl, ?_⟩
    refine iteF ?_
    obtain ⟨ev, hev1, hev2⟩ := hev.get (List.getElem?_eq_getElem ha')
    refine ⟨_, rfl, na, dx, _, rfl, N0.at_, nf_m2, _, rfl, na, _, dx, _, _, rfl, N0.at_, t.cl_Net, t.na_Net_embed, nf_embed, _, rfl, ea, evs, _, _, rfl, rfl, st_of hea, atI_nat hev1, ?_⟩
    refine ⟨_, rfl, na, _, dx, _, _, rfl, N0.at_, t.cl_Net, t.na_Net_shift, nf_shift, sa, rfl, ⟨_, st_of hsa⟩, fun D hD => ?_⟩
    refine lc_den (R := IntD) (zs := scl (rows.length : Nat) n.sh) (n := (n.sh.map V.int).length) walk_tup (by simp [scl]) (by simp [ok.sh.1]; omega) hD (fun H' e => ex_t e (st_of hsa)) mono_int (fun i y H5 H' Q' z hz ex yy q' => ?_) (fun acc H5 E5 hacc hlen hall => ?_)
    · obtain ⟨rfl, hy⟩ := yy
      obtain ⟨z0, hz0, rfl⟩ := Option.map_eq_some_iff.mp (by rw [← List.getElem?_map]; exact hz)
      obtain ⟨z1, hz1, rfl⟩ := Option.map_eq_some_iff.mp (by rw [← List.getElem?_map]; exact hy)
      rw [hz0] at hz1
      cases hz1
      refine ⟨rfl, _, rfl, xa, xvs, rfl, Or.inl (ex_l ex (sq_of hxa)), _, rfl, _, _, rfl, rfl, cmul' ((Sm.of ok.p97 ok.sh.2) _ (List.mem_of_getElem? hz0)), q' _ _ (Ex.refl _) ?_⟩
      show V.int _ = V.int _
      rw [hxv.1]
    · have hz0 : (n.emb.getD a []).length = W := by
        rw [List.getD_eq_getElem?_getD, List.getElem?_eq_getElem ha']
        exact (ok.emb.2 _ (List.getElem_mem _)).1
      have hev3 : VecD ev (n.emb.getD a []) H := by
        rw [List.getD_eq_getElem?_getD, List.getElem?_eq_getElem ha']
        exact hev2
      refine ⟨_, _, _, n, true, _, _, rfl, mono_net _ _ _ _ (im_ex E5) N, hp, mono_vec _ _ _ _ (im_ex E5) hev3, lst_sq hacc hall, by rw [hz0]; simp [scl, ok.sh.1], by rw [hz0]; omega, ?_⟩
      intro xv H6 E6 hxv6
      have E06 := E5.trans E6
      have hst : VecD xv (start0 n rows a) H6 := hxv6
      clear hxv6 hall hacc E5 E6
      refine ⟨sz_of (by simp), fun ow how => ?_⟩
      have E07 : Ex H (upd H6 ow (.lst [])) := E06.trans (Ex.new how)
      have how0 : H ow = none := fresh_back E06 how
      have N7 := mono_netv (im_ex E07) N0
      refine ⟨_, rfl, na, _, dx, _, _, rfl, N7.at_, t.cl_Net, t.na_Net_layers, nf_layers, la, false, lvs, rfl, sqT_of (E07 _ _ hla), ?_⟩
      refine for_it (walk_y (xs := lvs)) (fun i σ H' => ∃ (xv : V) (a5 a6 a7 a8 a9 a10 a11 a12 : Option V) (ovs : List V), σ = [some (.ref na), some (.ref xa), some (.int (a : Int)), some xv, some (.ref ow), a5, a6, a7, a8, a9, a10, a11, a12, none, none, none, none] ∧ Ex H H' ∧ H' ow = some (.lst ovs) ∧
          StOk n.p W i (layT n.p rows (n.lay.take i) 0 (start0 n rows a, [])) ∧ VecD xv (layT n.p rows (n.lay.take i) 0 (start0 n rows a, [])).1 H' ∧ AllD PrD ovs (layT n.p rows (n.lay.take i) 0 (start0 n rows a, [])).2 H')
        ⟨xv, _, _, _, _, _, _, _, _, [], rfl, E07, upd_same, ⟨start_ok ok ha, rfl, fun _ h => nomatch h⟩, mono_vec _ _ _ _ (im_ex (Ex.new how)) hst, AllD.nil⟩
        (fun i σ H' _ ⟨_, _, _, _, _, _, _, _, _, _, _, e, _⟩ => sqT_of (e _ _ hla)) (fun i y σ H7 H8 hi p yy => ?_) (fun σ H' p => ?_)
      · obtain ⟨xv, a5, a6, a7, a8, a9, a10, a11, a12, ovs, rfl, E7, how7, so, hxv7, hov7⟩ := p
        obtain ⟨T1, z1, yv, rfl, hT1, rfl, h1, h2⟩ := yy
        cases h1
        obtain ⟨ly, hly, hlyd⟩ := hlv.get' h2
        have E71 := Ex.new (o := .tup [V.int (i : Nat), yv]) hT1
        have T1at : upd H7 T1 (.tup [V.int (i : Nat), yv]) T1 = some (.tup [V.int (i : Nat), yv]) := upd_same
        have E8 := E7.trans E71
        have how8 := E71 _ _ how7
        have hxv8 := mono_vec _ _ _ _ (im_ex E71) hxv7
        have hov8 := hov7.mono mono_pr (im_ex E71)
        have him : i < n.lay.length := by rw [← hlv.1]; exact hi
        have lok := ok.lay ly (List.mem_of_getElem? hly)
        have hs' := layS_ok hp (m := n.lay.length) (l := ly) him (fun r hr => ⟨(hrw r hr).len, (hrw r hr).prs⟩) so lok
        generalize upd H7 T1 (.tup [V.int (i : Nat), yv]) = H8 at *
        clear hxv7 hov7 how7 E7 hT1 E71 E07 E06
        have stk := layT_take (p := n.p) (rows := rows) (st := (start0 n rows a, [])) hly
        rw [stk]
        generalize layT n.p rows (n.lay.take i) 0 (start0 n rows a, []) = st at *
        clear stk
        obtain ⟨ya, yvs, rfl, hya, hyv⟩ := mono_lay _ _ _ _ (im_ex E8) hlyd
        obtain ⟨vq, vk, vv, vf, vs, rfl, hq, hk, hv, hf, hs⟩ := allD_five hyv
        have N8 := mono_netv (im_ex E8) N0
        refine ⟨T1, _, rfl, st_of T1at, rfl, _, _, rfl, _, _, rfl, ya, _, rfl, st_of hya, rfl, _, _, rfl, _, _, rfl, _, _, rfl, _, _, rfl, _, _, rfl, rfl, rfl, ?_⟩
        -- pair
        refine ⟨_, rfl, na, dx, _, rfl, N8.at_, nf_m3, _, rfl, _, rfl, _, _, _, n, false, ly.k, st.1, rfl, ⟨na, dx, _, _, _, _, _, rfl, N8⟩, hp, hk, by rw [lok.k.1]; omega, vec_sq hxv8, matk ok.p97 lok.k so.x.1, ?_⟩
        intro w1 H9 E9 hw1
        have N9 := mono_netv (im_ex E9) N8
        refine ⟨_, rfl, na, dx, _, rfl, N9.at_, nf_m3, _, rfl, _, rfl, _, _, _, n, false, ly.v, st.1, rfl, ⟨na, dx, _, _, _, _, _, rfl, N9⟩, hp, mono_mat _ _ _ _ (im_ex E9) hv, by rw [lok.v.1]; omega, vec_sq (mono_vec _ _ _ _ (im_ex E9) hxv8), matk ok.p97 lok.v so.x.1, ?_⟩
        intro w2 H10 E10 hw2
        refine ⟨sz_of (by simp), fun pa hpa => ?_⟩
        have EA : Ex H8 (upd H10 pa (.tup [w1, w2])) := (E9.trans E10).trans (Ex.new hpa)
        have hpair : PrD (.ref pa) ((tim n.p ly.k st.1, tim n.p ly.v st.1) : Pair) (upd H10 pa (.tup [w1, w2])) := ⟨pa, w1, w2, rfl, upd_same, mono_vec _ _ _ _ (im_ex (E10.trans (Ex.new hpa))) hw1, mono_vec _ _ _ _ (im_ex (Ex.new hpa)) hw2⟩
        generalize upd H10 pa (.tup [w1, w2]) = HA at *
        clear hw1 hw2 N9 E9 E10
        -- pairs
        have xaA := (E8.trans EA) _ _ hxa
        have hxvA := hxv.mono mono_rw (im_ex (E8.trans EA))
        refine ⟨_, rfl, xa, rfl, ⟨_, sq_of xaA⟩, fun D2 hD2 => ?_⟩
        refine lc_den (R := PrD) (zs := rows.map fun r => r.1.getD i ([], [])) (n := xvs.length) walk_list (by simp [hxv.1]) (by rw [hxv.1]; omega) hD2 (fun H' e => ex_l e (sq_of xaA)) mono_pr (fun j c HB HC Q' z hz ex yy q' => ?_) (fun acc HB EB hacc hlen hall => ?_)
        · obtain ⟨rfl, hc⟩ := yy
          obtain ⟨r, hr1, hr2⟩ := hxvA.get' hc
          obtain ⟨r0, hr0, rfl⟩ := Option.map_eq_some_iff.mp (by rw [← List.getElem?_map]; exact hz)
          rw [hr1] at hr0
          cases hr0
          obtain ⟨ca, c1, c2, rfl, hca, hc1, hc2⟩ := mono_rw _ _ _ _ (im_ex ex) hr2
          obtain ⟨c1a, c1vs, rfl, hc1a, hc1v⟩ := hc1
          have hir : i < r.1.length := by rw [(hrw r (List.mem_of_getElem? hr1)).len]; exact him
          obtain ⟨pv', hpv1, hpv2⟩ := hc1v.get (List.getElem?_eq_getElem hir)
          refine ⟨rfl, _, rfl, ca, _, _, _, rfl, rfl, st_of hca, rfl, _, rfl, c1a, _, _, _, rfl, rfl, st_of hc1a, atI_nat hpv1, q' _ _ (Ex.refl _) ?_⟩
          rw [List.getD_eq_getElem?_getD, List.getElem?_eq_getElem hir]
          exact hpv2
        · refine ⟨_, rfl, sz_of (by simp), fun p2 hp2 => ?_⟩
          refine ⟨D2, p2, acc, _, rfl, rfl, Ex.new hp2 _ _ hacc, upd_same, sz_of (by rw [hlen, hxv.1]; simp; omega), fun p3 hp3 => ?_⟩
          have EC : Ex HA (upd (upd HB p2 (.lst [V.ref pa])) p3 (.lst (acc ++ [V.ref pa]))) := (EB.trans (Ex.new hp2)).trans (Ex.new hp3)
          have hprs : LstD PrD (.ref p3) (rows.map (fun r => r.1.getD i ([], [])) ++ [(tim n.p ly.k st.1, tim n.p ly.v st.1)]) (upd (upd HB p2 (.lst [V.ref pa])) p3 (.lst (acc ++ [V.ref pa]))) :=
            ⟨p3, _, rfl, upd_same, (hall.mono mono_pr (im_ex ((Ex.new hp2).trans (Ex.new hp3)))).snoc (mono_pr _ _ _ _ (im_ex EC) hpair)⟩
          generalize upd (upd HB p2 (.lst [V.ref pa])) p3 (.lst (acc ++ [V.ref pa])) = HC at *
          clear hall hacc
          have NC := mono_netv (im_ex (EA.trans EC)) N8
          have hxC := mono_vec _ _ _ _ (im_ex (EA.trans EC)) hxv8
          have hqv : VecOk n.p W (tim n.p ly.q st.1) := tim_ok hp lok.q.1 _
          have prk : ∀ kv ∈ rows.map (fun r => r.1.getD i ([], [])) ++ [((tim n.p ly.k st.1, tim n.p ly.v st.1) : Pair)], PairOk n.p W kv := fun kv hkv => by
            rcases List.mem_append.mp hkv with h | h
            · obtain ⟨r, hr', rfl⟩ := List.mem_map.mp h
              exact getD_ok (hrw r hr').len him (hrw r hr').prs
            · rw [List.mem_singleton.mp h]
              exact ⟨tim_ok hp lok.k.1 _, tim_ok hp lok.v.1 _⟩
          have hlk : (looked n.p (tim n.p ly.q st.1) (rows.map (fun r => r.1.getD i ([], [])) ++ [((tim n.p ly.k st.1, tim n.p ly.v st.1) : Pair)])).length = W := looked_len hp (by simp [zer, hqv.1]) fun kv h => (prk kv h).2.1
          refine ⟨_, rfl, na, dx, _, rfl, NC.at_, nf_m2, _, rfl, _, rfl, na, dx, _, rfl, NC.at_, nf_m4, _, rfl, na, dx, _, rfl, NC.at_, nf_m3, _, rfl, _, rfl, _, _, _, n, false, ly.q, st.1, rfl, ⟨na, dx, _, _, _, _, _, rfl, NC⟩, hp, mono_mat _ _ _ _ (im_ex (EA.trans EC)) hq, by rw [lok.q.1]; omega, vec_sq hxC, matk ok.p97 lok.q so.x.1, ?_⟩
          intro w4 HD ED hw4
          refine ⟨_, rfl, _, _, _, n, _, _, rfl, mono_net _ _ _ _ (im_ex ED) ⟨na, dx, _, _, _, _, _, rfl, NC⟩, hp, hw4, by rw [hqv.1]; omega, Sm.of ok.p97 hqv.2, ?_, fun kv h => ⟨by rw [hqv.1]; exact (prk kv h).1.1, by rw [hqv.1]; exact (prk kv h).2.1, Sm.of ok.p97 (prk kv h).2.2⟩, ?_⟩
          · obtain ⟨p3', pvs, e3, h3, h4⟩ := hprs
            cases e3
            exact ⟨p3, pvs, rfl, ED _ _ h3, h4.mono mono_pr (im_ex ED)⟩
          intro w5 HE EE hw5
          have EF := ED.trans EE
          refine ⟨_, _, _, n, false, _, _, rfl, ⟨na, dx, _, _, _, _, _, rfl, mono_netv (im_ex EF) NC⟩, hp, mono_vec _ _ _ _ (im_ex EF) hxC, vec_sq hw5, by rw [hlk]; exact so.x.1, by rw [so.x.1]; omega, ?_⟩
          intro w6 HF E6 hw6
          have x1ok : (plu n.p st.1 (looked n.p (tim n.p ly.q st.1) (rows.map (fun r => r.1.getD i ([], [])) ++ [((tim n.p ly.k st.1, tim n.p ly.v st.1) : Pair)]))).length = W := (plu_ok hp so.x.1 hlk).1
          have EG := EF.trans E6
          have NG := mono_netv (im_ex EG) NC
          clear hw4 hw5 ED EE EF hprs
          -- squares
          have hef : layS n.p rows st i ly = (plu n.p (plu n.p st.1 (looked n.p (tim n.p ly.q st.1) (rows.map (fun r => r.1.getD i ([], [])) ++ [((tim n.p ly.k st.1, tim n.p ly.v st.1) : Pair)]))) (tim n.p ly.s (sq (tim n.p ly.f (plu n.p st.1 (looked n.p (tim n.p ly.q st.1) (rows.map (fun r => r.1.getD i ([], [])) ++ [((tim n.p ly.k st.1, tim n.p ly.v st.1) : Pair)])))))), st.2 ++ [((tim n.p ly.k st.1, tim n.p ly.v st.1) : Pair)]) := rfl
          rw [hef] at hs' ⊢
          clear hef
          generalize plu n.p st.1 (looked n.p (tim n.p ly.q st.1) (rows.map (fun r => r.1.getD i ([], [])) ++ [((tim n.p ly.k st.1, tim n.p ly.v st.1) : Pair)])) = x1 at *
          have EAG := EA.trans (EC.trans EG)
          refine ⟨_, rfl, na, dx, _, rfl, NG.at_, nf_m2, _, rfl, _, rfl, na, dx, _, rfl, NG.at_, nf_m3, _, rfl, _, rfl, na, dx, _, rfl, NG.at_, nf_m3, _, rfl, _, rfl, _, _, _, n, false, ly.f, x1, rfl, ⟨na, dx, _, _, _, _, _, rfl, NG⟩, hp, mono_mat _ _ _ _ (im_ex EAG) hf, by rw [lok.f.1]; omega, vec_sq hw6, matk ok.p97 lok.f x1ok, ?_⟩
          intro w7 HH E7 hw7
          have hfv : VecOk n.p W (tim n.p ly.f x1) := tim_ok hp lok.f.1 _
          obtain ⟨fa, rfl, hfa⟩ := vec_tup hw7
          refine ⟨fa, rfl, ⟨_, st_of hfa⟩, fun D3 hD3 => ?_⟩
          refine lc_den (R := IntD) (zs := sq (tim n.p ly.f x1)) (n := ((tim n.p ly.f x1).map V.int).length) walk_tup (by simp [sq]) (by simp [hfv.1]; omega) hD3 (fun H' e => ex_t e (st_of hfa)) mono_int (fun j y HI HJ Q' z hz ex yy q' => ?_) (fun acc2 HI EI hacc2 hlen2 hall2 => ?_)
          · obtain ⟨rfl, hy⟩ := yy
            obtain ⟨z0, hz0, rfl⟩ := Option.map_eq_some_iff.mp (by rw [← List.getElem?_map]; exact hz)
            obtain ⟨z1, hz1, rfl⟩ := Option.map_eq_some_iff.mp (by rw [← List.getElem?_map]; exact hy)
            rw [hz0] at hz1
            cases hz1
            exact ⟨rfl, _, rfl, _, rfl, _, _, rfl, rfl, cmul ((Sm.of ok.p97 hfv.2) _ (List.mem_of_getElem? hz0)), q' _ _ (Ex.refl _) rfl⟩
          · have EJ := E7.trans EI
            have hsq : (sq (tim n.p ly.f x1)).length = W := by simp [sq, hfv.1]
            refine ⟨_, _, _, n, true, ly.s, _, rfl, ⟨na, dx, _, _, _, _, _, rfl, mono_netv (im_ex EJ) NG⟩, hp, mono_mat _ _ _ _ (im_ex (EAG.trans EJ)) hs, by rw [lok.s.1]; omega, lst_sq hacc2 hall2, matk ok.p97 lok.s hsq, ?_⟩
            intro w8 HK EK hw8
            have EL := EJ.trans EK
            refine ⟨_, _, _, n, false, _, _, rfl, ⟨na, dx, _, _, _, _, _, rfl, mono_netv (im_ex EL) NG⟩, hp, mono_vec _ _ _ _ (im_ex EL) hw6, vec_sq hw8, by rw [x1ok, (tim_ok hp lok.s.1 _ : VecOk n.p W _).1], by rw [x1ok]; omega, ?_⟩
            intro w9 HM EM hw9
            have EN := EAG.trans (EL.trans EM)
            -- append
            have howM := EN _ _ how8
            have hovl : ovs.length = i := by rw [hov8.1, so.len]
            refine ⟨_, rfl, Or.inl ⟨rfl, _, sq_of howM⟩, _, rfl, ow, ovs, _, rfl, rfl, howM, sz_lt (by rw [hovl]; have := ok.few; omega), ?_⟩
            have im := Im.lst (o := .lst (ovs ++ [V.ref pa])) howM
            refine ⟨w9, _, _, _, _, _, _, _, _, ovs ++ [V.ref pa], rfl, (E8.trans EN).mut how0, upd_same, hs', mono_vec _ _ _ _ im hw9, ?_⟩
            exact (hov8.mono mono_pr ((im_ex EN).trans im)).snoc (mono_pr _ _ _ _ ((im_ex (EC.trans (EG.trans (EL.trans EM)))).trans im) hpair)
      · obtain ⟨xv, a5, a6, a7, a8, a9, a10, a11, a12, ovs, rfl, E7, how7, so, hxv7, hov7⟩ := p
        rw [List.take_of_length_le (by rw [hlv.1]; exact Nat.le_refl _)] at so hxv7 hov7
        have N7 := mono_netv (im_ex E7) N0
        obtain ⟨oa, ovs2, rfl, hoa, hov2⟩ := id N7.o
        refine ⟨_, rfl, na, _, dx, _, _, rfl, N7.at_, t.cl_Net, t.na_Net_out, nf_out, oa, rfl, ⟨_, st_of hoa⟩, fun D2 hD2 => ?_⟩
        refine lc_den (R := IntD) (zs := wOf n (layT n.p rows n.lay 0 (start0 n rows a, [])).1) (n := ovs2.length) walk_tup (by simp [wOf, hov2.1]) (by rw [hov2.1, ok.out.1]; omega) hD2 (fun H' e => ex_t e (st_of hoa)) mono_int (fun j c HB HC Q' z hz ex yy q' => ?_) (fun acc HB EB hacc hlen hall => ?_)
        · obtain ⟨rfl, hc⟩ := yy
          obtain ⟨r, hr1, hr2⟩ := hov2.get' hc
          obtain ⟨r0, hr0, rfl⟩ := Option.map_eq_some_iff.mp (by rw [← List.getElem?_map]; exact hz)
          rw [hr1] at hr0
          cases hr0
          have hrm := ok.out.2 r (List.mem_of_getElem? hr1)
          have NB := mono_netv (im_ex ex) N7
          refine ⟨rfl, _, rfl, na, dx, _, rfl, NB.at_, nf_m1, _, rfl, _, rfl, _, _, false, false, r, _, rfl, vec_sq (mono_vec _ _ _ _ (im_ex ex) hr2), vec_sq (mono_vec _ _ _ _ (im_ex ex) hxv7), by rw [hrm.1, so.x.1], Sm.of ok.p97 hrm.2, ?_⟩
          rintro w2 HD ED rfl
          exact ⟨_, n, _, rfl, ⟨na, dx, _, _, _, _, _, rfl, mono_netv (im_ex ED) NB⟩, hp, _, _, rfl, rfl, q' _ _ ED rfl⟩
        · refine ⟨_, rfl, ow, ovs, rfl, Or.inl ⟨sq_of (EB _ _ how7), fun l1 hl1 => ?_⟩⟩
          refine ⟨_, rfl, D2, acc, rfl, Or.inl ⟨sq_of (Ex.new hl1 _ _ hacc), fun l2 hl2 => ?_⟩⟩
          refine ⟨sz_of (by simp), fun l3 hl3 => ?_⟩
          have e2 := (Ex.new (o := .tup acc) hl2).trans (Ex.new (o := .tup [V.ref l1, V.ref l2]) hl3)
          have e1 := (Ex.new (o := .tup ovs) hl1).trans e2
          exact k (.ref l3) _ (E7.trans (EB.trans e1)) (show RwD (.ref l3) (rowF n rows a) _ from ⟨l3, .ref l1, .ref l2, rfl, upd_same, ⟨l1, ovs, rfl, e2 _ _ upd_same, hov7.mono mono_pr (im_ex (EB.trans e1))⟩, ⟨l2, acc, rfl, Ex.new hl3 _ _ upd_same, hall.mono mono_int (im_ex e1)⟩⟩)
def spRowsOf (C : Addr) : Sp := fun vs H Q _ => ∃ (v x : V) (n : NetD) (L W : Nat) (ls : List Nat), vs = [v, x] ∧ NetAt C v n H ∧ NetOk L W n ∧ TxtD x ls H ∧ (∀ a ∈ ls, a < L) ∧ ls.length ≤ 1000 ∧ RetP (fun v => TupD RwD v (rowsOf n ls)) H Q
theorem ok_rows_of (t : T K mg) : FnOk P w K mg base CX0 5 t.rows_of.f t.rows_of.d p_rows_of (spRowsOf t.aNet) := by
  refine t.rows_of.F.ok sc_rows_of (fun vs H Q E h => ?_) (fun cdv A outer s H vs Q E hr h => ?_)
  · obtain ⟨v, x, n, L, W, ls, rfl, _⟩ := h
    rfl
  · obtain ⟨v, x, n, L, W, ls, rfl, N, ok, hx, hb, hl, k⟩ := h
    refine ⟨_, (pss_cons (ps_set (i := 2) sc_rows_of.nd rfl (Or.inl rfl) (pe_lst pa_nil))
      (pss_cons (ps_for PassesOwn.never rfl (pi_tup (pv 1)) (pg_name (i := 3) sc_rows_of.nd rfl (Or.inl rfl))
      (pss_one (ps_expr (pe_bm PySem.F.plainAttrs_list PySem.F.slot_list_append PySem.F.type_list_append mt_append (pv 2) (pa_cons (pe_meth (pv 0) t.cl_Net t.Net_row.m (ok_Net_row t) (hr.mono (by decide)) t.Net_row.b .nil pass0 (pa_cons (pv 2) (pa_cons (pv 3) pa_nil))) pa_nil)))))
      (pss_one (ps_ret (pe_callTy (T := "tuple") call_tuple_of (by rfl) t.z_tuple (by decide +kernel) (pa_cons (pv 2) pa_nil)))))), ?_⟩
    obtain ⟨xa, xvs, rfl, hxa, hxv⟩ := id hx
    refine ⟨sz_of (by simp), fun ow how => ?_⟩
    have E1 : Ex H (upd H ow (.lst [])) := Ex.new how
    refine ⟨_, rfl, xa, rfl, ⟨_, st_of (E1 _ _ hxa)⟩, ?_⟩
    refine for_it (walk_tup (xs := xvs)) (fun i σ H' => ∃ (a : Option V) (ovs : List V), σ = [some v, some (.ref xa), some (.ref ow), a] ∧ Ex H H' ∧ H' ow = some (.lst ovs) ∧ AllD RwD ovs (rowsOf n (ls.take i)) H') ⟨_, [], rfl, E1, upd_same, AllD.nil⟩
      (fun i σ H' _ ⟨_, _, _, e, _⟩ => ex_t e (st_of hxa)) (fun i y σ H7 H8 hi p yy => ?_) (fun σ H' p => ?_)
    · obtain ⟨a, ovs, rfl, E7, how7, hov7⟩ := p
      obtain ⟨rfl, hy⟩ := yy
      obtain ⟨c, hc, hcd⟩ := hxv.get' hy
      have hcd' : y = .int (c : Int) := hcd
      subst hcd'
      have N7 := mono_net _ _ _ _ (im_ex E7) N
      obtain ⟨na, dx, e, s, l, o, z, rfl, N7'⟩ := id N7
      have hlen : ovs.length ≤ 1000 := by rw [hov7.1, rowsOf_len, List.length_take]; omega
      refine ⟨_, rfl, Or.inl ⟨rfl, _, sq_of how7⟩, _, rfl, na, dx, _, rfl, N7'.at_, nf_m5, _, rfl, _, rfl, _, _, n, L, W, rowsOf n (ls.take i), c, rfl, N7, ok, ⟨ow, ovs, rfl, how7, hov7⟩, rowsOf_ok ok fun a ha => hb a (List.mem_of_mem_take ha), by rw [← hov7.1]; exact hlen, hb c (List.mem_of_getElem? hc), ?_⟩
      intro w2 H9 E9 hw2
      refine ⟨ow, ovs, w2, rfl, rfl, E9 _ _ how7, sz_lt (by omega), ?_⟩
      have im := Im.lst (o := .lst (ovs ++ [w2])) (E9 _ _ how7)
      refine ⟨_, ovs ++ [w2], rfl, (E7.trans E9).mut how, upd_same, ?_⟩
      rw [List.take_add_one, hc]
      show AllD RwD (ovs ++ [w2]) (rowsOf n (ls.take i ++ [c])) _
      rw [rowsOf_snoc]
      exact (hov7.mono mono_rw ((im_ex E9).trans im)).snoc (mono_rw _ _ _ _ im hw2)
    · obtain ⟨a, ovs, rfl, E7, how7, hov7⟩ := p
      rw [List.take_of_length_le (by rw [hxv.1]; exact Nat.le_refl _)] at hov7
      refine ⟨_, rfl, ow, ovs, rfl, Or.inl ⟨sq_of how7, fun l1 hl1 => ?_⟩⟩
      exact k (.ref l1) _ (E7.trans (Ex.new hl1)) (show TupD RwD (.ref l1) (rowsOf n ls) _ from ⟨l1, ovs, rfl, upd_same, hov7.mono mono_rw (im_ex (Ex.new hl1))⟩)
def spWts (C : Addr) : Sp := fun vs H Q _ => ∃ (v x : V) (n : NetD) (L W : Nat) (ls : List Nat), vs = [v, x] ∧ NetAt C v n H ∧ NetOk L W n ∧ TxtD x ls H ∧ (∀ a ∈ ls, a < L) ∧ ls.length ≤ 1000 ∧ ls ≠ [] ∧ RetP (fun v => VecD v (wts n ls)) H Q
theorem ok_weights_behind (t : T K mg) : FnOk P w K mg base CX0 6 t.weights_behind.f t.weights_behind.d p_weights_behind (spWts t.aNet) := by
  refine t.weights_behind.F.ok sc_weights_behind (fun vs H Q E h => ?_) (fun cdv A outer s H vs Q E hr h => ?_)
  · obtain ⟨v, x, n, L, W, ls, rfl, _⟩ := h
    rfl
  · obtain ⟨v, x, n, L, W, ls, rfl, N, ok, hx, hb, hl, hne, k⟩ := h
    refine ⟨_, (pss_one (ps_ret (pe_ix ix_tup (pe_ix ix_tup (pe_call (ok_rows_of t) (hr.mono (by decide)) rfl t.rows_of.g t.rows_of.F.kp t.rows_of.b .nil pass0 (pa_cons (pv 0) (pa_cons (pv 1) pa_nil))) (pe_un un_neg pe_int) (fun _ _ => rfl)) pe_int (fun _ _ => rfl)))), ?_⟩
    refine ⟨_, rfl, _, rfl, v, x, n, L, W, ls, rfl, N, ok, hx, hb, hl, ?_⟩
    rintro w2 H2 E2 ⟨ra, rvs, rfl, hra, hrv⟩
    have hrne : rowsOf n ls ≠ [] := fun z => by
      have := rowsOf_len n ls
      rw [z] at this
      exact hne (List.length_eq_zero_iff.mp this.symm)
    have hvne : rvs ≠ [] := fun z => by
      rw [z] at hrv
      exact hrne (List.length_eq_zero_iff.mp hrv.1.symm)
    have el : (rowsOf n ls)[rvs.length - 1]? = some ((rowsOf n ls).getLast hrne) := by
      rw [hrv.1, List.getLast_eq_getElem, List.getElem?_eq_getElem]
    obtain ⟨u, hu1, hu2⟩ := hrv.get el
    have hat : atI rvs (-1) = some u := by
      have e := List.dropLast_concat_getLast hvne
      rw [← e, atI_last]
      rw [List.getLast_eq_getElem]
      rw [List.getElem?_eq_getElem (by have := List.length_pos_iff.mpr hvne; omega)] at hu1
      exact hu1
    obtain ⟨ua, u1, u2, rfl, hua, h1, h2⟩ := hu2
    refine ⟨_, rfl, ra, rvs, _, _, rfl, rfl, st_of hra, hat, ua, _, _, _, rfl, rfl, st_of hua, rfl, ?_⟩
    refine k _ _ E2 ?_
    unfold wts
    rw [List.getLast?_eq_some_getLast hrne]
    exact h2
end
end SA
set_option maxRecDepth 100000
set_option maxHeartbeats 4000000
/-! Chances, a. -/
namespace SA
open PySem PySem.Spec PyProof.Rows L2 Evl SAZ
theorem two_bb {n : Nat} (h : n ≤ 1900) : 2 ^ n < 2 ^ bb := Nat.pow_lt_pow_right (by decide) (by rw [bb_eq]; omega)
theorem Lo.sz {B : Nat} {q : Rat} (a : Lo B q) (h : B ≤ 1900) : Sz q := ⟨Nat.lt_of_le_of_lt a.num (two_bb h), Nat.lt_of_le_of_lt a.den (two_bb h)⟩
theorem own_go {C : Addr} {f : Rat → Rat → Rat} {x y : V} {p q : Rat} {H : Hp} {Q : VK} {E : XK} (hx : ShD C x p H) (hy : ShD C y q H) (sp : Sz p) (sq : Sz q) (k : ∀ v H', Ex H H' → ShD C v (f p q) H' → Q v H') : rOwn C (spShOp C f) E x y H Q := by
  obtain ⟨a, dx, rfl, ha⟩ := hx
  obtain ⟨b, dy, rfl, hb⟩ := hy
  exact ⟨a, b, dx, dy, _, _, rfl, rfl, ha, hb, _, _, p, q, rfl, ⟨a, dx, rfl, ha⟩, ⟨b, dy, rfl, hb⟩, sp, sq, fun v H' e hv => ⟨by obtain ⟨c, _, h, _⟩ := hv; exact ⟨c, h⟩, k v H' e hv⟩⟩
theorem cat_go {K : PySem.W.Frag} {u v : V} {r s : List Nat} {H : Hp} {Q : VK} (hu : TxtD u r H) (hv : TxtD v s H) (hl : r.length + s.length ≤ 1000) (k : ∀ z H', Ex H H' → TxtD z (r ++ s) H' → Q z H') : rCatA K u v H Q := by
  obtain ⟨a, us, rfl, ha, hua⟩ := id hu
  obtain ⟨b, ws, rfl, hb, hvb⟩ := id hv
  refine ⟨a, b, us, ws, rfl, rfl, st_of ha, st_of hb, sz_of (by rw [hua.1, hvb.1]; omega), fun e => ?_, fun _ e => ?_, fun _ _ z hz => ?_⟩
  · subst e
    have er : r = [] := List.length_eq_zero_iff.mp hua.1.symm
    subst er
    exact k _ _ (Ex.refl H) hv
  · subst e
    have er : s = [] := List.length_eq_zero_iff.mp hvb.1.symm
    subst er
    rw [List.append_nil] at k
    exact k _ _ (Ex.refl H) hu
  · exact k (.ref z) _ (Ex.new hz) ⟨z, us ++ ws, rfl, upd_same, (hua.append hvb).mono mono_nat (im_ex (Ex.new hz))⟩
theorem one_txt {H : Hp} {p : Addr} {a : Nat} (h : H p = some (.tup [V.int (a : Int)])) : TxtD (.ref p) [a] H := ⟨p, _, rfl, h, AllD.nil.snoc rfl⟩
theorem txt_tup {v : V} {x : List Nat} {H : Hp} (h : TxtD v x H) : ∃ a, v = .ref a ∧ H a = some (.tup (x.map fun n : Nat => V.int (n : Int))) := by
  obtain ⟨a, vs, rfl, ha, h⟩ := h
  rw [allD_nats h] at ha
  exact ⟨a, rfl, ha⟩
theorem fr_small (a b : Int) (hb : 0 < b) (h : b < 2 ^ 64) : b.natAbs < 2 ^ (4 * bb) := by
  have h1 : b.natAbs < 2 ^ 64 := by
    have := p64
    have e : (2 : Nat) ^ 64 = 18446744073709551616 := by decide +kernel
    omega
  exact Nat.lt_of_lt_of_le h1 (Nat.pow_le_pow_right (by decide) (by rw [bb_eq]; decide))
theorem fr01 : fr 0 1 = 0 := by decide +kernel
theorem fr11 : fr 1 1 = 1 := by decide +kernel
theorem sh_allSz {L : Nat} (l1 : 1 ≤ L) (l4 : L ≤ 4) {w : List Int} (h : WOk L w) : ∀ p ∈ shr w, Sz p := fun p hp => (lo_shr l1 l4 h p hp).sz (by decide)
section
variable {P : Program} {w : World} {K : PySem.W.Frag} {mg : Str → Option Value} {base : Heap}
abbrev ShsD (C : Addr) : Den (List Rat) := TupD (ShD C)
/-- a net, letters behind which weights stand -/
structure LsOk (L W : Nat) (n : NetD) (ls : List Nat) : Prop where
  ok : NetOk L W n
  b : ∀ a ∈ ls, a < L
  s : ls.length ≤ 1000
  ne : ls ≠ []
theorem LsOk.wk {L W : Nat} {n : NetD} {ls : List Nat} (h : LsOk L W n ls) : WOk L (wts n ls) := wts_ok h.ok h.b h.ne
def spNext (C CN : Addr) : Sp := fun vs H Q _ => ∃ (v x : V) (n : NetD) (L W : Nat) (ls : List Nat), vs = [v, x] ∧ NetAt CN v n H ∧ LsOk L W n ls ∧ TxtD x ls H ∧ RetP (fun v => ShsD C v (shr (wts n ls))) H Q
theorem ok_next_shares (t : T K mg) : FnOk P w K mg base CX0 7 t.next_shares.f t.next_shares.d p_next_shares (spNext t.aShare t.aNet) := by
  refine t.next_shares.F.ok sc_next_shares (fun vs H Q E h => ?_) (fun cdv A outer s H vs Q E hr h => ?_)
  · obtain ⟨v, x, n, L, W, ls, rfl, _⟩ := h
    rfl
  · obtain ⟨v, x, n, L, W, ls, rfl, N, lo, hx, k⟩ := h
    refine ⟨_, (pss_cons (ps_set (i := 2) sc_next_shares.nd rfl (Or.inl rfl) (pe_call (ok_weights_behind t) (hr.mono (by decide)) rfl t.weights_behind.g t.weights_behind.F.kp t.weights_behind.b .nil pass0 (pa_cons (pv 0) (pa_cons (pv 1) pa_nil))))
      (pss_cons (ps_set (i := 3) sc_next_shares.nd rfl (Or.inr rfl) (pe_callB (SAZ.cr_sumT rfl) (by rfl) t.z_sum (by decide +kernel) (pa_cons (pv 2) pa_nil)))
      (pss_one (ps_ret (pe_callTy (T := "tuple") call_tuple_of (by rfl) t.z_tuple (by decide +kernel) (pa_cons (pe_lc (own := [("weight", 4)]) (g := (gName 4)) (tt := tYes) rfl sc_next_shares.nd (pi_tup (pv 2)) (blkOk_by (own := [("weight", 4)]) (N := n_next_shares) (sc := defScope st_next_shares) (by decide +kernel)) (fun _ _ _ _ _ => (pg_name (i := 4) sc_next_shares.nd rfl (Or.inl rfl))) (fun _ _ _ _ _ => pts_nil) (fun _ _ _ _ _ => (pe_make t.M_Share (ok_Share_init t) (hr.mono (by decide)) rfl t.mg_Share t.Share_init.b .nil pass0 (pa_cons (pv 4) (pa_cons (pv 3) pa_nil))))) pa_nil)))))), ?_⟩
    have wo := lo.wk
    have l1 := lo.ok.l1
    have l4 := lo.ok.l4
    refine ⟨_, rfl, _, rfl, v, x, n, L, W, ls, rfl, N, lo.ok, hx, lo.b, lo.s, lo.ne, ?_⟩
    intro w2 H2 E2 hw2
    obtain ⟨wa, rfl, hwa⟩ := vec_tup hw2
    refine ⟨_, rfl, wa, _, rfl, st_of hwa, ?_⟩
    have spos : 0 < (wts n ls).sum := wo.sum_pos l1
    have slt : (wts n ls).sum < 512 := wo.sum_lt l4
    generalize wts n ls = wv at *
    refine ⟨_, rfl, wa, rfl, ⟨_, st_of hwa⟩, fun D hD => ?_⟩
    refine lc_den (R := ShD t.aShare) (zs := shr wv) (n := (wv.map V.int).length) walk_tup (by simp [shr]) (by simp [wo.len]; omega) hD (fun H' e => ex_t e (st_of hwa)) mono_sh (fun i y H5 H' Q' z hz ex yy q' => ?_) (fun acc H5 E5 hacc hlen hall => ?_)
    · obtain ⟨rfl, hy⟩ := yy
      obtain ⟨z0, hz0, rfl⟩ := Option.map_eq_some_iff.mp (by rw [← List.getElem?_map]; exact hz)
      obtain ⟨z1, hz1, rfl⟩ := Option.map_eq_some_iff.mp (by rw [← List.getElem?_map]; exact hy)
      rw [hz0] at hz1
      cases hz1
      refine ⟨rfl, _, rfl, _, rfl, ?_⟩
      intro z dz nz ndz ne
      refine ⟨z, dz, _, _, rfl, upd_same, spos, fr_small 0 _ spos (by have := p64; omega), rfl, ?_⟩
      rw [upd_upd]
      exact q' (.ref z) _ ((Ex.new ndz).trans (Ex.new (by rw [upd_ne ne.symm]; exact nz))) (show ShD t.aShare (.ref z) (fr z0 wv.sum) _ from ⟨z, dz, rfl, upd_same⟩)
    · refine ⟨D, acc, rfl, Or.inl ⟨sq_of hacc, fun l5 hl5 => ?_⟩⟩
      exact k (.ref l5) _ (E2.trans (E5.trans (Ex.new hl5))) (show ShsD t.aShare (.ref l5) (shr wv) _ from ⟨l5, acc, rfl, upd_same, hall.mono mono_sh (im_ex (Ex.new hl5))⟩)
theorem sq_tup {α : Type} {R : Den α} {v : V} {xs : List α} {H : Hp} (h : TupD R v xs H) : ∃ a vs, v = .ref a ∧ Sq false K H a vs ∧ AllD R vs xs H := by
  obtain ⟨a, vs, rfl, ha, hv⟩ := h
  exact ⟨a, vs, rfl, sqT_of ha, hv⟩
def spAbove (C : Addr) : Sp := fun vs H Q _ => ∃ (u v : V) (ps qs : List Rat), vs = [u, v] ∧ ShsD C u ps H ∧ ShsD C v qs H ∧ ps.length = qs.length ∧ ps.length ≤ 1000 ∧ (∀ p ∈ ps, Sz p) ∧ (∀ q ∈ qs, Sz q) ∧ RetP (fun v => LstD (ShD C) v (abv ps qs)) H Q
theorem ok_shares_above (t : T K mg) : FnOk P w K mg base CX0 5 t.shares_above.f t.shares_above.d p_shares_above (spAbove t.aShare) := by
  refine t.shares_above.F.ok sc_shares_above (fun vs H Q E h => ?_) (fun cdv A outer s H vs Q E hr h => ?_)
  · obtain ⟨u, v, ps, qs, rfl, _⟩ := h
    rfl
  · obtain ⟨u, v, ps, qs, rfl, hu, hv, hl, hl2, szp, szq, k⟩ := h
    refine ⟨_, (pss_one (ps_ret (pe_lc (own := [("p", 2), ("q", 3)]) (g := (gTup K 2 (gCons (gName 2) (gCons (gName 3) gNil)))) (tt := tYes) rfl sc_shares_above.nd (SAZ.pi_x (by rfl) t.z_zip (pa_cons (pv 0) (pa_cons (pv 1) pa_nil))) (blkOk_by (own := [("p", 2), ("q", 3)]) (N := n_shares_above) (sc := defScope st_shares_above) (by decide +kernel)) (fun _ _ _ _ _ => (pg_tup rfl (pgs_cons (pg_name (i := 2) sc_shares_above.nd rfl (Or.inl rfl)) (pgs_cons (pg_name (i := 3) sc_shares_above.nd rfl (Or.inl rfl)) pgs_nil)))) (fun _ _ _ _ _ => pts_nil) (fun _ _ _ _ _ => (pe_op (op_own (ok_Share_sub t) (hr.mono (by decide)) t.sf_Share t.o_sub t.i_sub t.Share_sub.b pass0) (pv 2) (pe_call (ok_lesser_of t) (hr.mono (by decide)) rfl t.lesser_of.g t.lesser_of.F.kp t.lesser_of.b .nil pass0 (pa_cons (pv 2) (pa_cons (pv 3) pa_nil)))))))), ?_⟩
    obtain ⟨a, us, rfl, ha, hus⟩ := sq_tup (K := K) hu
    obtain ⟨b, ws, rfl, hb, hws⟩ := sq_tup (K := K) hv
    refine ⟨_, rfl, _, rfl, a, b, false, false, us, ws, rfl, ha, hb, fun D hD => ?_⟩
    refine lc_den (R := ShD t.aShare) (zs := abv ps qs) (n := ps.length) (walk_x (xs := us) (ys := ws) hus.1 (by rw [hws.1, hl])) (abv_len hl) (by omega) hD (fun H' e => ⟨ex_sq e ha, ex_sq e hb⟩) mono_sh (fun i c H2 H' Q' z hz ex yy q' => ?_) (fun acc H' ex hacc hlen hall => ?_)
    · obtain ⟨T1, z1, z2, rfl, hT, rfl, h1, h2⟩ := yy
      obtain ⟨p, hp, hpd⟩ := hus.get' h1
      obtain ⟨q, hq, hqd⟩ := hws.get' h2
      unfold abv at hz
      rw [List.getElem?_zipWith, hp, hq] at hz
      cases hz
      have E2 := ex.trans (Ex.new (o := .tup [z1, z2]) hT)
      have sp := szp p (List.mem_of_getElem? hp)
      have sq := szq q (List.mem_of_getElem? hq)
      have hpd := mono_sh _ _ _ _ (im_ex E2) hpd
      have hqd := mono_sh _ _ _ _ (im_ex E2) hqd
      refine ⟨T1, _, rfl, st_of upd_same, rfl, _, _, rfl, _, _, rfl, rfl, rfl, ?_⟩
      refine ⟨_, rfl, _, rfl, _, rfl, _, _, p, q, rfl, hpd, hqd, sp, sq, ?_⟩
      intro w3 H3 E3 hw3
      exact own_go (mono_sh _ _ _ _ (im_ex E3) hpd) hw3 sp (by rcases les_cases p q with e | e <;> rw [e] <;> assumption) fun v4 H4 E4 h4 => q' v4 H4 ((Ex.new hT).trans (E3.trans E4)) h4
    · exact k (.ref D) _ ex (show LstD (ShD t.aShare) (.ref D) (abv ps qs) _ from ⟨D, acc, rfl, hacc, hall⟩)
def spText (C CN : Addr) : Sp := fun vs H Q _ => ∃ (v x y : V) (n : NetD) (L W : Nat) (pr tx : List Nat), vs = [v, x, y] ∧ NetAt CN v n H ∧ LsOk L W n pr ∧ LstD NatD x pr H ∧ pr.length ≤ 100 ∧ TxtD y tx H ∧ (∀ a ∈ tx, a < L) ∧ tx.length ≤ 100 ∧ RetP (fun v => ShD C v (ts (fun r => wts n (pr ++ r)) [] tx)) H Q
theorem pre_ok {L W : Nat} {n : NetD} {pr r : List Nat} (h : LsOk L W n pr) (hp : pr.length ≤ 100) (hr : ∀ a ∈ r, a < L) (hl : r.length ≤ 100) : LsOk L W n (pr ++ r) :=
  ⟨h.ok, fun a ha => by rcases List.mem_append.mp ha with z | z
                        · exact h.b a z
                        · exact hr a z, by simp; omega, fun z => h.ne (List.append_eq_nil_iff.mp z).1⟩
theorem wa_of {L W : Nat} {n : NetD} {pr : List Nat} (h : LsOk L W n pr) : WA L fun r => wts n (pr ++ r) := fun r hr =>
  wts_ok h.ok (fun a ha => by
    rcases List.mem_append.mp ha with z | z
    · exact h.b a z
    · exact hr a z) fun z => h.ne (List.append_eq_nil_iff.mp z).1
theorem ok_text_share (t : T K mg) : FnOk P w K mg base CX0 8 t.text_share.f t.text_share.d p_text_share (spText t.aShare t.aNet) := by
  refine t.text_share.F.ok sc_text_share (fun vs H Q E h => ?_) (fun cdv A outer s H vs Q E hr h => ?_)
  · obtain ⟨v, x, y, n, L, W, pr, tx, rfl, _⟩ := h
    rfl
  · obtain ⟨v, x, y, n, L, W, pr, tx, rfl, N, lo, hx, hpl, hy, hb, htl, k⟩ := h
    refine ⟨_, (pss_cons (ps_set (i := 3) sc_text_share.nd rfl (Or.inl rfl) (pe_make t.M_Share (ok_Share_init t) (hr.mono (by decide)) rfl t.mg_Share t.Share_init.b .nil pass0 (pa_cons pe_int (pa_cons pe_int pa_nil))))
      (pss_cons (ps_set (i := 4) sc_text_share.nd rfl (Or.inl rfl) (pe_callTy (T := "tuple") call_tuple_of (by rfl) t.z_tuple (by decide +kernel) (pa_cons (pv 1) pa_nil)))
      (pss_cons (ps_for PassesOwn.never rfl (pi_tup (pv 2)) (pg_name (i := 5) sc_text_share.nd rfl (Or.inl rfl))
      (pss_cons (ps_set (i := 3) sc_text_share.nd rfl (Or.inl rfl) (pe_op (op_own (ok_Share_mul t) (hr.mono (by decide)) t.sf_Share t.o_mul t.i_mul t.Share_mul.b pass0) (pv 3) (pe_ix ix_tup (pe_call (ok_next_shares t) (hr.mono (by decide)) rfl t.next_shares.g t.next_shares.F.kp t.next_shares.b .nil pass0 (pa_cons (pv 0) (pa_cons (pv 4) pa_nil))) (pv 5) (fun _ _ => rfl))))
        (pss_one (ps_set (i := 4) sc_text_share.nd rfl (Or.inl rfl) (pe_op op_catA (pv 4) (pe_tup (pa_cons (pv 5) pa_nil)))))))
      (pss_one (ps_ret (pv 3)))))), ?_⟩
    obtain ⟨xa, xvs, rfl, hxa, hxv⟩ := hx
    obtain ⟨ya, yvs, rfl, hya, hyv⟩ := id hy
    have l1 := lo.ok.l1
    have l4 := lo.ok.l4
    have wa := wa_of lo
    intro z dz nz ndz ne
    refine ⟨z, dz, _, _, rfl, upd_same, by decide, fr_small 0 1 (by decide) (by have := p64; omega), rfl, ?_⟩
    rw [upd_upd, fr11]
    have E1 : Ex H (upd (upd H dz (.own z)) z (.ins t.aShare dz (shF 1))) := (Ex.new ndz).trans (Ex.new (by rw [upd_ne ne.symm]; exact nz))
    have hs1 : ShD t.aShare (.ref z) 1 (upd (upd H dz (.own z)) z (.ins t.aShare dz (shF 1))) := ⟨z, dz, rfl, upd_same⟩
    generalize upd (upd H dz (.own z)) z (.ins t.aShare dz (shF 1)) = H1 at *
    refine ⟨_, rfl, xa, xvs, rfl, Or.inl ⟨sq_of (E1 _ _ hxa), fun l5 hl5 => ?_⟩⟩
    have E2 := Ex.new (o := .tup xvs) hl5
    have hl : TxtD (.ref l5) pr (upd H1 l5 (.tup xvs)) := ⟨l5, xvs, rfl, upd_same, hxv.mono mono_nat (im_ex (E1.trans E2))⟩
    have hs2 := mono_sh _ _ _ _ (im_ex E2) hs1
    have E3 := E1.trans E2
    generalize upd H1 l5 (.tup xvs) = H2 at *
    refine ⟨_, rfl, ya, rfl, ⟨_, st_of (E3 _ _ hya)⟩, ?_⟩
    refine for_it (walk_tup (xs := yvs)) (fun i σ H' => ∃ (sv lv : V) (c : Option V), σ = [some v, some (.ref xa), some (.ref ya), some sv, some lv, c] ∧ Ex H H' ∧ ShD t.aShare sv (ts (fun r => wts n (pr ++ r)) [] (tx.take i)) H' ∧ TxtD lv (pr ++ tx.take i) H') ⟨_, _, _, rfl, E3, hs2, by rw [List.take_zero, List.append_nil]; exact hl⟩
      (fun i σ H' _ ⟨_, _, _, _, e, _⟩ => ex_t e (st_of hya)) (fun i y σ H7 H8 hi p yy => ?_) (fun σ H' p => ?_)
    · obtain ⟨sv, lv, c0, rfl, E7, hs7, hl7⟩ := p
      obtain ⟨rfl, hy⟩ := yy
      obtain ⟨c, hc, hcd⟩ := hyv.get' hy
      have hcd' : y = .int (c : Int) := hcd
      subst hcd'
      have hcl : c < L := hb c (List.mem_of_getElem? hc)
      have htk : ∀ a ∈ tx.take i, a < L := fun a ha => hb a (List.mem_of_mem_take ha)
      have lo' := pre_ok (r := tx.take i) lo hpl htk (by rw [List.length_take]; omega)
      have gl : Lo (9 * (tx.take i).length) (ts (fun r => wts n (pr ++ r)) [] (tx.take i)) := ts_lo l1 l4 wa _ _ (fun _ h => nomatch h) htk
      refine ⟨_, rfl, _, rfl, _, rfl, v, lv, n, L, W, _, rfl, mono_net _ _ _ _ (im_ex E7) N, lo', hl7, ?_⟩
      rintro w2 H9 E9 ⟨wa2, wvs, rfl, hwa2, hwv⟩
      have hlt : c < (shr (wts n (pr ++ tx.take i))).length := by rw [shr_len, lo'.wk.len]; exact hcl
      obtain ⟨u, hu1, hu2⟩ := hwv.get (List.getElem?_eq_getElem hlt)
      refine ⟨_, rfl, wa2, wvs, _, _, rfl, rfl, st_of hwa2, atI_nat hu1, ?_⟩
      refine own_go (mono_sh _ _ _ _ (im_ex E9) hs7) hu2 (gl.sz (by rw [List.length_take]; omega)) (sh_allSz l1 l4 lo'.wk _ (List.getElem_mem _)) fun v4 H4 E4 h4 => ?_
      refine ⟨_, rfl, _, rfl, sz_of (by simp), fun p2 hp2 => ?_⟩
      have E5 := Ex.new (o := .tup [V.int (c : Int)]) hp2
      refine cat_go (mono_txt _ _ _ _ (im_ex (E9.trans (E4.trans E5))) hl7) (one_txt upd_same) (by simp [List.length_take]; omega) fun z6 H6 E6 h6 => ?_
      refine ⟨_, _, _, rfl, E7.trans (E9.trans (E4.trans (E5.trans E6))), ?_, ?_⟩
      · rw [List.take_add_one, hc]
        show ShD t.aShare v4 (ts _ [] (tx.take i ++ [c])) H6
        rw [ts_snoc, List.nil_append, List.getD_eq_getElem?_getD, List.getElem?_eq_getElem hlt]
        exact mono_sh _ _ _ _ (im_ex (E5.trans E6)) h4
      · rw [List.take_add_one, hc, ← List.append_assoc]
        exact h6
    · obtain ⟨sv, lv, c0, rfl, E7, hs7, hl7⟩ := p
      rw [List.take_of_length_le (by rw [hyv.1]; exact Nat.le_refl _)] at hs7
      exact ⟨_, rfl, k _ _ E7 hs7⟩
end
end SA
set_option maxRecDepth 100000
set_option maxHeartbeats 4000000
/-! Chances, b: the round's parts. -/
namespace SA
open PySem PySem.Spec PyProof.Rows L2 Evl SAZ
theorem lc_flt {α β : Type} {R : Den β} {xs : List α} {pr : α → Bool} {f : α → β} {J : It} {n : Nat} {G : Hp → Prop} {Y : Nat → Hp → V → Hp → Prop} {g : TG} {tt : TT} {te : TE} {ws : List Nat} {σ : L2.St} {H1 : Hp} {D : Addr} {Qd : Hp → Prop} (w : Walk J n G Y) (hz : xs.length = n) (hn : n ≤ 100000) (hD : H1 D = none) (hG : ∀ H', Ex H1 H' → G H')
    (m : Mono R)
    (hs : ∀ i x H H' (Qy : VK) (Qn : Hp → Prop) (z : α), xs[i]? = some z → Ex H1 H → Y i H x H' → (pr z = true → ∀ y H4, Ex H H4 → R y (f z) H4 → Qy y H4) → (pr z = false → ∀ H3, Ex H H3 → Qn H3) →
      g x (wipe σ ws) H' fun σ2 H2 => wipe σ2 ws = wipe σ ws ∧ tt σ2 H2 fun b H3 => if b = true then te σ2 H3 Qy else Qn H3)
    (hd : ∀ acc H', Ex H1 H' → H' D = some (.lst acc) → AllD R acc ((xs.filter pr).map f) H' → Qd H') :
    ∃ W : Nat → Nat → Hp → Prop, (∃ m, W 0 m (upd H1 D (.lst []))) ∧ ∀ i m H, W i m H →
      (J.stop i H ∧ Qd H) ∨ (J.go i H ∧ ∃ Nx : Hp → Prop, (∀ H', Nx H' → ∃ m', m' < m ∧ W (i + 1) m' H') ∧ ∀ x H', J.yld i H x H' → g x (wipe σ ws) H' fun σ2 H2 => wipe σ2 ws = wipe σ ws ∧ tt σ2 H2 fun b H3 =>
        if b = true then te σ2 H3 fun y H4 => ∃ acc, H4 D = some (.lst acc) ∧ acc.length < sizeLine ∧ Nx (upd H4 D (.lst (acc ++ [y]))) else Nx H3) := by
  refine ⟨fun i m H => m = n - i ∧ i ≤ n ∧ Ex H1 H ∧ ∃ acc, H D = some (.lst acc) ∧ AllD R acc (((xs.take i).filter pr).map f) H, ⟨n, by simp, Nat.zero_le _, Ex.new hD, [], upd_same, AllD.nil⟩, ?_⟩
  rintro i m H ⟨rfl, hi, ex, acc, hacc, hp⟩
  by_cases hlt : i < n
  · refine .inr ⟨w.goes i H hlt (hG H ex), fun H' => i + 1 ≤ n ∧ Ex H1 H' ∧ ∃ acc, H' D = some (.lst acc) ∧ AllD R acc (((xs.take (i + 1)).filter pr).map f) H', fun H' p' => ⟨n - (i + 1), by omega, rfl, p'.1, p'.2.1, p'.2.2⟩, fun x H' y => ?_⟩
    have hi' : i < xs.length := by rw [hz]; exact hlt
    have hzi : xs[i]? = some xs[i] := List.getElem?_eq_getElem hi'
    have hal : acc.length ≤ n := by
      rw [hp.1, List.length_map]
      exact Nat.le_trans (List.length_filter_le _ _) (by rw [List.length_take]; omega)
    refine hs i x H H' (fun y H4 => ∃ acc, H4 D = some (.lst acc) ∧ acc.length < sizeLine ∧ (i + 1 ≤ n ∧ Ex H1 (upd H4 D (.lst (acc ++ [y]))) ∧ ∃ acc', upd H4 D (.lst (acc ++ [y])) D = some (.lst acc') ∧ AllD R acc' (((xs.take (i + 1)).filter pr).map f) (upd H4 D (.lst (acc ++ [y])))))
      (fun H' => i + 1 ≤ n ∧ Ex H1 H' ∧ ∃ acc, H' D = some (.lst acc) ∧ AllD R acc (((xs.take (i + 1)).filter pr).map f) H') xs[i] hzi ex (w.yields i H x H' hlt (hG H ex) y) (fun hpr y H4 e4 p4 => ?_) (fun hpr H3 e3 => ?_)
    · have im : Im H4 (upd H4 D (.lst (acc ++ [y]))) := Im.lst (e4 D _ hacc)
      refine ⟨acc, e4 D _ hacc, Nat.lt_of_le_of_lt hal (Nat.lt_of_lt_of_le (by omega) (show 100001 ≤ sizeLine by decide)), hlt, Ex.mut (ex.trans e4) hD, acc ++ [y], upd_same, ?_⟩
      rw [List.take_add_one, hzi, List.filter_append, List.map_append]
      have e1 : List.filter pr (some xs[i]).toList = [xs[i]] := by
        show List.filter pr [xs[i]] = _
        rw [List.filter_cons, if_pos hpr, List.filter_nil]
      rw [e1]
      exact (hp.mono m ((im_ex e4).trans im)).snoc (m _ _ _ _ im p4)
    · refine ⟨hlt, ex.trans e3, acc, e3 D _ hacc, ?_⟩
      rw [List.take_add_one, hzi, List.filter_append, List.map_append]
      have e1 : List.filter pr (some xs[i]).toList = [] := by
        show List.filter pr [xs[i]] = _
        rw [List.filter_cons, if_neg (by rw [hpr]; decide), List.filter_nil]
      rw [e1, List.map_nil, List.append_nil]
      exact hp.mono m (im_ex e3)
  · have e : i = n := by omega
    subst e
    rw [List.take_of_length_le (by omega)] at hp
    exact .inl ⟨w.stops H (hG H ex), hd acc H ex hacc hp⟩
/-! ### a round -/
def rdF (vn vl vp vd : V) : List (Str × V) := putF "chances" vd (putF "prompt" vp (putF "lesser" vl (putF "net" vn [])))
section
variable {vn vl vp vd : V}
theorem rf_net : (rdF vn vl vp vd).lookup ("net" : Str) = some vn := by
  unfold rdF
  rw [lookup_putF, if_neg (by decide +kernel), lookup_putF, if_neg (by decide +kernel), lookup_putF, if_neg (by decide +kernel), lookup_putF, if_pos rfl]
theorem rf_lesser : (rdF vn vl vp vd).lookup ("lesser" : Str) = some vl := by
  unfold rdF
  rw [lookup_putF, if_neg (by decide +kernel), lookup_putF, if_neg (by decide +kernel), lookup_putF, if_pos rfl]
theorem rf_prompt : (rdF vn vl vp vd).lookup ("prompt" : Str) = some vp := by
  unfold rdF
  rw [lookup_putF, if_neg (by decide +kernel), lookup_putF, if_pos rfl]
theorem rf_chances : (rdF vn vl vp vd).lookup ("chances" : Str) = some vd := by
  unfold rdF
  rw [lookup_putF, if_pos rfl]
theorem rf_none {m : Str} (h1 : ¬ m = "net") (h2 : ¬ m = "lesser") (h3 : ¬ m = "prompt") (h4 : ¬ m = "chances") : (rdF vn vl vp vd).lookup m = none := by
  unfold rdF
  rw [lookup_putF, if_neg h4, lookup_putF, if_neg h3, lookup_putF, if_neg h2, lookup_putF, if_neg h1]
  rfl
theorem rf_m1 : (rdF vn vl vp vd).lookup ("gather" : Str) = none := rf_none (by decide +kernel) (by decide +kernel) (by decide +kernel) (by decide +kernel)
theorem rf_m2 : (rdF vn vl vp vd).lookup ("end_by" : Str) = none := rf_none (by decide +kernel) (by decide +kernel) (by decide +kernel) (by decide +kernel)
theorem rf_m3 : (rdF vn vl vp vd).lookup ("go_on" : Str) = none := rf_none (by decide +kernel) (by decide +kernel) (by decide +kernel) (by decide +kernel)
end
structure RoundV (C CN : Addr) (n1 n2 : NetD) (pr : List Nat) (d : Addr) (H : Hp) (a dx : Addr) (vn vl vp : V) : Prop where
  at_ : H a = some (.ins C dx (rdF vn vl vp (.ref d)))
  n1 : NetAt CN vn n1 H
  n2 : NetAt CN vl n2 H
  pr : TxtD vp pr H
theorem mono_rdv {C CN : Addr} {n1 n2 : NetD} {pr : List Nat} {d : Addr} {H H' : Hp} {a dx : Addr} {vn vl vp : V} (i : Im H H') (h : RoundV C CN n1 n2 pr d H a dx vn vl vp) : RoundV C CN n1 n2 pr d H' a dx vn vl vp :=
  ⟨i _ _ rfl h.at_, mono_net _ _ _ _ i h.n1, mono_net _ _ _ _ i h.n2, mono_txt _ _ _ _ i h.pr⟩
def EntD (C : Addr) : Den Ent := PairD TxtD (ShD C)
theorem mono_ent {C : Addr} : Mono (EntD C) := mono_pair mono_txt mono_sh
def keyT (r : List Nat) : List L2.Key := r.map fun a : Nat => Sum.inl (a : Int)
theorem keyT_inj : ∀ {r s : List Nat}, keyT r = keyT s → r = s
  | [], [], _ => rfl
  | [], _ :: _, h => by simp [keyT] at h
  | _ :: _, [], h => by simp [keyT] at h
  | a :: r, b :: s, h => by
    simp only [keyT, List.map_cons, List.cons.injEq, Sum.inl.injEq] at h
    rw [keyT_inj (r := r) (s := s) h.2, show a = b by omega]
theorem keyT_kV (r : List Nat) : (keyT r).map kV = r.map fun n : Nat => V.int (n : Int) := by
  unfold keyT
  rw [List.map_map]
  rfl
def DictD {β : Type} (R : Den β) (H : Hp) (d : Addr) (l : List (List Nat × β)) : Prop := ∃ kvs, H d = some (.dT kvs) ∧ kvs.map (·.1) = l.map (fun x => keyT x.1) ∧ AllD R (kvs.map (·.2)) (l.map (·.2)) H
theorem DictD.ex {β : Type} {R : Den β} {H H' : Hp} {d : Addr} {l : List (List Nat × β)} (m : Mono R) (e : Ex H H') : DictD R H d l → DictD R H' d l := fun ⟨kvs, h, h1, h2⟩ => ⟨kvs, e _ _ h, h1, h2.mono m (im_ex e)⟩
theorem valV_none {kvs : List (List L2.Key × V)} {k : List L2.Key} (h : k ∉ kvs.map (·.1)) : valV kvs k = none := by
  unfold valV
  rw [List.find?_eq_none.mpr]
  · rfl
  · intro x hx
    simp only [decide_eq_true_eq]
    exact fun e => h (List.mem_map.mpr ⟨x, hx, e⟩)
theorem key_new {β : Type} {kvs : List (List L2.Key × V)} {l : List (List Nat × β)} {r : List Nat} (h : kvs.map (·.1) = l.map (fun x => keyT x.1)) (hr : r ∉ l.map (·.1)) : valV kvs (keyT r) = none := by
  refine valV_none ?_
  rw [h]
  intro z
  obtain ⟨x, hx, e⟩ := List.mem_map.mp z
  exact hr (List.mem_map.mpr ⟨x, hx, keyT_inj e⟩)
theorem off_im {d : Addr} {H H' : Hp} {kvs : List (List L2.Key × V)} (h : H d = some (.dT kvs)) (o : Off d H H') : Im H H' := fun a u i e => by
  by_cases q : a = d
  · subst q
    rw [h] at e
    cases e
    cases i
  · exact o a u q e
theorem off_rd {d : Addr} {H H' : Hp} {kvs : List (List L2.Key × V)} (h : H d = some (.dT kvs)) (o : Off d H H') {a : Addr} {u : HO} (hu : ∀ q, u ≠ .dT q) (r : Rd H a u) : Rd H' a u := by
  have hne : a ≠ d := fun z => by
    subst z
    rcases r with r | ⟨ob, r⟩
    · rw [h] at r
      cases r
      exact hu _ rfl
    · rw [h] at r
      cases r
  rcases r with r | ⟨ob, r⟩
  · exact Or.inl (o a _ hne r)
  · exact Or.inr ⟨ob, o a _ hne r⟩
theorem off_sq {K : PySem.W.Frag} {d : Addr} {H H' : Hp} {kvs : List (List L2.Key × V)} (h : H d = some (.dT kvs)) (o : Off d H H') {k : Bool} {a : Addr} {xs : List V} (q : Sq k K H a xs) : Sq k K H' a xs := by
  unfold Sq at q ⊢
  cases k with
  | true =>
    rw [if_pos rfl] at q ⊢
    rcases q with q | q
    · exact Or.inl (off_rd h o (fun _ z => nomatch z) q)
    · exact Or.inr q
  | false =>
    rw [if_neg (by decide)] at q ⊢
    rcases q with q | q
    · exact Or.inl (off_rd h o (fun _ z => nomatch z) q)
    · exact Or.inr q
theorem Off.refl (d : Addr) (H : Hp) : Off d H H := fun _ _ _ h => h
theorem pos_app (a b : List Ent) : pos (a ++ b) = pos a ++ pos b := List.filter_append ..
theorem pos_yes {e : Ent} (h : 0 < e.2) : pos [e] = [e] := by
  unfold pos
  rw [List.filter_cons, if_pos (by simpa using h), List.filter_nil]
theorem pos_no {e : Ent} (h : ¬ 0 < e.2) : pos [e] = [] := by
  unfold pos
  rw [List.filter_cons, if_neg (by simpa using h), List.filter_nil]
theorem nodup_new {l a b : List Ent} {e : Ent} (he : 0 < e.2) (h : ((l ++ pos (a ++ e :: b)).map (·.1)).Nodup) : e.1 ∉ (l ++ pos a).map (·.1) := by
  have e1 : pos (a ++ e :: b) = pos a ++ (e :: pos b) := by
    rw [show a ++ e :: b = a ++ ([e] ++ b) from rfl, pos_app, pos_app, pos_yes he]
    rfl
  rw [e1, ← List.append_assoc, List.map_append, List.map_cons] at h
  intro z
  exact (List.nodup_append.mp h).2.2 _ z _ List.mem_cons_self rfl
section
variable {P : Program} {w : World} {K : PySem.W.Frag} {mg : Str → Option Value} {base : Heap}
def spRound_init (C : Addr) : Sp := fun vs H Q _ => ∃ (x dx : Addr) (vn vl vp : V) (pr : List Nat), vs = [.ref x, vn, vl, vp] ∧ H x = some (.ins C dx []) ∧ TxtD vp pr H ∧
  ∀ H' d, Off x H H' → H' x = some (.ins C dx (rdF vn vl vp (.ref d))) → H' d = some (.dT []) → d ≠ x → H d = none → Q .non H'
theorem ok_Round_init (t : T K mg) : FnOk P w K mg base CX0 1 t.Round_init.f t.Round_init.d p_Round_init (spRound_init t.aRound) := by
  refine t.Round_init.F.ok sc_Round_init (fun vs H Q E h => ?_) (fun cdv A outer s H vs Q E hr h => ?_)
  · obtain ⟨x, dx, vn, vl, vp, pr, rfl, _⟩ := h
    rfl
  · obtain ⟨x, dx, vn, vl, vp, pr, rfl, hx, hp, q⟩ := h
    refine ⟨_, (pss_cons (ps_fld (pv 0) (pv 1) rfl)
      (pss_cons (ps_fld (pv 0) (pv 2) rfl)
      (pss_cons (ps_fld (pv 0) (pe_callTy (T := "tuple") call_tuple_of (by rfl) t.z_tuple (by decide +kernel) (pa_cons (pv 3) pa_nil)) rfl)
      (pss_one (ps_fld (pv 0) pe_dnewT rfl))))), ?_⟩
    obtain ⟨pa, rfl, hpa⟩ := txt_tup hp
    have nx : pa ≠ x := fun z => by
      subst z
      rw [hx] at hpa
      cases hpa
    refine ⟨_, rfl, _, rfl, x, t.aRound, dx, _, rfl, hx, t.cl_Round, t.na_Round_net, (by show 0 < 1000; decide), ?_⟩
    refine ⟨_, rfl, _, rfl, x, t.aRound, dx, _, rfl, upd_same, t.cl_Round, t.na_Round_lesser, (by show 1 < 1000; decide), ?_⟩
    rw [upd_upd]
    refine ⟨_, rfl, pa, _, rfl, Or.inr ⟨st_of (by rw [upd_ne nx]; exact hpa), ?_⟩⟩
    refine ⟨_, rfl, x, t.aRound, dx, _, rfl, upd_same, t.cl_Round, t.na_Round_prompt, (by show 2 < 1000; decide), ?_⟩
    rw [upd_upd]
    intro d hd
    have ndx : d ≠ x := fun z => by
      subst z
      rw [upd_same] at hd
      cases hd
    have hd0 : H d = none := by rw [upd_ne ndx] at hd; exact hd
    refine ⟨_, rfl, x, t.aRound, dx, _, rfl, by rw [upd_ne ndx.symm]; exact upd_same, t.cl_Round, t.na_Round_chances, (by show 3 < 1000; decide), ?_⟩
    refine q _ d ?_ upd_same (by rw [upd_ne ndx]; exact upd_same) ndx hd0
    exact (Off.upd.trans (Off.of (Ex.new hd))).trans Off.upd
def spGather (C CN CR : Addr) : Sp := fun vs H Q _ => ∃ (a dx : Addr) (vn vl vp u x : V) (n1 n2 : NetD) (pr r : List Nat) (s : Rat) (d : Addr) (l : List Ent), vs = [.ref a, u, x] ∧ RoundV CR CN n1 n2 pr d H a dx vn vl vp ∧ TxtD u r H ∧ ShD C x s H ∧ Sz s ∧ DictD (ShD C) H d l ∧ (0 < s → r ∉ l.map (·.1)) ∧ l.length ≤ 1000 ∧
  ∀ H', Off d H H' → DictD (ShD C) H' d (l ++ pos [(r, s)]) → Q .non H'
theorem ok_Round_gather (t : T K mg) : FnOk P w K mg base CX0 5 t.Round_gather.f t.Round_gather.d p_Round_gather (spGather t.aShare t.aNet t.aRound) := by
  refine t.Round_gather.F.ok sc_Round_gather (fun vs H Q E h => ?_) (fun cdv A outer s H vs Q E hr h => ?_)
  · obtain ⟨a, dx, vn, vl, vp, u, x, n1, n2, pr, r, s, d, l, rfl, _⟩ := h
    rfl
  · obtain ⟨a, dx, vn, vl, vp, u, x, n1, n2, pr, r, s, d, l, rfl, hR, hu, hx, sz, hd, hnew, hl, q⟩ := h
    refine ⟨_, (pss_one (ps_if (pt_cmpR op_gt (pe_fld (pv 2) rfl) pe_int (nomark _))
      (pss_one (ps_dput (hu_of hr) (pe_fld (pv 0) rfl) (pv 1) (pe_op (op_own (ok_Share_add t) (hr.mono (by decide)) t.sf_Share t.o_add t.i_add t.Share_add.b pass0) (pe_dget2 (hu_of hr) (pe_fld (pv 0) rfl) (pv 1) (pe_make t.M_Share (ok_Share_init t) (hr.mono (by decide)) rfl t.mg_Share t.Share_init.b .nil pass0 (pa_cons pe_int (pa_cons pe_int pa_nil))) ⟨rfl, rfl, rfl, rfl⟩) (pv 2)) rfl))
      pss_nil)), ?_⟩
    obtain ⟨b, dy, rfl, hb⟩ := id hx
    obtain ⟨ua, rfl, hua⟩ := txt_tup hu
    obtain ⟨kvs, hkv, hk1, hk2⟩ := id hd
    refine ⟨_, rfl, b, _, dy, _, _, rfl, hb, t.cl_Share, t.na_Share_over, sh_over s, _, _, rfl, rfl, _, rfl, ?_⟩
    by_cases hp : 0 < s
    · have hp' : 0 < s.num := num_pos.mpr hp
      rw [decide_eq_true hp']
      refine iteT ?_
      have hvn := key_new hk1 (hnew hp)
      refine ⟨_, rfl, a, _, dx, _, _, rfl, hR.at_, t.cl_Round, t.na_Round_chances, rf_chances, d, rfl, Or.inr ⟨kvs, Or.inl hkv⟩, _, rfl, ?_⟩
      intro z dz nz ndz ne
      refine ⟨z, dz, _, _, rfl, upd_same, by decide, fr_small 0 1 (by decide) (by have := p64; omega), rfl, ?_⟩
      rw [upd_upd, fr01]
      have E1 : Ex H (upd (upd H dz (.own z)) z (.ins t.aShare dz (shF 0))) := (Ex.new ndz).trans (Ex.new (by rw [upd_ne ne.symm]; exact nz))
      have hs1 : ShD t.aShare (.ref z) 0 (upd (upd H dz (.own z)) z (.ins t.aShare dz (shF 0))) := ⟨z, dz, rfl, upd_same⟩
      generalize upd (upd H dz (.own z)) z (.ins t.aShare dz (shF 0)) = H1 at *
      refine ⟨none, ?_, ?_⟩
      · have g := DGet.t (k := keyT r) (E1 _ _ hkv) (b := ua) (by rw [keyT_kV]; exact E1 _ _ hua)
        rw [hvn] at g
        exact g
      refine ⟨_, rfl, ?_⟩
      refine own_go hs1 (mono_sh _ _ _ _ (im_ex E1) hx) ((Lo.zero 0).sz (by decide)) sz fun v4 H4 E4 h4 => ?_
      rw [Rat.zero_add] at h4
      have E5 := E1.trans E4
      refine ⟨_, rfl, a, _, dx, _, _, rfl, (mono_rdv (im_ex E5) hR).at_, t.cl_Round, t.na_Round_chances, rf_chances, _, rfl, d, _, rfl, DPut.t (k := keyT r) (E5 _ _ hkv) (by rw [keyT_kV]; exact E5 _ _ hua) (sz_lt (by
        have := congrArg List.length hk1
        simp at this
        omega)), ?_⟩
      rw [putK_new v4 hvn]
      have im := Im.dct (o := .dT (kvs ++ [(keyT r, v4)])) (E5 _ _ hkv)
      refine q _ ((Off.of E5).trans Off.upd) ?_
      rw [pos_yes (e := (r, s)) hp]
      refine ⟨_, upd_same, by rw [List.map_append, List.map_append, hk1]; rfl, ?_⟩
      rw [List.map_append, List.map_append]
      exact (hk2.mono mono_sh ((im_ex E5).trans im)).snoc (mono_sh _ _ _ _ im h4)
    · have hp' : ¬ 0 < s.num := fun z => hp (num_pos.mp z)
      rw [decide_eq_false hp']
      refine iteF ?_
      refine q _ (Off.refl _ _) ?_
      rw [pos_no (e := (r, s)) hp, List.append_nil]
      exact hd
def spEndBy (K : PySem.W.Frag) (C CN CR : Addr) : Sp := fun vs H Q _ => ∃ (a dx : Addr) (vn vl vp u x : V) (n1 n2 : NetD) (pr r : List Nat) (s : Rat) (d : Addr) (l : List Ent) (k : Bool) (b : Addr) (us : List V) (ps : List Rat), vs = [.ref a, u, x, .ref b] ∧ RoundV CR CN n1 n2 pr d H a dx vn vl vp ∧ TxtD u r H ∧ ShD C x s H ∧ Sz s ∧ Sq k K H b us ∧ AllD (ShD C) us ps H ∧ (∀ p ∈ ps, Sz p ∧ Sz (s * p)) ∧ ps.length ≤ 100 ∧ DictD (ShD C) H d l ∧ ((l ++ pos (ext r s 0 ps)).map (·.1)).Nodup ∧ l.length + ps.length ≤ 1000 ∧ r.length ≤ 100 ∧
  ∀ H', Off d H H' → DictD (ShD C) H' d (l ++ pos (ext r s 0 ps)) → Q .non H'
theorem ok_Round_end_by (t : T K mg) : FnOk P w K mg base CX0 6 t.Round_end_by.f t.Round_end_by.d p_Round_end_by (spEndBy K t.aShare t.aNet t.aRound) := by
  refine t.Round_end_by.F.ok sc_Round_end_by (fun vs H Q E h => ?_) (fun cdv A outer s H vs Q E hr h => ?_)
  · obtain ⟨a, dx, vn, vl, vp, u, x, n1, n2, pr, r, s, d, l, k, b, us, ps, rfl, _⟩ := h
    rfl
  · obtain ⟨a, dx, vn, vl, vp, u, x, n1, n2, pr, r, s, d, l, k, b, us, ps, rfl, hR, hu, hx, sz, hb, hus, hps, hpl, hd, hnd, hl, hrl, q⟩ := h
    refine ⟨_, (pss_one (ps_for PassesOwn.never rfl (SAZ.pi_y (by rfl) t.z_enumerate (pa_cons (pv 3) pa_nil)) (pg_tup rfl (pgs_cons (pg_name (i := 4) sc_Round_end_by.nd rfl (Or.inl rfl)) (pgs_cons (pg_name (i := 5) sc_Round_end_by.nd rfl (Or.inl rfl)) pgs_nil)))
      (pss_one (ps_expr (pe_meth (pv 0) t.cl_Round t.Round_gather.m (ok_Round_gather t) (hr.mono (by decide)) t.Round_gather.b .nil pass0 (pa_cons (pe_op op_catA (pv 1) (pe_tup (pa_cons (pv 4) pa_nil))) (pa_cons (pe_op (op_own (ok_Share_mul t) (hr.mono (by decide)) t.sf_Share t.o_mul t.i_mul t.Share_mul.b pass0) (pv 2) (pv 5)) pa_nil))))))), ?_⟩
    obtain ⟨kvs0, hkv0, _⟩ := id hd
    refine ⟨_, rfl, b, k, us, rfl, hb, ?_⟩
    refine for_it (walk_y (xs := us)) (fun i σ H' => ∃ (c1 c2 : Option V), σ = [some (.ref a), some u, some x, some (.ref b), c1, c2] ∧ Off d H H' ∧ DictD (ShD t.aShare) H' d (l ++ pos ((ext r s 0 ps).take i))) ⟨_, _, rfl, Off.refl _ _, by rw [List.take_zero]; show DictD _ H d (l ++ []); rw [List.append_nil]; exact hd⟩
      (fun i σ H' _ ⟨_, _, _, o, _⟩ => off_sq hkv0 o hb) (fun i y σ H7 H8 hi p yy => ?_) (fun σ H' p => ?_)
    · obtain ⟨c1, c2, rfl, o7, d7⟩ := p
      obtain ⟨T1, z1, z2, rfl, hT, rfl, h1, h2⟩ := yy
      cases h1
      obtain ⟨p, hp, hpd⟩ := hus.get' h2
      have im7 := off_im hkv0 o7
      have E1 := Ex.new (o := .tup [V.int ((i : Nat) : Int), z2]) hT
      have im8 := im7.trans (im_ex E1)
      obtain ⟨sp, ssp⟩ := hps p (List.mem_of_getElem? hp)
      refine ⟨T1, _, rfl, st_of upd_same, rfl, _, _, rfl, _, _, rfl, rfl, ?_⟩
      have R8 := mono_rdv im8 hR
      refine ⟨_, rfl, a, dx, _, rfl, R8.at_, rf_m1, _, rfl, _, rfl, sz_of (by simp), fun p2 hp2 => ?_⟩
      have E2 := Ex.new (o := .tup [V.int ((i : Nat) : Int)]) hp2
      refine cat_go (mono_txt _ _ _ _ (im8.trans (im_ex E2)) hu) (one_txt upd_same) (by simp; omega) fun z6 H6 E6 h6 => ?_
      have E26 := E2.trans E6
      refine ⟨_, rfl, _, rfl, own_go (mono_sh _ _ _ _ (im8.trans (im_ex E26)) hx) (mono_sh _ _ _ _ (im8.trans (im_ex E26)) hpd) sz sp fun v4 H4 E4 h4 => ?_⟩
      have E9 := E1.trans (E26.trans E4)
      have hg : (ext r s 0 ps)[i]? = some (r ++ [i], s * p) := by
        rw [ext_get hp, Nat.zero_add]
      have hil := (List.getElem?_eq_some_iff.mp hg).1
      refine ⟨a, dx, vn, vl, vp, _, _, n1, n2, pr, r ++ [i], s * p, d, _, rfl, mono_rdv (im_ex (E26.trans E4)) R8, mono_txt _ _ _ _ (im_ex E4) h6, h4, ssp, d7.ex mono_sh E9, fun hpos => ?_, ?_, fun H10 o10 d10 => ?_⟩
      · refine nodup_new (e := (r ++ [i], s * p)) (b := (ext r s 0 ps).drop (i + 1)) hpos ?_
        have e1 : (ext r s 0 ps).take i ++ (r ++ [i], s * p) :: (ext r s 0 ps).drop (i + 1) = ext r s 0 ps := by
          have e2 := List.take_append_drop i (ext r s 0 ps)
          rw [List.drop_eq_getElem_cons hil] at e2
          rw [List.getElem?_eq_getElem hil] at hg
          rw [Option.some.inj hg] at e2
          exact e2
        rw [e1]
        exact hnd
      · rw [List.length_append]
        have := List.length_filter_le (fun x : Ent => decide (0 < x.2)) ((ext r s 0 ps).take i)
        rw [List.length_take] at this
        have h3 : (pos ((ext r s 0 ps).take i)).length ≤ min i (ext r s 0 ps).length := this
        rw [ext_len] at h3
        omega
      · refine ⟨_, _, rfl, (o7.trans (Off.of E9)).trans o10, ?_⟩
        rw [List.take_add_one, hg, pos_app, ← List.append_assoc]
        exact d10
    · obtain ⟨c1, c2, rfl, o7, d7⟩ := p
      rw [List.take_of_length_le (by rw [ext_len, hus.1]; exact Nat.le_refl _)] at d7
      exact q _ o7 d7
end
end SA
set_option maxRecDepth 100000
set_option maxHeartbeats 4000000
/-! Chances, c: go_on and the round. -/
namespace SA
open PySem PySem.Spec PyProof.Rows L2 Evl SAZ
section
variable {P : Program} {w : World} {K : PySem.W.Frag} {mg : Str → Option Value} {base : Heap}
abbrev wW (n : NetD) (pr : List Nat) : List Nat → List Int := fun r => wts n (pr ++ r)
def spGoOn (C CN CR : Addr) : Sp := fun vs H Q _ => ∃ (a dx : Addr) (vn vl vp u x : V) (n1 n2 : NetD) (L W1 W2 : Nat) (pr r : List Nat) (s : Rat) (d : Addr) (l : List Ent), vs = [.ref a, u, x] ∧ RoundV CR CN n1 n2 pr d H a dx vn vl vp ∧ LsOk L W1 n1 pr ∧ LsOk L W2 n2 pr ∧ pr.length ≤ 100 ∧ TxtD u r H ∧ (∀ b ∈ r, b < L) ∧ r.length ≤ 90 ∧ ShD C x s H ∧ Lo 1000 s ∧ DictD (ShD C) H d l ∧ l.length ≤ 900 ∧
  ((l ++ goE (wW n1 pr) (wW n2 pr) (r, s)).map (·.1)).Nodup ∧ ∀ v' H', Off d H H' → DictD (ShD C) H' d (l ++ goE (wW n1 pr) (wW n2 pr) (r, s)) → LstD (EntD C) v' (goA (wW n1 pr) (wW n2 pr) (r, s)) H' → Q v' H'
theorem ok_Round_go_on (t : T K mg) : FnOk P w K mg base CX0 8 t.Round_go_on.f t.Round_go_on.d p_Round_go_on (spGoOn t.aShare t.aNet t.aRound) := by
  refine t.Round_go_on.F.ok sc_Round_go_on (fun vs H Q E h => ?_) (fun cdv A outer s H vs Q E hr h => ?_)
  · obtain ⟨a, dx, vn, vl, vp, u, x, n1, n2, L, W1, W2, pr, r, s, d, l, rfl, _⟩ := h
    rfl
  · obtain ⟨a, dx, vn, vl, vp, u, x, n1, n2, L, W1, W2, pr, r, s, d, l, rfl, hR, lo1, lo2, hpl, hu, hrb, hrl, hx, los, hd, hl, hnd, q⟩ := h
    refine ⟨_, (pss_cons (ps_set (i := 3) sc_Round_go_on.nd rfl (Or.inl rfl) (pe_call (ok_next_shares t) (hr.mono (by decide)) rfl t.next_shares.g t.next_shares.F.kp t.next_shares.b .nil pass0 (pa_cons (pe_fld (pv 0) rfl) (pa_cons (pe_op op_catA (pe_fld (pv 0) rfl) (pv 1)) pa_nil))))
      (pss_cons (ps_set (i := 4) sc_Round_go_on.nd rfl (Or.inl rfl) (pe_call (ok_next_shares t) (hr.mono (by decide)) rfl t.next_shares.g t.next_shares.F.kp t.next_shares.b .nil pass0 (pa_cons (pe_fld (pv 0) rfl) (pa_cons (pe_op op_catA (pe_fld (pv 0) rfl) (pv 1)) pa_nil))))
      (pss_cons (ps_set (i := 5) sc_Round_go_on.nd rfl (Or.inl rfl) (pe_call (ok_shares_above t) (hr.mono (by decide)) rfl t.shares_above.g t.shares_above.F.kp t.shares_above.b .nil pass0 (pa_cons (pv 3) (pa_cons (pv 4) pa_nil))))
      (pss_cons (ps_set (i := 6) sc_Round_go_on.nd rfl (Or.inl rfl) (pe_make t.M_Share (ok_Share_init t) (hr.mono (by decide)) rfl t.mg_Share t.Share_init.b .nil pass0 (pa_cons pe_int (pa_cons pe_int pa_nil))))
      (pss_cons (ps_for PassesOwn.never rfl (pi_list (pv 5)) (pg_name (i := 7) sc_Round_go_on.nd rfl (Or.inl rfl))
      (pss_one (ps_set (i := 6) sc_Round_go_on.nd rfl (Or.inl rfl) (pe_op (op_own (ok_Share_add t) (hr.mono (by decide)) t.sf_Share t.o_add t.i_add t.Share_add.b pass0) (pv 6) (pv 7)))))
      (pss_cons (ps_if (pt_cmpR op_gt (pe_fld (pv 6) rfl) pe_int (nomark _))
      (pss_one (ps_expr (pe_meth (pv 0) t.cl_Round t.Round_end_by.m (ok_Round_end_by t) (hr.mono (by decide)) t.Round_end_by.b .nil pass0 (pa_cons (pv 1) (pa_cons (pv 2) (pa_cons (pv 5) pa_nil))))))
      pss_nil)
      (pss_one (ps_ret (pe_lc (own := [("letter", 8), ("p", 9), ("q", 10)]) (g := (gTup K 2 (gCons (gName 8) (gCons (gTup K 2 (gCons (gName 9) (gCons (gName 10) gNil))) gNil)))) (tt := tYes) (te := (tTup (tCons (tOp (rCatA K) _ _) (tCons _ tNil)))) rfl sc_Round_go_on.nd (SAZ.pi_w (by rfl) t.z_enumerate (by rfl) t.z_zip (pa_cons (pv 3) (pa_cons (pv 4) pa_nil))) (blkOk_by (own := [("letter", 8), ("p", 9), ("q", 10)]) (N := n_Round_go_on) (sc := defScope st_Round_go_on) (by decide +kernel)) (fun _ _ _ _ _ => (pg_tup rfl (pgs_cons (pg_name (i := 8) sc_Round_go_on.nd rfl (Or.inl rfl)) (pgs_cons (pg_tup rfl (pgs_cons (pg_name (i := 9) sc_Round_go_on.nd rfl (Or.inl rfl)) (pgs_cons (pg_name (i := 10) sc_Round_go_on.nd rfl (Or.inl rfl)) pgs_nil))) pgs_nil)))) (fun _ _ _ _ _ => pts_nil) (fun _ _ _ _ _ => (pe_tup (pa_cons (pe_op op_catA (pv 1) (pe_tup (pa_cons (pv 8) pa_nil))) (pa_cons (pe_op (op_own (ok_Share_mul t) (hr.mono (by decide)) t.sf_Share t.o_mul t.i_mul t.Share_mul.b pass0) (pv 2) (pe_call (ok_lesser_of t) (hr.mono (by decide)) rfl t.lesser_of.g t.lesser_of.F.kp t.lesser_of.b .nil pass0 (pa_cons (pv 9) (pa_cons (pv 10) pa_nil)))) pa_nil))))))))))))), ?_⟩
    have l1 := lo1.ok.l1
    have l4 := lo1.ok.l4
    have o1 := pre_ok (r := r) lo1 hpl hrb (by omega)
    have o2 := pre_ok (r := r) lo2 hpl hrb (by omega)
    have k1 := o1.wk
    have k2 := o2.wk
    have szs := los.sz (by decide)
    obtain ⟨kvs0, hkv0, _⟩ := id hd
    refine ⟨_, rfl, a, _, dx, _, _, rfl, hR.at_, t.cl_Round, t.na_Round_net, rf_net, _, rfl, a, _, dx, _, _, rfl, hR.at_, t.cl_Round, t.na_Round_prompt, rf_prompt, _, rfl, ?_⟩
    refine cat_go hR.pr hu (by omega) fun z1 H1 E1 h1 => ?_
    refine ⟨vn, z1, n1, L, W1, pr ++ r, rfl, mono_net _ _ _ _ (im_ex E1) hR.n1, o1, h1, ?_⟩
    intro v2 H2 E2 h2
    have R2 := mono_rdv (im_ex (E1.trans E2)) hR
    refine ⟨_, rfl, a, _, dx, _, _, rfl, R2.at_, t.cl_Round, t.na_Round_lesser, rf_lesser, _, rfl, a, _, dx, _, _, rfl, R2.at_, t.cl_Round, t.na_Round_prompt, rf_prompt, _, rfl, ?_⟩
    refine cat_go R2.pr (mono_txt _ _ _ _ (im_ex (E1.trans E2)) hu) (by omega) fun z3 H3 E3 h3 => ?_
    refine ⟨vl, z3, n2, L, W2, pr ++ r, rfl, mono_net _ _ _ _ (im_ex E3) R2.n2, o2, h3, ?_⟩
    intro v4 H4 E4 h4
    have h2' := mono_tup mono_sh _ _ _ _ (im_ex (E3.trans E4)) h2
    have hl12 : (shr (wts n1 (pr ++ r))).length = (shr (wts n2 (pr ++ r))).length := by rw [shr_len, shr_len, k1.len, k2.len]
    have hl1 : (shr (wts n1 (pr ++ r))).length = L := by rw [shr_len, k1.len]
    refine ⟨_, rfl, _, rfl, v2, v4, _, _, rfl, h2', h4, hl12, by omega, sh_allSz l1 l4 k1, sh_allSz l1 l4 k2, ?_⟩
    rintro v5 H5 E5 ⟨aa, avs, rfl, haa, hav⟩
    have E05 : Ex H H5 := E1.trans (E2.trans (E3.trans (E4.trans E5)))
    have h2'' := mono_tup mono_sh _ _ _ _ (im_ex E5) h2'
    have h4'' := mono_tup mono_sh _ _ _ _ (im_ex E5) h4
    clear h1 h2 h3 h2' h4 E1 E2 E3 E4 E5 R2
    have gE : goE (wW n1 pr) (wW n2 pr) (r, s) = if 0 < (abv (shr (wts n1 (pr ++ r))) (shr (wts n2 (pr ++ r)))).sum then pos (ext r s 0 (abv (shr (wts n1 (pr ++ r))) (shr (wts n2 (pr ++ r))))) else [] := rfl
    have gA : goA (wW n1 pr) (wW n2 pr) (r, s) = ext r s 0 (lss (shr (wts n1 (pr ++ r))) (shr (wts n2 (pr ++ r)))) := rfl
    rw [gE] at hnd q
    rw [gA] at q
    have loS := lo_abvsum l1 l4 k1 k2
    have loA := lo_abv l1 l4 k1 k2
    have lo1' := lo_shr l1 l4 k1
    have lo2' := lo_shr l1 l4 k2
    clear gE gA
    generalize shr (wts n1 (pr ++ r)) = ps at *
    generalize shr (wts n2 (pr ++ r)) = qs at *
    have hal : (abv ps qs).length = L := by rw [abv_len hl12]; exact hl1
    intro z dz nz ndz ne
    refine ⟨z, dz, _, _, rfl, upd_same, by decide, fr_small 0 1 (by decide) (by have := p64; omega), rfl, ?_⟩
    rw [upd_upd, fr01]
    have E6 : Ex H5 (upd (upd H5 dz (.own z)) z (.ins t.aShare dz (shF 0))) := (Ex.new ndz).trans (Ex.new (by rw [upd_ne ne.symm]; exact nz))
    have hs6 : ShD t.aShare (.ref z) 0 (upd (upd H5 dz (.own z)) z (.ins t.aShare dz (shF 0))) := ⟨z, dz, rfl, upd_same⟩
    generalize upd (upd H5 dz (.own z)) z (.ins t.aShare dz (shF 0)) = H6 at *
    refine ⟨_, rfl, aa, rfl, ⟨_, sq_of (E6 _ _ haa)⟩, ?_⟩
    refine for_it (walk_list (xs := avs)) (fun i σ H' => ∃ (rv : V) (c : Option V), σ = [some (.ref a), some u, some x, some v2, some v4, some (.ref aa), some rv, c, none, none, none] ∧ Ex H5 H' ∧ ShD t.aShare rv ((abv ps qs).take i).sum H') ⟨_, _, rfl, E6, hs6⟩
      (fun i σ H' _ ⟨_, _, _, e, _⟩ => ex_l e (sq_of haa)) (fun i y σ H7 H8 hi p yy => ?_) (fun σ H' p => ?_)
    · obtain ⟨rv, c, rfl, E7, h7⟩ := p
      obtain ⟨rfl, hy⟩ := yy
      obtain ⟨p, hp, hpd⟩ := hav.get' hy
      refine ⟨_, rfl, _, rfl, own_go h7 (mono_sh _ _ _ _ (im_ex E7) hpd) ((loS i).sz (by decide)) ((loA p (List.mem_of_getElem? hp)).sz (by decide)) fun v9 H9 E9 h9 => ?_⟩
      rw [← sumR_take hp] at h9
      exact ⟨v9, _, rfl, E7.trans E9, h9⟩
    · obtain ⟨rv, c, rfl, E7, h7⟩ := p
      rw [List.take_of_length_le (by rw [hav.1]; exact Nat.le_refl _)] at h7
      -- what comes behind, the dict being as it is to be
      have hfin : ∀ H8, Off d H H8 → Im H5 H8 → DictD (ShD t.aShare) H8 d (l ++ if 0 < (abv ps qs).sum then pos (ext r s 0 (abv ps qs)) else []) → ∀ c,
          tLc (SAZ.iW K (tCons (tVar 3) (tCons (tVar 4) tNil))) (gTup K 2 (gCons (gName 8) (gCons (gTup K 2 (gCons (gName 9) (gCons (gName 10) gNil))) gNil))) tYes
            (tTup (tCons (tOp (rCatA K) (tVar 1) (tTup (tCons (tVar 8) tNil))) (tCons (tOp (rOwn t.aShare (spShOp t.aShare fun p q => p * q) E0) (tVar 2) (tCall (spLesser t.aShare) [] E0 (tCons (tVar 9) (tCons (tVar 10) tNil)))) tNil))) [8, 9, 10]
            [some (.ref a), some u, some x, some v2, some v4, some (.ref aa), some rv, c, none, none, none] H8 Q := by
        intro H8 o8 i8 d8 c
        obtain ⟨b2, us, rfl, hb2, hus⟩ := sq_tup (K := K) (mono_tup mono_sh _ _ _ _ i8 h2'')
        obtain ⟨b4, ws, rfl, hb4, hws⟩ := sq_tup (K := K) (mono_tup mono_sh _ _ _ _ i8 h4'')
        have i08 := (im_ex E05).trans i8
        refine ⟨_, rfl, _, rfl, b2, b4, false, false, us, ws, rfl, hb2, hb4, fun D hD => ?_⟩
        refine lc_den (R := EntD t.aShare) (zs := ext r s 0 (lss ps qs)) (n := ps.length) (walk_w (xs := us) (ys := ws) hus.1 (by rw [hws.1, hl12])) (by rw [ext_len, lss_len hl12]) (by omega) hD (fun H' e => ⟨ex_sq e hb2, ex_sq e hb4⟩) mono_ent (fun i c2 H9 H' Q' z hz ex yy q' => ?_) (fun acc H' ex hacc hlen hall => ?_)
        · obtain ⟨T0, T1, z1, z2, rfl, hT1, hT0, hne, rfl, e1, e2⟩ := yy
          obtain ⟨p, hp, hpd⟩ := hus.get' e1
          obtain ⟨qq, hq, hqd⟩ := hws.get' e2
          have hl : (lss ps qs)[i]? = some (les p qq) := by
            unfold lss
            rw [List.getElem?_zipWith, hp, hq]
          rw [ext_get hl, Nat.zero_add] at hz
          cases hz
          have EA : Ex H9 (upd H9 T1 (.tup [z1, z2])) := Ex.new hT1
          have EB : Ex (upd H9 T1 (.tup [z1, z2])) (upd (upd H9 T1 (.tup [z1, z2])) T0 (.tup [.int (i : Nat), .ref T1])) := Ex.new (by rw [upd_ne hne]; exact hT0)
          have EE := ex.trans (EA.trans EB)
          have t1 : upd (upd H9 T1 (.tup [z1, z2])) T0 (.tup [.int (i : Nat), .ref T1]) T1 = some (.tup [z1, z2]) := EB _ _ upd_same
          have t0 : upd (upd H9 T1 (.tup [z1, z2])) T0 (.tup [.int (i : Nat), .ref T1]) T0 = some (.tup [.int (i : Nat), .ref T1]) := upd_same
          have EAB := EA.trans EB
          generalize upd (upd H9 T1 (.tup [z1, z2])) T0 (.tup [.int (i : Nat), .ref T1]) = HB at *
          refine ⟨T0, _, rfl, st_of t0, rfl, _, _, rfl, _, _, rfl, T1, _, rfl, st_of t1, rfl, _, _, rfl, _, _, rfl, rfl, rfl, rfl, ?_⟩
          refine ⟨_, rfl, _, rfl, sz_of (by simp), fun p2 hp2 => ?_⟩
          have E2 := Ex.new (o := .tup [V.int ((i : Nat) : Int)]) hp2
          have iB := i08.trans (im_ex (EE.trans E2))
          refine cat_go (mono_txt _ _ _ _ iB hu) (one_txt upd_same) (by simp; omega) fun z6 H6' E6' h6 => ?_
          have iB6 := im_ex (EE.trans (E2.trans E6'))
          refine ⟨_, rfl, _, rfl, _, rfl, _, _, p, qq, rfl, mono_sh _ _ _ _ iB6 hpd, mono_sh _ _ _ _ iB6 hqd, (lo1' p (List.mem_of_getElem? hp)).sz (by decide), (lo2' qq (List.mem_of_getElem? hq)).sz (by decide), ?_⟩
          intro w7 H7' E7' h7'
          refine own_go (mono_sh _ _ _ _ (i08.trans (iB6.trans (im_ex E7'))) hx) h7' szs ((lo_les (lo1' p (List.mem_of_getElem? hp)) (lo2' qq (List.mem_of_getElem? hq))).sz (by decide)) fun v9 H9' E9' h9 => ?_
          refine ⟨sz_of (by simp), fun p3 hp3 => ?_⟩
          have E3 := Ex.new (o := .tup [z6, v9]) hp3
          exact q' (.ref p3) _ (EAB.trans (E2.trans (E6'.trans (E7'.trans (E9'.trans E3))))) (show EntD t.aShare (.ref p3) (r ++ [i], s * les p qq) _ from ⟨p3, z6, v9, rfl, upd_same, mono_txt _ _ _ _ (im_ex (E7'.trans (E9'.trans E3))) h6, mono_sh _ _ _ _ (im_ex E3) h9⟩)
        · exact q (.ref D) H' (o8.trans (Off.of ex)) (d8.ex mono_sh ex) (show LstD (EntD t.aShare) (.ref D) (ext r s 0 (lss ps qs)) H' from ⟨D, acc, rfl, hacc, hall⟩)
      have E07 := E05.trans E7
      obtain ⟨b, dy, rfl, hb⟩ := id h7
      refine ⟨_, rfl, b, _, dy, _, _, rfl, hb, t.cl_Share, t.na_Share_over, sh_over _, _, _, rfl, rfl, _, rfl, ?_⟩
      by_cases hp : 0 < (abv ps qs).sum
      · rw [decide_eq_true (num_pos.mpr hp)]
        refine iteT ?_
        rw [if_pos hp] at hnd hfin
        have R7 := mono_rdv (im_ex E07) hR
        refine ⟨_, rfl, a, dx, _, rfl, R7.at_, rf_m2, _, rfl, _, rfl, _, rfl, a, dx, vn, vl, vp, u, x, n1, n2, pr, r, s, d, l, true, aa, avs, abv ps qs, rfl, R7, mono_txt _ _ _ _ (im_ex E07) hu, mono_sh _ _ _ _ (im_ex E07) hx, szs, sqL_of (E7 _ _ haa), hav.mono mono_sh (im_ex E7), fun p hp => ⟨(loA p hp).sz (by decide), (los.mul (loA p hp)).sz (by decide)⟩, by omega, hd.ex mono_sh E07, hnd, by omega, by omega, ?_⟩
        intro H8 o8 d8
        exact hfin H8 ((Off.of E07).trans o8) ((im_ex E7).trans (off_im (E07 _ _ hkv0) o8)) d8 _
      · rw [decide_eq_false (fun z => hp (num_pos.mp z))]
        refine iteF ?_
        rw [if_neg hp, List.append_nil] at hfin
        exact hfin H' (Off.of E07) (im_ex E7) (hd.ex mono_sh E07) _
end
end SA
set_option maxRecDepth 100000
set_option maxHeartbeats 4000000
/-! Chances, d: round_shares. -/
namespace SA
open PySem PySem.Spec PyProof.Rows L2 Evl SAZ
theorem valV_at {k : List L2.Key} {v : V} : ∀ {kvs : List (List L2.Key × V)} {i : Nat}, (kvs.map (·.1)).Nodup → kvs[i]? = some (k, v) → valV kvs k = some v
  | p :: r, 0, _, h => by
    have e : p = (k, v) := by simpa using h
    rw [e]
    exact valV_pos (p := (k, v)) rfl
  | p :: r, i + 1, hn, h => by
    have h' : r[i]? = some (k, v) := by simpa using h
    rw [List.map_cons, List.nodup_cons] at hn
    rw [valV_neg (fun e => hn.1 (List.mem_map.mpr ⟨(k, v), List.mem_of_getElem? h', e.symm⟩))]
    exact valV_at (kvs := r) hn.2 h'
theorem keys_nd {β : Type} {kvs : List (List L2.Key × V)} {l : List (List Nat × β)} (h : kvs.map (·.1) = l.map (fun x => keyT x.1)) (hn : (l.map (·.1)).Nodup) : (kvs.map (·.1)).Nodup := by
  rw [h]
  unfold List.Nodup at *
  rw [List.pairwise_map] at hn ⊢
  exact hn.imp fun hne e => hne (keyT_inj e)
theorem dict_val {β : Type} {R : Den β} {H : Hp} {kvs : List (List L2.Key × V)} {l : List (List Nat × β)} (h1 : kvs.map (·.1) = l.map (fun x => keyT x.1)) (h2 : AllD R (kvs.map (·.2)) (l.map (·.2)) H) (hn : (l.map (·.1)).Nodup) {x : List Nat × β} (hx : x ∈ l) : ∃ v, valV kvs (keyT x.1) = some v ∧ R v x.2 H := by
  obtain ⟨i, hi, rfl⟩ := List.mem_iff_getElem.mp hx
  have hl := congrArg List.length h1
  rw [List.length_map, List.length_map] at hl
  have hk : i < kvs.length := by omega
  have e1 : kvs[i].1 = keyT l[i].1 := by
    have := congrArg (fun z => z[i]?) h1
    simpa [List.getElem?_map, List.getElem?_eq_getElem hk, List.getElem?_eq_getElem hi] using this
  refine ⟨kvs[i].2, ?_, ?_⟩
  · refine valV_at (kvs := kvs) (i := i) (keys_nd h1 hn) ?_
    rw [List.getElem?_eq_getElem hk, ← e1]
  · exact h2.2 i _ _ (by rw [List.getElem?_map, List.getElem?_eq_getElem hk]; rfl) (by rw [List.getElem?_map, List.getElem?_eq_getElem hi]; rfl)
theorem off_mut {d p : Addr} {H H' : Hp} {o : HO} (e : Off d H H') (h : H p = none) : Off d H (upd H' p o) := fun a u n ha => by
  rw [upd_ne (ne_of_none ha h)]
  exact e a u n ha
theorem dict_upd {β : Type} {R : Den β} {H : Hp} {d p : Addr} {l : List (List Nat × β)} {xs : List V} {o : HO} (m : Mono R) (hp : H p = some (.lst xs)) (h : DictD R H d l) : DictD R (upd H p o) d l := by
  obtain ⟨kvs, h0, h1, h2⟩ := h
  have ne : d ≠ p := fun z => by
    subst z
    rw [hp] at h0
    cases h0
  exact ⟨kvs, by rw [upd_ne ne]; exact h0, h1, h2.mono m (Im.lst hp)⟩
section
variable {P : Program} {w : World} {K : PySem.W.Frag} {mg : Str → Option Value} {base : Heap}
def spRound (C CN : Addr) : Sp := fun vs H Q _ => ∃ (vn vl vp : V) (n1 n2 : NetD) (L W1 W2 many : Nat) (pr : List Nat), vs = [vn, vl, vp, .int (many : Int)] ∧ NetAt CN vn n1 H ∧ NetAt CN vl n2 H ∧ LsOk L W1 n1 pr ∧ LsOk L W2 n2 pr ∧ TxtD vp pr H ∧ pr.length ≤ 100 ∧ many ≤ 3 ∧
  RetP (fun v H' => ∃ es : List Ent, es.Perm (ents (wW n1 pr) (wW n2 pr) many) ∧ TupD (EntD C) v es H') H Q
theorem ok_round_shares (t : T K mg) : FnOk P w K mg base CX0 9 t.round_shares.f t.round_shares.d p_round_shares (spRound t.aShare t.aNet) := by
  refine t.round_shares.F.ok sc_round_shares (fun vs H Q E h => ?_) (fun cdv A outer s H vs Q E hr h => ?_)
  · obtain ⟨vn, vl, vp, n1, n2, L, W1, W2, many, pr, rfl, _⟩ := h
    rfl
  · obtain ⟨vn, vl, vp, n1, n2, L, W1, W2, many, pr, rfl, hN1, hN2, lo1, lo2, hp, hpl, hm, q⟩ := h
    refine ⟨_, (pss_cons (ps_set (i := 4) sc_round_shares.nd rfl (Or.inr rfl) (pe_make t.M_Round (ok_Round_init t) (hr.mono (by decide)) rfl t.mg_Round t.Round_init.b .nil pass0 (pa_cons (pv 0) (pa_cons (pv 1) (pa_cons (pv 2) pa_nil)))))
      (pss_cons (ps_set (i := 5) sc_round_shares.nd rfl (Or.inl rfl) (pe_lst (pa_cons (pe_tup (pa_cons (pe_tup pa_nil) (pa_cons (pe_make t.M_Share (ok_Share_init t) (hr.mono (by decide)) rfl t.mg_Share t.Share_init.b .nil pass0 (pa_cons pe_int (pa_cons pe_int pa_nil))) pa_nil))) pa_nil)))
      (pss_cons (ps_for PassesOwn.never rfl (pi_range1 (by rfl) t.z_range (pa_cons (pv 3) pa_nil)) (pg_name (i := 6) sc_round_shares.nd rfl (Or.inl rfl))
      (pss_cons (ps_set (i := 7) sc_round_shares.nd rfl (Or.inl rfl) (pe_lst pa_nil))
        (pss_cons (ps_for PassesOwn.never rfl (pi_list (pv 5)) (pg_tup rfl (pgs_cons (pg_name (i := 8) sc_round_shares.nd rfl (Or.inl rfl)) (pgs_cons (pg_name (i := 9) sc_round_shares.nd rfl (Or.inl rfl)) pgs_nil)))
        (pss_one (ps_expr (pe_bm PySem.F.plainAttrs_list PySem.F.slot_list_extend PySem.F.type_list_extend mt_extend (pv 7) (pa_cons (pe_meth (pv 4) t.cl_Round t.Round_go_on.m (ok_Round_go_on t) (hr.mono (by decide)) t.Round_go_on.b .nil pass0 (pa_cons (pv 8) (pa_cons (pv 9) pa_nil))) pa_nil)))))
        (pss_one (ps_setLc (i := 5) (own := [("row", 8), ("share", 9)]) (g := (gTup K 2 (gCons (gName 8) (gCons (gName 9) gNil)))) (tt := (tTest (tOp _ (tFld K _ "over") _))) rfl sc_round_shares.nd rfl rfl (sw_true rfl rfl rfl (by decide +kernel)) (pi_list (pv 7)) (blkOk_by (own := [("row", 8), ("share", 9)]) (N := n_round_shares) (sc := defScope st_round_shares) (by decide +kernel)) (fun _ _ _ _ _ => (pg_tup rfl (pgs_cons (pg_name (i := 8) sc_round_shares.nd rfl (Or.inl rfl)) (pgs_cons (pg_name (i := 9) sc_round_shares.nd rfl (Or.inl rfl)) pgs_nil)))) (fun _ _ _ _ _ => (pts_one (pt_cmpR op_gt (pe_fld (pv 9) rfl) pe_int (nomark _)))) (fun _ _ _ _ _ => (pe_tup (pa_cons (pv 8) (pa_cons (pv 9) pa_nil)))))))))
      (pss_cons (ps_for PassesOwn.never rfl (pi_list (pv 5)) (pg_tup rfl (pgs_cons (pg_name (i := 8) sc_round_shares.nd rfl (Or.inl rfl)) (pgs_cons (pg_name (i := 9) sc_round_shares.nd rfl (Or.inl rfl)) pgs_nil)))
      (pss_one (ps_expr (pe_meth (pv 4) t.cl_Round t.Round_end_by.m (ok_Round_end_by t) (hr.mono (by decide)) t.Round_end_by.b .nil pass0 (pa_cons (pv 8) (pa_cons (pv 9) (pa_cons (pe_call (ok_next_shares t) (hr.mono (by decide)) rfl t.next_shares.g t.next_shares.F.kp t.next_shares.b .nil pass0 (pa_cons (pv 0) (pa_cons (pe_op op_catA (pe_fld (pv 4) rfl) (pv 8)) pa_nil))) pa_nil)))))))
      (pss_one (ps_ret (pe_callTy (T := "tuple") call_tuple_of (by rfl) t.z_tuple (by decide +kernel) (pa_cons (pe_lc (own := [("row", 8)]) (g := (gName 8)) (tt := tYes) (te := (tTup (tCons _ (tCons (tDGet (tFld K _ "chances") _) tNil)))) rfl sc_round_shares.nd (pi_list (pe_callB (SAZ.cr_sortT rfl (by have := hr.units; exact this)) (by rfl) t.z_sorted (by decide +kernel) (pa_cons (pe_fld (pv 4) rfl) pa_nil))) (blkOk_by (own := [("row", 8)]) (N := n_round_shares) (sc := defScope st_round_shares) (by decide +kernel)) (fun _ _ _ _ _ => (pg_name (i := 8) sc_round_shares.nd rfl (Or.inl rfl))) (fun _ _ _ _ _ => pts_nil) (fun _ _ _ _ _ => (pe_tup (pa_cons (pv 8) (pa_cons (pe_dget (hu_of hr) (pe_fld (pv 4) rfl) (pv 8) (fun _ _ => rfl)) pa_nil))))) pa_nil)))))))), ?_⟩
    have l1 := lo1.ok.l1
    have l4 := lo1.ok.l4
    have wa1 := wa_of lo1
    have wa2 := wa_of lo2
    have W : WW L many (wW n1 pr) (wW n2 pr) := ww_of l1 l4 wa1 wa2
    have hnd := ents_nodup W
    have hel := ents_le W hm
    have haccO := acc_ok W
    refine ⟨_, rfl, _, rfl, _, rfl, ?_⟩
    intro fa dx nfa ndx ne
    have E0 : Ex H (upd (upd H dx (.own fa)) fa (.ins t.aRound dx [])) := (Ex.new ndx).trans (Ex.new (by rw [upd_ne ne.symm]; exact nfa))
    refine ⟨fa, dx, vn, vl, vp, pr, rfl, upd_same, mono_txt _ _ _ _ (im_ex E0) hp, ?_⟩
    intro H1 dd o1 hfa hdd ddn ddf
    refine ⟨rfl, ?_⟩
    have E1 : Ex H H1 := fun a o h => o1 a o (ne_of_none h nfa) (E0 a o h)
    have R1 : RoundV t.aRound t.aNet n1 n2 pr dd H1 fa dx vn vl vp := ⟨hfa, mono_net _ _ _ _ (im_ex E1) hN1, mono_net _ _ _ _ (im_ex E1) hN2, mono_txt _ _ _ _ (im_ex E1) hp⟩
    have ddH : H dd = none := by
      cases e : H dd with
      | none => rfl
      | some o =>
        rw [E0 dd o e] at ddf
        cases ddf
    clear o1 E0 ddf hfa
    -- accepted
    refine ⟨sz_of (by simp), fun p1 hp1 => ?_⟩
    have E2 := Ex.new (o := .tup []) hp1
    have ht1 : TxtD (.ref p1) [] (upd H1 p1 (.tup [])) := ⟨p1, [], rfl, upd_same, AllD.nil⟩
    generalize upd H1 p1 (.tup []) = H2 at *
    intro z dz nz ndz nez
    refine ⟨z, dz, _, _, rfl, upd_same, by decide, fr_small 0 1 (by decide) (by have := p64; omega), rfl, ?_⟩
    rw [upd_upd, fr11]
    have E3 : Ex H2 (upd (upd H2 dz (.own z)) z (.ins t.aShare dz (shF 1))) := (Ex.new ndz).trans (Ex.new (by rw [upd_ne nez.symm]; exact nz))
    have hs3 : ShD t.aShare (.ref z) 1 (upd (upd H2 dz (.own z)) z (.ins t.aShare dz (shF 1))) := ⟨z, dz, rfl, upd_same⟩
    generalize upd (upd H2 dz (.own z)) z (.ins t.aShare dz (shF 1)) = H3 at *
    refine ⟨sz_of (by simp), fun p4 hp4 => ?_⟩
    have E4 := Ex.new (o := .tup [V.ref p1, V.ref z]) hp4
    have he4 : EntD t.aShare (.ref p4) ([], 1) (upd H3 p4 (.tup [V.ref p1, V.ref z])) := ⟨p4, .ref p1, .ref z, rfl, upd_same, mono_txt _ _ _ _ (im_ex (E3.trans E4)) ht1, mono_sh _ _ _ _ (im_ex E4) hs3⟩
    generalize upd H3 p4 (.tup [V.ref p1, V.ref z]) = H4 at *
    refine ⟨sz_of (by simp), fun p5 hp5 => ?_⟩
    have E5 := Ex.new (o := .lst [V.ref p4]) hp5
    have ha5 : LstD (EntD t.aShare) (.ref p5) (acc (wW n1 pr) (wW n2 pr) 0) (upd H4 p5 (.lst [V.ref p4])) := ⟨p5, _, rfl, upd_same, AllD.nil.snoc (mono_ent _ _ _ _ (im_ex E5) he4)⟩
    have E15 : Ex H1 (upd H4 p5 (.lst [V.ref p4])) := E2.trans (E3.trans (E4.trans E5))
    generalize upd H4 p5 (.lst [V.ref p4]) = H5 at *
    clear E2 E3 E4 E5 ht1 hs3 he4
    have d5 : DictD (ShD t.aShare) H5 dd ((List.range 0).flatMap (lev (wW n1 pr) (wW n2 pr))) := ⟨[], E15 _ _ hdd, rfl, AllD.nil⟩
    -- the turns
    refine ⟨_, rfl, (many : Int), rfl, by omega, by omega, ?_⟩
    rw [Int.toNat_natCast]
    refine for_it (walk_range (lo := 0) (n := many)) (fun i σ H' => ∃ (av : V) (c6 c7 c8 c9 : Option V), σ = [some vn, some vl, some vp, some (.int (many : Int)), some (.ref fa), some av, c6, c7, c8, c9] ∧ Off dd H1 H' ∧ DictD (ShD t.aShare) H' dd ((List.range i).flatMap (lev (wW n1 pr) (wW n2 pr))) ∧ LstD (EntD t.aShare) av (acc (wW n1 pr) (wW n2 pr) i) H') ⟨_, _, _, _, _, rfl, Off.of E15, d5, ha5⟩
      (fun i σ H' _ _ => trivial) (fun i y σ H7 H8 hi p yy => ?_) (fun σ H' p => ?_)
    · obtain ⟨av, c6, c7, c8, c9, rfl, o7, d7, a7⟩ := p
      obtain ⟨rfl, rfl⟩ := yy
      obtain ⟨aa, avs, rfl, haa, hav⟩ := a7
      refine ⟨sz_of (by simp), fun lo hlo => ?_⟩
      obtain ⟨kvs7, hkv7, _⟩ := id d7
      have haL := acc_len W (d := i) (by omega) hm
      have aane : aa ≠ dd := fun z => by
        subst z
        rw [hkv7] at haa
        cases haa
      have E8 := Ex.new (o := .lst []) hlo
      refine ⟨_, rfl, aa, rfl, ⟨_, sq_of (E8 _ _ haa)⟩, ?_⟩
      refine for_it (walk_list (xs := avs)) (fun j σ H' => ∃ (c8 c9 : Option V) (lvs : List V), σ = [some vn, some vl, some vp, some (.int (many : Int)), some (.ref fa), some (.ref aa), some (.int (0 + ((i : Nat) : Int))), some (.ref lo), c8, c9] ∧ Off dd H8 H' ∧ H' lo = some (.lst lvs) ∧ AllD (EntD t.aShare) lvs (((acc (wW n1 pr) (wW n2 pr) i).take j).flatMap (goA (wW n1 pr) (wW n2 pr))) H' ∧
          DictD (ShD t.aShare) H' dd ((List.range i).flatMap (lev (wW n1 pr) (wW n2 pr)) ++ ((acc (wW n1 pr) (wW n2 pr) i).take j).flatMap (goE (wW n1 pr) (wW n2 pr)))) ⟨_, _, [], rfl, Off.of E8, upd_same, AllD.nil, by rw [List.take_zero, List.flatMap_nil, List.append_nil]; exact d7.ex mono_sh E8⟩
        (fun j σ H' _ ⟨_, _, _, _, o, _⟩ => sq_of (o _ _ aane haa)) (fun j y σ H9 HA hj p yy => ?_) (fun σ H' p => ?_)
      · obtain ⟨c8, c9, lvs, rfl, o9, hlo9, hlv9, d9⟩ := p
        obtain ⟨rfl, hy⟩ := yy
        obtain ⟨x, hx, hxd⟩ := hav.get' hy
        have ox := haccO i (by omega) x (List.mem_of_getElem? hx)
        have lox := acc_lo W i (by omega) x (List.mem_of_getElem? hx)
        have iA := off_im hkv7 o9
        obtain ⟨ya, y1, y2, rfl, hya, hy1, hy2⟩ := mono_ent _ _ _ _ iA hxd
        have RA := mono_rdv ((off_im (d := dd) hdd o7).trans iA) R1
        have hsub := part_go W (d := i) (by omega) hx
        have hsl := hsub.length_le
        rw [List.length_append] at hsl
        obtain ⟨kvs9, hkv9, _⟩ := id d9
        have lone : lo ≠ dd := fun z => by
          subst z
          rw [hkv9] at hlo9
          cases hlo9
        refine ⟨ya, _, rfl, st_of hya, rfl, _, _, rfl, _, _, rfl, rfl, ?_⟩
        refine ⟨_, rfl, Or.inl ⟨rfl, _, sq_of hlo9⟩, _, rfl, fa, dx, _, rfl, RA.at_, rf_m3, _, rfl, _, rfl, ?_⟩
        refine ⟨fa, dx, vn, vl, vp, y1, y2, n1, n2, L, W1, W2, pr, x.1, x.2, dd, _, rfl, RA, lo1, lo2, hpl, hy1, ox.let_, by rw [ox.len]; omega, hy2, lox.more (by omega), d9, by omega, (hsub.map (·.1)).nodup hnd, ?_⟩
        rintro v' HB oB dB ⟨ra, rvs, rfl, hra, hrv⟩
        have iB := off_im hkv9 oB
        have hloB := oB _ _ lone hlo9
        have hlen : lvs.length ≤ 256 := by
          rw [hlv9.1, len_flat (n := L) fun z hz => goA_len W (d := i) (by omega) (haccO i (by omega) z (List.mem_of_mem_take hz)), List.length_take]
          have : min j (acc (wW n1 pr) (wW n2 pr) i).length * L ≤ 64 * 4 := Nat.mul_le_mul (by omega) l4
          omega
        have hrl : rvs.length ≤ 4 := by
          rw [hrv.1, goA_len W (d := i) (x := (x.1, x.2)) (by omega) ox]
          exact l4
        refine ⟨lo, ra, lvs, rvs, rfl, rfl, hloB, hra, sz_of (by omega), ?_⟩
        have im := Im.lst (o := .lst (lvs ++ rvs)) hloB
        refine ⟨_, _, lvs ++ rvs, rfl, off_mut (o9.trans oB) hlo, upd_same, ?_, ?_⟩
        · rw [flat_take hx]
          exact (hlv9.mono mono_ent (iB.trans im)).append (hrv.mono mono_ent im)
        · rw [flat_take hx, ← List.append_assoc]
          exact dict_upd mono_sh hloB dB
      · obtain ⟨c8, c9, lvs, rfl, o9, hlo9, hlv9, d9⟩ := p
        rw [List.take_of_length_le (by rw [hav.1]; exact Nat.le_refl _)] at hlv9 d9
        have hlen : lvs.length ≤ 256 := by
          rw [hlv9.1, len_flat (n := L) fun z hz => goA_len W (d := i) (by omega) (haccO i (by omega) z hz)]
          have : (acc (wW n1 pr) (wW n2 pr) i).length * L ≤ 64 * 4 := Nat.mul_le_mul haL l4
          omega
        have edict : (List.range (i + 1)).flatMap (lev (wW n1 pr) (wW n2 pr)) = (List.range i).flatMap (lev (wW n1 pr) (wW n2 pr)) ++ (acc (wW n1 pr) (wW n2 pr) i).flatMap (goE (wW n1 pr) (wW n2 pr)) := by
          rw [List.range_succ, List.flatMap_append, List.flatMap_singleton]
          rfl
        refine ⟨_, rfl, lo, rfl, ⟨_, sq_of hlo9⟩, fun D hD => ?_⟩
        refine lc_flt (R := EntD t.aShare) (xs := (acc (wW n1 pr) (wW n2 pr) i).flatMap (goA (wW n1 pr) (wW n2 pr))) (pr := fun x => decide (0 < x.2)) (f := id) (walk_list (xs := lvs)) hlv9.1.symm (by omega) hD (fun HB e => ex_l e (sq_of hlo9)) mono_ent (fun j y HB HC Qy Qn x hx ex yy qy qn => ?_) (fun acc2 HB EB hacc2 hall => ?_)
        · obtain ⟨rfl, hy⟩ := yy
          obtain ⟨ya, y1, y2, rfl, hya, hy1, hy2⟩ := mono_ent _ _ _ _ (im_ex ex) (hlv9.2 j y x hy hx)
          obtain ⟨b, dy, rfl, hb⟩ := id hy2
          refine ⟨ya, _, rfl, st_of hya, rfl, _, _, rfl, _, _, rfl, rfl, rfl, ?_⟩
          refine ⟨_, rfl, b, _, dy, _, _, rfl, hb, t.cl_Share, t.na_Share_over, sh_over _, _, _, rfl, rfl, _, rfl, ?_⟩
          by_cases hpos : 0 < x.2
          · rw [decide_eq_true (num_pos.mpr hpos)]
            refine iteT ⟨_, rfl, _, rfl, sz_of (by simp), fun p3 hp3 => ?_⟩
            exact qy (decide_eq_true hpos) (.ref p3) _ (Ex.new hp3) ⟨p3, y1, .ref b, rfl, upd_same, mono_txt _ _ _ _ (im_ex (Ex.new hp3)) hy1, mono_sh _ _ _ _ (im_ex (Ex.new hp3)) hy2⟩
          · rw [decide_eq_false (fun z => hpos (num_pos.mp z))]
            exact iteF (qn (decide_eq_false hpos) _ (Ex.refl _))
        · refine ⟨_, _, _, _, _, rfl, (o7.trans o9).trans (Off.of EB), by rw [edict]; exact d9.ex mono_sh EB, ⟨D, acc2, rfl, hacc2, ?_⟩⟩
          rw [List.map_id] at hall
          exact hall
    · obtain ⟨av, c6, c7, c8, c9, rfl, o7, d7, a7⟩ := p
      obtain ⟨aa, avs, rfl, haa, hav⟩ := a7
      obtain ⟨kvs7, hkv7, _⟩ := id d7
      have haL := acc_len W (d := many) (Nat.le_refl _) hm
      have aane : aa ≠ dd := fun z => by
        subst z
        rw [hkv7] at haa
        cases haa
      refine ⟨_, rfl, aa, rfl, ⟨_, sq_of haa⟩, ?_⟩
      refine for_it (walk_list (xs := avs)) (fun j σ H9 => ∃ (c8 c9 : Option V), σ = [some vn, some vl, some vp, some (.int (many : Int)), some (.ref fa), some (.ref aa), c6, c7, c8, c9] ∧ Off dd H' H9 ∧
          DictD (ShD t.aShare) H9 dd ((List.range many).flatMap (lev (wW n1 pr) (wW n2 pr)) ++ ((acc (wW n1 pr) (wW n2 pr) many).take j).flatMap (fin (wW n1 pr)))) ⟨_, _, rfl, Off.refl _ _, by rw [List.take_zero, List.flatMap_nil, List.append_nil]; exact d7⟩
        (fun j σ H9 _ ⟨_, _, _, o, _⟩ => sq_of (o _ _ aane haa)) (fun j y σ H9 HA hj p yy => ?_) (fun σ H9 p => ?_)
      · obtain ⟨c8, c9, rfl, o9, d9⟩ := p
        obtain ⟨rfl, hy⟩ := yy
        obtain ⟨x, hx, hxd⟩ := hav.get' hy
        have ox := haccO many (by omega) x (List.mem_of_getElem? hx)
        have lox := acc_lo W many (by omega) x (List.mem_of_getElem? hx)
        have iA := off_im hkv7 o9
        obtain ⟨ya, y1, y2, rfl, hya, hy1, hy2⟩ := mono_ent _ _ _ _ iA hxd
        have i1A := (off_im (d := dd) hdd o7).trans iA
        have RA := mono_rdv i1A R1
        have hsub := part_fin W hx
        have hsl := hsub.length_le
        rw [List.length_append] at hsl
        have o1' := pre_ok (r := x.1) lo1 hpl ox.let_ (by rw [ox.len]; omega)
        have k1 := o1'.wk
        refine ⟨ya, _, rfl, st_of hya, rfl, _, _, rfl, _, _, rfl, rfl, ?_⟩
        refine ⟨_, rfl, fa, dx, _, rfl, RA.at_, rf_m2, _, rfl, _, rfl, _, rfl, _, rfl, fa, _, dx, _, _, rfl, RA.at_, t.cl_Round, t.na_Round_prompt, rf_prompt, _, rfl, ?_⟩
        refine cat_go RA.pr hy1 (by rw [ox.len]; omega) fun z1 HB EB h1 => ?_
        refine ⟨vn, z1, n1, L, W1, pr ++ x.1, rfl, mono_net _ _ _ _ (im_ex EB) RA.n1, o1', h1, ?_⟩
        rintro v2 HC EC ⟨sa, svs, rfl, hsa, hsv⟩
        have E9 := EB.trans EC
        have efin : fin (wW n1 pr) x = pos (ext x.1 x.2 0 (shr (wts n1 (pr ++ x.1)))) := rfl
        rw [efin] at hsub
        have hle : (shr (wts n1 (pr ++ x.1))).length ≤ 4 := by rw [shr_len, k1.len]; exact l4
        have hl2 := (List.take_sublist j (acc (wW n1 pr) (wW n2 pr) many))
        refine ⟨fa, dx, vn, vl, vp, y1, y2, n1, n2, pr, x.1, x.2, dd, _, false, sa, svs, shr (wts n1 (pr ++ x.1)), rfl, mono_rdv (im_ex E9) RA, mono_txt _ _ _ _ (im_ex E9) hy1, mono_sh _ _ _ _ (im_ex E9) hy2, lox.sz (by omega), sqT_of hsa, hsv, fun p hp => ⟨(lo_shr l1 l4 k1 p hp).sz (by decide), (lox.mul (lo_shr l1 l4 k1 p hp)).sz (by omega)⟩, by omega, d9.ex mono_sh E9, (hsub.map (·.1)).nodup hnd, by omega, by rw [ox.len]; omega, ?_⟩
        intro HD oD dD
        refine ⟨_, _, rfl, (o9.trans (Off.of E9)).trans oD, ?_⟩
        rw [flat_take hx, efin, ← List.append_assoc]
        exact dD
      · obtain ⟨c8, c9, rfl, o9, d9⟩ := p
        rw [List.take_of_length_le (by rw [hav.1]; exact Nat.le_refl _)] at d9
        have eE : (List.range many).flatMap (lev (wW n1 pr) (wW n2 pr)) ++ (acc (wW n1 pr) (wW n2 pr) many).flatMap (fin (wW n1 pr)) = ents (wW n1 pr) (wW n2 pr) many := rfl
        rw [eE] at d9
        have i19 := (off_im (d := dd) hdd o7).trans (off_im hkv7 o9)
        have R9 := mono_rdv i19 R1
        obtain ⟨kvs, hkv, hk1, hk2⟩ := id d9
        have ho9 : Off dd H1 H9 := o7.trans o9
        have eH9 : Ex H H9 := fun a o h => ho9 a o (fun z => by subst z; rw [ddH] at h; cases h) (E1 a o h)
        have eok := ents_ok W
        generalize ents (wW n1 pr) (wW n2 pr) many = en at *
        refine ⟨_, rfl, fa, _, dx, _, _, rfl, R9.at_, t.cl_Round, t.na_Round_chances, rf_chances, dd, kvs, en.map fun x => kapI x.1, rfl, Or.inl hkv, ?_, ?_, ?_⟩
        · rw [hk1, List.map_map]
          refine List.map_congr_left fun x _ => ?_
          show keyT x.1 = (kapI x.1).map Sum.inl
          unfold keyT kapI
          rw [List.map_map]
          rfl
        · intro k hk
          obtain ⟨x, hx, rfl⟩ := List.mem_map.mp hk
          intro z
          have := (eok x hx).lo
          have h0 := congrArg List.length z
          simp [kapI] at h0
          rw [h0] at this
          simp at this
        · intro zs pl perm hzs hpl'
          have E10 := Ex.new (o := .lst (zs.map fun z => V.ref z.1)) hpl'
          have hl10 : upd H9 pl (.lst (zs.map fun z => V.ref z.1)) pl = some (.lst (zs.map fun z => V.ref z.1)) := upd_same
          generalize upd H9 pl (.lst (zs.map fun z => V.ref z.1)) = H10 at *
          refine ⟨pl, rfl, ⟨_, sq_of hl10⟩, fun D hD => ?_⟩
          have hpp := pick_perm (b := (0 : Rat)) hnd perm
          rw [List.map_map] at hpp
          have hzl : zs.length ≤ 340 := by
            have := hpp.length_eq
            rw [List.length_map] at this
            omega
          refine lc_den (R := EntD t.aShare) (zs := zs.map (pick en 0 ∘ fun z => z.2)) (n := (zs.map fun z => V.ref z.1).length) walk_list (by simp) (by simp; omega) hD (fun H' e => ex_l e (sq_of hl10)) mono_ent (fun j c HB HC Q' zz hz ex yy q' => ?_) (fun acc2 HB EB hacc2 hlen hall => ?_)
          · obtain ⟨rfl, hc⟩ := yy
            obtain ⟨z0, hz0, rfl⟩ := Option.map_eq_some_iff.mp (by rw [← List.getElem?_map]; exact hc)
            obtain ⟨z1, hz1, rfl⟩ := Option.map_eq_some_iff.mp (by rw [← List.getElem?_map]; exact hz)
            rw [hz0] at hz1
            cases hz1
            have hzm := List.mem_of_getElem? hz0
            obtain ⟨x, hx, hxz⟩ := List.mem_map.mp (perm.subset (List.mem_map.mpr ⟨z0, hzm, rfl⟩))
            have hpk : (pick en 0 ∘ fun z : Addr × List Int => z.2) z0 = x := by
              show pick en 0 z0.2 = x
              rw [← hxz]
              exact pick_at hnd hx
            rw [hpk] at q'
            have ExC := E10.trans ex
            have hza := ExC _ _ (hzs z0 hzm)
            obtain ⟨v, hv1, hv2⟩ := dict_val hk1 hk2 hnd hx
            have RC := mono_rdv (im_ex ExC) R9
            have ekv : (keyT x.1).map kV = z0.2.map V.int := by
              rw [keyT_kV, ← hxz]
              unfold kapI
              rw [List.map_map]
              rfl
            refine ⟨rfl, _, rfl, _, rfl, fa, _, dx, _, _, rfl, RC.at_, t.cl_Round, t.na_Round_chances, rf_chances, _, rfl, dd, v, rfl, ?_, ?_⟩
            · have g := DGet.t (k := keyT x.1) (b := z0.1) (ExC _ _ hkv) (by rw [ekv]; exact hza)
              rw [hv1] at g
              exact g
            · refine ⟨sz_of (by simp), fun p3 hp3 => ?_⟩
              refine q' (.ref p3) _ (Ex.new hp3) ⟨p3, .ref z0.1, v, rfl, upd_same, ?_, mono_sh _ _ _ _ (im_ex (ExC.trans (Ex.new hp3))) hv2⟩
              refine ⟨z0.1, _, rfl, Ex.new hp3 _ _ hza, ?_⟩
              rw [← ekv, keyT_kV]
              exact nats_allD x.1
          · refine ⟨D, acc2, rfl, Or.inl ⟨sq_of hacc2, fun l5 hl5 => ?_⟩⟩
            exact q (.ref l5) _ (eH9.trans (E10.trans (EB.trans (Ex.new hl5)))) ⟨_, hpp, l5, acc2, rfl, upd_same, hall.mono mono_ent (im_ex (Ex.new hl5))⟩
end
end SA
set_option maxRecDepth 100000
set_option maxHeartbeats 4000000
/-! The law, a: fractions and small things. -/
namespace SA
open PySem PySem.Spec PyProof.Rows L2 Evl SAZ
/-- a list's or a tuple's item -/
def rIxA (K : PySem.W.Frag) : R2 := fun x y H Q => ∃ k p xs i v, x = .ref p ∧ y = .int i ∧ Sq k K H p xs ∧ atI xs i = some v ∧ Q v H
theorem ix_any {X : Cx} : IxR X (rIxA X.K) := by
  intro value slice pins s σ H x y v u Q I rx ry h hs
  obtain ⟨k, p, xs, i, z, hx, hy, hq, he, q⟩ := h
  cases k with
  | true =>
    have hq' : SqL X.K H p xs := by unfold Sq at hq; rw [if_pos rfl] at hq; exact hq
    exact ix_list value slice pins s σ H x y v u Q I rx ry ⟨p, xs, i, z, hx, hy, hq', he, q⟩ hs
  | false =>
    have hq' : SqT X.K H p xs := by unfold Sq at hq; rw [if_neg (by decide)] at hq; exact hq
    exact ix_tup value slice pins s σ H x y v u Q I rx ry ⟨p, xs, i, z, hx, hy, hq', he, q⟩ hs
theorem rg_lo (n : Nat) : -(2 ^ 62 : Int) ≤ (n : Int) := by omega
theorem rg_hi {n : Nat} (h : n ≤ 100000) : (n : Int) < 2 ^ 62 := by omega
/-! ### ints in tuples, compared -/
def dI (ns : List Int) : PyData := .tuple (ns.map .int)
theorem dp_ints {K : PySem.W.Frag} {H : Hp} : ∀ ns : List Int, DpAll K H (ns.map V.int) (ns.map PyData.int)
  | [] => .nil
  | n :: r => .cons (.int n) (dp_ints r)
theorem dp_tup {K : PySem.W.Frag} {H : Hp} {a : Addr} {ns : List Int} (h : H a = some (.tup (ns.map V.int))) : Dp K H (.ref a) (dI ns) := .tup (st_of h) (dp_ints ns)
theorem lay_ints : ∀ ns : List Int, PyData.canLayAll0 (ns.map PyData.int) = true
  | [] => rfl
  | n :: r => by
    show (PyData.canLay0 (.int n) && PyData.canLayAll0 (r.map PyData.int)) = true
    rw [lay_ints r]
    rfl
theorem depth_ints : ∀ ns : List Int, PyData.depthAll (ns.map PyData.int) = 0
  | [] => rfl
  | n :: r => by
    show max (PyData.depth (.int n)) (PyData.depthAll (r.map PyData.int)) = 0
    rw [depth_ints r]
    rfl
theorem shaped_ints (ns : List Int) : SeqAt.shaped (dI ns) = true := by
  unfold SeqAt.shaped
  have h1 : PyData.canLay0 (dI ns) = true := by
    show PyData.canLayAll0 (ns.map PyData.int) = true
    exact lay_ints ns
  have h2 : PyData.depth (dI ns) = 1 := by
    show PyData.depthAll (ns.map PyData.int) + 1 = 1
    rw [depth_ints]
  rw [h1, h2]
  rfl
theorem eqv_ints : ∀ ns ms : List Int, PyData.eqvAll (ns.map PyData.int) (ms.map PyData.int) = decide (ns = ms)
  | [], [] => rfl
  | [], m :: r => rfl
  | n :: r, [] => rfl
  | n :: r, m :: q => by
    show (PyData.eqv (.int n) (.int m) && PyData.eqvAll (r.map PyData.int) (q.map PyData.int)) = _
    rw [eqv_ints r q]
    show ((n == m) && _) = _
    by_cases e : n = m
    · subst e
      by_cases e2 : r = q
      · subst e2
        simp
      · simp [e2]
    · simp [e]
theorem eqv_dI (ns ms : List Int) : PyData.eqv (dI ns) (dI ms) = decide (ns = ms) := eqv_ints ns ms
/-! ### a fraction of the law's -/
def QD : Den Rat := fun v q H => ∃ a, v = .ref a ∧ H a = some (.tup [.int q.num, .int ((q.den : Nat) : Int)])
theorem mono_q : Mono QD := fun v q H H' e ⟨a, hv, ha⟩ => ⟨a, hv, e a _ rfl ha⟩
def cc : Nat := 1500
theorem cc_eq : cc = 1500 := rfl
section
variable {P : Program} {w : World} {K : PySem.W.Frag} {mg : Str → Option Value} {base : Heap}
def spNone : Sp := fun _ _ _ _ => False
theorem ok_same0 (t : T K mg) : FnOk P w K mg base CX0 1 t.law_same.f t.law_same.d p_law_same spNone := by
  exact t.law_same.F.ok sc_law_same (fun vs H Q E h => False.elim h) (fun cdv A outer s H vs Q E hr h => False.elim h)
def spSameI : Sp := fun vs H Q _ => ∃ i : Int, vs = [.int i, .int i] ∧ Q (.bl true) H
theorem ok_same1 (t : T K mg) : FnOk P w K mg base CX0 2 t.law_same.f t.law_same.d p_law_same spSameI := by
  have F0 : FnOk P w K mg base CX0 1 t.law_same.f t.law_same.d p_law_same spNone := ok_same0 t
  refine t.law_same.F.ok sc_law_same (fun vs H Q E h => ?_) (fun cdv A outer s H vs Q E hr h => ?_)
  · obtain ⟨i, rfl, _⟩ := h
    rfl
  · obtain ⟨i, rfl, q⟩ := h
    refine ⟨_, (pss_cons (ps_if (pt_cmpR op_isN (pv 1) pe_non (nomark _))
      (pss_one (ps_ret (pe_cmpR op_isN (pv 0) pe_non (nomark _))))
      pss_nil)
      (pss_cons (ps_if (pt_val (pe_callB call_isi (by rfl) t.z_isinstance (by decide +kernel) (pa_cons (pv 1) (pa_cons (pe_bltn (v := .ty "str") rfl t.z_str (by decide +kernel) rfl) pa_nil))))
      (pss_one (ps_ret (pe_and (pe_callB call_isi (by rfl) t.z_isinstance (by decide +kernel) (pa_cons (pv 0) (pa_cons (pe_bltn (v := .ty "str") rfl t.z_str (by decide +kernel) rfl) pa_nil))) (pe_one (pe_cmpR (op_eqD hr.units) (pv 0) (pv 1) (nomark _))))))
      pss_nil)
      (pss_cons (ps_if (pt_val (pe_callB call_isi (by rfl) t.z_isinstance (by decide +kernel) (pa_cons (pv 1) (pa_cons (pe_bltn (v := .ty "bool") rfl t.z_bool (by decide +kernel) rfl) pa_nil))))
      (pss_one (ps_ret (pe_and (pe_callB call_isi (by rfl) t.z_isinstance (by decide +kernel) (pa_cons (pv 0) (pa_cons (pe_bltn (v := .ty "bool") rfl t.z_bool (by decide +kernel) rfl) pa_nil))) (pe_one (pe_cmpR (op_eqD hr.units) (pv 0) (pv 1) (nomark _))))))
      pss_nil)
      (pss_cons (ps_if (pt_val (pe_callB call_isi (by rfl) t.z_isinstance (by decide +kernel) (pa_cons (pv 1) (pa_cons (pe_bltn (v := .ty "int") rfl t.z_int (by decide +kernel) rfl) pa_nil))))
      (pss_one (ps_ret (pe_and (pe_callB call_isi (by rfl) t.z_isinstance (by decide +kernel) (pa_cons (pv 0) (pa_cons (pe_bltn (v := .ty "int") rfl t.z_int (by decide +kernel) rfl) pa_nil))) (pe_and (pe_not (pe_callB call_isi (by rfl) t.z_isinstance (by decide +kernel) (pa_cons (pv 0) (pa_cons (pe_bltn (v := .ty "bool") rfl t.z_bool (by decide +kernel) rfl) pa_nil)))) (pe_one (pe_cmpR (op_eqD hr.units) (pv 0) (pv 1) (nomark _)))))))
      pss_nil)
      (pss_cons (ps_if (PW.pt (pw_or (pt_not (pt_val (pe_callB call_isi (by rfl) t.z_isinstance (by decide +kernel) (pa_cons (pv 0) (pa_cons (pe_bltn (v := .ty "tuple") rfl t.z_tuple (by decide +kernel) rfl) pa_nil))))) (pw_or1 (pt_cmpR op_ne (pe_callB call_len_seq (by rfl) t.z_len PySem.boot_len (pa_cons (pv 0) pa_nil)) (pe_callB call_len_seq (by rfl) t.z_len PySem.boot_len (pa_cons (pv 1) pa_nil)) (nomark _)))))
      (pss_one (ps_ret pe_bl))
      pss_nil)
      (pss_cons (ps_for PassesOwn.never rfl (pi_range1 (by rfl) t.z_range (pa_cons (pe_callB call_len_seq (by rfl) t.z_len PySem.boot_len (pa_cons (pv 1) pa_nil)) pa_nil)) (pg_name (i := 2) sc_law_same.nd rfl (Or.inl rfl))
      (pss_one (ps_if (pt_not (pt_val (pe_call (F0) (hr.mono (by decide)) rfl t.law_same.g t.law_same.F.kp t.law_same.b .nil pass0 (pa_cons (pe_ix ix_tup (pv 0) (pv 2) (fun _ _ => rfl)) (pa_cons (pe_ix ix_tup (pv 1) (pv 2) (fun _ _ => rfl)) pa_nil)))))
        (pss_one (ps_ret pe_bl))
        pss_nil)))
      (pss_one (ps_ret pe_bl)))))))), ?_⟩
    refine ⟨_, rfl, rfl, _, rfl, ?_⟩
    rw [decide_eq_false (show ¬ (V.int i = V.non) from fun z => nomatch z)]
    refine iteF ?_
    refine ⟨_, rfl, _, _, _, _, _, rfl, ClsV.ty _, TyX.base (.int _), kit_ty (a := "int") (b := "str") (r := false) (by decide +kernel), _, rfl, ?_⟩
    refine iteF ?_
    refine ⟨_, rfl, _, _, _, _, _, rfl, ClsV.ty _, TyX.base (.int _), kit_ty (a := "int") (b := "bool") (r := false) (by decide +kernel), _, rfl, ?_⟩
    refine iteF ?_
    refine ⟨_, rfl, _, _, _, _, _, rfl, ClsV.ty _, TyX.base (.int _), kit_ty (a := "int") (b := "int") (r := true) (by decide +kernel), _, rfl, ?_⟩
    refine iteT ?_
    refine ⟨_, rfl, _, _, _, _, _, rfl, ClsV.ty _, TyX.base (.int _), kit_ty (a := "int") (b := "int") (r := true) (by decide +kernel), _, rfl, ?_⟩
    refine iteT ?_
    refine ⟨_, rfl, _, _, _, _, _, rfl, ClsV.ty _, TyX.base (.int _), kit_ty (a := "int") (b := "bool") (r := false) (by decide +kernel), _, rfl, _, rfl, ?_⟩
    refine iteT ?_
    refine ⟨_, rfl, _, rfl, _, _, Dp.int i, Dp.int i, rfl, rfl, ?_⟩
    show Q (.bl (i == i)) H
    rw [beq_self_eq_true]
    exact q
def spSameP : Sp := fun vs H Q _ => ∃ (a b : Addr) (i j : Int), vs = [.ref a, .ref b] ∧ H a = some (.tup [.int i, .int j]) ∧ H b = some (.tup [.int i, .int j]) ∧ Q (.bl true) H
theorem ok_same2 (t : T K mg) : FnOk P w K mg base CX0 3 t.law_same.f t.law_same.d p_law_same spSameP := by
  have F0 : FnOk P w K mg base CX0 2 t.law_same.f t.law_same.d p_law_same spSameI := ok_same1 t
  refine t.law_same.F.ok sc_law_same (fun vs H Q E h => ?_) (fun cdv A outer s H vs Q E hr h => ?_)
  · obtain ⟨a, b, i, j, rfl, _⟩ := h
    rfl
  · obtain ⟨a, b, i, j, rfl, ha, hb, q⟩ := h
    refine ⟨_, (pss_cons (ps_if (pt_cmpR op_isN (pv 1) pe_non (nomark _))
      (pss_one (ps_ret (pe_cmpR op_isN (pv 0) pe_non (nomark _))))
      pss_nil)
      (pss_cons (ps_if (pt_val (pe_callB call_isi (by rfl) t.z_isinstance (by decide +kernel) (pa_cons (pv 1) (pa_cons (pe_bltn (v := .ty "str") rfl t.z_str (by decide +kernel) rfl) pa_nil))))
      (pss_one (ps_ret (pe_and (pe_callB call_isi (by rfl) t.z_isinstance (by decide +kernel) (pa_cons (pv 0) (pa_cons (pe_bltn (v := .ty "str") rfl t.z_str (by decide +kernel) rfl) pa_nil))) (pe_one (pe_cmpR (op_eqD hr.units) (pv 0) (pv 1) (nomark _))))))
      pss_nil)
      (pss_cons (ps_if (pt_val (pe_callB call_isi (by rfl) t.z_isinstance (by decide +kernel) (pa_cons (pv 1) (pa_cons (pe_bltn (v := .ty "bool") rfl t.z_bool (by decide +kernel) rfl) pa_nil))))
      (pss_one (ps_ret (pe_and (pe_callB call_isi (by rfl) t.z_isinstance (by decide +kernel) (pa_cons (pv 0) (pa_cons (pe_bltn (v := .ty "bool") rfl t.z_bool (by decide +kernel) rfl) pa_nil))) (pe_one (pe_cmpR (op_eqD hr.units) (pv 0) (pv 1) (nomark _))))))
      pss_nil)
      (pss_cons (ps_if (pt_val (pe_callB call_isi (by rfl) t.z_isinstance (by decide +kernel) (pa_cons (pv 1) (pa_cons (pe_bltn (v := .ty "int") rfl t.z_int (by decide +kernel) rfl) pa_nil))))
      (pss_one (ps_ret (pe_and (pe_callB call_isi (by rfl) t.z_isinstance (by decide +kernel) (pa_cons (pv 0) (pa_cons (pe_bltn (v := .ty "int") rfl t.z_int (by decide +kernel) rfl) pa_nil))) (pe_and (pe_not (pe_callB call_isi (by rfl) t.z_isinstance (by decide +kernel) (pa_cons (pv 0) (pa_cons (pe_bltn (v := .ty "bool") rfl t.z_bool (by decide +kernel) rfl) pa_nil)))) (pe_one (pe_cmpR (op_eqD hr.units) (pv 0) (pv 1) (nomark _)))))))
      pss_nil)
      (pss_cons (ps_if (PW.pt (pw_or (pt_not (pt_val (pe_callB call_isi (by rfl) t.z_isinstance (by decide +kernel) (pa_cons (pv 0) (pa_cons (pe_bltn (v := .ty "tuple") rfl t.z_tuple (by decide +kernel) rfl) pa_nil))))) (pw_or1 (pt_cmpR op_ne (pe_callB call_len_seq (by rfl) t.z_len PySem.boot_len (pa_cons (pv 0) pa_nil)) (pe_callB call_len_seq (by rfl) t.z_len PySem.boot_len (pa_cons (pv 1) pa_nil)) (nomark _)))))
      (pss_one (ps_ret pe_bl))
      pss_nil)
      (pss_cons (ps_for PassesOwn.never rfl (pi_range1 (by rfl) t.z_range (pa_cons (pe_callB call_len_seq (by rfl) t.z_len PySem.boot_len (pa_cons (pv 1) pa_nil)) pa_nil)) (pg_name (i := 2) sc_law_same.nd rfl (Or.inl rfl))
      (pss_one (ps_if (pt_not (pt_val (pe_call (F0) (hr.mono (by decide)) rfl t.law_same.g t.law_same.F.kp t.law_same.b .nil pass0 (pa_cons (pe_ix ix_tup (pv 0) (pv 2) (fun _ _ => rfl)) (pa_cons (pe_ix ix_tup (pv 1) (pv 2) (fun _ _ => rfl)) pa_nil)))))
        (pss_one (ps_ret pe_bl))
        pss_nil)))
      (pss_one (ps_ret pe_bl)))))))), ?_⟩
    refine ⟨_, rfl, rfl, _, rfl, ?_⟩
    rw [decide_eq_false (show ¬ (V.ref b = V.non) from fun z => nomatch z)]
    refine iteF ?_
    refine ⟨_, rfl, _, _, _, _, _, rfl, ClsV.ty _, TyX.base (.tup hb), kit_ty (a := "tuple") (b := "str") (r := false) (by decide +kernel), _, rfl, ?_⟩
    refine iteF ?_
    refine ⟨_, rfl, _, _, _, _, _, rfl, ClsV.ty _, TyX.base (.tup hb), kit_ty (a := "tuple") (b := "bool") (r := false) (by decide +kernel), _, rfl, ?_⟩
    refine iteF ?_
    refine ⟨_, rfl, _, _, _, _, _, rfl, ClsV.ty _, TyX.base (.tup hb), kit_ty (a := "tuple") (b := "int") (r := false) (by decide +kernel), _, rfl, ?_⟩
    refine iteF ?_
    refine ⟨_, rfl, _, _, _, _, _, rfl, ClsV.ty _, TyX.base (.tup ha), kit_ty (a := "tuple") (b := "tuple") (r := true) (by decide +kernel), _, rfl, ?_⟩
    refine iteF ?_
    refine ⟨_, rfl, a, _, rfl, Or.inr (st_of ha), _, rfl, b, _, rfl, Or.inr (st_of hb), rfl, _, rfl, ?_⟩
    refine iteF ?_
    refine ⟨_, rfl, b, _, rfl, Or.inr (st_of hb), _, rfl, (show (-(2 ^ 62) : Int) ≤ ((2 : Nat) : Int) by decide +kernel), (show ((2 : Nat) : Int) < 2 ^ 62 by decide +kernel), ?_⟩
    refine for_it (walk_range (lo := 0) (n := 2)) (fun k σ H' => ∃ c : Option V, σ = [some (.ref a), some (.ref b), c] ∧ H' = H) ⟨_, rfl, rfl⟩ (fun i σ H' _ _ => trivial) (fun k y σ H1 H2 hk p yy => ?_) (fun σ H' p => ?_)
    · obtain ⟨c, rfl, rfl⟩ := p
      obtain ⟨rfl, rfl⟩ := yy
      rcases (show k = 0 ∨ k = 1 by omega) with rfl | rfl
      · refine ⟨_, rfl, _, rfl, a, _, _, _, rfl, rfl, st_of ha, rfl, _, rfl, _, rfl, b, _, _, _, rfl, rfl, st_of hb, rfl, i, rfl, _, rfl, ?_⟩
        exact iteF ⟨_, rfl, rfl⟩
      · refine ⟨_, rfl, _, rfl, a, _, _, _, rfl, rfl, st_of ha, rfl, _, rfl, _, rfl, b, _, _, _, rfl, rfl, st_of hb, rfl, j, rfl, _, rfl, ?_⟩
        exact iteF ⟨_, rfl, rfl⟩
    · obtain ⟨c, rfl, rfl⟩ := p
      exact q
def spCommon : Sp := fun vs H Q _ => ∃ a b : Int, vs = [.int a, .int b] ∧ 0 ≤ a ∧ 0 ≤ b ∧ b < 2 ^ cc ∧ Q (.int (Int.gcd a b : Nat)) H
theorem ok_law_common (t : T K mg) : FnOk P w K mg base CX0 1 t.law_common.f t.law_common.d p_law_common spCommon := by
  refine t.law_common.F.ok sc_law_common (fun vs H Q E h => ?_) (fun cdv A outer s H vs Q E hr h => ?_)
  · obtain ⟨a, b, rfl, _⟩ := h
    rfl
  · obtain ⟨a, b, rfl, ha, hb, hlt, q⟩ := h
    refine ⟨_, (pss_cons (ps_for PassesOwn.never rfl (pi_range1 (by rfl) t.z_range (pa_cons pe_int pa_nil)) (pg_name (i := 2) sc_law_common.nd rfl (Or.inl rfl))
      (pss_cons (ps_if (pt_cmpR op_eq (pv 1) pe_int (nomark _))
        (pss_one ps_break)
        pss_nil)
        (pss_cons (ps_set (i := 3) sc_law_common.nd rfl (Or.inl rfl) (pe_op op_mod (pe_callTy (T := "int") call_int1 (by rfl) t.z_int (by decide +kernel) (pa_cons (pv 0) pa_nil)) (pv 1)))
        (pss_cons (ps_set (i := 0) sc_law_common.nd rfl (Or.inl rfl) (pv 1))
        (pss_one (ps_set (i := 1) sc_law_common.nd rfl (Or.inl rfl) (pv 3)))))))
      (pss_one (ps_ret (pv 0)))), ?_⟩
    refine ⟨_, rfl, by decide, by decide, ?_⟩
    have eg : euc 3000 a b = ((Int.gcd a b : Nat) : Int) := euc_gcd cc 3000 a b ha hb hlt (by rw [cc_eq]; decide)
    rw [← eg] at q
    clear eg hlt
    refine for_it (walk_range (lo := 0) (n := 3000)) (fun k σ H' => ∃ (x y : Int) (c d : Option V), σ = [some (.int x), some (.int y), c, d] ∧ 0 ≤ x ∧ 0 ≤ y ∧ euc (3000 - k) x y = euc 3000 a b ∧ H' = H) ⟨a, b, _, _, rfl, ha, hb, rfl, rfl⟩ (fun i σ H' _ _ => trivial) (fun k y σ H1 H2 hk p yy => ?_) (fun σ H' p => ?_)
    · obtain ⟨x, y, c, d, rfl, hx, hy, he, rfl⟩ := p
      obtain ⟨rfl, rfl⟩ := yy
      refine ⟨_, rfl, rfl, _, rfl, ?_⟩
      by_cases h0 : y = 0
      · subst h0
        rw [decide_eq_true (show V.int 0 = V.int 0 from rfl)]
        refine iteT ⟨_, rfl, ?_⟩
        rw [euc_zero] at he
        rw [← he] at q
        exact q
      · rw [decide_eq_false (show ¬ (V.int y = V.int 0) from fun z => h0 (by injection z))]
        have hp : 0 < y := by omega
        refine iteF ⟨_, rfl, Or.inl ⟨_, rfl, _, rfl, _, _, rfl, rfl, hp, ?_⟩⟩
        refine ⟨_, rfl, _, rfl, y, x % y, _, _, rfl, hy, Int.emod_nonneg _ h0, ?_, rfl⟩
        rw [show 3000 - k = (3000 - (k + 1)) + 1 by omega] at he
        rw [← he]
        show _ = if y = 0 then x else euc _ y (x % y)
        rw [if_neg h0]
    · obtain ⟨x, y, c, d, rfl, hx, hy, he, rfl⟩ := p
      refine ⟨_, rfl, ?_⟩
      rw [show 3000 - 3000 = 0 from rfl] at he
      have he' : x = euc 3000 a b := he
      rw [← he'] at q
      exact q
def spLeast : Sp := fun vs H Q _ => ∃ a b : Int, vs = [.int a, .int b] ∧ 0 < b ∧ b < 2 ^ cc ∧ RetP (fun v => QD v (fr a b)) H Q
theorem ok_law_least (t : T K mg) : FnOk P w K mg base CX0 2 t.law_least.f t.law_least.d p_law_least spLeast := by
  refine t.law_least.F.ok sc_law_least (fun vs H Q E h => ?_) (fun cdv A outer s H vs Q E hr h => ?_)
  · obtain ⟨a, b, rfl, _⟩ := h
    rfl
  · obtain ⟨a, b, rfl, hb, hlt, q⟩ := h
    refine ⟨_, (pss_cons (ps_if (pt_cmpR op_lt (pv 1) pe_int (nomark _))
      (pss_cons (ps_set (i := 0) sc_law_least.nd rfl (Or.inl rfl) (pe_un un_neg (pv 0)))
        (pss_one (ps_set (i := 1) sc_law_least.nd rfl (Or.inl rfl) (pe_un un_neg (pv 1)))))
      pss_nil)
      (pss_cons (ps_set (i := 2) sc_law_least.nd rfl (Or.inl rfl) (pe_call (ok_law_common t) (hr.mono (by decide)) rfl t.law_common.g t.law_common.F.kp t.law_common.b .nil pass0 (pa_cons (pe_callB call_abs (by rfl) t.z_abs (by decide +kernel) (pa_cons (pv 0) pa_nil)) (pa_cons (pv 1) pa_nil))))
      (pss_one (ps_ret (pe_tup (pa_cons (pe_op op_fdivW (pv 0) (pv 2)) (pa_cons (pe_op op_fdivW (pv 1) (pv 2)) pa_nil))))))), ?_⟩
    refine ⟨_, rfl, _, _, rfl, rfl, _, rfl, ?_⟩
    rw [decide_eq_false (show ¬ (b < 0) by omega)]
    refine iteF ?_
    have e1 : 0 ≤ (if a < 0 then -a else a) := by split <;> omega
    have eg : Int.gcd (if a < 0 then -a else a) b = Int.gcd a b := by
      split
      · rw [Int.neg_gcd]
      · rfl
    refine ⟨_, rfl, _, rfl, _, rfl, _, _, rfl, e1, by omega, hlt, ?_⟩
    rw [eg]
    have g0 : (0 : Int) < ((Int.gcd a b : Nat) : Int) := by
      have := Int.gcd_pos_of_ne_zero_right a (show b ≠ 0 by omega)
      omega
    have gle : ((Int.gcd a b : Nat) : Int) ≤ b := by
      have := Int.gcd_le_natAbs_right a (show b ≠ 0 by omega)
      omega
    have gz : (((Int.gcd a b : Nat) : Int)).natAbs < 2 ^ cc := by
      have h2 : ((2 : Int) ^ cc) = (((2 ^ cc : Nat)) : Int) := by simp
      rw [h2] at hlt
      omega
    have wd : ∀ i : Int, CDivW i ((Int.gcd a b : Nat) : Int) := fun i => wide_div g0 gz (by rw [cc_eq]; decide) (by rw [cc_eq]; decide)
    refine ⟨_, rfl, _, rfl, _, _, rfl, rfl, wd _, _, rfl, _, rfl, _, _, rfl, rfl, wd _, sz_of (by simp), fun p hp => ?_⟩
    refine q (.ref p) _ (Ex.new hp) ⟨p, rfl, ?_⟩
    rw [upd_same, fr_num hb, fr_den hb]
def spLawOp (f : Rat → Rat → Rat) : Sp := fun vs H Q _ => ∃ (u v : V) (p q : Rat), vs = [u, v] ∧ QD u p H ∧ QD v q H ∧ Sz p ∧ Sz q ∧ p.den * q.den < 2 ^ cc ∧ RetP (fun v => QD v (f p q)) H Q
theorem dn_lt {p q : Rat} (h : p.den * q.den < 2 ^ cc) : ((p.den : Nat) : Int) * ((q.den : Nat) : Int) < 2 ^ cc := by
  have h2 : ((2 : Int) ^ cc) = (((2 ^ cc : Nat)) : Int) := by simp
  rw [h2, ← Int.natCast_mul]
  omega
theorem ok_law_plus (t : T K mg) : FnOk P w K mg base CX0 3 t.law_plus.f t.law_plus.d p_law_plus (spLawOp fun p q => p + q) := by
  refine t.law_plus.F.ok sc_law_plus (fun vs H Q E h => ?_) (fun cdv A outer s H vs Q E hr h => ?_)
  · obtain ⟨u, v, p, q, rfl, _⟩ := h
    rfl
  · obtain ⟨u, v, p, q, rfl, ⟨a, rfl, ha⟩, ⟨b, rfl, hb⟩, sp, sq, hd, k⟩ := h
    refine ⟨_, (pss_one (ps_ret (pe_call (ok_law_least t) (hr.mono (by decide)) rfl t.law_least.g t.law_least.F.kp t.law_least.b .nil pass0 (pa_cons (pe_op op_add (pe_op op_mulW (pe_ix ix_tup (pv 0) pe_int (fun _ _ => rfl)) (pe_ix ix_tup (pv 1) pe_int (fun _ _ => rfl))) (pe_op op_mulW (pe_ix ix_tup (pv 1) pe_int (fun _ _ => rfl)) (pe_ix ix_tup (pv 0) pe_int (fun _ _ => rfl)))) (pa_cons (pe_op op_mulW (pe_ix ix_tup (pv 0) pe_int (fun _ _ => rfl)) (pe_ix ix_tup (pv 1) pe_int (fun _ _ => rfl))) pa_nil))))), ?_⟩
    refine ⟨_, rfl, a, _, _, _, rfl, rfl, st_of ha, rfl, _, rfl, b, _, _, _, rfl, rfl, st_of hb, rfl, _, _, rfl, rfl, mulW sp.n sq.dn, ?_⟩
    refine ⟨_, rfl, b, _, _, _, rfl, rfl, st_of hb, rfl, _, rfl, a, _, _, _, rfl, rfl, st_of ha, rfl, _, _, rfl, rfl, mulW sq.n sp.dn, _, _, rfl, rfl, ?_⟩
    refine ⟨_, rfl, a, _, _, _, rfl, rfl, st_of ha, rfl, _, rfl, b, _, _, _, rfl, rfl, st_of hb, rfl, _, _, rfl, rfl, mulW sp.dn sq.dn, ?_⟩
    refine ⟨_, _, rfl, dd_pos p q, dn_lt hd, ?_⟩
    rw [fr_add]
    exact k
theorem ok_law_by (t : T K mg) : FnOk P w K mg base CX0 3 t.law_by.f t.law_by.d p_law_by (spLawOp fun p q => p * q) := by
  refine t.law_by.F.ok sc_law_by (fun vs H Q E h => ?_) (fun cdv A outer s H vs Q E hr h => ?_)
  · obtain ⟨u, v, p, q, rfl, _⟩ := h
    rfl
  · obtain ⟨u, v, p, q, rfl, ⟨a, rfl, ha⟩, ⟨b, rfl, hb⟩, sp, sq, hd, k⟩ := h
    refine ⟨_, (pss_one (ps_ret (pe_call (ok_law_least t) (hr.mono (by decide)) rfl t.law_least.g t.law_least.F.kp t.law_least.b .nil pass0 (pa_cons (pe_op op_mulW (pe_ix ix_tup (pv 0) pe_int (fun _ _ => rfl)) (pe_ix ix_tup (pv 1) pe_int (fun _ _ => rfl))) (pa_cons (pe_op op_mulW (pe_ix ix_tup (pv 0) pe_int (fun _ _ => rfl)) (pe_ix ix_tup (pv 1) pe_int (fun _ _ => rfl))) pa_nil))))), ?_⟩
    refine ⟨_, rfl, a, _, _, _, rfl, rfl, st_of ha, rfl, _, rfl, b, _, _, _, rfl, rfl, st_of hb, rfl, _, _, rfl, rfl, mulW sp.n sq.n, ?_⟩
    refine ⟨_, rfl, a, _, _, _, rfl, rfl, st_of ha, rfl, _, rfl, b, _, _, _, rfl, rfl, st_of hb, rfl, _, _, rfl, rfl, mulW sp.dn sq.dn, ?_⟩
    refine ⟨_, _, rfl, dd_pos p q, dn_lt hd, ?_⟩
    rw [fr_mul]
    exact k
def spIsShare (C : Addr) : Sp := fun vs H Q _ => ∃ (u v : V) (q : Rat), vs = [u, v] ∧ ShD C u q H ∧ QD v q H ∧ ∀ H', Ex H H' → Q (.bl true) H'
theorem ok_law_is_share (t : T K mg) : FnOk P w K mg base CX0 4 t.law_is_share.f t.law_is_share.d p_law_is_share (spIsShare t.aShare) := by
  have ok_law_same : ∀ t : T K mg, FnOk P w K mg base CX0 3 t.law_same.f t.law_same.d p_law_same spSameP := fun t => ok_same2 t
  refine t.law_is_share.F.ok sc_law_is_share (fun vs H Q E h => ?_) (fun cdv A outer s H vs Q E hr h => ?_)
  · obtain ⟨u, v, q, rfl, _⟩ := h
    rfl
  · obtain ⟨u, v, q, rfl, ⟨a, dx, rfl, ha⟩, ⟨b, rfl, hb⟩, k⟩ := h
    refine ⟨_, (pss_one (ps_ret (pe_call (ok_law_same t) (hr.mono (by decide)) rfl t.law_same.g t.law_same.F.kp t.law_same.b .nil pass0 (pa_cons (pe_tup (pa_cons (pe_fld (pv 0) rfl) (pa_cons (pe_fld (pv 0) rfl) pa_nil))) (pa_cons (pv 1) pa_nil))))), ?_⟩
    refine ⟨_, rfl, a, _, dx, _, _, rfl, ha, t.cl_Share, t.na_Share_over, sh_over q, _, rfl, a, _, dx, _, _, rfl, ha, t.cl_Share, t.na_Share_under, sh_under q, sz_of (by simp), fun p hp => ?_⟩
    exact ⟨_, rfl, p, b, _, _, rfl, upd_same, Ex.new hp _ _ hb, k _ (Ex.new hp)⟩
def spDot (K : PySem.W.Frag) : Sp := fun vs H Q _ => ∃ (u v : V) (k l : Bool) (x y : Vec) (p : Int), vs = [u, v, .int p] ∧ SeqV K k u x H ∧ SeqV K l v y H ∧ x.length = y.length ∧ x.length ≤ 1000 ∧ Sm x ∧ 0 < p ∧ Q (.int (dot x y % p)) H
theorem ok_law_dot (t : T K mg) : FnOk P w K mg base CX0 1 t.law_dot.f t.law_dot.d p_law_dot (spDot K) := by
  refine t.law_dot.F.ok sc_law_dot (fun vs H Q E h => ?_) (fun cdv A outer s H vs Q E hr h => ?_)
  · obtain ⟨u, v, k, l, x, y, p, rfl, _⟩ := h
    rfl
  · obtain ⟨u, v, k, l, x, y, p, rfl, ⟨a, rfl, ha⟩, ⟨b, rfl, hb⟩, hl, hz, sx, hp, q⟩ := h
    refine ⟨_, (pss_cons (ps_set (i := 3) sc_law_dot.nd rfl (Or.inl rfl) pe_int)
      (pss_cons (ps_for PassesOwn.never rfl (pi_range1 (by rfl) t.z_range (pa_cons (pe_callB call_len_seq (by rfl) t.z_len PySem.boot_len (pa_cons (pv 0) pa_nil)) pa_nil)) (pg_name (i := 4) sc_law_dot.nd rfl (Or.inl rfl))
      (pss_one (ps_set (i := 3) sc_law_dot.nd rfl (Or.inl rfl) (pe_op op_add (pv 3) (pe_op op_mul (pe_ix ix_any (pv 0) (pv 4) (fun _ _ => rfl)) (pe_ix ix_any (pv 1) (pv 4) (fun _ _ => rfl)))))))
      (pss_one (ps_ret (pe_op op_mod (pe_callTy (T := "int") call_int1 (by rfl) t.z_int (by decide +kernel) (pa_cons (pv 3) pa_nil)) (pv 2)))))), ?_⟩
    refine ⟨_, rfl, a, _, rfl, ?_, _, rfl, rg_lo _, rg_hi (n := (x.map V.int).length) (by simp; omega), ?_⟩
    · unfold Sq at ha
      cases k with
      | true => rw [if_pos rfl] at ha; exact Or.inl ha
      | false => rw [if_neg (by decide)] at ha; exact Or.inr ha
    rw [List.length_map, Int.toNat_natCast]
    refine for_it (walk_range (lo := 0) (n := x.length)) (fun i σ H' => ∃ c : Option V, σ = [some (.ref a), some (.ref b), some (.int p), some (.int ((List.zipWith (fun x y => x * y) x y).take i).sum), c] ∧ H' = H) ⟨_, rfl, rfl⟩ (fun i σ H' _ _ => trivial) (fun i z σ H1 H2 hi p' yy => ?_) (fun σ H' p' => ?_)
    · obtain ⟨c, rfl, rfl⟩ := p'
      obtain ⟨rfl, rfl⟩ := yy
      have h1 : x[i]? = some x[i] := List.getElem?_eq_getElem hi
      have h2 : y[i]? = some (y[i]'(by omega)) := List.getElem?_eq_getElem _
      have e0 : (0 : Int) + ((i : Nat) : Int) = ((i : Nat) : Int) := by omega
      have a1 : atI (x.map V.int) (0 + ((i : Nat) : Int)) = some (.int x[i]) := by
        rw [e0]
        exact atI_nat (by rw [List.getElem?_map, h1]; rfl)
      have a2 : atI (y.map V.int) (0 + ((i : Nat) : Int)) = some (.int (y[i]'(by omega))) := by
        rw [e0]
        exact atI_nat (by rw [List.getElem?_map, h2]; rfl)
      refine ⟨_, rfl, _, rfl, _, rfl, k, a, _, _, _, rfl, rfl, ha, a1, _, rfl, _, rfl, l, b, _, _, _, rfl, rfl, hb, a2, _, _, rfl, rfl, cmul (sx _ (List.getElem_mem _)), _, _, rfl, rfl, some (.int (0 + (i : Nat))), ?_, rfl⟩
      rw [sum_take (z := x[i] * y[i]'(by omega)) (by rw [List.getElem?_zipWith, h1, h2])]
      rfl
    · obtain ⟨c, rfl, rfl⟩ := p'
      refine ⟨_, rfl, Or.inl ⟨_, rfl, _, rfl, _, _, rfl, rfl, hp, ?_⟩⟩
      rw [List.take_of_length_le (by simp; omega)]
      exact q
def spLTimes (K : PySem.W.Frag) : Sp := fun vs H Q _ => ∃ (u x : V) (k : Bool) (m : Mat) (y : Vec) (p : Int), vs = [u, x, .int p] ∧ 0 < p ∧ MatD u m H ∧ m.length ≤ 1000 ∧ SeqV K k x y H ∧ y.length ≤ 1000 ∧ (∀ r ∈ m, r.length = y.length ∧ Sm r) ∧ RetP (fun v => LstD IntD v (tim p m y)) H Q
theorem ok_law_times (t : T K mg) : FnOk P w K mg base CX0 2 t.law_times.f t.law_times.d p_law_times (spLTimes K) := by
  refine t.law_times.F.ok sc_law_times (fun vs H Q E h => ?_) (fun cdv A outer s H vs Q E hr h => ?_)
  · obtain ⟨u, x, k, m, y, p, rfl, _⟩ := h
    rfl
  · obtain ⟨u, x, k, m, y, p, rfl, hp, hm, hml, hy, hyl, hb, q⟩ := h
    refine ⟨_, (pss_one (ps_ret (pe_lc (own := [("_law_row_here", 3)]) (g := (gName 3)) (tt := tYes) rfl sc_law_times.nd (pi_tup (pv 0)) (blkOk_by (own := [("_law_row_here", 3)]) (N := n_law_times) (sc := defScope st_law_times) (by decide +kernel)) (fun _ _ _ _ _ => (pg_name (i := 3) sc_law_times.nd rfl (Or.inl rfl))) (fun _ _ _ _ _ => pts_nil) (fun _ _ _ _ _ => (pe_call (ok_law_dot t) (hr.mono (by decide)) rfl t.law_dot.g t.law_dot.F.kp t.law_dot.b .nil pass0 (pa_cons (pv 3) (pa_cons (pv 1) (pa_cons (pv 2) pa_nil)))))))), ?_⟩
    obtain ⟨b, vs, rfl, hb1, hv⟩ := hm
    refine ⟨_, rfl, b, rfl, ⟨_, st_of hb1⟩, fun D hD => ?_⟩
    refine lc_den (R := IntD) (zs := tim p m y) (n := vs.length) walk_tup (by simp [tim, hv.1]) (by rw [hv.1]; omega) hD (fun H' e => ex_t e (st_of hb1)) mono_int (fun i c H2 H' Q' z hz ex yy q' => ?_) (fun acc H' ex hacc hlen hall => ?_)
    · obtain ⟨rfl, hx⟩ := yy
      obtain ⟨r, hr1, hr2⟩ := hv.get' hx
      obtain ⟨r0, hr0, rfl⟩ := Option.map_eq_some_iff.mp (by rw [← List.getElem?_map]; exact hz)
      rw [hr1] at hr0
      cases hr0
      have hrm := hb r (List.mem_of_getElem? hr1)
      exact ⟨rfl, _, rfl, _, rfl, _, rfl, c, x, false, k, r, y, p, rfl, vec_sq (mono_vec _ _ _ _ (im_ex ex) hr2), hy.ex ex, hrm.1, by rw [hrm.1]; exact hyl, hrm.2, hp, q' _ _ (Ex.refl _) rfl⟩
    · exact q (.ref D) _ ex ⟨D, acc, rfl, hacc, hall⟩
end
end SA
set_option maxRecDepth 100000
set_option maxHeartbeats 4000000
/-! The law, b: its row. -/
namespace SA
open PySem PySem.Spec PyProof.Rows L2 Evl SAZ
structure LNetV (n : NetD) (H : Hp) (a : Addr) (e s l o : V) : Prop where
  at_ : H a = some (.tup [.int n.p, e, s, l, o])
  e : MatD e n.emb H
  s : VecD s n.sh H
  l : TupD LayD l n.lay H
  o : MatD o n.out H
def LNetD : Den NetD := fun v n H => ∃ a e s l o, v = .ref a ∧ LNetV n H a e s l o
theorem mono_lnv {n : NetD} {H H' : Hp} {a : Addr} {e s l o : V} (i : Im H H') (h : LNetV n H a e s l o) : LNetV n H' a e s l o :=
  ⟨i _ _ rfl h.at_, mono_mat _ _ _ _ i h.e, mono_vec _ _ _ _ i h.s, mono_tup mono_lay _ _ _ _ i h.l, mono_mat _ _ _ _ i h.o⟩
theorem mono_ln : Mono LNetD := fun v n H H' i ⟨a, e, s, l, o, hv, h⟩ => ⟨a, e, s, l, o, hv, mono_lnv i h⟩
theorem lst_ints {v : V} {x : Vec} {H : Hp} (h : LstD IntD v x H) : ∃ a, v = .ref a ∧ H a = some (.lst (x.map V.int)) := by
  obtain ⟨a, vs, rfl, ha, h⟩ := h
  rw [allD_ints h] at ha
  exact ⟨a, rfl, ha⟩
theorem lst_seq {K : PySem.W.Frag} {v : V} {x : Vec} {H : Hp} (h : LstD IntD v x H) : SeqV K true v x H := by
  obtain ⟨a, rfl, ha⟩ := lst_ints h
  exact ⟨a, rfl, sqL_of ha⟩
theorem at_int {x : Vec} {i : Nat} {z : Int} (h : x[i]? = some z) : atI (x.map V.int) (0 + ((i : Nat) : Int)) = some (.int z) := by
  rw [Int.zero_add]
  exact atI_nat (by rw [List.getElem?_map, h]; rfl)
theorem lstd_ex {α : Type} {R : Den α} {v : V} {x : List α} {H H' : Hp} (m : Mono R) (e : Ex H H') : LstD R v x H → LstD R v x H' := fun ⟨a, vs, hv, ha, h⟩ => ⟨a, vs, hv, e _ _ ha, h.mono m (im_ex e)⟩
section
variable {P : Program} {w : World} {K : PySem.W.Frag} {mg : Str → Option Value} {base : Heap}
def spLRow : Sp := fun vs H Q _ => ∃ (v x : V) (n : NetD) (L W : Nat) (rows : List RowD) (a : Nat), vs = [v, x, .int (a : Int)] ∧ LNetD v n H ∧ NetOk L W n ∧ LstD RwD x rows H ∧ (∀ r ∈ rows, RowOk L W n r) ∧ rows.length ≤ 1000 ∧ a < L ∧ RetP (fun v => RwD v (rowF n rows a)) H Q
theorem ok_law_row (t : T K mg) : FnOk P w K mg base CX0 3 t.law_row.f t.law_row.d p_law_row spLRow := by
  refine t.law_row.F.ok sc_law_row (fun vs H Q E h => ?_) (fun cdv A outer s H vs Q E hr h => ?_)
  · obtain ⟨v, x, n, L, W, rows, a, rfl, _⟩ := h
    rfl
  · obtain ⟨v, x, n, L, W, rows, a, rfl, N, ok, hx, hrw, hrl, ha, k⟩ := h
    refine ⟨_, (pss_cons (ps_set (i := 3) sc_law_row.nd rfl (Or.inr rfl) (pe_ix ix_tup (pv 0) pe_int (fun _ _ => rfl)))
      (pss_cons (ps_set (i := 4) sc_law_row.nd rfl (Or.inr rfl) (pe_lc (own := [("_law_k", 14)]) (g := (gName 14)) (tt := tYes) (te := (tOp _ (tCB _ (tCons (tOp _ (tOp (rIxT K) (tOp (rIxT K) (tOp (rIxT K) _ _) _) _) (tOp _ (tCB (rLenOf K) (tCons _ tNil)) (tOp (rIxT K) (tOp (rIxT K) _ _) _))) tNil)) _)) rfl sc_law_row.nd (pi_range1 (by rfl) t.z_range (pa_cons (pe_callB call_len_seq (by rfl) t.z_len PySem.boot_len (pa_cons (pe_ix ix_tup (pv 0) pe_int (fun _ _ => rfl)) pa_nil)) pa_nil)) (blkOk_by (own := [("_law_k", 14)]) (N := n_law_row) (sc := defScope st_law_row) (by decide +kernel)) (fun _ _ _ _ _ => (pg_name (i := 14) sc_law_row.nd rfl (Or.inl rfl))) (fun _ _ _ _ _ => pts_nil) (fun _ _ _ _ _ => (pe_op op_mod (pe_callTy (T := "int") call_int1 (by rfl) t.z_int (by decide +kernel) (pa_cons (pe_op op_add (pe_ix ix_tup (pe_ix ix_tup (pe_ix ix_tup (pv 0) pe_int (fun _ _ => rfl)) (pv 2) (fun _ _ => rfl)) (pv 14) (fun _ _ => rfl)) (pe_op op_mul (pe_callB call_len_seq (by rfl) t.z_len PySem.boot_len (pa_cons (pv 1) pa_nil)) (pe_ix ix_tup (pe_ix ix_tup (pv 0) pe_int (fun _ _ => rfl)) (pv 14) (fun _ _ => rfl)))) pa_nil)) (pv 3)))))
      (pss_cons (ps_set (i := 5) sc_law_row.nd rfl (Or.inl rfl) (pe_lst pa_nil))
      (pss_cons (ps_for PassesOwn.never rfl (pi_range1 (by rfl) t.z_range (pa_cons (pe_callB call_len_seq (by rfl) t.z_len PySem.boot_len (pa_cons (pe_ix ix_tup (pv 0) pe_int (fun _ _ => rfl)) pa_nil)) pa_nil)) (pg_name (i := 6) sc_law_row.nd rfl (Or.inr rfl))
      (pss_cons (ps_set (i := 7) sc_law_row.nd rfl (Or.inl rfl) (pe_ix ix_tup (pe_ix ix_tup (pv 0) pe_int (fun _ _ => rfl)) (pv 6) (fun _ _ => rfl)))
        (pss_cons (ps_set (i := 8) sc_law_row.nd rfl (Or.inl rfl) (pe_call (ok_law_times t) (hr.mono (by decide)) rfl t.law_times.g t.law_times.F.kp t.law_times.b .nil pass0 (pa_cons (pe_ix ix_tup (pv 7) pe_int (fun _ _ => rfl)) (pa_cons (pv 4) (pa_cons (pv 3) pa_nil)))))
        (pss_cons (ps_set (i := 9) sc_law_row.nd rfl (Or.inl rfl) (pe_tup (pa_cons (pe_callTy (T := "tuple") call_tuple_of (by rfl) t.z_tuple (by decide +kernel) (pa_cons (pe_call (ok_law_times t) (hr.mono (by decide)) rfl t.law_times.g t.law_times.F.kp t.law_times.b .nil pass0 (pa_cons (pe_ix ix_tup (pv 7) pe_int (fun _ _ => rfl)) (pa_cons (pv 4) (pa_cons (pv 3) pa_nil)))) pa_nil)) (pa_cons (pe_callTy (T := "tuple") call_tuple_of (by rfl) t.z_tuple (by decide +kernel) (pa_cons (pe_call (ok_law_times t) (hr.mono (by decide)) rfl t.law_times.g t.law_times.F.kp t.law_times.b .nil pass0 (pa_cons (pe_ix ix_tup (pv 7) pe_int (fun _ _ => rfl)) (pa_cons (pv 4) (pa_cons (pv 3) pa_nil)))) pa_nil)) pa_nil))))
        (pss_cons (ps_for PassesOwn.never rfl (pi_list (pe_op op_cat (pe_lc (own := [("_law_row_here", 16)]) (g := (gName 16)) (tt := tYes) (te := (tOp (rIxT K) (tOp (rIxT K) _ _) _)) rfl sc_law_row.nd (pi_list (pv 1)) (blkOk_by (own := [("_law_row_here", 16)]) (N := n_law_row) (sc := defScope st_law_row) (by decide +kernel)) (fun _ _ _ _ _ => (pg_name (i := 16) sc_law_row.nd rfl (Or.inl rfl))) (fun _ _ _ _ _ => pts_nil) (fun _ _ _ _ _ => (pe_ix ix_tup (pe_ix ix_tup (pv 16) pe_int (fun _ _ => rfl)) (pv 6) (fun _ _ => rfl)))) (pe_lst (pa_cons (pv 9) pa_nil)))) (pg_name (i := 10) sc_law_row.nd rfl (Or.inr rfl))
        (pss_cons (ps_set (i := 11) sc_law_row.nd rfl (Or.inr rfl) (pe_call (ok_law_dot t) (hr.mono (by decide)) rfl t.law_dot.g t.law_dot.F.kp t.law_dot.b .nil pass0 (pa_cons (pv 8) (pa_cons (pe_ix ix_tup (pv 10) pe_int (fun _ _ => rfl)) (pa_cons (pv 3) pa_nil)))))
          (pss_one (ps_set (i := 4) sc_law_row.nd rfl (Or.inr rfl) (pe_lc (own := [("_law_k", 14)]) (g := (gName 14)) (tt := tYes) (te := (tOp _ (tCB _ (tCons (tOp _ (tOp (rIxL K) _ _) (tOp _ _ (tOp (rIxT K) (tOp (rIxT K) _ _) _))) tNil)) _)) rfl sc_law_row.nd (pi_range1 (by rfl) t.z_range (pa_cons (pe_callB call_len_seq (by rfl) t.z_len PySem.boot_len (pa_cons (pv 4) pa_nil)) pa_nil)) (blkOk_by (own := [("_law_k", 14)]) (N := n_law_row) (sc := defScope st_law_row) (by decide +kernel)) (fun _ _ _ _ _ => (pg_name (i := 14) sc_law_row.nd rfl (Or.inl rfl))) (fun _ _ _ _ _ => pts_nil) (fun _ _ _ _ _ => (pe_op op_mod (pe_callTy (T := "int") call_int1 (by rfl) t.z_int (by decide +kernel) (pa_cons (pe_op op_add (pe_ix ix_list (pv 4) (pv 14) (fun _ _ => rfl)) (pe_op op_mul (pv 11) (pe_ix ix_tup (pe_ix ix_tup (pv 10) pe_int (fun _ _ => rfl)) (pv 14) (fun _ _ => rfl)))) pa_nil)) (pv 3))))))))
        (pss_cons (ps_setLc (i := 12) (own := [("_law_one", 15)]) (g := (gName 15)) (tt := tYes) rfl sc_law_row.nd rfl rfl (sw_true rfl rfl rfl (by decide +kernel)) (pi_list (pe_call (ok_law_times t) (hr.mono (by decide)) rfl t.law_times.g t.law_times.F.kp t.law_times.b .nil pass0 (pa_cons (pe_ix ix_tup (pv 7) pe_int (fun _ _ => rfl)) (pa_cons (pv 4) (pa_cons (pv 3) pa_nil))))) (blkOk_by (own := [("_law_one", 15)]) (N := n_law_row) (sc := defScope st_law_row) (by decide +kernel)) (fun _ _ _ _ _ => (pg_name (i := 15) sc_law_row.nd rfl (Or.inl rfl))) (fun _ _ _ _ _ => pts_nil) (fun _ _ _ _ _ => (pe_op op_mul (pv 15) (pv 15))))
        (pss_cons (ps_set (i := 13) sc_law_row.nd rfl (Or.inr rfl) (pe_call (ok_law_times t) (hr.mono (by decide)) rfl t.law_times.g t.law_times.F.kp t.law_times.b .nil pass0 (pa_cons (pe_ix ix_tup (pv 7) pe_int (fun _ _ => rfl)) (pa_cons (pv 12) (pa_cons (pv 3) pa_nil)))))
        (pss_cons (ps_set (i := 4) sc_law_row.nd rfl (Or.inr rfl) (pe_lc (own := [("_law_k", 14)]) (g := (gName 14)) (tt := tYes) (te := (tOp _ (tCB _ (tCons (tOp _ (tOp (rIxL K) _ _) (tOp (rIxL K) _ _)) tNil)) _)) rfl sc_law_row.nd (pi_range1 (by rfl) t.z_range (pa_cons (pe_callB call_len_seq (by rfl) t.z_len PySem.boot_len (pa_cons (pv 4) pa_nil)) pa_nil)) (blkOk_by (own := [("_law_k", 14)]) (N := n_law_row) (sc := defScope st_law_row) (by decide +kernel)) (fun _ _ _ _ _ => (pg_name (i := 14) sc_law_row.nd rfl (Or.inl rfl))) (fun _ _ _ _ _ => pts_nil) (fun _ _ _ _ _ => (pe_op op_mod (pe_callTy (T := "int") call_int1 (by rfl) t.z_int (by decide +kernel) (pa_cons (pe_op op_add (pe_ix ix_list (pv 4) (pv 14) (fun _ _ => rfl)) (pe_ix ix_list (pv 13) (pv 14) (fun _ _ => rfl))) pa_nil)) (pv 3)))))
        (pss_one (ps_expr (pe_bm PySem.F.plainAttrs_list PySem.F.slot_list_append PySem.F.type_list_append mt_append (pv 5) (pa_cons (pv 9) pa_nil))))))))))))
      (pss_one (ps_ret (pe_tup (pa_cons (pe_callTy (T := "tuple") call_tuple_of (by rfl) t.z_tuple (by decide +kernel) (pa_cons (pv 5) pa_nil)) (pa_cons (pe_callTy (T := "tuple") call_tuple_of (by rfl) t.z_tuple (by decide +kernel) (pa_cons (pe_lc (own := [("_law_one", 15)]) (g := (gName 15)) (tt := tYes) rfl sc_law_row.nd (pi_tup (pe_ix ix_tup (pv 0) pe_int (fun _ _ => rfl))) (blkOk_by (own := [("_law_one", 15)]) (N := n_law_row) (sc := defScope st_law_row) (by decide +kernel)) (fun _ _ _ _ _ => (pg_name (i := 15) sc_law_row.nd rfl (Or.inl rfl))) (fun _ _ _ _ _ => pts_nil) (fun _ _ _ _ _ => (pe_op op_add (pe_call (ok_law_dot t) (hr.mono (by decide)) rfl t.law_dot.g t.law_dot.F.kp t.law_dot.b .nil pass0 (pa_cons (pv 15) (pa_cons (pv 4) (pa_cons (pv 3) pa_nil)))) pe_int))) pa_nil)) pa_nil))))))))), ?_⟩
    have hp : 0 < n.p := by have := ok.p2; omega
    have w3 := ok.w3
    have l4 := ok.l4
    obtain ⟨na, e, s, l, o, rfl, N0⟩ := id N
    obtain ⟨xa, xvs, rfl, hxa, hxv⟩ := id hx
    obtain ⟨ea, evs, rfl, hea, hev⟩ := id N0.e
    obtain ⟨sa, rfl, hsa⟩ := vec_tup N0.s
    obtain ⟨la, lvs, rfl, hla, hlv⟩ := id N0.l
    have ha' : a < n.emb.length := by rw [ok.emb.1]; exact ha
    obtain ⟨ev, hev1, hev2⟩ := hev.get (List.getElem?_eq_getElem ha')
    obtain ⟨ra, rfl, hra⟩ := vec_tup hev2
    have hel : (n.emb[a]).length = W := (ok.emb.2 _ (List.getElem_mem _)).1
    have hsl : n.sh.length = W := ok.sh.1
    have est : start0 n rows a = plu n.p n.emb[a] (scl (rows.length : Nat) n.sh) := by
      unfold start0
      rw [List.getD_eq_getElem?_getD, List.getElem?_eq_getElem ha']
      rfl
    refine ⟨_, rfl, na, _, _, _, rfl, rfl, st_of N0.at_, rfl, ?_⟩
    refine ⟨_, rfl, na, _, _, _, rfl, rfl, st_of N0.at_, rfl, sa, _, rfl, Or.inr (st_of hsa), _, rfl, rg_lo _, rg_hi (n := (n.sh.map V.int).length) (by simp; omega), fun D hD => ?_⟩
    rw [Int.toNat_natCast]
    refine lc_den (R := IntD) (zs := start0 n rows a) (walk_range (lo := 0) (n := (n.sh.map V.int).length)) (by rw [est]; simp [plu, scl, hel, hsl]) (by simp; omega) hD (fun _ _ => trivial) mono_int (fun i y H5 H' Q' z hz ex yy q' => ?_) (fun acc H5 E5 hacc hlen hall => ?_)
    · obtain ⟨rfl, rfl⟩ := yy
      rw [est] at hz
      unfold plu scl at hz
      rw [List.getElem?_zipWith, List.getElem?_map] at hz
      have hiW : i < W := by
        rcases Nat.lt_or_ge i W with h | h
        · exact h
        · rw [List.getElem?_eq_none (by rw [hel]; exact h)] at hz; cases hz
      have h1 : n.emb[a][i]? = some (n.emb[a][i]'(by omega)) := List.getElem?_eq_getElem _
      have h2 : n.sh[i]? = some (n.sh[i]'(by omega)) := List.getElem?_eq_getElem _
      rw [h1, h2] at hz
      cases hz
      refine ⟨rfl, _, rfl, na, _, _, _, rfl, rfl, st_of (ex _ _ N0.at_), rfl, _, rfl, ea, evs, _, _, rfl, rfl, st_of (ex _ _ hea), atI_nat hev1, _, rfl, ra, _, _, _, rfl, rfl, st_of (ex _ _ hra), at_int h1, ?_⟩
      refine ⟨_, rfl, xa, xvs, rfl, Or.inl (sq_of (ex _ _ hxa)), _, rfl, na, _, _, _, rfl, rfl, st_of (ex _ _ N0.at_), rfl, _, rfl, sa, _, _, _, rfl, rfl, st_of (ex _ _ hsa), at_int h2, _, _, rfl, rfl, cmul' ((Sm.of ok.p97 ok.sh.2) _ (List.mem_of_getElem? h2)), ?_⟩
      refine ⟨_, _, rfl, rfl, Or.inl ⟨_, rfl, _, rfl, _, _, rfl, rfl, hp, q' _ _ (Ex.refl _) ?_⟩⟩
      show V.int _ = V.int _
      rw [hxv.1]
    · have hst : LstD IntD (.ref D) (start0 n rows a) H5 := ⟨D, acc, rfl, hacc, hall⟩
      clear hall hacc
      refine ⟨sz_of (by simp), fun ow how => ?_⟩
      have E07 : Ex H (upd H5 ow (.lst [])) := E5.trans (Ex.new how)
      have how0 : H ow = none := fresh_back E5 how
      refine ⟨_, rfl, na, _, _, _, rfl, rfl, st_of (E07 _ _ N0.at_), rfl, la, _, rfl, Or.inr (st_of (E07 _ _ hla)), _, rfl, rg_lo _, rg_hi (n := lvs.length) (by rw [hlv.1]; have := ok.few; omega), ?_⟩
      rw [Int.toNat_natCast]
      refine for_it (walk_range (lo := 0) (n := lvs.length)) (fun i σ H' => ∃ (xv : V) (a6 a7 a8 a9 a10 a11 a12 a13 : Option V) (ovs : List V), σ = [some (.ref na), some (.ref xa), some (.int (a : Int)), some (.int n.p), some xv, some (.ref ow), a6, a7, a8, a9, a10, a11, a12, a13, none, none, none] ∧ Ex H H' ∧ H' ow = some (.lst ovs) ∧
          StOk n.p W i (layT n.p rows (n.lay.take i) 0 (start0 n rows a, [])) ∧ LstD IntD xv (layT n.p rows (n.lay.take i) 0 (start0 n rows a, [])).1 H' ∧ AllD PrD ovs (layT n.p rows (n.lay.take i) 0 (start0 n rows a, [])).2 H')
        ⟨_, _, _, _, _, _, _, _, _, [], rfl, E07, upd_same, ⟨start_ok ok ha, rfl, fun _ h => nomatch h⟩, lstd_ex mono_int (Ex.new how) hst, AllD.nil⟩
        (fun i σ H' _ _ => trivial) (fun i y σ H7 H8 hi p yy => ?_) (fun σ H' p => ?_)
      · obtain ⟨xv, a6, a7, a8, a9, a10, a11, a12, a13, ovs, rfl, E8, how8, so, hxv8, hov8⟩ := p
        obtain ⟨rfl, rfl⟩ := yy
        have him : i < n.lay.length := by rw [← hlv.1]; exact hi
        obtain ⟨yv, hyv1, hlyd⟩ := hlv.get (List.getElem?_eq_getElem him)
        have hly : n.lay[i]? = some n.lay[i] := List.getElem?_eq_getElem him
        have lok := ok.lay _ (List.mem_of_getElem? hly)
        have stk := layT_take (p := n.p) (rows := rows) (st := (start0 n rows a, [])) hly
        generalize n.lay[i] = ly at *
        have hs' := layS_ok hp (m := n.lay.length) (l := ly) him (fun r hr => ⟨(hrw r hr).len, (hrw r hr).prs⟩) so lok
        rw [stk]
        generalize layT n.p rows (n.lay.take i) 0 (start0 n rows a, []) = st at *
        clear stk
        obtain ⟨ya, yvs, rfl, hya, hyv⟩ := mono_lay _ _ _ _ (im_ex E8) hlyd
        obtain ⟨vq, vk, vv, vf, vs, rfl, hq, hk, hv, hf, hs⟩ := allD_five hyv
        have hat : atI lvs (0 + ((i : Nat) : Int)) = some (.ref ya) := by rw [Int.zero_add]; exact atI_nat hyv1
        have hqv : VecOk n.p W (tim n.p ly.q st.1) := tim_ok hp lok.q.1 _
        -- layer, asked
        refine ⟨_, rfl, na, _, _, _, rfl, rfl, st_of (E8 _ _ N0.at_), rfl, _, rfl, la, lvs, _, _, rfl, rfl, st_of (E8 _ _ hla), hat, ?_⟩
        refine ⟨_, rfl, ya, _, _, _, rfl, rfl, st_of hya, rfl, _, rfl, _, rfl, _, _, true, ly.q, st.1, n.p, rfl, hp, hq, by rw [lok.q.1]; omega, lst_seq hxv8, by rw [so.x.1]; omega, matk ok.p97 lok.q so.x.1, ?_⟩
        intro w0 H9 E9 hw0
        have hxv9 := lstd_ex mono_int E9 hxv8
        -- pair
        refine ⟨_, rfl, ya, _, _, _, rfl, rfl, st_of (E9 _ _ hya), rfl, _, rfl, _, rfl, _, _, true, ly.k, st.1, n.p, rfl, hp, mono_mat _ _ _ _ (im_ex E9) hk, by rw [lok.k.1]; omega, lst_seq hxv9, by rw [so.x.1]; omega, matk ok.p97 lok.k so.x.1, ?_⟩
        intro w1 H10 E10 hw1
        obtain ⟨w1a, rfl, hw1a⟩ := lst_ints hw1
        refine ⟨w1a, _, rfl, Or.inl ⟨sq_of hw1a, fun t1 ht1 => ?_⟩⟩
        have E11 := Ex.new (o := .tup ((tim n.p ly.k st.1).map V.int)) ht1
        have E911 := E9.trans (E10.trans E11)
        have ht1v : upd H10 t1 (.tup ((tim n.p ly.k st.1).map V.int)) t1 = some (.tup ((tim n.p ly.k st.1).map V.int)) := upd_same
        have hw0' := lstd_ex mono_int (E10.trans E11) hw0
        generalize upd H10 t1 (.tup ((tim n.p ly.k st.1).map V.int)) = H11 at *
        have hxv11 := lstd_ex mono_int E911 hxv8
        refine ⟨_, rfl, ya, _, _, _, rfl, rfl, st_of (E911 _ _ hya), rfl, _, rfl, _, rfl, _, _, true, ly.v, st.1, n.p, rfl, hp, mono_mat _ _ _ _ (im_ex E911) hv, by rw [lok.v.1]; omega, lst_seq hxv11, by rw [so.x.1]; omega, matk ok.p97 lok.v so.x.1, ?_⟩
        intro w2 H12 E12 hw2
        obtain ⟨w2a, rfl, hw2a⟩ := lst_ints hw2
        refine ⟨w2a, _, rfl, Or.inl ⟨sq_of hw2a, fun t2 ht2 => ?_⟩⟩
        have E13 := Ex.new (o := .tup ((tim n.p ly.v st.1).map V.int)) ht2
        have ht2v : upd H12 t2 (.tup ((tim n.p ly.v st.1).map V.int)) t2 = some (.tup ((tim n.p ly.v st.1).map V.int)) := upd_same
        have ht1w := E13 _ _ (E12 _ _ ht1v)
        generalize upd H12 t2 (.tup ((tim n.p ly.v st.1).map V.int)) = H13 at *
        refine ⟨sz_of (by simp), fun pa hpa => ?_⟩
        have E14 := Ex.new (o := .tup [V.ref t1, V.ref t2]) hpa
        have EA : Ex H8 (upd H13 pa (.tup [V.ref t1, V.ref t2])) := E911.trans (E12.trans (E13.trans E14))
        have hpair : PrD (.ref pa) ((tim n.p ly.k st.1, tim n.p ly.v st.1) : Pair) (upd H13 pa (.tup [V.ref t1, V.ref t2])) := ⟨pa, .ref t1, .ref t2, rfl, upd_same, tup_vec (E14 _ _ ht1w), tup_vec (E14 _ _ ht2v)⟩
        have hw0A := lstd_ex mono_int (E12.trans (E13.trans E14)) hw0'
        generalize upd H13 pa (.tup [V.ref t1, V.ref t2]) = HA at *
        clear hw1 hw2 hw0 hw0' ht1v ht2v ht1w hw1a hw2a E9 E10 E11 E12 E13 E14 E911 hxv9 hxv11
        -- pairs
        have xaA := (E8.trans EA) _ _ hxa
        have hxvA := hxv.mono mono_rw (im_ex (E8.trans EA))
        refine ⟨_, rfl, xa, rfl, ⟨_, sq_of xaA⟩, fun D2 hD2 => ?_⟩
        refine lc_den (R := PrD) (zs := rows.map fun r => r.1.getD i ([], [])) (n := xvs.length) walk_list (by simp [hxv.1]) (by rw [hxv.1]; omega) hD2 (fun H' e => ex_l e (sq_of xaA)) mono_pr (fun j c HB HC Q' z hz ex yy q' => ?_) (fun acc HB EB hacc hlen hall => ?_)
        · obtain ⟨rfl, hc⟩ := yy
          obtain ⟨r, hr1, hr2⟩ := hxvA.get' hc
          obtain ⟨r0, hr0, rfl⟩ := Option.map_eq_some_iff.mp (by rw [← List.getElem?_map]; exact hz)
          rw [hr1] at hr0
          cases hr0
          obtain ⟨ca, c1, c2, rfl, hca, hc1, hc2⟩ := mono_rw _ _ _ _ (im_ex ex) hr2
          obtain ⟨c1a, c1vs, rfl, hc1a, hc1v⟩ := hc1
          have hir : i < r.1.length := by rw [(hrw r (List.mem_of_getElem? hr1)).len]; exact him
          obtain ⟨pv', hpv1, hpv2⟩ := hc1v.get (List.getElem?_eq_getElem hir)
          refine ⟨rfl, _, rfl, ca, _, _, _, rfl, rfl, st_of hca, rfl, _, rfl, c1a, _, _, _, rfl, rfl, st_of hc1a, (by rw [Int.zero_add]; exact atI_nat hpv1), q' _ _ (Ex.refl _) ?_⟩
          rw [List.getD_eq_getElem?_getD, List.getElem?_eq_getElem hir]
          exact hpv2
        · refine ⟨_, rfl, sz_of (by simp), fun p2 hp2 => ?_⟩
          refine ⟨D2, p2, acc, _, rfl, rfl, Ex.new hp2 _ _ hacc, upd_same, sz_of (by rw [hlen, hxv.1]; simp; omega), fun p3 hp3 => ?_⟩
          have EC : Ex HA (upd (upd HB p2 (.lst [V.ref pa])) p3 (.lst (acc ++ [V.ref pa]))) := (EB.trans (Ex.new hp2)).trans (Ex.new hp3)
          have hprs : AllD PrD (acc ++ [V.ref pa]) (rows.map (fun r => r.1.getD i ([], [])) ++ [(tim n.p ly.k st.1, tim n.p ly.v st.1)]) (upd (upd HB p2 (.lst [V.ref pa])) p3 (.lst (acc ++ [V.ref pa]))) :=
            (hall.mono mono_pr (im_ex ((Ex.new hp2).trans (Ex.new hp3)))).snoc (mono_pr _ _ _ _ (im_ex EC) hpair)
          have hp3a : upd (upd HB p2 (.lst [V.ref pa])) p3 (.lst (acc ++ [V.ref pa])) p3 = some (.lst (acc ++ [V.ref pa])) := upd_same
          generalize upd (upd HB p2 (.lst [V.ref pa])) p3 (.lst (acc ++ [V.ref pa])) = HC at *
          generalize acc ++ [V.ref pa] = pvs at *
          clear hall hacc hlen
          have prk : ∀ kv ∈ rows.map (fun r => r.1.getD i ([], [])) ++ [((tim n.p ly.k st.1, tim n.p ly.v st.1) : Pair)], PairOk n.p W kv := fun kv hkv => by
            rcases List.mem_append.mp hkv with h | h
            · obtain ⟨r, hr', rfl⟩ := List.mem_map.mp h
              exact getD_ok (hrw r hr').len him (hrw r hr').prs
            · rw [List.mem_singleton.mp h]
              exact ⟨tim_ok hp lok.k.1 _, tim_ok hp lok.v.1 _⟩
          have hef : layS n.p rows st i ly = (plu n.p (plu n.p st.1 (looked n.p (tim n.p ly.q st.1) (rows.map (fun r => r.1.getD i ([], [])) ++ [((tim n.p ly.k st.1, tim n.p ly.v st.1) : Pair)]))) (tim n.p ly.s (sq (tim n.p ly.f (plu n.p st.1 (looked n.p (tim n.p ly.q st.1) (rows.map (fun r => r.1.getD i ([], [])) ++ [((tim n.p ly.k st.1, tim n.p ly.v st.1) : Pair)])))))), st.2 ++ [((tim n.p ly.k st.1, tim n.p ly.v st.1) : Pair)]) := rfl
          rw [hef] at hs' ⊢
          clear hef
          generalize rows.map (fun r => r.1.getD i ([], [])) ++ [((tim n.p ly.k st.1, tim n.p ly.v st.1) : Pair)] = prs at *
          have lwk : ∀ m : List Pair, (∀ kv ∈ m, PairOk n.p W kv) → VecOk n.p W (m.foldl (lawF n.p (tim n.p ly.q st.1)) st.1) := fun m hm => by
            have e := looked_lawed hp so.x hqv.1 (fun kv h => (hm kv h).2.1)
            unfold lawed at e
            rw [← e]
            exact plu_ok hp so.x.1 (looked_len hp (by simp [zer, hqv.1]) fun kv h => (hm kv h).2.1)
          have elk : plu n.p st.1 (looked n.p (tim n.p ly.q st.1) prs) = prs.foldl (lawF n.p (tim n.p ly.q st.1)) st.1 := looked_lawed hp so.x hqv.1 (fun kv h => (prk kv h).2.1)
          rw [elk] at hs' ⊢
          clear elk
          generalize tim n.p ly.q st.1 = qv at *
          refine ⟨p3, rfl, ⟨_, sq_of hp3a⟩, ?_⟩
          refine for_it (walk_list (xs := pvs)) (fun j σ H' => ∃ (xw : V) (b10 b11 : Option V), σ = [some (.ref na), some (.ref xa), some (.int (a : Int)), some (.int n.p), some xw, some (.ref ow), some (.int (0 + ((i : Nat) : Int))), some (.ref ya), some w0, some (.ref pa), b10, b11, a12, a13, none, none, none] ∧ Ex HC H' ∧ LstD IntD xw ((prs.take j).foldl (lawF n.p qv) st.1) H') ⟨_, _, _, rfl, Ex.refl _, lstd_ex mono_int (EA.trans EC) hxv8⟩
            (fun j σ H' _ ⟨_, _, _, _, e, _⟩ => ex_l e (sq_of hp3a)) (fun j c σ HD HE hj p yy => ?_) (fun σ HD p => ?_)
          · obtain ⟨xw, b10, b11, rfl, ED, hxw⟩ := p
            obtain ⟨rfl, hc⟩ := yy
            obtain ⟨kv, hkv, hkd⟩ := hprs.get' hc
            obtain ⟨ca, c1, c2, rfl, hca, hc1, hc2⟩ := mono_pr _ _ _ _ (im_ex ED) hkd
            obtain ⟨g1, g2⟩ := prk kv (List.mem_of_getElem? hkv)
            obtain ⟨xwa, rfl, hxwa⟩ := lst_ints hxw
            obtain ⟨c2a, rfl, hc2a⟩ := vec_tup hc2
            have xok := lwk (prs.take j) fun kv h => prk kv (List.mem_of_mem_take h)
            refine ⟨_, rfl, _, rfl, ca, _, _, _, rfl, rfl, st_of hca, rfl, _, rfl, w0, c1, true, false, qv, kv.1, n.p, rfl, lst_seq (lstd_ex mono_int (EC.trans ED) hw0A), vec_sq hc1, by rw [hqv.1, g1.1], by rw [hqv.1]; omega, Sm.of ok.p97 hqv.2, hp, ?_⟩
            refine ⟨_, rfl, xwa, _, rfl, Or.inl (sq_of hxwa), _, rfl, rg_lo _, rg_hi (n := (((prs.take j).foldl (lawF n.p qv) st.1).map V.int).length) (by simp [xok.1]; omega), fun D3 hD3 => ?_⟩
            rw [Int.toNat_natCast]
            have hfl : (lawF n.p qv ((prs.take j).foldl (lawF n.p qv) st.1) kv).length = W := by simp [lawF, xok.1, g2.1]
            refine lc_den (R := IntD) (zs := lawF n.p qv ((prs.take j).foldl (lawF n.p qv) st.1) kv) (walk_range (lo := 0) (n := (((prs.take j).foldl (lawF n.p qv) st.1).map V.int).length)) (by rw [hfl]; simp [xok.1]) (by simp [xok.1]; omega) hD3 (fun _ _ => trivial) mono_int (fun i2 y HG HG' Q' z hz ex yy q' => ?_) (fun acc3 HG EG hacc3 hlen3 hall3 => ?_)
            · obtain ⟨rfl, rfl⟩ := yy
              have hiW : i2 < W := by
                rw [← hfl]
                exact (List.getElem?_eq_some_iff.mp hz).1
              unfold lawF at hz
              rw [List.getElem?_zipWith] at hz
              have h1 : ((prs.take j).foldl (lawF n.p qv) st.1)[i2]? = some (((prs.take j).foldl (lawF n.p qv) st.1)[i2]'(by rw [xok.1]; exact hiW)) := List.getElem?_eq_getElem _
              have h2 : kv.2[i2]? = some (kv.2[i2]'(by rw [g2.1]; exact hiW)) := List.getElem?_eq_getElem _
              have h1' := h1
              unfold lawF at h1'
              rw [h1', h2] at hz
              refine ⟨rfl, _, rfl, _, rfl, xwa, _, _, _, rfl, rfl, sq_of (ex _ _ hxwa), at_int h1, _, rfl, _, rfl, ca, _, _, _, rfl, rfl, st_of (ex _ _ hca), rfl, _, rfl, c2a, _, _, _, rfl, rfl, st_of (ex _ _ hc2a), at_int h2, _, _, rfl, rfl, cmul' ((Sm.of ok.p97 g2.2) _ (List.mem_of_getElem? h2)), ?_⟩
              refine ⟨_, _, rfl, rfl, Or.inl ⟨_, rfl, _, rfl, _, _, rfl, rfl, hp, q' _ _ (Ex.refl _) ?_⟩⟩
              exact congrArg V.int (Option.some.inj hz)
            · refine ⟨.ref D3, _, _, rfl, ED.trans EG, ?_⟩
              rw [foldl_take hkv]
              exact ⟨D3, acc3, rfl, hacc3, hall3⟩
          · obtain ⟨xw, b10, b11, rfl, ED, hxw⟩ := p
            rw [List.take_of_length_le (by rw [hprs.1]; exact Nat.le_refl _)] at hxw
            have x1ok := lwk prs prk
            generalize prs.foldl (lawF n.p qv) st.1 = x1 at *
            have EAD := EA.trans (EC.trans ED)
            refine ⟨_, rfl, ya, _, _, _, rfl, rfl, st_of (EAD _ _ hya), rfl, _, rfl, _, rfl, _, _, true, ly.f, x1, n.p, rfl, hp, mono_mat _ _ _ _ (im_ex EAD) hf, by rw [lok.f.1]; omega, lst_seq hxw, by rw [x1ok.1]; omega, matk ok.p97 lok.f x1ok.1, ?_⟩
            intro w7 HE EE hw7
            have hfv : VecOk n.p W (tim n.p ly.f x1) := tim_ok hp lok.f.1 _
            obtain ⟨fa, rfl, hfa⟩ := lst_ints hw7
            refine ⟨fa, rfl, ⟨_, sq_of hfa⟩, fun D3 hD3 => ?_⟩
            refine lc_den (R := IntD) (zs := sq (tim n.p ly.f x1)) (n := ((tim n.p ly.f x1).map V.int).length) walk_list (by simp [sq]) (by simp [hfv.1]; omega) hD3 (fun H' e => ex_l e (sq_of hfa)) mono_int (fun j y HI HJ Q' z hz ex yy q' => ?_) (fun acc2 HI EI hacc2 hlen2 hall2 => ?_)
            · obtain ⟨rfl, hy⟩ := yy
              obtain ⟨z0, hz0, rfl⟩ := Option.map_eq_some_iff.mp (by rw [← List.getElem?_map]; exact hz)
              obtain ⟨z1, hz1, rfl⟩ := Option.map_eq_some_iff.mp (by rw [← List.getElem?_map]; exact hy)
              rw [hz0] at hz1
              cases hz1
              exact ⟨rfl, _, rfl, _, rfl, _, _, rfl, rfl, cmul ((Sm.of ok.p97 hfv.2) _ (List.mem_of_getElem? hz0)), q' _ _ (Ex.refl _) rfl⟩
            · have EJ := EE.trans EI
              have hsq : (sq (tim n.p ly.f x1)).length = W := by simp [sq, hfv.1]
              refine ⟨_, rfl, ya, _, _, _, rfl, rfl, st_of ((EAD.trans EJ) _ _ hya), rfl, _, rfl, _, rfl, _, _, true, ly.s, _, n.p, rfl, hp, mono_mat _ _ _ _ (im_ex (EAD.trans EJ)) hs, by rw [lok.s.1]; omega, lst_sq hacc2 hall2, by rw [hsq]; omega, matk ok.p97 lok.s hsq, ?_⟩
              intro w8 HK EK hw8
              have EJK := EJ.trans EK
              obtain ⟨w8a, rfl, hw8a⟩ := lst_ints hw8
              obtain ⟨xwa, rfl, hxwa⟩ := lst_ints (lstd_ex mono_int EJK hxw)
              have hmv : VecOk n.p W (tim n.p ly.s (sq (tim n.p ly.f x1))) := tim_ok hp lok.s.1 _
              generalize tim n.p ly.s (sq (tim n.p ly.f x1)) = mv at *
              refine ⟨_, rfl, xwa, _, rfl, Or.inl (sq_of hxwa), _, rfl, rg_lo _, rg_hi (n := (x1.map V.int).length) (by simp [x1ok.1]; omega), fun D4 hD4 => ?_⟩
              rw [Int.toNat_natCast]
              refine lc_den (R := IntD) (zs := plu n.p x1 mv) (walk_range (lo := 0) (n := (x1.map V.int).length)) (by simp [plu, x1ok.1, hmv.1]) (by simp [x1ok.1]; omega) hD4 (fun _ _ => trivial) mono_int (fun i2 y HG HG' Q' z hz ex yy q' => ?_) (fun acc3 HG EG hacc3 hlen3 hall3 => ?_)
              · obtain ⟨rfl, rfl⟩ := yy
                have hiW : i2 < W := by
                  have := (List.getElem?_eq_some_iff.mp hz).1
                  simp [plu, x1ok.1, hmv.1] at this
                  exact this
                unfold plu at hz
                rw [List.getElem?_zipWith] at hz
                have h1 : x1[i2]? = some (x1[i2]'(by rw [x1ok.1]; exact hiW)) := List.getElem?_eq_getElem _
                have h2 : mv[i2]? = some (mv[i2]'(by rw [hmv.1]; exact hiW)) := List.getElem?_eq_getElem _
                rw [h1, h2] at hz
                refine ⟨rfl, _, rfl, _, rfl, xwa, _, _, _, rfl, rfl, sq_of (ex _ _ hxwa), at_int h1, _, rfl, _, rfl, w8a, _, _, _, rfl, rfl, sq_of (ex _ _ hw8a), at_int h2, ?_⟩
                refine ⟨_, _, rfl, rfl, Or.inl ⟨_, rfl, _, rfl, _, _, rfl, rfl, hp, q' _ _ (Ex.refl _) ?_⟩⟩
                exact congrArg V.int (Option.some.inj hz)
              · have EN := EAD.trans (EJK.trans EG)
                have howM := EN _ _ how8
                have hovl : ovs.length = i := by rw [hov8.1, so.len]
                refine ⟨_, rfl, Or.inl ⟨rfl, _, sq_of howM⟩, _, rfl, ow, ovs, _, rfl, rfl, howM, sz_lt (by rw [hovl]; have := ok.few; omega), ?_⟩
                have im := Im.lst (o := .lst (ovs ++ [V.ref pa])) howM
                have dne : D4 ≠ ow := fun z => by
                  subst z
                  have := (EAD.trans EJK) _ _ how8
                  rw [hD4] at this
                  cases this
                refine ⟨.ref D4, _, _, _, _, _, _, _, _, ovs ++ [V.ref pa], rfl, (E8.trans EN).mut how0, upd_same, hs', ⟨D4, acc3, rfl, by rw [upd_ne dne]; exact hacc3, hall3.mono mono_int im⟩, ?_⟩
                exact (hov8.mono mono_pr ((im_ex EN).trans im)).snoc (mono_pr _ _ _ _ ((im_ex (EC.trans (ED.trans (EJK.trans EG)))).trans im) hpair)
      · obtain ⟨xv, a6, a7, a8, a9, a10, a11, a12, a13, ovs, rfl, E7, how7, so, hxv7, hov7⟩ := p
        rw [List.take_of_length_le (by rw [hlv.1]; exact Nat.le_refl _)] at so hxv7 hov7
        refine ⟨_, rfl, ow, ovs, rfl, Or.inl ⟨sq_of how7, fun l1 hl1 => ?_⟩⟩
        have E8 := Ex.new (o := .tup ovs) hl1
        have hl1v : upd H' l1 (.tup ovs) l1 = some (.tup ovs) := upd_same
        generalize upd H' l1 (.tup ovs) = H8 at *
        have E08 := E7.trans E8
        have N8 := mono_lnv (im_ex E08) N0
        obtain ⟨oa, ovs2, rfl, hoa, hov2⟩ := id N8.o
        have hxv8 := lstd_ex mono_int E8 hxv7
        refine ⟨_, rfl, na, _, _, _, rfl, rfl, st_of N8.at_, rfl, oa, rfl, ⟨_, st_of hoa⟩, fun D2 hD2 => ?_⟩
        refine lc_den (R := IntD) (zs := wOf n (layT n.p rows n.lay 0 (start0 n rows a, [])).1) (n := ovs2.length) walk_tup (by simp [wOf, hov2.1]) (by rw [hov2.1, ok.out.1]; omega) hD2 (fun H' e => ex_t e (st_of hoa)) mono_int (fun j c HB HC Q' z hz ex yy q' => ?_) (fun acc HB EB hacc hlen hall => ?_)
        · obtain ⟨rfl, hc⟩ := yy
          obtain ⟨r, hr1, hr2⟩ := hov2.get' hc
          obtain ⟨r0, hr0, rfl⟩ := Option.map_eq_some_iff.mp (by rw [← List.getElem?_map]; exact hz)
          rw [hr1] at hr0
          cases hr0
          have hrm := ok.out.2 r (List.mem_of_getElem? hr1)
          refine ⟨rfl, _, rfl, _, rfl, _, rfl, c, xv, false, true, r, _, n.p, rfl, vec_sq (mono_vec _ _ _ _ (im_ex ex) hr2), lst_seq (lstd_ex mono_int ex hxv8), by rw [hrm.1, so.x.1], by rw [hrm.1]; omega, Sm.of ok.p97 hrm.2, hp, _, _, rfl, rfl, q' _ _ (Ex.refl _) ?_⟩
          show V.int _ = V.int _
          rw [Int.add_comm]
        · refine ⟨D2, acc, rfl, Or.inl ⟨sq_of hacc, fun l2 hl2 => ?_⟩⟩
          refine ⟨sz_of (by simp), fun l3 hl3 => ?_⟩
          have e2 := (Ex.new (o := .tup acc) hl2).trans (Ex.new (o := .tup [V.ref l1, V.ref l2]) hl3)
          have e1 := EB.trans e2
          exact k (.ref l3) _ (E08.trans e1) (show RwD (.ref l3) (rowF n rows a) _ from ⟨l3, .ref l1, .ref l2, rfl, upd_same, ⟨l1, ovs, rfl, e1 _ _ hl1v, hov7.mono mono_pr (im_ex (E8.trans e1))⟩, ⟨l2, acc, rfl, Ex.new hl3 _ _ upd_same, hall.mono mono_int (im_ex e2)⟩⟩)
end
end SA
set_option maxRecDepth 100000
set_option maxHeartbeats 4000000
/-! The law, c: its shares, its texts. -/
namespace SA
open PySem PySem.Spec PyProof.Rows L2 Evl SAZ
theorem six_nat (n d j : Nat) : HT.sIx n d (some (j : Int)) = min j n := by
  show (if (j : Int) < 0 then ((j : Int) + (n : Int)).toNat else min (j : Int).toNat n) = _
  rw [if_neg (by omega), Int.toNat_natCast]
theorem cut_to (xs : List V) (j : Nat) : cutV xs none (some (j : Int)) = xs.take j := by
  unfold cutV
  rw [six_nat]
  show (xs.drop 0).take (min j xs.length - 0) = _
  rw [List.drop_zero, Nat.sub_zero, List.take_eq_take_min]
  rw [List.take_eq_take_min (i := j)]
  simp
theorem cut_from (xs : List V) (j : Nat) : cutV xs (some (j : Int)) none = xs.drop j := by
  unfold cutV
  rw [six_nat]
  show (xs.drop (min j xs.length)).take (xs.length - min j xs.length) = _
  rw [List.take_of_length_le (by rw [List.length_drop]; exact Nat.le_refl _)]
  rcases Nat.le_total j xs.length with h | h
  · rw [Nat.min_eq_left h]
  · rw [Nat.min_eq_right h, List.drop_eq_nil_of_le (Nat.le_refl _), List.drop_eq_nil_of_le h]
theorem cut_mid (xs : List V) (i j : Nat) (hi : i ≤ xs.length) (hj : j ≤ xs.length) : cutV xs (some (i : Int)) (some (j : Int)) = (xs.drop i).take (j - i) := by
  unfold cutV
  rw [six_nat, six_nat, Nat.min_eq_left hi, Nat.min_eq_left hj]
theorem slA_to {α : Type} {R : Den α} {K : PySem.W.Frag} {v : V} {xs : List α} {H : Hp} {Q : VK} {j : Nat} (m : Mono R) (h : TupD R v xs H) (k : ∀ z H', Ex H H' → TupD R z (xs.take j) H' → Q z H') : rSlA K v none (some (j : Int)) H Q := by
  obtain ⟨a, vs, rfl, ha, hv⟩ := h
  refine ⟨a, vs, rfl, st_of ha, fun hh => k _ H (Ex.refl H) ?_, fun _ p hp => k (.ref p) _ (Ex.new hp) ⟨p, vs.take j, rfl, by rw [cut_to]; exact upd_same, (hv.take j).mono m (im_ex (Ex.new hp))⟩⟩
  have h2 := hh.2
  rw [six_nat] at h2
  rw [List.take_of_length_le (by rw [← hv.1]; omega)]
  exact ⟨a, vs, rfl, ha, hv⟩
theorem slA_from {α : Type} {R : Den α} {K : PySem.W.Frag} {v : V} {xs : List α} {H : Hp} {Q : VK} {j : Nat} (m : Mono R) (h : TupD R v xs H) (k : ∀ z H', Ex H H' → TupD R z (xs.drop j) H' → Q z H') : rSlA K v (some (j : Int)) none H Q := by
  obtain ⟨a, vs, rfl, ha, hv⟩ := h
  refine ⟨a, vs, rfl, st_of ha, fun hh => k _ H (Ex.refl H) ?_, fun _ p hp => k (.ref p) _ (Ex.new hp) ⟨p, vs.drop j, rfl, by rw [cut_from]; exact upd_same, (hv.drop j).mono m (im_ex (Ex.new hp))⟩⟩
  have h1 := hh.1
  rw [six_nat] at h1
  have hd : vs.drop j = vs := by
    rcases Nat.eq_zero_or_pos j with e | e
    · rw [e, List.drop_zero]
    · have : vs.length = 0 := by omega
      rw [List.length_eq_zero_iff.mp this, List.drop_nil]
  have := hv.drop j
  rw [hd] at this
  exact ⟨a, vs, rfl, ha, this⟩
theorem at_last {α : Type} {R : Den α} {vs : List V} {xs : List α} {H : Hp} (h : AllD R vs xs H) (hne : xs ≠ []) : ∃ u, atI vs (-1) = some u ∧ R u (xs.getLast hne) H := by
  have hvne : vs ≠ [] := fun z => by
    rw [z] at h
    exact hne (List.length_eq_zero_iff.mp h.1.symm)
  have el : xs[vs.length - 1]? = some (xs.getLast hne) := by
    rw [h.1, List.getLast_eq_getElem, List.getElem?_eq_getElem]
  obtain ⟨u, hu1, hu2⟩ := h.get el
  refine ⟨u, ?_, hu2⟩
  have e := List.dropLast_concat_getLast hvne
  rw [← e, atI_last]
  rw [List.getLast_eq_getElem]
  rw [List.getElem?_eq_getElem (by have := List.length_pos_iff.mpr hvne; omega)] at hu1
  exact hu1
/-! ### the kept rows -/
def lastRow (n : NetD) (ls : List Nat) : RowD := ((rowsOf n ls).getLast?).getD ([], [])
theorem lastRow_snoc (n : NetD) (ls : List Nat) (a : Nat) : lastRow n (ls ++ [a]) = rowF n (rowsOf n ls) a := by
  unfold lastRow
  rw [rowsOf_snoc, List.getLast?_concat]
  rfl
structure KOk (n : NetD) (L : Nat) (l : List (List Nat × RowD)) : Prop where
  nd : (l.map (·.1)).Nodup
  ok : ∀ x ∈ l, x.1.length ≤ 8 ∧ (∀ a ∈ x.1, a < L) ∧ x.2 = lastRow n x.1
theorem KOk.snoc {n : NetD} {L : Nat} {l : List (List Nat × RowD)} (h : KOk n L l) {ls : List Nat} (hn : ls ∉ l.map (·.1)) (hl : ls.length ≤ 8) (hb : ∀ a ∈ ls, a < L) : KOk n L (l ++ [(ls, lastRow n ls)]) := by
  refine ⟨?_, fun x hx => ?_⟩
  · rw [List.map_append]
    refine List.nodup_append.mpr ⟨h.nd, by simp, fun a ha b hb' e => ?_⟩
    have : b = ls := by simpa using hb'
    rw [e, this] at ha
    exact hn ha
  · rcases List.mem_append.mp hx with z | z
    · exact h.ok x z
    · rw [List.mem_singleton.mp z]
      exact ⟨hl, hb, rfl⟩
theorem len_flat_le {α β : Type} {f : α → List β} {n : Nat} : ∀ {l : List α}, (∀ x ∈ l, (f x).length ≤ n) → (l.flatMap f).length ≤ l.length * n
  | [], _ => by simp
  | x :: l, h => by
    have ih := len_flat_le (l := l) fun y hy => h y (List.mem_cons_of_mem _ hy)
    have hx := h x List.mem_cons_self
    rw [List.flatMap_cons, List.length_append, List.length_cons, Nat.add_mul, Nat.one_mul]
    omega
theorem KOk.len {n : NetD} {L : Nat} {l : List (List Nat × RowD)} (h : KOk n L l) (l4 : L ≤ 4) : l.length ≤ 589824 := by
  have hs : l.map (·.1) ⊆ (List.range 9).flatMap fun d => rows L d := fun r hr => by
    obtain ⟨x, hx, rfl⟩ := List.mem_map.mp hr
    obtain ⟨h1, h2, _⟩ := h.ok x hx
    exact List.mem_flatMap.mpr ⟨x.1.length, List.mem_range.mpr (by omega), rows_mem.mpr ⟨rfl, h2⟩⟩
  have h1 := List.Nodup.length_le_of_subset h.nd hs
  rw [List.length_map] at h1
  refine Nat.le_trans h1 (Nat.le_trans (len_flat_le (n := 65536) fun d hd => ?_) (by simp))
  rw [rows_len]
  have hd' := List.mem_range.mp hd
  refine Nat.le_trans (Nat.pow_le_pow_left l4 d) (Nat.le_trans (Nat.pow_le_pow_right (by decide) (show d ≤ 8 by omega)) (by decide))
def KeptD (n : NetD) (L : Nat) (H : Hp) (d : Addr) : Prop := ∃ l, DictD RwD H d l ∧ KOk n L l
theorem KeptD.ex {n : NetD} {L : Nat} {H H' : Hp} {d : Addr} (e : Ex H H') : KeptD n L H d → KeptD n L H' d := fun ⟨l, h, k⟩ => ⟨l, h.ex mono_rw e, k⟩
theorem KeptD.at {n : NetD} {L : Nat} {H : Hp} {d : Addr} (h : KeptD n L H d) : ∃ kvs, H d = some (.dT kvs) := by
  obtain ⟨l, ⟨kvs, h, _⟩, _⟩ := h
  exact ⟨kvs, h⟩
theorem valV_mem {kvs : List (List L2.Key × V)} {k : List L2.Key} {v : V} (h : valV kvs k = some v) : k ∈ kvs.map (·.1) := by
  unfold valV at h
  obtain ⟨x, hx, _⟩ := Option.map_eq_some_iff.mp h
  have h1 := List.find?_some hx
  have h2 := List.mem_of_find?_eq_some hx
  exact List.mem_map.mpr ⟨x, h2, by simpa using h1⟩
theorem off_lst {d : Addr} {H H' : Hp} {kvs : List (List L2.Key × V)} (h : H d = some (.dT kvs)) (o : Off d H H') {a : Addr} {xs : List V} (ha : H a = some (.lst xs)) : H' a = some (.lst xs) := o a _ (fun z => by subst z; rw [h] at ha; cases ha) ha
theorem off_lstD {α : Type} {R : Den α} {d : Addr} {H H' : Hp} {kvs : List (List L2.Key × V)} (m : Mono R) (h : H d = some (.dT kvs)) (o : Off d H H') {v : V} {xs : List α} : LstD R v xs H → LstD R v xs H' := fun ⟨a, vs, hv, ha, hx⟩ => ⟨a, vs, hv, off_lst h o ha, hx.mono m (off_im h o)⟩
theorem small_sum {s : Int} (h : s < 512) : s < 2 ^ cc := by
  have h1 : 2 ^ 9 ≤ 2 ^ cc := Nat.pow_le_pow_right (by decide) (by rw [cc_eq]; decide)
  have h2 : ((2 : Int) ^ cc) = (((2 ^ cc : Nat)) : Int) := by simp
  have e : (2 : Nat) ^ 9 = 512 := by decide
  rw [h2]
  omega
section
variable {P : Program} {w : World} {K : PySem.W.Frag} {mg : Str → Option Value} {base : Heap}
def spLShares : Sp := fun vs H Q _ => ∃ (v x : V) (dk : Addr) (n : NetD) (L W : Nat) (ls : List Nat), vs = [v, .ref dk, x] ∧ LNetD v n H ∧ LsOk L W n ls ∧ ls.length ≤ 8 ∧ KeptD n L H dk ∧ LstD NatD x ls H ∧
  ∀ v' H', Off dk H H' → KeptD n L H' dk → LstD QD v' (shr (wts n ls)) H' → Q v' H'
theorem ok_law_shares (t : T K mg) : FnOk P w K mg base CX0 4 t.law_shares.f t.law_shares.d p_law_shares spLShares := by
  refine t.law_shares.F.ok sc_law_shares (fun vs H Q E h => ?_) (fun cdv A outer s H vs Q E hr h => ?_)
  · obtain ⟨v, x, dk, n, L, W, ls, rfl, _⟩ := h
    rfl
  · obtain ⟨v, x, dk, n, L, W, ls, rfl, N, lo, hl8, hk, hx, q⟩ := h
    refine ⟨_, (pss_cons (ps_set (i := 3) sc_law_shares.nd rfl (Or.inl rfl) (pe_lst pa_nil))
      (pss_cons (ps_for PassesOwn.never rfl (pi_range1 (by rfl) t.z_range (pa_cons (pe_callB call_len_seq (by rfl) t.z_len PySem.boot_len (pa_cons (pv 2) pa_nil)) pa_nil)) (pg_name (i := 4) sc_law_shares.nd rfl (Or.inl rfl))
      (pss_cons (ps_set (i := 5) sc_law_shares.nd rfl (Or.inl rfl) (pe_callTy (T := "tuple") call_tuple_of (by rfl) t.z_tuple (by decide +kernel) (pa_cons (pe_slice sl_list (pv 2) po_none (po_some (pe_op op_add (pv 4) pe_int))) pa_nil)))
        (pss_cons (ps_if (pt_cmp (pc_dnotin (hu_of hr) (pv 5) (pv 1)))
        (pss_one (ps_dput (hu_of hr) (pv 1) (pv 5) (pe_call (ok_law_row t) (hr.mono (by decide)) rfl t.law_row.g t.law_row.F.kp t.law_row.b .nil pass0 (pa_cons (pv 0) (pa_cons (pv 3) (pa_cons (pe_ix ix_list (pv 2) (pv 4) (fun _ _ => rfl)) pa_nil)))) rfl))
        pss_nil)
        (pss_one (ps_expr (pe_bm PySem.F.plainAttrs_list PySem.F.slot_list_append PySem.F.type_list_append mt_append (pv 3) (pa_cons (pe_dget (hu_of hr) (pv 1) (pv 5) (fun _ _ => rfl)) pa_nil)))))))
      (pss_cons (ps_set (i := 6) sc_law_shares.nd rfl (Or.inr rfl) (pe_ix ix_tup (pe_ix ix_list (pv 3) (pe_un un_neg pe_int) (fun _ _ => rfl)) pe_int (fun _ _ => rfl)))
      (pss_one (ps_ret (pe_lc (own := [("_law_weight", 7)]) (g := (gName 7)) (tt := tYes) (te := (tCall _ _ _ (tCons _ (tCons (tCB (SAZ.rSumT K) (tCons _ tNil)) tNil)))) rfl sc_law_shares.nd (pi_tup (pv 6)) (blkOk_by (own := [("_law_weight", 7)]) (N := n_law_shares) (sc := defScope st_law_shares) (by decide +kernel)) (fun _ _ _ _ _ => (pg_name (i := 7) sc_law_shares.nd rfl (Or.inl rfl))) (fun _ _ _ _ _ => pts_nil) (fun _ _ _ _ _ => (pe_call (ok_law_least t) (hr.mono (by decide)) rfl t.law_least.g t.law_least.F.kp t.law_least.b .nil pass0 (pa_cons (pv 7) (pa_cons (pe_callB (SAZ.cr_sumT rfl) (by rfl) t.z_sum (by decide +kernel) (pa_cons (pv 6) pa_nil)) pa_nil)))))))))), ?_⟩
    have l1 := lo.ok.l1
    have l4 := lo.ok.l4
    obtain ⟨xa, xvs, rfl, hxa, hxv⟩ := id hx
    obtain ⟨kvs0, hkv0⟩ := hk.at
    refine ⟨sz_of (by simp), fun ow how => ?_⟩
    have E1 := Ex.new (o := .lst []) how
    have xane : xa ≠ dk := fun z => by subst z; rw [hkv0] at hxa; cases hxa
    refine ⟨_, rfl, xa, xvs, rfl, Or.inl (sq_of (E1 _ _ hxa)), _, rfl, rg_lo _, rg_hi (n := xvs.length) (by rw [hxv.1]; omega), ?_⟩
    rw [Int.toNat_natCast]
    refine for_it (walk_range (lo := 0) (n := xvs.length)) (fun i σ H' => ∃ (c4 c5 : Option V) (ovs : List V), σ = [some v, some (.ref dk), some (.ref xa), some (.ref ow), c4, c5, none, none] ∧ Off dk H H' ∧ KeptD n L H' dk ∧ H' ow = some (.lst ovs) ∧ AllD RwD ovs (rowsOf n (ls.take i)) H')
      ⟨_, _, [], rfl, Off.of E1, hk.ex E1, upd_same, AllD.nil⟩ (fun i σ H' _ _ => trivial) (fun i y σ H7 H8 hi p yy => ?_) (fun σ H' p => ?_)
    · obtain ⟨c4, c5, ovs, rfl, o7, k7, how7, hov7⟩ := p
      obtain ⟨rfl, rfl⟩ := yy
      have him : i < ls.length := by rw [← hxv.1]; exact hi
      have hlc : ls[i]? = some ls[i] := List.getElem?_eq_getElem him
      have htk : ls.take (i + 1) = ls.take i ++ [ls[i]] := by rw [List.take_add_one, hlc]; rfl
      have hrow : lastRow n (ls.take (i + 1)) = rowF n (rowsOf n (ls.take i)) ls[i] := by rw [htk, lastRow_snoc]
      have hrows : rowsOf n (ls.take (i + 1)) = rowsOf n (ls.take i) ++ [lastRow n (ls.take (i + 1))] := by rw [hrow, htk, rowsOf_snoc]
      have hovl : ovs.length ≤ 8 := by rw [hov7.1, rowsOf_len, List.length_take]; omega
      have xa8 := o7 _ _ xane hxa
      refine ⟨_, rfl, _, rfl, _, _, rfl, rfl, _, rfl, xa, xvs, rfl, sq_of xa8, fun p1 hp1 => ?_⟩
      have ecut : cutV xvs none (some (0 + ((i : Nat) : Int) + 1)) = xvs.take (i + 1) := by
        rw [show (0 : Int) + ((i : Nat) : Int) + 1 = ((i + 1 : Nat) : Int) by omega, cut_to]
      rw [ecut]
      refine ⟨p1, _, rfl, Or.inl ⟨sq_of upd_same, fun p2 hp2 => ?_⟩⟩
      have E9 := (Ex.new (o := .lst (xvs.take (i + 1))) hp1).trans (Ex.new (o := .tup (xvs.take (i + 1))) hp2)
      have im7 := off_im hkv0 o7
      have hbt : TxtD (.ref p2) (ls.take (i + 1)) (upd (upd H8 p1 (.lst (xvs.take (i + 1)))) p2 (.tup (xvs.take (i + 1)))) := ⟨p2, _, rfl, upd_same, (hxv.take (i + 1)).mono mono_nat (im7.trans (im_ex E9))⟩
      obtain ⟨b, eb, hb⟩ := txt_tup hbt
      cases eb
      generalize upd (upd H8 p1 (.lst (xvs.take (i + 1)))) p2 (.tup (xvs.take (i + 1))) = H9 at *
      have o9 := o7.trans (Off.of E9)
      obtain ⟨l, ⟨kvs, hkv, hk1, hk2⟩, ko⟩ := k7.ex E9
      have how9 := E9 _ _ how7
      have hov9 := hov7.mono mono_rw (im_ex E9)
      have owne : ow ≠ dk := fun z => by subst z; rw [hkv] at how9; cases how9
      have hg := DGet.t (k := keyT (ls.take (i + 1))) (b := p2) hkv (by rw [keyT_kV]; exact hb)
      refine ⟨_, rfl, _, rfl, dk, _, rfl, hg, _, rfl, ?_⟩
      cases hv : valV kvs (keyT (ls.take (i + 1))) with
      | none =>
        have hnew : ls.take (i + 1) ∉ l.map (·.1) := fun z => by
          obtain ⟨x, hx, ex⟩ := List.mem_map.mp z
          obtain ⟨v2, hv2, _⟩ := dict_val hk1 hk2 ko.nd hx
          rw [ex, hv] at hv2
          cases hv2
        refine iteT ?_
        refine ⟨_, rfl, _, rfl, _, rfl, _, rfl, xa, xvs, _, (.int ((ls[i] : Nat) : Int)), rfl, rfl, sq_of (E9 _ _ xa8), ?_, ?_⟩
        · rw [Int.zero_add]
          obtain ⟨u, hu1, hu2⟩ := hxv.get hlc
          have hu3 : u = .int ((ls[i] : Nat) : Int) := hu2
          rw [hu3] at hu1
          exact atI_nat hu1
        refine ⟨v, .ref ow, n, L, W, rowsOf n (ls.take i), ls[i], rfl, mono_ln _ _ _ _ (im7.trans (im_ex E9)) N, lo.ok, ⟨ow, ovs, rfl, how9, hov9⟩, rowsOf_ok lo.ok fun a ha => lo.b a (List.mem_of_mem_take ha), by rw [← hov7.1]; omega, lo.b _ (List.getElem_mem _), ?_⟩
        intro wv H10 E10 hw
        rw [← hrow] at hw
        have hb10 := E10 _ _ hb
        refine ⟨_, rfl, _, rfl, dk, _, rfl, DPut.t (k := keyT (ls.take (i + 1))) (b := p2) (E10 _ _ hkv) (by rw [keyT_kV]; exact hb10) (by
          have h1 := congrArg List.length hk1
          rw [List.length_map, List.length_map] at h1
          have h2 := ko.len l4
          exact Nat.lt_of_le_of_lt (show kvs.length ≤ 589824 by omega) (by decide)), ?_⟩
        rw [putK_new wv hv]
        have im := Im.dct (o := .dT (kvs ++ [(keyT (ls.take (i + 1)), wv)])) (E10 _ _ hkv)
        have imA := (im_ex E10).trans im
        have oA : Off dk H9 (upd H10 dk (.dT (kvs ++ [(keyT (ls.take (i + 1)), wv)]))) := (Off.of E10).trans Off.upd
        have hdA : upd H10 dk (.dT (kvs ++ [(keyT (ls.take (i + 1)), wv)])) dk = some (.dT (kvs ++ [(keyT (ls.take (i + 1)), wv)])) := upd_same
        have hwA := mono_rw _ _ _ _ im hw
        generalize upd H10 dk (.dT (kvs ++ [(keyT (ls.take (i + 1)), wv)])) = HA at *
        have k1A : (kvs ++ [(keyT (ls.take (i + 1)), wv)]).map (·.1) = (l ++ [(ls.take (i + 1), lastRow n (ls.take (i + 1)))]).map (fun x => keyT x.1) := by rw [List.map_append, List.map_append, hk1]; rfl
        have k2A : AllD RwD ((kvs ++ [(keyT (ls.take (i + 1)), wv)]).map (·.2)) ((l ++ [(ls.take (i + 1), lastRow n (ls.take (i + 1)))]).map (·.2)) HA := by
          rw [List.map_append, List.map_append]
          exact (hk2.mono mono_rw imA).snoc hwA
        have koA := ko.snoc hnew (by rw [List.length_take]; omega) fun a ha => lo.b a (List.mem_of_mem_take ha)
        have howA := oA _ _ owne how9
        have p2ne : p2 ≠ dk := fun z => by subst z; rw [hkv] at hb; cases hb
        have hgA := DGet.t (k := keyT (ls.take (i + 1))) (b := p2) hdA (by rw [keyT_kV]; exact oA _ _ p2ne hb)
        rw [valV_snoc _ _ _ _ hv, if_pos rfl] at hgA
        refine ⟨_, rfl, Or.inl ⟨rfl, _, sq_of howA⟩, _, rfl, _, rfl, dk, wv, rfl, hgA, ow, ovs, _, rfl, rfl, howA, sz_lt (by omega), ?_⟩
        have imB := Im.lst (o := .lst (ovs ++ [wv])) howA
        refine ⟨_, _, ovs ++ [wv], rfl, off_mut (o9.trans oA) how, ⟨_, dict_upd mono_rw howA ⟨_, hdA, k1A, k2A⟩, koA⟩, upd_same, ?_⟩
        rw [hrows]
        exact (hov9.mono mono_rw (imA.trans imB)).snoc (mono_rw _ _ _ _ imB hwA)
      | some wv =>
        refine iteF ?_
        obtain ⟨x, hx, ex⟩ := List.mem_map.mp (by have := valV_mem hv; rw [hk1] at this; exact this)
        have ex1 : x.1 = ls.take (i + 1) := keyT_inj ex
        obtain ⟨v2, hv2, hw⟩ := dict_val hk1 hk2 ko.nd hx
        rw [ex1, hv] at hv2
        cases hv2
        rw [(ko.ok x hx).2.2, ex1] at hw
        rw [hv] at hg
        refine ⟨_, rfl, Or.inl ⟨rfl, _, sq_of how9⟩, _, rfl, _, rfl, dk, wv, rfl, hg, ow, ovs, _, rfl, rfl, how9, sz_lt (by omega), ?_⟩
        have imB := Im.lst (o := .lst (ovs ++ [wv])) how9
        refine ⟨_, _, ovs ++ [wv], rfl, off_mut o9 how, ⟨_, dict_upd mono_rw how9 ⟨kvs, hkv, hk1, hk2⟩, ko⟩, upd_same, ?_⟩
        rw [hrows]
        exact (hov9.mono mono_rw imB).snoc (mono_rw _ _ _ _ imB hw)
    · obtain ⟨c4, c5, ovs, rfl, o7, k7, how7, hov7⟩ := p
      rw [List.take_of_length_le (by rw [hxv.1]; exact Nat.le_refl _)] at hov7
      have hrne : rowsOf n ls ≠ [] := fun z => by
        have := rowsOf_len n ls
        rw [z] at this
        exact lo.ne (List.length_eq_zero_iff.mp this.symm)
      obtain ⟨u, hu1, hu2⟩ := at_last hov7 hrne
      obtain ⟨ua, u1, u2, rfl, hua, h1, h2⟩ := hu2
      have hwd : VecD u2 (wts n ls) H' := by
        unfold wts
        rw [List.getLast?_eq_some_getLast hrne]
        exact h2
      obtain ⟨wa, rfl, hwa⟩ := vec_tup hwd
      have wo := lo.wk
      have spos := wo.sum_pos l1
      have slt := wo.sum_lt l4
      refine ⟨_, rfl, _, rfl, ow, ovs, _, _, rfl, rfl, sq_of how7, hu1, ua, _, _, _, rfl, rfl, st_of hua, rfl, ?_⟩
      generalize wts n ls = wv at *
      refine ⟨_, rfl, wa, rfl, ⟨_, st_of hwa⟩, fun D hD => ?_⟩
      refine lc_den (R := QD) (zs := shr wv) (n := (wv.map V.int).length) walk_tup (by simp [shr]) (by simp [wo.len]; omega) hD (fun H' e => ex_t e (st_of hwa)) mono_q (fun i y H5 H' Q' z hz ex yy q' => ?_) (fun acc H5 E5 hacc hlen hall => ?_)
      · obtain ⟨rfl, hy⟩ := yy
        obtain ⟨z0, hz0, rfl⟩ := Option.map_eq_some_iff.mp (by rw [← List.getElem?_map]; exact hz)
        obtain ⟨z1, hz1, rfl⟩ := Option.map_eq_some_iff.mp (by rw [← List.getElem?_map]; exact hy)
        rw [hz0] at hz1
        cases hz1
        exact ⟨rfl, _, rfl, _, rfl, wa, _, rfl, st_of (ex _ _ hwa), z0, wv.sum, rfl, spos, small_sum slt, fun v4 H4 E4 h4 => q' v4 H4 E4 h4⟩
      · exact q (.ref D) H5 (o7.trans (Off.of E5)) (k7.ex E5) ⟨D, acc, rfl, hacc, hall⟩
end
end SA
set_option maxRecDepth 100000
set_option maxHeartbeats 4000000
/-! The law, d: texts, sums. -/
namespace SA
open PySem PySem.Spec PyProof.Rows L2 Evl SAZ
theorem nopart_go {σ : L2.St} {H : Hp} {Q : Option Int → Hp → Prop} (h : Q none H) : tNoPart σ H Q := h
theorem q_one {p : Addr} {H : Hp} (h : H p = some (.tup [.int 1, .int 1])) : QD (.ref p) 1 H := ⟨p, rfl, h⟩
theorem q_zero {p : Addr} {H : Hp} (h : H p = some (.tup [.int 0, .int 1])) : QD (.ref p) 0 H := ⟨p, rfl, h⟩
theorem Lo.cc {A B : Nat} {p q : Rat} (a : Lo A p) (b : Lo B q) (h : A + B ≤ 1400) : p.den * q.den < 2 ^ cc := by
  have h1 := Nat.mul_le_mul a.den b.den
  rw [← Nat.pow_add] at h1
  exact Nat.lt_of_le_of_lt h1 (Nat.pow_lt_pow_right (by decide) (by rw [cc_eq]; omega))
theorem kapI_map (r : List Nat) : (kapI r).map V.int = r.map fun n : Nat => V.int (n : Int) := by
  unfold kapI
  rw [List.map_map]
  rfl
theorem ts_shift (w : List Nat → List Int) (r : List Nat) : ∀ (t q : List Nat), ts (fun s => w (r ++ s)) q t = ts w (r ++ q) t
  | [], q => rfl
  | a :: t, q => by
    show (shr (w (r ++ q))).getD a 0 * ts (fun s => w (r ++ s)) (q ++ [a]) t = (shr (w (r ++ q))).getD a 0 * ts w (r ++ q ++ [a]) t
    rw [ts_shift w r t (q ++ [a]), List.append_assoc]
theorem lstN {v : V} {x : List Nat} {H : Hp} (h : LstD NatD v x H) : ∃ a, v = .ref a ∧ H a = some (.lst (x.map fun n : Nat => V.int (n : Int))) := by
  obtain ⟨a, vs, rfl, ha, h⟩ := h
  rw [allD_nats h] at ha
  exact ⟨a, rfl, ha⟩
theorem S_take {φ : List Nat → Rat} {l : List Ent} {i : Nat} {x : Ent} (h : l[i]? = some x) : S φ (l.take (i + 1)) = S φ (l.take i) + x.2 * φ x.1 := by
  rw [List.take_add_one, h, S_app]
  show _ + S φ [x] = _
  rw [S_cons, S_nil, Rat.add_zero]
section
variable {P : Program} {w : World} {K : PySem.W.Frag} {mg : Str → Option Value} {base : Heap}
def spLText : Sp := fun vs H Q _ => ∃ (v x y : V) (dk : Addr) (n : NetD) (L W : Nat) (pr tx : List Nat), vs = [v, .ref dk, x, y] ∧ LNetD v n H ∧ LsOk L W n pr ∧ pr.length + tx.length ≤ 9 ∧ KeptD n L H dk ∧ LstD NatD x pr H ∧ TxtD y tx H ∧ (∀ a ∈ tx, a < L) ∧
  ∀ v' H', Off dk H H' → KeptD n L H' dk → QD v' (ts (wW n pr) [] tx) H' → Q v' H'
theorem ok_law_text_share (t : T K mg) : FnOk P w K mg base CX0 5 t.law_text_share.f t.law_text_share.d p_law_text_share spLText := by
  refine t.law_text_share.F.ok sc_law_text_share (fun vs H Q E h => ?_) (fun cdv A outer s H vs Q E hr h => ?_)
  · obtain ⟨v, x, y, dk, n, L, W, pr, tx, rfl, _⟩ := h
    rfl
  · obtain ⟨v, x, y, dk, n, L, W, pr, tx, rfl, N, lo, hlen, hk, hx, hy, hb, q⟩ := h
    refine ⟨_, (pss_cons (ps_set (i := 4) sc_law_text_share.nd rfl (Or.inl rfl) (pe_tup (pa_cons pe_int (pa_cons pe_int pa_nil))))
      (pss_cons (ps_for PassesOwn.never rfl (pi_range1 (by rfl) t.z_range (pa_cons (pe_callB call_len_seq (by rfl) t.z_len PySem.boot_len (pa_cons (pv 3) pa_nil)) pa_nil)) (pg_name (i := 5) sc_law_text_share.nd rfl (Or.inl rfl))
      (pss_one (ps_set (i := 4) sc_law_text_share.nd rfl (Or.inl rfl) (pe_call (ok_law_by t) (hr.mono (by decide)) rfl t.law_by.g t.law_by.F.kp t.law_by.b .nil pass0 (pa_cons (pv 4) (pa_cons (pe_ix ix_list (pe_call (ok_law_shares t) (hr.mono (by decide)) rfl t.law_shares.g t.law_shares.F.kp t.law_shares.b .nil pass0 (pa_cons (pv 0) (pa_cons (pv 1) (pa_cons (pe_op op_cat (pe_callTy (T := "list") call_list_of (by rfl) t.z_list (by decide +kernel) (pa_cons (pv 2) pa_nil)) (pe_callTy (T := "list") call_list_of (by rfl) t.z_list (by decide +kernel) (pa_cons (pe_slice sl_tupA (pv 3) po_none (po_some (pv 5))) pa_nil))) pa_nil)))) (pe_ix ix_tup (pv 3) (pv 5) (fun _ _ => rfl)) (fun _ _ => rfl)) pa_nil))))))
      (pss_one (ps_ret (pv 4))))), ?_⟩
    have l1 := lo.ok.l1
    have l4 := lo.ok.l4
    have wa := wa_of lo
    obtain ⟨xa, rfl, hxa⟩ := lstN hx
    obtain ⟨ya, yvs, rfl, hya, hyv⟩ := id hy
    obtain ⟨kvs0, hkv0⟩ := hk.at
    have hpr1 : 1 ≤ pr.length := List.length_pos_iff.mpr lo.ne
    refine ⟨sz_of (by simp), fun p0 hp0 => ?_⟩
    have E1 := Ex.new (o := .tup [V.int 1, V.int 1]) hp0
    refine ⟨_, rfl, ya, yvs, rfl, Or.inr (st_of (E1 _ _ hya)), _, rfl, rg_lo _, rg_hi (n := yvs.length) (by rw [hyv.1]; omega), ?_⟩
    rw [Int.toNat_natCast]
    refine for_it (walk_range (lo := 0) (n := yvs.length)) (fun i σ H' => ∃ (sv : V) (c : Option V), σ = [some v, some (.ref dk), some (.ref xa), some (.ref ya), some sv, c] ∧ Off dk H H' ∧ KeptD n L H' dk ∧ QD sv (ts (wW n pr) [] (tx.take i)) H')
      ⟨_, _, rfl, Off.of E1, hk.ex E1, q_one upd_same⟩ (fun i σ H' _ _ => trivial) (fun i y σ H7 H8 hi p yy => ?_) (fun σ H' p => ?_)
    · obtain ⟨sv, c, rfl, o7, k7, s7⟩ := p
      obtain ⟨rfl, hyi⟩ := yy
      have hyi' : y = .int ((i : Nat) : Int) := hyi.trans (by show V.int (0 + _) = _; rw [Int.zero_add])
      clear hyi
      subst hyi'
      have him : i < tx.length := by rw [← hyv.1]; exact hi
      have hc : tx[i]? = some tx[i] := List.getElem?_eq_getElem him
      have hcl : tx[i] < L := hb _ (List.getElem_mem _)
      have im7 := off_im hkv0 o7
      obtain ⟨kvs7, hkv7⟩ := k7.at
      have xa8 := off_lst hkv0 o7 hxa
      have htk : ∀ a ∈ tx.take i, a < L := fun a ha => hb a (List.mem_of_mem_take ha)
      have lo' := pre_ok (r := tx.take i) lo (by omega) htk (by rw [List.length_take]; omega)
      have gl : Lo (9 * (tx.take i).length) (ts (wW n pr) [] (tx.take i)) := ts_lo l1 l4 wa _ _ (fun _ h => nomatch h) htk
      refine ⟨_, rfl, _, rfl, _, rfl, _, rfl, xa, _, rfl, Or.inl (sq_of xa8), fun m1 hm1 => ?_⟩
      have F1 := Ex.new (o := .lst (pr.map fun n : Nat => V.int (n : Int))) hm1
      refine ⟨_, rfl, _, rfl, _, rfl, ?_⟩
      refine slA_to mono_nat (mono_txt _ _ _ _ (im7.trans (im_ex F1)) hy) fun z1 H2 F2 hz1 => ?_
      obtain ⟨z1a, rfl, hz1a⟩ := txt_tup hz1
      refine ⟨z1a, _, rfl, Or.inr (st_of hz1a), fun m2 hm2 => ?_⟩
      have F3 := Ex.new (o := .lst ((tx.take i).map fun n : Nat => V.int (n : Int))) hm2
      have hm1v := (F2.trans F3) _ _ (upd_same (H := H8) (a := m1) (o := .lst (pr.map fun n : Nat => V.int (n : Int))))
      have hm2v : upd H2 m2 (.lst ((tx.take i).map fun n : Nat => V.int (n : Int))) m2 = some (.lst ((tx.take i).map fun n : Nat => V.int (n : Int))) := upd_same
      have F13 := F1.trans (F2.trans F3)
      generalize upd H2 m2 (.lst ((tx.take i).map fun n : Nat => V.int (n : Int))) = H3 at *
      refine ⟨m1, m2, _, _, rfl, rfl, hm1v, hm2v, sz_of (by simp; omega), fun m3 hm3 => ?_⟩
      have F4 := Ex.new (o := .lst ((pr.map fun n : Nat => V.int (n : Int)) ++ ((tx.take i).map fun n : Nat => V.int (n : Int)))) hm3
      have F14 := F13.trans F4
      refine ⟨v, .ref m3, dk, n, L, W, pr ++ tx.take i, rfl, mono_ln _ _ _ _ (im7.trans (im_ex F14)) N, lo', by simp [List.length_take]; omega, k7.ex F14, ⟨m3, _, rfl, upd_same, ?_⟩, ?_⟩
      · rw [← List.map_append]
        exact nats_allD _
      rintro v5 H5 o5 k5 ⟨v5a, v5s, rfl, hv5a, hv5s⟩
      have im5 := off_im (F14 _ _ hkv7) o5
      have im75 := (im_ex F14).trans im5
      have hlt : tx[i] < (shr (wts n (pr ++ tx.take i))).length := by rw [shr_len, lo'.wk.len]; exact hcl
      obtain ⟨u, hu1, hu2⟩ := hv5s.get (List.getElem?_eq_getElem hlt)
      obtain ⟨tv, ht1, ht2⟩ := hyv.get hc
      have ht3 : tv = .int ((tx[i] : Nat) : Int) := ht2
      subst ht3
      have ya5 := (im7.trans im75) _ _ rfl hya
      refine ⟨_, rfl, _, rfl, ya, yvs, _, _, rfl, rfl, st_of ya5, atI_nat ht1, v5a, v5s, _, _, rfl, rfl, sq_of hv5a, atI_nat hu1, ?_⟩
      have gp := lo_shr l1 l4 lo'.wk _ (List.getElem_mem hlt)
      refine ⟨sv, u, _, _, rfl, mono_q _ _ _ _ im75 s7, hu2, gl.sz (by rw [List.length_take]; omega), gp.sz (by decide), Lo.cc gl gp (by rw [List.length_take]; omega), ?_⟩
      intro v6 H6 E6 h6
      refine ⟨v6, _, rfl, ((o7.trans (Off.of F14)).trans o5).trans (Off.of E6), k5.ex E6, ?_⟩
      rw [List.take_add_one, hc]
      show QD v6 (ts _ [] (tx.take i ++ [tx[i]])) H6
      rw [ts_snoc, List.nil_append, List.getD_eq_getElem?_getD]
      show QD v6 (_ * ((shr (wts n (pr ++ tx.take i)))[tx[i]]?).getD 0) H6
      rw [List.getElem?_eq_getElem hlt]
      exact h6
    · obtain ⟨sv, c, rfl, o7, k7, s7⟩ := p
      rw [List.take_of_length_le (by rw [hyv.1]; exact Nat.le_refl _)] at s7
      exact ⟨_, rfl, q _ _ o7 k7 s7⟩
def TxOk (L m : Nat) (txs : List (List Nat)) : Prop := ∀ t ∈ txs, t.length = m ∧ ∀ a ∈ t, a < L
def spTexts : Sp := fun vs H Q _ => ∃ (L m : Nat) (dv : V) (dr : List Nat), vs = [.int (L : Int), .int (m : Int), dv] ∧ 1 ≤ L ∧ L ≤ 4 ∧ m ≤ 100 ∧ TxtD dv dr H ∧ TxOk L m [dr] ∧ RetP (fun v H' => ∃ txs, LstD TxtD v txs H' ∧ TxOk L m txs ∧ txs.length ≤ 64) H Q
theorem ok_law_texts (t : T K mg) : FnOk P w K mg base CX0 1 t.law_texts.f t.law_texts.d p_law_texts spTexts := by
  refine t.law_texts.F.ok sc_law_texts (fun vs H Q E h => ?_) (fun cdv A outer s H vs Q E hr h => ?_)
  · obtain ⟨L, m, dv, dr, rfl, _⟩ := h
    rfl
  · obtain ⟨L, m, dv, dr, rfl, l1, l4, hm, hd, hdo, q⟩ := h
    refine ⟨_, (pss_cons (ps_set (i := 3) sc_law_texts.nd rfl (Or.inr rfl) (pe_lst (pa_cons (pe_tup pa_nil) pa_nil)))
      (pss_cons (ps_for PassesOwn.never rfl (pi_range1 (by rfl) t.z_range (pa_cons (pv 1) pa_nil)) (pg_name (i := 4) sc_law_texts.nd rfl (Or.inl rfl))
      (pss_cons (ps_set (i := 3) sc_law_texts.nd rfl (Or.inr rfl) (pe_lc (own := [("_law_j", 5)]) (g := (gName 5)) (tt := tYes) (te := (tOp (rCatA K) (tOp (rIxL K) _ _) _)) rfl sc_law_texts.nd (pi_range1 (by rfl) t.z_range (pa_cons (pe_op op_mul (pe_callB call_len_seq (by rfl) t.z_len PySem.boot_len (pa_cons (pv 3) pa_nil)) (pv 0)) pa_nil)) (blkOk_by (own := [("_law_j", 5)]) (N := n_law_texts) (sc := defScope st_law_texts) (by decide +kernel)) (fun _ _ _ _ _ => (pg_name (i := 5) sc_law_texts.nd rfl (Or.inl rfl))) (fun _ _ _ _ _ => pts_nil) (fun _ _ _ _ _ => (pe_op op_catA (pe_ix ix_list (pv 3) (pe_op op_fdiv (pv 5) (pv 0)) (fun _ _ => rfl)) (pe_tup (pa_cons (pe_op op_mod (pe_callTy (T := "int") call_int1 (by rfl) t.z_int (by decide +kernel) (pa_cons (pv 5) pa_nil)) (pv 0)) pa_nil))))))
        (pss_one (ps_if (pt_cmpR op_gt (pe_callB call_len_seq (by rfl) t.z_len PySem.boot_len (pa_cons (pv 3) pa_nil)) pe_int (nomark _))
        (pss_one (ps_ret (pe_lst (pa_cons (pv 2) pa_nil))))
        pss_nil))))
      (pss_cons (ps_if (pt_cmpR op_gt (pe_callB call_len_seq (by rfl) t.z_len PySem.boot_len (pa_cons (pv 3) pa_nil)) pe_int (nomark _))
      (pss_one (ps_ret (pe_lst (pa_cons (pv 2) pa_nil))))
      pss_nil)
      (pss_one (ps_ret (pv 3)))))), ?_⟩
    refine ⟨sz_of (by simp), fun p0 hp0 => ?_⟩
    have E1 := Ex.new (o := .tup []) hp0
    refine ⟨sz_of (by simp), fun p1 hp1 => ?_⟩
    have E2 := Ex.new (o := .lst [V.ref p0]) hp1
    have h2 : LstD TxtD (.ref p1) [[]] (upd (upd H p0 (.tup [])) p1 (.lst [V.ref p0])) := ⟨p1, _, rfl, upd_same, AllD.nil.snoc ⟨p0, [], rfl, E2 _ _ upd_same, AllD.nil⟩⟩
    have E12 := E1.trans E2
    generalize upd (upd H p0 (.tup [])) p1 (.lst [V.ref p0]) = H2 at *
    have hret : ∀ (σ : L2.St) (H' : Hp), Ex H H' → σ[2]? = some (some dv) → tLst (tCons (tVar 2) tNil) σ H' Q := fun σ H' e hs => by
      refine ⟨_, hs, sz_of (by simp), fun p hp => ?_⟩
      exact q (.ref p) _ (e.trans (Ex.new hp)) ⟨[dr], ⟨p, _, rfl, upd_same, AllD.nil.snoc (mono_txt _ _ _ _ (im_ex (e.trans (Ex.new hp))) hd)⟩, hdo, by simp⟩
    refine ⟨_, rfl, (m : Int), rfl, rg_lo _, rg_hi (by omega), ?_⟩
    rw [Int.toNat_natCast]
    refine for_it (walk_range (lo := 0) (n := m)) (fun i σ H' => ∃ (tv : V) (c : Option V) (txs : List (List Nat)), σ = [some (.int (L : Int)), some (.int (m : Int)), some dv, some tv, c, none] ∧ Ex H H' ∧ LstD TxtD tv txs H' ∧ TxOk L i txs ∧ txs.length ≤ 64)
      ⟨_, _, _, rfl, E12, h2, fun t ht => by rw [List.mem_singleton.mp ht]; exact ⟨rfl, fun _ h => nomatch h⟩, by simp⟩ (fun i σ H' _ _ => trivial) (fun i y σ H7 H8 hi p yy => ?_) (fun σ H' p => ?_)
    · obtain ⟨tv, c, txs, rfl, E7, h7, ok7, len7⟩ := p
      obtain ⟨rfl, rfl⟩ := yy
      obtain ⟨ta, tvs, rfl, hta, htv⟩ := h7
      have hml : ((tvs.length : Nat) : Int) * (L : Int) = ((tvs.length * L : Nat) : Int) := by rw [Int.natCast_mul]
      have hle : tvs.length * L ≤ 64 * 4 := Nat.mul_le_mul (by rw [htv.1]; exact len7) l4
      have hsm : ((tvs.length : Nat) : Int) < 2 ^ 64 := by have := p64; have := htv.1; omega
      refine ⟨_, rfl, ta, tvs, rfl, Or.inl (sq_of hta), _, rfl, _, _, rfl, rfl, cmul ⟨by omega, hsm⟩, ((tvs.length * L : Nat) : Int), (by show [V.int (((tvs.length : Nat) : Int) * (L : Int))] = _; rw [hml]), rg_lo _, rg_hi (by omega), fun D hD => ?_⟩
      rw [Int.toNat_natCast]
      refine lc_den (R := TxtD) (zs := (List.range (tvs.length * L)).map fun j => txs.getD (j / L) [] ++ [j % L]) (walk_range (lo := 0) (n := tvs.length * L)) (by simp) (by omega) hD (fun _ _ => trivial) mono_txt (fun j y H5 H' Q' z hz ex yy q' => ?_) (fun acc H5 E5 hacc hlen hall => ?_)
      · obtain ⟨rfl, hyj⟩ := yy
        have hyj' : y = .int ((j : Nat) : Int) := hyj.trans (by show V.int (0 + _) = _; rw [Int.zero_add])
        clear hyj
        subst hyj'
        have hj : j < tvs.length * L := by
          have := (List.getElem?_eq_some_iff.mp hz).1
          simpa using this
        rw [List.getElem?_map, List.getElem?_range hj] at hz
        have hz' : txs.getD (j / L) [] ++ [j % L] = z := Option.some.inj hz
        have hdiv : j / L < txs.length := by rw [← htv.1]; exact Nat.div_lt_of_lt_mul (by rw [Nat.mul_comm]; exact hj)
        rw [List.getD_eq_getElem?_getD, List.getElem?_eq_getElem hdiv] at hz'
        obtain ⟨u, hu1, hu2⟩ := htv.get (List.getElem?_eq_getElem hdiv)
        have hat : atI tvs ((j : Int) / (L : Int)) = some u := by
          rw [← Int.natCast_ediv]
          exact atI_nat hu1
        have hmodv : ((j : Int) % (L : Int)) = ((j % L : Nat) : Int) := (Int.natCast_emod j L).symm
        refine ⟨rfl, _, rfl, _, rfl, _, rfl, _, _, rfl, rfl, ⟨by omega, by omega⟩, ta, tvs, _, _, rfl, rfl, sq_of (ex _ _ hta), hat, ?_⟩
        refine ⟨_, rfl, Or.inl ⟨_, rfl, _, rfl, _, _, rfl, rfl, by omega, sz_of (by simp), fun p2 hp2 => ?_⟩⟩
        have F2 := Ex.new (o := .tup [V.int ((j : Int) % (L : Int))]) hp2
        have h2v : upd H' p2 (.tup [V.int ((j : Int) % (L : Int))]) p2 = some (.tup [V.int ((j % L : Nat) : Int)]) := by rw [← hmodv]; exact upd_same
        have okt := ok7 _ (List.getElem_mem hdiv)
        refine cat_go (mono_txt _ _ _ _ (im_ex (ex.trans F2)) hu2) (one_txt h2v) (by rw [okt.1]; simp; omega) fun z6 H6 E6 h6 => ?_
        rw [← hz'] at q'
        exact q' _ _ (F2.trans E6) h6
      · have hTx : TxOk L (i + 1) ((List.range (tvs.length * L)).map fun j => txs.getD (j / L) [] ++ [j % L]) := fun t ht => by
          obtain ⟨j, hj, rfl⟩ := List.mem_map.mp ht
          have hj' := List.mem_range.mp hj
          have hdiv : j / L < txs.length := by rw [← htv.1]; exact Nat.div_lt_of_lt_mul (by rw [Nat.mul_comm]; exact hj')
          rw [List.getD_eq_getElem?_getD, List.getElem?_eq_getElem hdiv]
          have okt := ok7 _ (List.getElem_mem hdiv)
          refine ⟨by simp [okt.1], fun a ha => ?_⟩
          rcases List.mem_append.mp ha with h | h
          · exact okt.2 a h
          · rw [List.mem_singleton.mp h]
            exact Nat.mod_lt _ l1
        have hacl : acc.length = ((List.range (tvs.length * L)).map fun j => txs.getD (j / L) [] ++ [j % L]).length := hall.1
        generalize ((List.range (tvs.length * L)).map fun j => txs.getD (j / L) [] ++ [j % L]) = txs' at *
        refine ⟨_, rfl, D, acc, rfl, Or.inl (sq_of hacc), _, _, rfl, rfl, _, rfl, ?_⟩
        by_cases hbig : (64 : Int) < (acc.length : Nat)
        · rw [decide_eq_true hbig]
          exact iteT (hret _ _ (E7.trans E5) rfl)
        · rw [decide_eq_false hbig]
          exact iteF ⟨_, _, txs', rfl, E7.trans E5, ⟨D, acc, rfl, hacc, hall⟩, hTx, by omega⟩
    · obtain ⟨tv, c, txs, rfl, E7, h7, ok7, len7⟩ := p
      obtain ⟨ta, tvs, rfl, hta, htv⟩ := h7
      refine ⟨_, rfl, ta, tvs, rfl, Or.inl (sq_of hta), _, _, rfl, rfl, _, rfl, ?_⟩
      by_cases hbig : (16 : Int) < (tvs.length : Nat)
      · rw [decide_eq_true hbig]
        exact iteT (hret _ _ E7 rfl)
      · rw [decide_eq_false hbig]
        exact iteF ⟨_, rfl, q _ _ E7 ⟨txs, ⟨ta, tvs, rfl, hta, htv⟩, ok7, len7⟩⟩
def spSums (C : Addr) : Sp := fun vs H Q _ => ∃ (v x y z u : V) (dk : Addr) (n : NetD) (L W : Nat) (pr tx : List Nat) (es : List Ent) (dq : Rat), vs = [v, .ref dk, x, y, z, u] ∧ LNetD v n H ∧ LsOk L W n pr ∧ pr.length + tx.length ≤ 8 ∧ KeptD n L H dk ∧ LstD NatD x pr H ∧ TupD (EntD C) y es H ∧ TxtD z tx H ∧ (∀ a ∈ tx, a < L) ∧ QD u dq H ∧
  (∀ e ∈ es, e.1.length ≤ tx.length ∧ Lo 100 e.2) ∧ (∀ i, Lo 1000 (S (phi (wW n pr) tx) (es.take i))) ∧ S (phi (wW n pr) tx) es = dq ∧ ∀ H', Off dk H H' → KeptD n L H' dk → Q (.bl true) H'
theorem ok_law_sums_up (t : T K mg) : FnOk P w K mg base CX0 6 t.law_sums_up.f t.law_sums_up.d p_law_sums_up (spSums t.aShare) := by
  refine t.law_sums_up.F.ok sc_law_sums_up (fun vs H Q E h => ?_) (fun cdv A outer s H vs Q E hr h => ?_)
  · obtain ⟨v, x, y, z, u, dk, n, L, W, pr, tx, es, dq, rfl, _⟩ := h
    rfl
  · obtain ⟨v, x, y, z, u, dk, n, L, W, pr, tx, es, dq, rfl, N, lo, hlen, hk, hx, hy, hz, hb, hu, hes, hlo, hsum, q⟩ := h
    refine ⟨_, (pss_cons (ps_set (i := 6) sc_law_sums_up.nd rfl (Or.inl rfl) (pe_tup (pa_cons pe_int (pa_cons pe_int pa_nil))))
      (pss_cons (ps_for PassesOwn.never rfl (pi_tup (pv 3)) (pg_name (i := 7) sc_law_sums_up.nd rfl (Or.inl rfl))
      (pss_one (ps_if (pt_cmpR (op_eqD hr.units) (pe_slice sl_tupA (pv 4) po_none (po_some (pe_callB call_len_seq (by rfl) t.z_len PySem.boot_len (pa_cons (pe_ix ix_tup (pv 7) pe_int (fun _ _ => rfl)) pa_nil)))) (pe_ix ix_tup (pv 7) pe_int (fun _ _ => rfl)) (nomark _))
        (pss_cons (ps_set (i := 8) sc_law_sums_up.nd rfl (Or.inl rfl) (pe_call (ok_law_text_share t) (hr.mono (by decide)) rfl t.law_text_share.g t.law_text_share.F.kp t.law_text_share.b .nil pass0 (pa_cons (pv 0) (pa_cons (pv 1) (pa_cons (pe_op op_cat (pe_callTy (T := "list") call_list_of (by rfl) t.z_list (by decide +kernel) (pa_cons (pv 2) pa_nil)) (pe_callTy (T := "list") call_list_of (by rfl) t.z_list (by decide +kernel) (pa_cons (pe_ix ix_tup (pv 7) pe_int (fun _ _ => rfl)) pa_nil))) (pa_cons (pe_slice sl_tupA (pv 4) (po_some (pe_callB call_len_seq (by rfl) t.z_len PySem.boot_len (pa_cons (pe_ix ix_tup (pv 7) pe_int (fun _ _ => rfl)) pa_nil))) po_none) pa_nil))))))
          (pss_one (ps_set (i := 6) sc_law_sums_up.nd rfl (Or.inl rfl) (pe_call (ok_law_plus t) (hr.mono (by decide)) rfl t.law_plus.g t.law_plus.F.kp t.law_plus.b .nil pass0 (pa_cons (pv 6) (pa_cons (pe_call (ok_law_by t) (hr.mono (by decide)) rfl t.law_by.g t.law_by.F.kp t.law_by.b .nil pass0 (pa_cons (pe_tup (pa_cons (pe_fld (pe_ix ix_tup (pv 7) pe_int (fun _ _ => rfl)) rfl) (pa_cons (pe_fld (pe_ix ix_tup (pv 7) pe_int (fun _ _ => rfl)) rfl) pa_nil))) (pa_cons (pv 8) pa_nil))) pa_nil))))))
        pss_nil)))
      (pss_one (ps_ret (pe_cmpR (op_eqD hr.units) (pv 6) (pv 5) (nomark _)))))), ?_⟩
    have l1 := lo.ok.l1
    have l4 := lo.ok.l4
    have wa := wa_of lo
    have hpr1 : 1 ≤ pr.length := List.length_pos_iff.mpr lo.ne
    obtain ⟨xa, rfl, hxa⟩ := lstN hx
    obtain ⟨ya, yvs, rfl, hya, hyv⟩ := id hy
    obtain ⟨kvs0, hkv0⟩ := hk.at
    refine ⟨sz_of (by simp), fun p0 hp0 => ?_⟩
    have E1 := Ex.new (o := .tup [V.int 0, V.int 1]) hp0
    refine ⟨_, rfl, ya, rfl, ⟨_, st_of (E1 _ _ hya)⟩, ?_⟩
    refine for_it (walk_tup (xs := yvs)) (fun i σ H' => ∃ (sv : V) (c7 c8 : Option V), σ = [some v, some (.ref dk), some (.ref xa), some (.ref ya), some z, some u, some sv, c7, c8] ∧ Off dk H H' ∧ KeptD n L H' dk ∧ QD sv (S (phi (wW n pr) tx) (es.take i)) H')
      ⟨_, _, _, rfl, Off.of E1, hk.ex E1, q_zero upd_same⟩ (fun i σ H' _ ⟨_, _, _, _, o, _⟩ => st_of (off_im hkv0 o _ _ rfl hya)) (fun i y σ H7 H8 hi p yy => ?_) (fun σ H' p => ?_)
    · obtain ⟨sv, c7, c8, rfl, o7, k7, s7⟩ := p
      obtain ⟨rfl, hy⟩ := yy
      have im7 := off_im hkv0 o7
      obtain ⟨e, he, hed⟩ := hyv.get' hy
      obtain ⟨ra, r1, r2, rfl, hra, hr1, hr2⟩ := mono_ent _ _ _ _ im7 hed
      obtain ⟨r1a, rfl, hr1a⟩ := txt_tup hr1
      obtain ⟨g1, g2⟩ := hes e (List.mem_of_getElem? he)
      have hz7 := mono_txt _ _ _ _ im7 hz
      obtain ⟨kvs7, hkv7⟩ := k7.at
      refine ⟨_, rfl, _, rfl, ra, _, _, _, rfl, rfl, st_of hra, rfl, r1a, _, rfl, Or.inr (st_of hr1a), _, rfl, ?_⟩
      refine slA_to mono_nat hz7 fun z1 H9 E9 hz1 => ?_
      rw [List.length_map] at hz1
      obtain ⟨z1a, rfl, hz1a⟩ := txt_tup hz1
      have hr1a9 := E9 _ _ hr1a
      rw [← kapI_map] at hz1a hr1a9
      refine ⟨_, rfl, ra, _, _, _, rfl, rfl, st_of (E9 _ _ hra), rfl, dI _, dI _, dp_tup hz1a, dp_tup hr1a9, shaped_ints _, shaped_ints _, _, rfl, ?_⟩
      rw [eqv_dI]
      by_cases hm : tx.take e.1.length = e.1
      · rw [hm, decide_eq_true rfl]
        refine iteT ?_
        have o9 := o7.trans (Off.of E9)
        have im9 := off_im hkv0 o9
        have xa9 := off_lst hkv0 o9 hxa
        have hel : ∀ a ∈ e.1, a < L := fun a ha => hb a (by rw [← hm] at ha; exact List.mem_of_mem_take ha)
        refine ⟨_, rfl, _, rfl, _, rfl, xa, _, rfl, Or.inl (sq_of xa9), fun m1 hm1 => ?_⟩
        have F1 := Ex.new (o := .lst (pr.map fun n : Nat => V.int (n : Int))) hm1
        have r1a1 := (E9.trans F1) _ _ hr1a
        refine ⟨_, rfl, ra, _, _, _, rfl, rfl, st_of ((E9.trans F1) _ _ hra), rfl, r1a, _, rfl, Or.inr (st_of r1a1), fun m2 hm2 => ?_⟩
        have F2 := Ex.new (o := .lst (e.1.map fun n : Nat => V.int (n : Int))) hm2
        refine ⟨m1, m2, _, _, rfl, rfl, F2 _ _ upd_same, upd_same, sz_of (by simp; omega), fun m3 hm3 => ?_⟩
        have F3 := Ex.new (o := .lst ((pr.map fun n : Nat => V.int (n : Int)) ++ (e.1.map fun n : Nat => V.int (n : Int)))) hm3
        have F13 := F1.trans (F2.trans F3)
        have hm3v : upd (upd (upd H9 m1 (.lst (pr.map fun n : Nat => V.int (n : Int)))) m2 (.lst (e.1.map fun n : Nat => V.int (n : Int)))) m3 (.lst ((pr.map fun n : Nat => V.int (n : Int)) ++ (e.1.map fun n : Nat => V.int (n : Int)))) m3 = some (.lst ((pr.map fun n : Nat => V.int (n : Int)) ++ (e.1.map fun n : Nat => V.int (n : Int)))) := upd_same
        generalize upd (upd (upd H9 m1 (.lst (pr.map fun n : Nat => V.int (n : Int)))) m2 (.lst (e.1.map fun n : Nat => V.int (n : Int)))) m3 (.lst ((pr.map fun n : Nat => V.int (n : Int)) ++ (e.1.map fun n : Nat => V.int (n : Int)))) = H3 at *
        have E93 := E9.trans F13
        refine ⟨_, rfl, _, rfl, ra, _, _, _, rfl, rfl, st_of (E93 _ _ hra), rfl, r1a, _, rfl, Or.inr (st_of (E93 _ _ hr1a)), _, rfl, ?_⟩
        refine nopart_go ?_
        refine slA_from mono_nat (mono_txt _ _ _ _ (im_ex E93) hz7) fun z4 H4 F4 hz4 => ?_
        rw [List.length_map] at hz4
        have E94 := E93.trans F4
        have lo' := pre_ok (r := e.1) lo (by omega) hel (by omega)
        refine ⟨v, .ref m3, z4, dk, n, L, W, pr ++ e.1, tx.drop e.1.length, rfl, mono_ln _ _ _ _ (im7.trans (im_ex E94)) N, lo', by simp; omega, k7.ex E94, ⟨m3, _, rfl, F4 _ _ hm3v, ?_⟩, hz4, fun a ha => hb a (List.mem_of_mem_drop ha), ?_⟩
        · rw [← List.map_append]
          exact nats_allD _
        intro v5 H5 o5 k5 h5
        have im5 := off_im (E94 _ _ hkv7) o5
        have im75 := (im_ex E94).trans im5
        have ets : ts (wW n (pr ++ e.1)) [] (tx.drop e.1.length) = phi (wW n pr) tx e.1 := by
          unfold phi
          rw [if_pos hm]
          have e1 : wW n (pr ++ e.1) = fun s => wW n pr (e.1 ++ s) := by
            funext s
            show wts n (pr ++ e.1 ++ s) = wts n (pr ++ (e.1 ++ s))
            rw [List.append_assoc]
          rw [e1, ts_shift, List.append_nil]
        have gts : Lo (9 * (tx.drop e.1.length).length) (phi (wW n pr) tx e.1) := by
          rw [← ets]
          exact ts_lo l1 l4 (wa_of lo') _ _ (fun _ h => nomatch h) fun a ha => hb a (List.mem_of_mem_drop ha)
        rw [ets] at h5
        have hdl : (tx.drop e.1.length).length ≤ 8 := by rw [List.length_drop]; omega
        obtain ⟨sa, dx, rfl, hsa⟩ := mono_sh _ _ _ _ im75 hr2
        have hra5 := im75 _ _ rfl hra
        refine ⟨_, rfl, _, rfl, ra, _, _, _, rfl, rfl, st_of hra5, rfl, sa, _, dx, _, _, rfl, hsa, t.cl_Share, t.na_Share_over, sh_over _, ?_⟩
        refine ⟨_, rfl, ra, _, _, _, rfl, rfl, st_of hra5, rfl, sa, _, dx, _, _, rfl, hsa, t.cl_Share, t.na_Share_under, sh_under _, sz_of (by simp), fun p6 hp6 => ?_⟩
        have F6 := Ex.new (o := .tup [V.int e.2.num, V.int ((e.2.den : Nat) : Int)]) hp6
        refine ⟨_, rfl, .ref p6, v5, e.2, phi (wW n pr) tx e.1, rfl, ⟨p6, rfl, upd_same⟩, mono_q _ _ _ _ (im_ex F6) h5, g2.sz (by decide), gts.sz (by omega), Lo.cc g2 gts (by omega), ?_⟩
        intro v8 H8' E8 h8
        have gs := hlo i
        have gp := g2.mul gts
        refine ⟨sv, v8, _, _, rfl, mono_q _ _ _ _ (im75.trans (im_ex (F6.trans E8))) s7, h8, gs.sz (by decide), gp.sz (by omega), Lo.cc gs gp (by omega), ?_⟩
        intro v9 H9' E9' h9
        refine ⟨v9, _, _, rfl, ((o7.trans (Off.of E94)).trans o5).trans (Off.of (F6.trans (E8.trans E9'))), k5.ex (F6.trans (E8.trans E9')), ?_⟩
        rw [S_take he]
        exact h9
      · rw [decide_eq_false (fun h => hm (kapI_inj h))]
        refine iteF ⟨sv, _, _, rfl, o7.trans (Off.of E9), k7.ex E9, ?_⟩
        rw [S_take he]
        have e0 : phi (wW n pr) tx e.1 = 0 := by
          unfold phi
          rw [if_neg hm]
        rw [e0, Rat.mul_zero, Rat.add_zero]
        exact mono_q _ _ _ _ (im_ex E9) s7
    · obtain ⟨sv, c7, c8, rfl, o7, k7, s7⟩ := p
      rw [List.take_of_length_le (by rw [hyv.1]; exact Nat.le_refl _), hsum] at s7
      have im7 := off_im hkv0 o7
      obtain ⟨sa, rfl, hsa⟩ := s7
      obtain ⟨ua, rfl, hua⟩ := mono_q _ _ _ _ im7 hu
      refine ⟨_, rfl, _, rfl, dI [dq.num, (dq.den : Nat)], dI [dq.num, (dq.den : Nat)], dp_tup hsa, dp_tup hua, shaped_ints _, shaped_ints _, ?_⟩
      rw [eqv_dI, decide_eq_true rfl]
      exact q _ o7 k7
end
end SA
set_option maxRecDepth 100000
set_option maxHeartbeats 4000000
/-! The law, e: its numbers, its net. -/
namespace SA
open PySem PySem.Spec PyProof.Rows L2 Evl SAZ
theorem kst {j : Int} (h0 : 0 ≤ j) (h : j < 2147483648) : 0 ≤ j ∧ j < 2 ^ 64 := ⟨h0, by have := p64; omega⟩
theorem kmod (x : Int) {p : Int} (h0 : 0 < p) (h : p < 2147483648) : 0 ≤ x % p ∧ x % p < 2 ^ 64 := by
  have h1 := Int.emod_nonneg x (show p ≠ 0 by omega)
  have h2 := Int.emod_lt_of_pos x h0
  have := p64
  omega
theorem at_in {xs : List Int} {m : Int} (h0 : 0 ≤ m) (h : m < (xs.length : Nat)) : ∃ z, atI (xs.map V.int) m = some (.int z) := by
  have e : m = ((m.toNat : Nat) : Int) := by omega
  have hlt : m.toNat < xs.length := by omega
  obtain ⟨k, hk⟩ : ∃ k : Nat, m = (k : Int) := ⟨_, e⟩
  subst hk
  refine ⟨xs[k]'(by omega), atI_nat ?_⟩
  rw [List.getElem?_map, List.getElem?_eq_getElem (by omega)]
  rfl
def IsI (i : Nat) (vs : List V) : Prop := ∃ ns : List Int, vs = ns.map V.int ∧ ns.length = i
theorem IsI.snoc {i : Nat} {vs : List V} (h : IsI i vs) (x : Int) : IsI (i + 1) (vs ++ [.int x]) := by
  obtain ⟨ns, rfl, hl⟩ := h
  exact ⟨ns ++ [x], by rw [List.map_append]; rfl, by simp [hl]⟩
theorem IsI.len {i : Nat} {vs : List V} (h : IsI i vs) : vs.length = i := by
  obtain ⟨ns, rfl, hl⟩ := h
  rw [List.length_map, hl]
def IsV (p : Int) (i : Nat) (vs : List V) : Prop := ∃ ns : Vec, vs = ns.map V.int ∧ VecOk p i ns
theorem IsV.snoc {p : Int} {i : Nat} {vs : List V} (h : IsV p i vs) (hp : 0 < p) (x : Int) : IsV p (i + 1) (vs ++ [.int (x % p)]) := by
  obtain ⟨ns, rfl, hv⟩ := h
  refine ⟨ns ++ [x % p], by rw [List.map_append]; rfl, by simp [hv.1], fun b hb => ?_⟩
  rcases List.mem_append.mp hb with h | h
  · exact hv.2 b h
  · rw [List.mem_singleton.mp h]
    exact bnd_mod hp _
theorem IsV.len {p : Int} {i : Nat} {vs : List V} (h : IsV p i vs) : vs.length = i := by
  obtain ⟨ns, rfl, hl⟩ := h
  rw [List.length_map, hl.1]
section
variable {P : Program} {w : World} {K : PySem.W.Frag} {mg : Str → Option Value} {base : Heap}
def spNums : Sp := fun vs H Q _ => ∃ c a : Int, vs = [.int c, .int a, .int 300] ∧ RetP (fun v H' => ∃ ns : List Int, ns.length = 300 ∧ LstD IntD v ns H') H Q
theorem ok_law_numbers (t : T K mg) : FnOk P w K mg base CX0 1 t.law_numbers.f t.law_numbers.d p_law_numbers spNums := by
  refine t.law_numbers.F.ok sc_law_numbers (fun vs H Q E h => ?_) (fun cdv A outer s H vs Q E hr h => ?_)
  · obtain ⟨c, a, rfl, _⟩ := h
    rfl
  · obtain ⟨c, a, rfl, q⟩ := h
    refine ⟨_, (pss_cons (ps_set (i := 3) sc_law_numbers.nd rfl (Or.inl rfl) (pe_cmpR op_ge (pe_callB call_abs (by rfl) t.z_abs (by decide +kernel) (pa_cons (pe_callTy (T := "int") call_int1 (by rfl) t.z_int (by decide +kernel) (pa_cons (pv 0) pa_nil)) pa_nil)) (pe_op op_pow pe_int pe_int) (nomark _)))
      (pss_cons (ps_set (i := 4) sc_law_numbers.nd rfl (Or.inl rfl) (pe_op op_add (pe_op op_mul pe_int (pe_callB call_abs (by rfl) t.z_abs (by decide +kernel) (pa_cons (pe_callTy (T := "int") call_int1 (by rfl) t.z_int (by decide +kernel) (pa_cons (pv 0) pa_nil)) pa_nil))) (pe_callTy (T := "int") call_int1 (by rfl) t.z_int (by decide +kernel) (pa_cons (pe_cmpR op_lt (pv 0) pe_int (nomark _)) pa_nil))))
      (pss_cons (ps_set (i := 5) sc_law_numbers.nd rfl (Or.inl rfl) (pe_lst pa_nil))
      (pss_cons (ps_for PassesOwn.never rfl (pi_range1 (by rfl) t.z_range (pa_cons (pv 2) pa_nil)) (pg_name (i := 6) sc_law_numbers.nd rfl (Or.inl rfl))
      (pss_one (ps_if (pt_val (pv 3))
        (pss_cons (ps_expr (pe_bm PySem.F.plainAttrs_list PySem.F.slot_list_append PySem.F.type_list_append mt_append (pv 5) (pa_cons (pe_op op_mod (pe_callTy (T := "int") call_int1 (by rfl) t.z_int (by decide +kernel) (pa_cons (pv 4) pa_nil)) pe_int) pa_nil)))
          (pss_one (ps_set (i := 4) sc_law_numbers.nd rfl (Or.inl rfl) (pe_op op_fdiv (pv 4) pe_int))))
        (pss_cons (ps_set (i := 7) sc_law_numbers.nd rfl (Or.inl rfl) (pe_op op_mod (pe_callTy (T := "int") call_int1 (by rfl) t.z_int (by decide +kernel) (pa_cons (pe_op op_add (pe_op op_add (pe_op op_add (pe_op op_mul (pv 4) pe_int) (pe_op op_mul (pv 1) pe_int)) (pe_op op_mul (pv 6) pe_int)) pe_int) pa_nil)) pe_int))
          (pss_cons (ps_set (i := 7) sc_law_numbers.nd rfl (Or.inl rfl) (pe_op op_mod (pe_callTy (T := "int") call_int1 (by rfl) t.z_int (by decide +kernel) (pa_cons (pe_op op_add (pe_op op_add (pe_op op_mul (pv 7) (pv 7)) (pe_op op_mul (pv 6) pe_int)) pe_int) pa_nil)) pe_int))
          (pss_cons (ps_set (i := 7) sc_law_numbers.nd rfl (Or.inl rfl) (pe_op op_mod (pe_callTy (T := "int") call_int1 (by rfl) t.z_int (by decide +kernel) (pa_cons (pe_op op_add (pe_op op_add (pe_op op_mul (pv 7) (pv 7)) (pe_op op_mul (pv 1) pe_int)) pe_int) pa_nil)) pe_int))
          (pss_one (ps_expr (pe_bm PySem.F.plainAttrs_list PySem.F.slot_list_append PySem.F.type_list_append mt_append (pv 5) (pa_cons (pe_op op_mod (pe_callTy (T := "int") call_int1 (by rfl) t.z_int (by decide +kernel) (pa_cons (pe_op op_fdiv (pv 7) pe_int) pa_nil)) pe_int) pa_nil))))))))))
      (pss_one (ps_ret (pv 5))))))), ?_⟩
    refine ⟨_, rfl, Or.inl ⟨_, rfl, _, rfl, _, _, rfl, rfl, ⟨by decide, by decide, by decide⟩, _, _, rfl, rfl, ?_⟩⟩
    refine ⟨_, rfl, Or.inl ⟨_, rfl, _, rfl, _, _, rfl, rfl, cmul (kst (by decide) (by decide)), _, rfl, _, _, rfl, rfl, Or.inr ⟨_, rfl, _, _, rfl, rfl, ?_⟩⟩⟩
    refine ⟨sz_of (by simp), fun lo hlo => ?_⟩
    refine ⟨_, rfl, (300 : Int), rfl, by decide, by decide, ?_⟩
    refine for_it (walk_range (lo := 0) (n := 300)) (fun i σ H' => ∃ (g : Bool) (r : Int) (k m : Option V) (ns : List V), σ = [some (.int c), some (.int a), some (.int 300), some (.bl g), some (.int r), some (.ref lo), k, m] ∧ Ex H H' ∧ H' lo = some (.lst ns) ∧ IsI i ns)
      ⟨_, _, _, _, [], rfl, Ex.new hlo, upd_same, [], rfl, rfl⟩ (fun i σ H' _ _ => trivial) (fun i y σ H7 H8 hi p yy => ?_) (fun σ H' p => ?_)
    · obtain ⟨g, r, k, m, ns, rfl, E7, h7, hn⟩ := p
      obtain ⟨rfl, rfl⟩ := yy
      refine ⟨_, rfl, _, rfl, ?_⟩
      cases g with
      | true =>
        refine iteT ?_
        refine ⟨_, rfl, Or.inl ⟨rfl, _, sq_of h7⟩, _, rfl, Or.inl ⟨_, rfl, _, _, rfl, rfl, (by show (0 : Int) < _; decide), lo, _, _, rfl, rfl, h7, sz_lt (by rw [hn.len]; omega), ?_⟩⟩
        refine ⟨_, rfl, _, _, rfl, rfl, ⟨by decide, by decide⟩, ?_⟩
        exact ⟨_, _, _, _, _, rfl, E7.mut hlo, upd_same, hn.snoc _⟩
      | false =>
        refine iteF ?_
        refine ⟨_, rfl, _, _, rfl, rfl, cmul' (kst (by decide) (by decide)), _, rfl, _, _, rfl, rfl, cmul' (kst (by decide) (by decide)), _, _, rfl, rfl, _, rfl, _, _, rfl, rfl, cmul' (kst (by decide) (by decide)), _, _, rfl, rfl, _, _, rfl, rfl, Or.inl ⟨_, rfl, _, _, rfl, rfl, (by show (0 : Int) < _; decide), ?_⟩⟩
        refine ⟨_, rfl, _, rfl, _, _, rfl, rfl, cmul (kmod _ (by decide) (by decide)), _, rfl, _, _, rfl, rfl, cmul' (kst (by decide) (by decide)), _, _, rfl, rfl, _, _, rfl, rfl, Or.inl ⟨_, rfl, _, _, rfl, rfl, (by show (0 : Int) < _; decide), ?_⟩⟩
        refine ⟨_, rfl, _, rfl, _, _, rfl, rfl, cmul (kmod _ (by decide) (by decide)), _, rfl, _, _, rfl, rfl, cmul' (kst (by decide) (by decide)), _, _, rfl, rfl, _, _, rfl, rfl, Or.inl ⟨_, rfl, _, _, rfl, rfl, (by show (0 : Int) < _; decide), ?_⟩⟩
        refine ⟨_, rfl, Or.inl ⟨rfl, _, sq_of h7⟩, _, rfl, _, _, rfl, rfl, ⟨by decide, by decide⟩, Or.inl ⟨_, rfl, _, _, rfl, rfl, (by show (0 : Int) < _; decide), lo, _, _, rfl, rfl, h7, sz_lt (by rw [hn.len]; omega), ?_⟩⟩
        exact ⟨_, _, _, _, _, rfl, E7.mut hlo, upd_same, hn.snoc _⟩
    · obtain ⟨g, r, k, m, ns, rfl, E7, h7, hn⟩ := p
      obtain ⟨ns, rfl, hl⟩ := hn
      exact ⟨_, rfl, q _ _ E7 ⟨ns, hl, lo, _, rfl, h7, ints_allD ns⟩⟩
def spLVec : Sp := fun vs H Q _ => ∃ (x : V) (ns : List Int) (a p : Int) (W : Nat), vs = [x, .int a, .int (W : Int), .int p] ∧ LstD IntD x ns H ∧ 0 < ns.length ∧ ns.length ≤ 1000 ∧ 0 ≤ a ∧ a ≤ 100000 ∧ W ≤ 3 ∧ 0 < p ∧ RetP (fun v H' => ∃ y, VecOk p W y ∧ VecD v y H') H Q
theorem ok_law_vector (t : T K mg) : FnOk P w K mg base CX0 1 t.law_vector.f t.law_vector.d p_law_vector spLVec := by
  refine t.law_vector.F.ok sc_law_vector (fun vs H Q E h => ?_) (fun cdv A outer s H vs Q E hr h => ?_)
  · obtain ⟨x, ns, a, p, W, rfl, _⟩ := h
    rfl
  · obtain ⟨x, ns, a, p, W, rfl, hx, hn0, hn1, ha0, ha1, hW, hp, q⟩ := h
    refine ⟨_, (pss_cons (ps_set (i := 4) sc_law_vector.nd rfl (Or.inl rfl) (pe_lst pa_nil))
      (pss_cons (ps_for PassesOwn.never rfl (pi_range2 (by rfl) t.z_range (pa_cons (pv 1) (pa_cons (pe_op op_add (pv 1) (pv 2)) pa_nil))) (pg_name (i := 5) sc_law_vector.nd rfl (Or.inl rfl))
      (pss_one (ps_expr (pe_bm PySem.F.plainAttrs_list PySem.F.slot_list_append PySem.F.type_list_append mt_append (pv 4) (pa_cons (pe_op op_mod (pe_callTy (T := "int") call_int1 (by rfl) t.z_int (by decide +kernel) (pa_cons (pe_op op_add (pe_ix ix_list (pv 0) (pe_op op_mod (pe_callTy (T := "int") call_int1 (by rfl) t.z_int (by decide +kernel) (pa_cons (pv 5) pa_nil)) (pe_callB call_len_seq (by rfl) t.z_len PySem.boot_len (pa_cons (pv 0) pa_nil))) (fun _ _ => rfl)) (pe_op op_mul pe_int (pe_op op_fdiv (pv 5) (pe_callB call_len_seq (by rfl) t.z_len PySem.boot_len (pa_cons (pv 0) pa_nil))))) pa_nil)) (pv 3)) pa_nil)))))
      (pss_one (ps_ret (pe_callTy (T := "tuple") call_tuple_of (by rfl) t.z_tuple (by decide +kernel) (pa_cons (pv 4) pa_nil)))))), ?_⟩
    obtain ⟨xa, rfl, hxa⟩ := lst_ints hx
    refine ⟨sz_of (by simp), fun lo hlo => ?_⟩
    have E1 := Ex.new (o := .lst []) hlo
    refine ⟨_, rfl, _, rfl, _, rfl, _, _, rfl, rfl, _, _, rfl, ⟨by omega, by omega, by omega, by omega⟩, ?_⟩
    rw [show (a + (W : Int) - a).toNat = W by omega]
    refine for_it (walk_range (lo := a) (n := W)) (fun i σ H' => ∃ (k : Option V) (ys : List V), σ = [some (.ref xa), some (.int a), some (.int (W : Int)), some (.int p), some (.ref lo), k] ∧ Ex H H' ∧ H' lo = some (.lst ys) ∧ IsV p i ys)
      ⟨_, [], rfl, E1, upd_same, [], rfl, rfl, fun _ h => nomatch h⟩ (fun i σ H' _ _ => trivial) (fun i y σ H7 H8 hi p' yy => ?_) (fun σ H' p' => ?_)
    · obtain ⟨k, ys, rfl, E7, h7, hv⟩ := p'
      obtain ⟨rfl, rfl⟩ := yy
      have hx8 := E7 _ _ hxa
      have hlp : (0 : Int) < (((ns.map V.int).length : Nat) : Int) := by rw [List.length_map]; omega
      obtain ⟨z, hz⟩ := at_in (xs := ns) (m := (a + ((i : Nat) : Int)) % (((ns.map V.int).length : Nat) : Int)) (Int.emod_nonneg _ (by omega)) (by have := Int.emod_lt_of_pos (a + ((i : Nat) : Int)) hlp; rw [List.length_map] at this ⊢; exact this)
      refine ⟨_, rfl, Or.inl ⟨rfl, _, sq_of h7⟩, _, rfl, _, rfl, Or.inl ⟨_, rfl, _, rfl, xa, _, rfl, Or.inl (sq_of hx8), _, _, rfl, rfl, hlp, xa, _, _, _, rfl, rfl, sq_of hx8, hz, ?_⟩⟩
      refine ⟨_, rfl, _, rfl, xa, _, rfl, Or.inl (sq_of hx8), _, _, rfl, rfl, ⟨hlp, by rw [List.length_map]; omega⟩, _, _, rfl, rfl, cmul (kst (by decide) (by decide)), _, _, rfl, rfl, Or.inl ⟨_, rfl, _, rfl, _, _, rfl, rfl, hp, lo, _, _, rfl, rfl, h7, sz_lt (by rw [hv.len]; omega), ?_⟩⟩
      exact ⟨_, _, rfl, E7.mut hlo, upd_same, hv.snoc hp _⟩
    · obtain ⟨k, _, rfl, E7, h7, ys, rfl, hv⟩ := p'
      refine ⟨_, rfl, lo, _, rfl, Or.inl ⟨sq_of h7, fun l hl => ?_⟩⟩
      exact q _ _ (E7.trans (Ex.new hl)) ⟨ys, hv, tup_vec upd_same⟩
end
end SA
set_option maxRecDepth 100000
set_option maxHeartbeats 4000000
/-! The law, f: its net. -/
namespace SA
open PySem PySem.Spec PyProof.Rows L2 Evl SAZ
section
variable {P : Program} {w : World} {K : PySem.W.Frag} {mg : Str → Option Value} {base : Heap}
def spLNet : Sp := fun vs H Q _ => ∃ (x : V) (ns : List Int) (L W M : Nat) (p : Int), vs = [x, .int (L : Int), .int (W : Int), .int (M : Int), .int p] ∧ LstD IntD x ns H ∧ 0 < ns.length ∧ ns.length ≤ 1000 ∧ 1 ≤ L ∧ L ≤ 4 ∧ 1 ≤ W ∧ W ≤ 3 ∧ M ≤ 2 ∧ 2 ≤ p ∧ p ≤ 97 ∧ RetP (fun v H' => ∃ n : NetD, n.p = p ∧ NetOk L W n ∧ LNetD v n H') H Q
theorem ok_law_net (t : T K mg) : FnOk P w K mg base CX0 2 t.law_net.f t.law_net.d p_law_net spLNet := by
  refine t.law_net.F.ok sc_law_net (fun vs H Q E h => ?_) (fun cdv A outer s H vs Q E hr h => ?_)
  · obtain ⟨x, ns, L, W, M, p, rfl, _⟩ := h
    rfl
  · obtain ⟨x, ns, L, W, M, p, rfl, hx, hn0, hn1, l1, l4, w1, w3, m2, p2, p97, q⟩ := h
    refine ⟨_, (pss_cons (ps_set (i := 5) sc_law_net.nd rfl (Or.inl rfl) (pe_lst pa_nil))
      (pss_cons (ps_for PassesOwn.never rfl (pi_range1 (by rfl) t.z_range (pa_cons (pe_op op_add (pe_op op_add (pe_op op_mul pe_int (pv 1)) pe_int) (pe_op op_mul (pe_op op_mul pe_int (pv 2)) (pv 3))) pa_nil)) (pg_name (i := 6) sc_law_net.nd rfl (Or.inl rfl))
      (pss_one (ps_expr (pe_bm PySem.F.plainAttrs_list PySem.F.slot_list_append PySem.F.type_list_append mt_append (pv 5) (pa_cons (pe_call (ok_law_vector t) (hr.mono (by decide)) rfl t.law_vector.g t.law_vector.F.kp t.law_vector.b .nil pass0 (pa_cons (pv 0) (pa_cons (pe_op op_mul (pv 6) (pv 2)) (pa_cons (pv 2) (pa_cons (pv 4) pa_nil))))) pa_nil)))))
      (pss_cons (ps_set (i := 7) sc_law_net.nd rfl (Or.inl rfl) (pe_lst pa_nil))
      (pss_cons (ps_for PassesOwn.never rfl (pi_range1 (by rfl) t.z_range (pa_cons (pv 3) pa_nil)) (pg_name (i := 8) sc_law_net.nd rfl (Or.inl rfl))
      (pss_cons (ps_set (i := 9) sc_law_net.nd rfl (Or.inl rfl) (pe_lst pa_nil))
        (pss_cons (ps_for PassesOwn.never rfl (pi_range1 (by rfl) t.z_range (pa_cons pe_int pa_nil)) (pg_name (i := 6) sc_law_net.nd rfl (Or.inl rfl))
        (pss_cons (ps_set (i := 10) sc_law_net.nd rfl (Or.inl rfl) (pe_op op_add (pe_op op_add (pe_op op_mul pe_int (pv 1)) pe_int) (pe_op op_mul (pv 2) (pe_op op_add (pe_op op_mul pe_int (pv 8)) (pv 6)))))
          (pss_one (ps_expr (pe_bm PySem.F.plainAttrs_list PySem.F.slot_list_append PySem.F.type_list_append mt_append (pv 9) (pa_cons (pe_callTy (T := "tuple") call_tuple_of (by rfl) t.z_tuple (by decide +kernel) (pa_cons (pe_slice sl_list (pv 5) (po_some (pv 10)) (po_some (pe_op op_add (pv 10) (pv 2)))) pa_nil)) pa_nil))))))
        (pss_one (ps_expr (pe_bm PySem.F.plainAttrs_list PySem.F.slot_list_append PySem.F.type_list_append mt_append (pv 7) (pa_cons (pe_callTy (T := "tuple") call_tuple_of (by rfl) t.z_tuple (by decide +kernel) (pa_cons (pv 9) pa_nil)) pa_nil)))))))
      (pss_one (ps_ret (pe_tup (pa_cons (pv 4) (pa_cons (pe_callTy (T := "tuple") call_tuple_of (by rfl) t.z_tuple (by decide +kernel) (pa_cons (pe_slice sl_list (pv 5) po_none (po_some (pv 1))) pa_nil)) (pa_cons (pe_ix ix_list (pv 5) (pe_op op_mul pe_int (pv 1)) (fun _ _ => rfl)) (pa_cons (pe_callTy (T := "tuple") call_tuple_of (by rfl) t.z_tuple (by decide +kernel) (pa_cons (pv 7) pa_nil)) (pa_cons (pe_callTy (T := "tuple") call_tuple_of (by rfl) t.z_tuple (by decide +kernel) (pa_cons (pe_slice sl_list (pv 5) (po_some (pv 1)) (po_some (pe_op op_mul pe_int (pv 1)))) pa_nil)) pa_nil)))))))))))), ?_⟩
    have hp : 0 < p := by omega
    have hWM : W * M ≤ 3 * 2 := Nat.mul_le_mul w3 m2
    have hN : (2 * (L : Int) + 1 + 5 * (W : Int) * (M : Int)) = ((2 * L + 1 + 5 * (W * M) : Nat) : Int) := by
      rw [Int.mul_assoc]
      simp only [Int.natCast_add, Int.natCast_mul]
      rfl
    have kL : 0 ≤ (L : Int) ∧ (L : Int) < 2 ^ 64 := kst (by omega) (by omega)
    have kW : 0 ≤ (W : Int) ∧ (W : Int) < 2 ^ 64 := kst (by omega) (by omega)
    have kM : 0 ≤ (M : Int) ∧ (M : Int) < 2 ^ 64 := kst (by omega) (by omega)
    refine ⟨sz_of (by simp), fun ro hro => ?_⟩
    have E1 := Ex.new (o := .lst []) hro
    refine ⟨_, rfl, _, _, rfl, rfl, cmul' kL, _, _, rfl, rfl, _, rfl, _, _, rfl, rfl, cmul' kW, _, rfl, _, _, rfl, rfl, cmul' kM, _, _, rfl, rfl, ((2 * L + 1 + 5 * (W * M) : Nat) : Int), (by show [V.int (2 * (L : Int) + 1 + 5 * (W : Int) * (M : Int))] = _; rw [hN]), rg_lo _, rg_hi (by omega), ?_⟩
    rw [Int.toNat_natCast]
    refine for_it (walk_range (lo := 0) (n := 2 * L + 1 + 5 * (W * M))) (fun i σ H' => ∃ (c6 : Option V) (rws : Mat) (rvs : List V), σ = [some x, some (.int (L : Int)), some (.int (W : Int)), some (.int (M : Int)), some (.int p), some (.ref ro), c6, none, none, none, none] ∧ Ex H H' ∧ H' ro = some (.lst rvs) ∧ AllD VecD rvs rws H' ∧ MatOk p i W rws)
      ⟨_, [], [], rfl, E1, upd_same, AllD.nil, rfl, fun _ h => nomatch h⟩ (fun i σ H' _ _ => trivial) (fun i y σ H7 H8 hi p' yy => ?_) (fun σ H' p' => ?_)
    · obtain ⟨c6, rws, rvs, rfl, E7, h7, hv7, hm⟩ := p'
      obtain ⟨rfl, rfl⟩ := yy
      have hiW : (0 + ((i : Nat) : Int)) * (W : Int) = ((i * W : Nat) : Int) := by rw [Int.zero_add, Int.natCast_mul]
      have hiW2 : i * W ≤ 100 * 3 := Nat.mul_le_mul (by omega) w3
      refine ⟨_, rfl, Or.inl ⟨rfl, _, sq_of h7⟩, _, rfl, _, rfl, _, rfl, _, _, rfl, rfl, cmul' kW, _, rfl, _, rfl, x, ns, (0 + ((i : Nat) : Int)) * (W : Int), p, W, rfl, lstd_ex mono_int E7 hx, hn0, hn1, by rw [hiW]; omega, by rw [hiW]; omega, w3, hp, ?_⟩
      rintro v9 H9 E9 ⟨y, hy, hyd⟩
      have hl : rvs.length = i := by rw [hv7.1, hm.1]
      refine ⟨ro, rvs, v9, rfl, rfl, E9 _ _ h7, sz_lt (by omega), ?_⟩
      have im := Im.lst (o := .lst (rvs ++ [v9])) (E9 _ _ h7)
      refine ⟨_, rws ++ [y], rvs ++ [v9], rfl, (E7.trans E9).mut hro, upd_same, (hv7.mono mono_vec ((im_ex E9).trans im)).snoc (mono_vec _ _ _ _ im hyd), by simp [hm.1], fun r hr => ?_⟩
      rcases List.mem_append.mp hr with h | h
      · exact hm.2 r h
      · rw [List.mem_singleton.mp h]; exact hy
    · obtain ⟨c6, rws, rvs, rfl, E7, h7, hv7, hm⟩ := p'
      have hrl : rvs.length = 2 * L + 1 + 5 * (W * M) := by rw [hv7.1, hm.1]
      have hmk : ∀ f k, f + k ≤ 2 * L + 1 + 5 * (W * M) → MatOk p k W ((rws.drop f).take k) := fun f k hfk => by
        refine ⟨?_, fun r hr => hm.2 r (List.mem_of_mem_drop (List.mem_of_mem_take hr))⟩
        rw [List.length_take, List.length_drop, hm.1]
        omega
      refine ⟨sz_of (by simp), fun lo hlo => ?_⟩
      have hlo0 : H lo = none := fresh_back E7 hlo
      have E8 := Ex.new (o := .lst []) hlo
      refine ⟨_, rfl, (M : Int), rfl, rg_lo _, rg_hi (by omega), ?_⟩
      rw [Int.toNat_natCast]
      refine for_it (walk_range (lo := 0) (n := M)) (fun a σ H9 => ∃ (d6 d8 d9 d10 : Option V) (lvs : List V) (lys : List Lay), σ = [some x, some (.int (L : Int)), some (.int (W : Int)), some (.int (M : Int)), some (.int p), some (.ref ro), d6, some (.ref lo), d8, d9, d10] ∧ Ex H' H9 ∧ H9 lo = some (.lst lvs) ∧ AllD LayD lvs lys H9 ∧ lys.length = a ∧ ∀ l ∈ lys, LayOk p W l)
        ⟨_, _, _, _, [], [], rfl, E8, upd_same, AllD.nil, rfl, fun _ h => nomatch h⟩ (fun i σ H' _ _ => trivial) (fun a y σ H9 HA ha p' yy => ?_) (fun σ H9 p' => ?_)
      · obtain ⟨d6, d8, d9, d10, lvs, lys, rfl, E9, hl9, hv9, hlen9, hok9⟩ := p'
        obtain ⟨rfl, hy⟩ := yy
        have hy' : y = .int ((a : Nat) : Int) := hy.trans (by show V.int (0 + _) = _; rw [Int.zero_add])
        clear hy
        subst hy'
        refine ⟨sz_of (by simp), fun mo hmo => ?_⟩
        have EB := Ex.new (o := .lst []) hmo
        refine ⟨(5 : Int), rfl, by decide, by decide, ?_⟩
        refine for_it (walk_range (lo := 0) (n := 5)) (fun j σ HC => ∃ (e6 e10 : Option V) (mvs : List V) (mts : List Mat), σ = [some x, some (.int (L : Int)), some (.int (W : Int)), some (.int (M : Int)), some (.int p), some (.ref ro), e6, some (.ref lo), some (.int ((a : Nat) : Int)), some (.ref mo), e10] ∧ Ex HA HC ∧ HC mo = some (.lst mvs) ∧ AllD MatD mvs mts HC ∧ mts.length = j ∧ ∀ m ∈ mts, MatOk p W W m)
          ⟨_, _, [], [], rfl, EB, upd_same, AllD.nil, rfl, fun _ h => nomatch h⟩ (fun i σ H' _ _ => trivial) (fun j y σ HC HD hj p' yy => ?_) (fun σ HC p' => ?_)
        · obtain ⟨e6, e10, mvs, mts, rfl, EC, hmo', hmv, hml, hmok⟩ := p'
          obtain ⟨rfl, hy⟩ := yy
          have hy' : y = .int ((j : Nat) : Int) := hy.trans (by show V.int (0 + _) = _; rw [Int.zero_add])
          clear hy
          subst hy'
          have hf : (2 * (L : Int) + 1 + (W : Int) * (5 * (a : Int) + (j : Int))) = ((2 * L + 1 + W * (5 * a + j) : Nat) : Int) := by
            simp only [Int.natCast_add, Int.natCast_mul]
            rfl
          have hfW : 2 * L + 1 + W * (5 * a + j) + W ≤ 2 * L + 1 + 5 * (W * M) := by
            have h1 : W * (5 * a + j + 1) ≤ W * (5 * M) := Nat.mul_le_mul_left W (by omega)
            rw [Nat.mul_add, Nat.mul_one] at h1
            have h2 : W * (5 * M) = 5 * (W * M) := by rw [← Nat.mul_assoc, Nat.mul_comm W 5, Nat.mul_assoc]
            omega
          have ka : 0 ≤ (5 * (a : Int) + (j : Int)) ∧ (5 * (a : Int) + (j : Int)) < 2 ^ 64 := kst (by omega) (by omega)
          refine ⟨_, rfl, _, _, rfl, rfl, cmul' kL, _, _, rfl, rfl, _, rfl, _, rfl, _, _, rfl, rfl, cmul' (kst (by omega) (by omega)), _, rfl, _, _, rfl, rfl, _, _, rfl, rfl, cmul' ka, _, _, rfl, rfl, ?_⟩
          refine ⟨_, rfl, Or.inl ⟨rfl, _, sq_of hmo'⟩, _, rfl, _, rfl, _, rfl, _, rfl, _, rfl, _, _, rfl, rfl, _, rfl, ro, rvs, rfl, sq_of ((E9.trans EC) _ _ h7), fun p1 hp1 => ?_⟩
          have ecut : cutV rvs (some (2 * (L : Int) + 1 + (W : Int) * (5 * (a : Int) + (j : Int)))) (some (2 * (L : Int) + 1 + (W : Int) * (5 * (a : Int) + (j : Int)) + (W : Int))) = (rvs.drop (2 * L + 1 + W * (5 * a + j))).take W := by
            have h2 : 2 * (L : Int) + 1 + (W : Int) * (5 * (a : Int) + (j : Int)) + (W : Int) = ((2 * L + 1 + W * (5 * a + j) + W : Nat) : Int) := by rw [hf, ← Int.natCast_add]
            rw [h2, hf, cut_mid _ _ _ (by omega) (by omega), Nat.add_sub_cancel_left]
          rw [ecut]
          refine ⟨p1, _, rfl, Or.inl ⟨sq_of upd_same, fun p3 hp3 => ?_⟩⟩
          have ED := (Ex.new (o := .lst ((rvs.drop (2 * L + 1 + W * (5 * a + j))).take W)) hp1).trans (Ex.new (o := .tup ((rvs.drop (2 * L + 1 + W * (5 * a + j))).take W)) hp3)
          have hmd : MatD (.ref p3) ((rws.drop (2 * L + 1 + W * (5 * a + j))).take W) (upd (upd HD p1 (.lst ((rvs.drop (2 * L + 1 + W * (5 * a + j))).take W))) p3 (.tup ((rvs.drop (2 * L + 1 + W * (5 * a + j))).take W))) :=
            ⟨p3, _, rfl, upd_same, ((hv7.drop _).take W).mono mono_vec (im_ex (E9.trans (EC.trans ED)))⟩
          generalize upd (upd HD p1 (.lst ((rvs.drop (2 * L + 1 + W * (5 * a + j))).take W))) p3 (.tup ((rvs.drop (2 * L + 1 + W * (5 * a + j))).take W)) = HE at *
          refine ⟨mo, mvs, .ref p3, rfl, rfl, ED _ _ hmo', sz_lt (by rw [hmv.1, hml]; omega), ?_⟩
          have im := Im.lst (o := .lst (mvs ++ [V.ref p3])) (ED _ _ hmo')
          refine ⟨_, _, mvs ++ [V.ref p3], mts ++ [(rws.drop (2 * L + 1 + W * (5 * a + j))).take W], rfl, (EC.trans ED).mut hmo, upd_same, (hmv.mono mono_mat ((im_ex ED).trans im)).snoc (mono_mat _ _ _ _ im hmd), by simp [hml], fun m hm' => ?_⟩
          rcases List.mem_append.mp hm' with h | h
          · exact hmok m h
          · rw [List.mem_singleton.mp h]
            exact hmk _ W hfW
        · obtain ⟨e6, e10, mvs, mts, rfl, EC, hmo', hmv, hml, hmok⟩ := p'
          match mts, hml with
          | [m0, m1, m2', m3, m4], _ =>
            refine ⟨_, rfl, Or.inl ⟨rfl, _, sq_of (EC _ _ hl9)⟩, _, rfl, mo, mvs, rfl, Or.inl ⟨sq_of hmo', fun p3 hp3 => ?_⟩⟩
            have ED := Ex.new (o := .tup mvs) hp3
            refine ⟨lo, lvs, .ref p3, rfl, rfl, (EC.trans ED) _ _ hl9, sz_lt (by rw [hv9.1, hlen9]; omega), ?_⟩
            have im := Im.lst (o := .lst (lvs ++ [V.ref p3])) ((EC.trans ED) _ _ hl9)
            have hly : LayD (.ref p3) ⟨m0, m1, m2', m3, m4⟩ (upd HC p3 (.tup mvs)) := ⟨p3, mvs, rfl, upd_same, hmv.mono mono_mat (im_ex ED)⟩
            refine ⟨_, _, _, _, lvs ++ [V.ref p3], lys ++ [⟨m0, m1, m2', m3, m4⟩], rfl, (E9.trans (EC.trans ED)).mut hlo, upd_same, (hv9.mono mono_lay ((im_ex (EC.trans ED)).trans im)).snoc (mono_lay _ _ _ _ im hly), by simp [hlen9], fun l hl => ?_⟩
            rcases List.mem_append.mp hl with h | h
            · exact hok9 l h
            · rw [List.mem_singleton.mp h]
              exact ⟨hmok _ (by simp), hmok _ (by simp), hmok _ (by simp), hmok _ (by simp), hmok _ (by simp)⟩
      · obtain ⟨d6, d8, d9, d10, lvs, lys, rfl, E9, hl9, hv9, hlen9, hok9⟩ := p'
        have hv9' := hv7.mono mono_vec (im_ex E9)
        have h9 := E9 _ _ h7
        have h2L : 2 * L < rws.length := by rw [hm.1]; omega
        obtain ⟨sv, hs1, hs2⟩ := hv9'.get (List.getElem?_eq_getElem h2L)
        have hat : atI rvs (2 * (L : Int)) = some sv := by
          have e : (2 * (L : Int)) = ((2 * L : Nat) : Int) := by simp
          rw [e]
          exact atI_nat hs1
        have ec1 : cutV rvs none (some (L : Int)) = rvs.take L := cut_to _ _
        have ec2 : cutV rvs (some (L : Int)) (some (2 * (L : Int))) = (rvs.drop L).take L := by
          have e : (2 * (L : Int)) = ((2 * L : Nat) : Int) := by simp
          rw [e, cut_mid _ _ _ (by omega) (by omega)]
          rw [show 2 * L - L = L by omega]
        refine ⟨_, rfl, _, rfl, _, rfl, _, rfl, ro, rvs, rfl, sq_of h9, fun q1 hq1 => ?_⟩
        rw [ec1]
        refine ⟨q1, _, rfl, Or.inl ⟨sq_of upd_same, fun q2 hq2 => ?_⟩⟩
        have F1 := (Ex.new (o := .lst (rvs.take L)) hq1).trans (Ex.new (o := .tup (rvs.take L)) hq2)
        have hemb : MatD (.ref q2) (rws.take L) (upd (upd H9 q1 (.lst (rvs.take L))) q2 (.tup (rvs.take L))) := ⟨q2, _, rfl, upd_same, (hv9'.take L).mono mono_vec (im_ex F1)⟩
        generalize upd (upd H9 q1 (.lst (rvs.take L))) q2 (.tup (rvs.take L)) = G1 at *
        refine ⟨_, rfl, _, rfl, _, _, rfl, rfl, cmul' kL, ro, rvs, _, _, rfl, rfl, sq_of (F1 _ _ h9), hat, ?_⟩
        refine ⟨_, rfl, lo, lvs, rfl, Or.inl ⟨sq_of (F1 _ _ hl9), fun q3 hq3 => ?_⟩⟩
        have F2 := Ex.new (o := .tup lvs) hq3
        have hlay : TupD LayD (.ref q3) lys (upd G1 q3 (.tup lvs)) := ⟨q3, _, rfl, upd_same, hv9.mono mono_lay (im_ex (F1.trans F2))⟩
        generalize upd G1 q3 (.tup lvs) = G2 at *
        refine ⟨_, rfl, _, rfl, _, rfl, _, rfl, _, _, rfl, rfl, cmul' kL, _, rfl, ro, rvs, rfl, sq_of ((F1.trans F2) _ _ h9), fun q4 hq4 => ?_⟩
        rw [ec2]
        refine ⟨q4, _, rfl, Or.inl ⟨sq_of upd_same, fun q5 hq5 => ?_⟩⟩
        have F3 := (Ex.new (o := .lst ((rvs.drop L).take L)) hq4).trans (Ex.new (o := .tup ((rvs.drop L).take L)) hq5)
        have hout : MatD (.ref q5) ((rws.drop L).take L) (upd (upd G2 q4 (.lst ((rvs.drop L).take L))) q5 (.tup ((rvs.drop L).take L))) := ⟨q5, _, rfl, upd_same, ((hv9'.drop L).take L).mono mono_vec (im_ex (F1.trans (F2.trans F3)))⟩
        generalize upd (upd G2 q4 (.lst ((rvs.drop L).take L))) q5 (.tup ((rvs.drop L).take L)) = G3 at *
        refine ⟨sz_of (by simp), fun q6 hq6 => ?_⟩
        have F4 := Ex.new (o := .tup [V.int p, V.ref q2, sv, V.ref q3, V.ref q5]) hq6
        refine q (.ref q6) _ (E7.trans (E9.trans (F1.trans (F2.trans (F3.trans F4))))) ⟨⟨p, rws.take L, rws[2 * L], lys, (rws.drop L).take L⟩, rfl, ?_, ?_⟩
        · refine ⟨p2, p97, ?_, hm.2 _ (List.getElem_mem _), hok9, by show lys.length ≤ 2; omega, hmk L L (by omega), l1, l4, w1, w3⟩
          have := hmk 0 L (by omega)
          rw [List.drop_zero] at this
          exact this
        · exact ⟨q6, .ref q2, sv, .ref q3, .ref q5, rfl, upd_same, mono_mat _ _ _ _ (im_ex (F2.trans (F3.trans F4))) hemb, mono_vec _ _ _ _ (im_ex (F1.trans (F2.trans (F3.trans F4)))) hs2, mono_tup mono_lay _ _ _ _ (im_ex (F3.trans F4)) hlay, mono_mat _ _ _ _ (im_ex F4) hout⟩
end
end SA
set_option maxRecDepth 100000
set_option maxHeartbeats 4000000
/-! The law. -/
namespace SA
open PySem PySem.Spec PyProof.Rows L2 Evl SAZ
theorem pickL (m : Int) : ∃ L : Nat, 1 ≤ L ∧ L ≤ 4 ∧ atI [V.int 1, .int 2, .int 2, .int 3, .int 4] (m % 5) = some (.int (L : Int)) := by
  have h0 := Int.emod_nonneg m (show (5 : Int) ≠ 0 by decide)
  have h1 := Int.emod_lt_of_pos m (show (0 : Int) < 5 by decide)
  rcases (show m % 5 = 0 ∨ m % 5 = 1 ∨ m % 5 = 2 ∨ m % 5 = 3 ∨ m % 5 = 4 by omega) with e | e | e | e | e <;> rw [e]
  · exact ⟨1, by decide, by decide, rfl⟩
  · exact ⟨2, by decide, by decide, rfl⟩
  · exact ⟨2, by decide, by decide, rfl⟩
  · exact ⟨3, by decide, by decide, rfl⟩
  · exact ⟨4, by decide, by decide, rfl⟩
theorem pr_bd : ∀ p ∈ primes, 2 ≤ p ∧ p ≤ 97 := by decide
theorem pickP (m : Int) : ∃ p : Int, p ∈ primes ∧ 2 ≤ p ∧ p ≤ 97 ∧ atI (primes.map V.int) (m % 25) = some (.int p) := by
  have h0 := Int.emod_nonneg m (show (25 : Int) ≠ 0 by decide)
  have h1 := Int.emod_lt_of_pos m (show (0 : Int) < 25 by decide)
  obtain ⟨k, hk⟩ : ∃ k : Nat, m % 25 = (k : Int) := ⟨(m % 25).toNat, by omega⟩
  rw [hk]
  have hl : k < primes.length := by show k < 25; omega
  have hm : primes[k] ∈ primes := List.getElem_mem _
  refine ⟨primes[k], hm, (pr_bd _ hm).1, (pr_bd _ hm).2, atI_nat ?_⟩
  rw [List.getElem?_map, List.getElem?_eq_getElem hl]
  rfl
theorem modN (m : Int) {k : Nat} (h : 0 < k) : ∃ c : Nat, c < k ∧ m % (k : Int) = (c : Int) := by
  have h0 := Int.emod_nonneg m (show (k : Int) ≠ 0 by omega)
  have h1 := Int.emod_lt_of_pos m (show (0 : Int) < (k : Int) by omega)
  exact ⟨(m % (k : Int)).toNat, by omega, by omega⟩
/-- a letter -/
def LetP (L : Nat) (v : V) : Prop := ∃ c : Nat, c < L ∧ v = .int (c : Int)
theorem lets {L : Nat} : ∀ {acc : List V}, (∀ (i : Nat) y, acc[i]? = some y → LetP L y) → ∃ pr : List Nat, acc = pr.map (fun n : Nat => V.int (n : Int)) ∧ ∀ a ∈ pr, a < L
  | [], _ => ⟨[], rfl, fun _ h => nomatch h⟩
  | v :: r, h => by
    obtain ⟨c, hc, rfl⟩ := h 0 v rfl
    obtain ⟨pr, rfl, hp⟩ := lets (acc := r) fun i y e => h (i + 1) y (by simpa using e)
    refine ⟨c :: pr, rfl, fun a ha => ?_⟩
    rcases List.mem_cons.mp ha with e | e
    · rw [e]; exact hc
    · exact hp a e
theorem pick2 (x y : V) (m : Int) : ∃ v, atI [x, y] (m % 2) = some v := by
  rcases Int.emod_two_eq m with e | e <;> rw [e]
  · exact ⟨x, rfl⟩
  · exact ⟨y, rfl⟩
theorem at_num {ns : List Int} (hl : ns.length = 300) (m : Int) (h0 : 0 ≤ m) (h1 : m < 300) : ∃ z, atI (ns.map V.int) m = some (.int z) := at_in h0 (by rw [hl]; omega)
section
variable {P : Program} {w : World} {K : PySem.W.Frag} {mg : Str → Option Value} {base : Heap}
def spLaw (K : PySem.W.Frag) : Sp := fun vs H Q _ => ∃ (a : Addr) (ns : List Int), vs = [.ref a] ∧ SqL K H a (ns.map V.int) ∧ ns.length ≤ 63 ∧ ∀ H', Q (.bl true) H'
theorem ok_law (t : T K mg) : FnOk P w K mg base CX0 10 t.law.f t.law.d p_law (spLaw K) := by
  refine t.law.F.ok sc_law (fun vs H Q E h => ?_) (fun cdv A outer s H vs Q E hr h => ?_)
  · obtain ⟨a, ns, rfl, _⟩ := h
    rfl
  · obtain ⟨a, ns, rfl, ha, hnl, q⟩ := h
    refine ⟨_, (pss_cons (ps_for PassesOwn.never rfl (pi_range1 (by rfl) t.z_range (pa_cons (pe_callB (call_min2 rfl) (by rfl) t.z_min (by decide +kernel) (pa_cons (pe_callB call_len_seq (by rfl) t.z_len PySem.boot_len (pa_cons (pv 0) pa_nil)) (pa_cons pe_int pa_nil))) pa_nil)) (pg_name (i := 1) sc_law.nd rfl (Or.inl rfl))
      (pss_cons (ps_set (i := 2) sc_law.nd rfl (Or.inr rfl) (pe_call (ok_law_numbers t) (hr.mono (by decide)) rfl t.law_numbers.g t.law_numbers.F.kp t.law_numbers.b .nil pass0 (pa_cons (pe_ix ix_list (pv 0) (pv 1) (fun _ _ => rfl)) (pa_cons (pv 1) (pa_cons pe_int pa_nil)))))
        (pss_cons (ps_set (i := 3) sc_law.nd rfl (Or.inr rfl) (pe_ix ix_list (pe_lst (pa_cons pe_int (pa_cons pe_int (pa_cons pe_int (pa_cons pe_int (pa_cons pe_int pa_nil)))))) (pe_op op_mod (pe_callTy (T := "int") call_int1 (by rfl) t.z_int (by decide +kernel) (pa_cons (pe_ix ix_list (pv 2) pe_int (fun _ _ => rfl)) pa_nil)) pe_int) (fun _ _ => rfl)))
        (pss_cons (ps_set (i := 4) sc_law.nd rfl (Or.inr rfl) (pe_lst pa_nil))
        (pss_cons (ps_for PassesOwn.never rfl (pi_range1 (by rfl) t.z_range (pa_cons pe_int pa_nil)) (pg_name (i := 5) sc_law.nd rfl (Or.inl rfl))
        (pss_cons (ps_set (i := 6) sc_law.nd rfl (Or.inl rfl) (pe_lst (pa_cons pe_int (pa_cons pe_int (pa_cons pe_int (pa_cons pe_int (pa_cons pe_int (pa_cons pe_int (pa_cons pe_int (pa_cons pe_int (pa_cons pe_int (pa_cons pe_int (pa_cons pe_int (pa_cons pe_int (pa_cons pe_int (pa_cons pe_int (pa_cons pe_int (pa_cons pe_int (pa_cons pe_int (pa_cons pe_int (pa_cons pe_int (pa_cons pe_int (pa_cons pe_int (pa_cons pe_int (pa_cons pe_int (pa_cons pe_int (pa_cons pe_int pa_nil)))))))))))))))))))))))))))
          (pss_cons (ps_set (i := 7) sc_law.nd rfl (Or.inl rfl) (pe_ix ix_list (pv 6) (pe_op op_mod (pe_callTy (T := "int") call_int1 (by rfl) t.z_int (by decide +kernel) (pa_cons (pe_ix ix_list (pv 2) (pe_op op_add pe_int (pv 5)) (fun _ _ => rfl)) pa_nil)) pe_int) (fun _ _ => rfl)))
          (pss_cons (ps_set (i := 8) sc_law.nd rfl (Or.inl rfl) (pe_op op_add pe_int (pe_op op_mod (pe_callTy (T := "int") call_int1 (by rfl) t.z_int (by decide +kernel) (pa_cons (pe_ix ix_list (pv 2) (pe_op op_add pe_int (pv 5)) (fun _ _ => rfl)) pa_nil)) pe_int)))
          (pss_one (ps_expr (pe_bm PySem.F.plainAttrs_list PySem.F.slot_list_append PySem.F.type_list_append mt_append (pv 4) (pa_cons (pe_call (ok_law_net t) (hr.mono (by decide)) rfl t.law_net.g t.law_net.F.kp t.law_net.b .nil pass0 (pa_cons (pe_slice sl_list (pv 2) (po_some (pe_op op_add pe_int (pe_op op_mul pe_int (pv 5)))) (po_some (pe_op op_add pe_int (pe_op op_mul pe_int (pv 5))))) (pa_cons (pv 3) (pa_cons (pv 8) (pa_cons (pe_op op_mod (pe_callTy (T := "int") call_int1 (by rfl) t.z_int (by decide +kernel) (pa_cons (pe_ix ix_list (pv 2) (pe_op op_add pe_int (pv 5)) (fun _ _ => rfl)) pa_nil)) pe_int) (pa_cons (pv 7) pa_nil)))))) pa_nil))))))))
        (pss_cons (ps_set (i := 9) sc_law.nd rfl (Or.inr rfl) (pe_lc (own := [("_law_k", 5)]) (g := (gName 5)) (tt := tYes) (te := (tOp (rIxL K) (tLst (tCons _ (tCons (tOp _ (tCB _ (tCons (tOp (rIxL K) _ _) tNil)) _) tNil))) (tOp _ (tCB _ (tCons (tOp (rIxL K) _ _) tNil)) _))) rfl sc_law.nd (pi_range1 (by rfl) t.z_range (pa_cons pe_int pa_nil)) (blkOk_by (own := [("_law_k", 5)]) (N := n_law) (sc := defScope st_law) (by decide +kernel)) (fun _ _ _ _ _ => (pg_name (i := 5) sc_law.nd rfl (Or.inl rfl))) (fun _ _ _ _ _ => pts_nil) (fun _ _ _ _ _ => (pe_ix ix_list (pe_lst (pa_cons pe_non (pa_cons (pe_op op_mod (pe_callTy (T := "int") call_int1 (by rfl) t.z_int (by decide +kernel) (pa_cons (pe_ix ix_list (pv 2) (pe_op op_add pe_int (pv 5)) (fun _ _ => rfl)) pa_nil)) (pv 3)) pa_nil))) (pe_op op_mod (pe_callTy (T := "int") call_int1 (by rfl) t.z_int (by decide +kernel) (pa_cons (pe_ix ix_list (pv 2) (pe_op op_add pe_int (pv 5)) (fun _ _ => rfl)) pa_nil)) pe_int) (fun _ _ => rfl)))))
        (pss_cons (ps_setLc (i := 10) (own := [("_law_k", 5)]) (g := (gName 5)) (tt := tYes) (te := (tMake _ _ _ _ (tCons (tOp (rIxT K) (tOp (rIxL K) _ _) _) (tCons (tOp (rIxT K) (tOp (rIxL K) _ _) _) (tCons (tOp (rIxT K) (tOp (rIxL K) _ _) _) (tCons (tOp (rIxT K) (tOp (rIxL K) _ _) _) (tCons (tOp (rIxT K) (tOp (rIxL K) _ _) _) (tCons (tOp (rIxL K) _ _) tNil)))))))) rfl sc_law.nd rfl rfl (sw_true rfl rfl rfl (by decide +kernel)) (pi_range1 (by rfl) t.z_range (pa_cons pe_int pa_nil)) (blkOk_by (own := [("_law_k", 5)]) (N := n_law) (sc := defScope st_law) (by decide +kernel)) (fun _ _ _ _ _ => (pg_name (i := 5) sc_law.nd rfl (Or.inl rfl))) (fun _ _ _ _ _ => pts_nil) (fun _ _ _ _ _ => (pe_make t.M_Net (ok_Net_init t) (hr.mono (by decide)) rfl t.mg_Net t.Net_init.b .nil pass0 (pa_cons (pe_ix ix_tup (pe_ix ix_list (pv 4) (pv 5) (fun _ _ => rfl)) pe_int (fun _ _ => rfl)) (pa_cons (pe_ix ix_tup (pe_ix ix_list (pv 4) (pv 5) (fun _ _ => rfl)) pe_int (fun _ _ => rfl)) (pa_cons (pe_ix ix_tup (pe_ix ix_list (pv 4) (pv 5) (fun _ _ => rfl)) pe_int (fun _ _ => rfl)) (pa_cons (pe_ix ix_tup (pe_ix ix_list (pv 4) (pv 5) (fun _ _ => rfl)) pe_int (fun _ _ => rfl)) (pa_cons (pe_ix ix_tup (pe_ix ix_list (pv 4) (pv 5) (fun _ _ => rfl)) pe_int (fun _ _ => rfl)) (pa_cons (pe_ix ix_list (pv 9) (pv 5) (fun _ _ => rfl)) pa_nil)))))))))
        (pss_cons (ps_setLc (i := 11) (own := [("_law_k", 5)]) (g := (gName 5)) (tt := tYes) (te := (tOp _ (tCB _ (tCons (tOp (rIxL K) _ _) tNil)) _)) rfl sc_law.nd rfl rfl (sw_true rfl rfl rfl (by decide +kernel)) (pi_range1 (by rfl) t.z_range (pa_cons (pe_op op_add pe_int (pe_op op_mod (pe_callTy (T := "int") call_int1 (by rfl) t.z_int (by decide +kernel) (pa_cons (pe_ix ix_list (pv 2) pe_int (fun _ _ => rfl)) pa_nil)) pe_int)) pa_nil)) (blkOk_by (own := [("_law_k", 5)]) (N := n_law) (sc := defScope st_law) (by decide +kernel)) (fun _ _ _ _ _ => (pg_name (i := 5) sc_law.nd rfl (Or.inl rfl))) (fun _ _ _ _ _ => pts_nil) (fun _ _ _ _ _ => (pe_op op_mod (pe_callTy (T := "int") call_int1 (by rfl) t.z_int (by decide +kernel) (pa_cons (pe_ix ix_list (pv 2) (pe_op op_add pe_int (pv 5)) (fun _ _ => rfl)) pa_nil)) (pv 3))))
        (pss_cons (ps_set (i := 12) sc_law.nd rfl (Or.inr rfl) (pe_op op_add pe_int (pe_op op_mod (pe_callTy (T := "int") call_int1 (by rfl) t.z_int (by decide +kernel) (pa_cons (pe_ix ix_list (pv 2) pe_int (fun _ _ => rfl)) pa_nil)) pe_int)))
        (pss_cons (ps_set (i := 13) sc_law.nd rfl (Or.inl rfl) (pe_call (ok_round_shares t) (hr.mono (by decide)) rfl t.round_shares.g t.round_shares.F.kp t.round_shares.b .nil pass0 (pa_cons (pe_ix ix_list (pv 10) pe_int (fun _ _ => rfl)) (pa_cons (pe_ix ix_list (pv 10) pe_int (fun _ _ => rfl)) (pa_cons (pe_callTy (T := "tuple") call_tuple_of (by rfl) t.z_tuple (by decide +kernel) (pa_cons (pv 11) pa_nil)) (pa_cons (pv 12) pa_nil))))))
        (pss_cons (ps_set (i := 14) sc_law.nd rfl (Or.inl rfl) (pe_tup (pa_cons pe_int (pa_cons pe_int pa_nil))))
        (pss_cons (ps_set (i := 15) sc_law.nd rfl (Or.inl rfl) pe_int)
        (pss_cons (ps_for PassesOwn.never rfl (pi_range1 (by rfl) t.z_range (pa_cons (pe_op op_add (pv 12) pe_int) pa_nil)) (pg_name (i := 5) sc_law.nd rfl (Or.inl rfl))
        (pss_one (ps_set (i := 15) sc_law.nd rfl (Or.inl rfl) (pe_op op_mul (pv 15) (pv 3)))))
        (pss_cons (ps_if (pt_cmpR op_ne (pe_callB call_len_seq (by rfl) t.z_len PySem.boot_len (pa_cons (pe_lc (own := [("_law_row_here", 16)]) (g := (gName 16)) (tt := (tTest (tOp _ (tCB (rLenOf K) (tCons (tOp (rIxT K) _ _) tNil)) _))) rfl sc_law.nd (pi_tup (pv 13)) (blkOk_by (own := [("_law_row_here", 16)]) (N := n_law) (sc := defScope st_law) (by decide +kernel)) (fun _ _ _ _ _ => (pg_name (i := 16) sc_law.nd rfl (Or.inl rfl))) (fun _ _ _ _ _ => (pts_one (pt_cmpR op_eq (pe_callB call_len_seq (by rfl) t.z_len PySem.boot_len (pa_cons (pe_ix ix_tup (pv 16) pe_int (fun _ _ => rfl)) pa_nil)) (pe_op op_add (pv 12) pe_int) (nomark _)))) (fun _ _ _ _ _ => (pv 16))) pa_nil)) (pv 15) (nomark _))
        (pss_one (ps_ret pe_bl))
        pss_nil)
        (pss_cons (ps_for PassesOwn.never rfl (pi_tup (pv 13)) (pg_name (i := 16) sc_law.nd rfl (Or.inl rfl))
        (pss_cons (ps_if (PW.pt (pw_or (pt_not (pt_chain op_le op_le pe_int (pe_callB call_len_seq (by rfl) t.z_len PySem.boot_len (pa_cons (pe_ix ix_tup (pv 16) pe_int (fun _ _ => rfl)) pa_nil)) (pe_op op_add (pv 12) pe_int))) (pw_or (pt_cmpR op_le (pe_fld (pe_ix ix_tup (pv 16) pe_int (fun _ _ => rfl)) rfl) pe_int (nomark _)) (pw_or1 (pt_cmpR op_le (pe_fld (pe_ix ix_tup (pv 16) pe_int (fun _ _ => rfl)) rfl) pe_int (nomark _))))))
          (pss_one (ps_ret pe_bl))
          pss_nil)
          (pss_one (ps_set (i := 14) sc_law.nd rfl (Or.inl rfl) (pe_call (ok_law_plus t) (hr.mono (by decide)) rfl t.law_plus.g t.law_plus.F.kp t.law_plus.b .nil pass0 (pa_cons (pv 14) (pa_cons (pe_tup (pa_cons (pe_fld (pe_ix ix_tup (pv 16) pe_int (fun _ _ => rfl)) rfl) (pa_cons (pe_fld (pe_ix ix_tup (pv 16) pe_int (fun _ _ => rfl)) rfl) pa_nil))) pa_nil)))))))
        (pss_cons (ps_if (pt_cmpR (op_neD hr.units) (pv 14) (pe_tup (pa_cons pe_int (pa_cons pe_int pa_nil))) (nomark _))
        (pss_one (ps_ret pe_bl))
        pss_nil)
        (pss_cons (ps_set (i := 17) sc_law.nd rfl (Or.inl rfl) pe_dnewT)
        (pss_cons (ps_set (i := 18) sc_law.nd rfl (Or.inl rfl) (pe_callTy (T := "tuple") call_tuple_of (by rfl) t.z_tuple (by decide +kernel) (pa_cons (pe_lc (own := [("_law_k", 5)]) (g := (gName 5)) (tt := tYes) (te := (tOp _ (tCB _ (tCons (tOp (rIxL K) _ _) tNil)) _)) rfl sc_law.nd (pi_range1 (by rfl) t.z_range (pa_cons (pe_op op_add (pv 12) pe_int) pa_nil)) (blkOk_by (own := [("_law_k", 5)]) (N := n_law) (sc := defScope st_law) (by decide +kernel)) (fun _ _ _ _ _ => (pg_name (i := 5) sc_law.nd rfl (Or.inl rfl))) (fun _ _ _ _ _ => pts_nil) (fun _ _ _ _ _ => (pe_op op_mod (pe_callTy (T := "int") call_int1 (by rfl) t.z_int (by decide +kernel) (pa_cons (pe_ix ix_list (pv 2) (pe_op op_add pe_int (pv 5)) (fun _ _ => rfl)) pa_nil)) (pv 3)))) pa_nil)))
        (pss_one (ps_for PassesOwn.never rfl (pi_list (pe_call (ok_law_texts t) (hr.mono (by decide)) rfl t.law_texts.g t.law_texts.F.kp t.law_texts.b .nil pass0 (pa_cons (pv 3) (pa_cons (pe_op op_add (pv 12) pe_int) (pa_cons (pv 18) pa_nil))))) (pg_name (i := 19) sc_law.nd rfl (Or.inl rfl))
        (pss_cons (ps_set (i := 20) sc_law.nd rfl (Or.inl rfl) (pe_call (ok_law_text_share t) (hr.mono (by decide)) rfl t.law_text_share.g t.law_text_share.F.kp t.law_text_share.b .nil pass0 (pa_cons (pe_ix ix_list (pv 4) pe_int (fun _ _ => rfl)) (pa_cons (pv 17) (pa_cons (pv 11) (pa_cons (pv 19) pa_nil))))))
          (pss_cons (ps_if (pt_not (pt_val (pe_call (ok_law_is_share t) (hr.mono (by decide)) rfl t.law_is_share.g t.law_is_share.F.kp t.law_is_share.b .nil pass0 (pa_cons (pe_call (ok_text_share t) (hr.mono (by decide)) rfl t.text_share.g t.text_share.F.kp t.text_share.b .nil pass0 (pa_cons (pe_ix ix_list (pv 10) pe_int (fun _ _ => rfl)) (pa_cons (pv 11) (pa_cons (pv 19) pa_nil)))) (pa_cons (pv 20) pa_nil)))))
          (pss_one (ps_ret pe_bl))
          pss_nil)
          (pss_one (ps_if (pt_not (pt_val (pe_call (ok_law_sums_up t) (hr.mono (by decide)) rfl t.law_sums_up.g t.law_sums_up.F.kp t.law_sums_up.b .nil pass0 (pa_cons (pe_ix ix_list (pv 4) pe_int (fun _ _ => rfl)) (pa_cons (pv 17) (pa_cons (pv 11) (pa_cons (pv 13) (pa_cons (pv 19) (pa_cons (pv 20) pa_nil)))))))))
          (pss_one (ps_ret pe_bl))
          pss_nil))))))))))))))))))))))))
      (pss_one (ps_ret pe_bl))), ?_⟩
    refine ⟨_, rfl, a, _, rfl, Or.inl ha, _, _, rfl, ?_⟩
    obtain ⟨N, hN, hNl⟩ : ∃ N : Nat, (if (2 : Int) < (((ns.map V.int).length : Nat) : Int) then 2 else (((ns.map V.int).length : Nat) : Int)) = (N : Int) ∧ N ≤ ns.length := by
      rw [List.length_map]
      by_cases c : (2 : Int) < ((ns.length : Nat) : Int)
      · exact ⟨2, by rw [if_pos c]; rfl, by omega⟩
      · exact ⟨ns.length, by rw [if_neg c], Nat.le_refl _⟩
    rw [hN]
    refine ⟨_, rfl, rg_lo _, rg_hi (by omega), ?_⟩
    rw [Int.toNat_natCast]
    refine for_it (walk_range (lo := 0) (n := N)) (fun i σ H' => ∃ c1 c2 c3 c4 c5 c6 c7 c8 c9 c10 c11 c12 c13 c14 c15 c16 c17 c18 c19 c20 : Option V, σ = [some (.ref a), c1, c2, c3, c4, c5, c6, c7, c8, c9, c10, c11, c12, c13, c14, c15, c16, c17, c18, c19, c20] ∧ Ex H H')
      ⟨_, _, _, _, _, _, _, _, _, _, _, _, _, _, _, _, _, _, _, _, rfl, Ex.refl _⟩ (fun i σ H' _ _ => trivial) (fun i y σ H1 H2 hi p yy => ?_) (fun σ H' p => ?_)
    · obtain ⟨c1, c2, c3, c4, c5, c6, c7, c8, c9, c10, c11, c12, c13, c14, c15, c16, c17, c18, c19, c20, rfl, E1⟩ := p
      obtain ⟨rfl, rfl⟩ := yy
      have hin : ns[i]? = some (ns[i]'(by omega)) := List.getElem?_eq_getElem _
      -- numbers
      refine ⟨_, rfl, _, rfl, a, _, _, _, rfl, rfl, ex_l E1 ha, at_int hin, _, rfl, _, _, rfl, ?_⟩
      rintro v2 H3 E3 ⟨nums, hnums, hn3⟩
      obtain ⟨na, rfl, hna⟩ := lst_ints hn3
      clear hn3
      have EA := E1.trans E3
      -- letters
      obtain ⟨z0, hz0⟩ := at_num hnums 0 (by decide) (by decide)
      obtain ⟨L, l1, l4, hL⟩ := pickL z0
      refine ⟨sz_of (by simp), fun pl hpl => ?_⟩
      have E4 := Ex.new (o := .lst [V.int 1, .int 2, .int 2, .int 3, .int 4]) hpl
      refine ⟨_, rfl, na, _, _, _, rfl, rfl, sq_of (E4 _ _ hna), hz0, Or.inl ⟨_, rfl, _, _, rfl, rfl, (by show (0 : Int) < _; decide), pl, _, _, _, rfl, rfl, sq_of upd_same, hL, ?_⟩⟩
      -- nets
      refine ⟨sz_of (by simp), fun nt hnt => ?_⟩
      have E5 := E4.trans (Ex.new (o := .lst []) hnt)
      have hna5 := E5 _ _ hna
      have EB := EA.trans E5
      have hntv : upd (upd H3 pl (.lst [V.int 1, .int 2, .int 2, .int 3, .int 4])) nt (.lst []) nt = some (.lst []) := upd_same
      have hnt0 : H3 nt = none := fresh_back E4 hnt
      have EBB : Ex H3 (upd (upd H3 pl (.lst [V.int 1, .int 2, .int 2, .int 3, .int 4])) nt (.lst [])) := E5
      generalize upd (upd H3 pl (.lst [V.int 1, .int 2, .int 2, .int 3, .int 4])) nt (.lst []) = H5 at *
      clear hz0 hL hpl hnt E4 E5
      refine ⟨(2 : Int), rfl, by decide, by decide, ?_⟩
      refine for_it (walk_range (lo := 0) (n := 2)) (fun k σ H' => ∃ (d5 d6 d7 d8 : Option V) (nvs : List V) (nets : List NetD), σ = [some (.ref a), some (.int (0 + ((i : Nat) : Int))), some (.ref na), some (.int (L : Int)), some (.ref nt), d5, d6, d7, d8, c9, c10, c11, c12, c13, c14, c15, c16, c17, c18, c19, c20] ∧ Ex H3 H' ∧ H' nt = some (.lst nvs) ∧ AllD LNetD nvs nets H' ∧ nets.length = k ∧ ∀ n ∈ nets, n.p ∈ primes ∧ ∃ W, NetOk L W n)
        ⟨_, _, _, _, [], [], rfl, EBB, hntv, AllD.nil, rfl, fun _ h => nomatch h⟩ (fun k σ H' _ _ => trivial) (fun k y σ H6 H7 hk p yy => ?_) (fun σ H7 p => ?_)
      · obtain ⟨d5, d6, d7, d8, nvs, nets, rfl, E6, h6, hv6, hl6, ho6⟩ := p
        obtain ⟨rfl, hy⟩ := yy
        have hy' : y = .int ((k : Nat) : Int) := hy.trans (by show V.int (0 + _) = _; rw [Int.zero_add])
        clear hy
        subst hy'
        have hna7 := E6 _ _ hna
        refine ⟨sz_of (by simp), fun pp hpp => ?_⟩
        have F1 := Ex.new (o := .lst (primes.map V.int)) hpp
        have hpv : upd H7 pp (.lst (primes.map V.int)) pp = some (.lst (primes.map V.int)) := upd_same
        have hna8 := F1 _ _ hna7
        obtain ⟨z1, hz1⟩ := at_num hnums (1 + (k : Int)) (by omega) (by omega)
        obtain ⟨z3, hz3⟩ := at_num hnums (3 + (k : Int)) (by omega) (by omega)
        obtain ⟨z5, hz5⟩ := at_num hnums (5 + (k : Int)) (by omega) (by omega)
        obtain ⟨p, hp1, hp2, hp3, hp4⟩ := pickP z1
        obtain ⟨cw, hcw1, hcw2⟩ := modN z3 (k := 3) (by decide)
        obtain ⟨cm, hcm1, hcm2⟩ := modN z5 (k := 3) (by decide)
        have hcw3 : (1 + z3 % 3 : Int) = ((1 + cw : Nat) : Int) := by
          rw [Int.natCast_add, ← hcw2]
          rfl
        have hcm3 : (z5 % 3 : Int) = ((cm : Nat) : Int) := hcm2
        change Ex H7 (upd H7 pp (.lst [V.int 2, .int 3, .int 5, .int 7, .int 11, .int 13, .int 17, .int 19, .int 23, .int 29, .int 31, .int 37, .int 41, .int 43, .int 47, .int 53, .int 59, .int 61, .int 67, .int 71, .int 73, .int 79, .int 83, .int 89, .int 97])) at F1
        change upd H7 pp (.lst [V.int 2, .int 3, .int 5, .int 7, .int 11, .int 13, .int 17, .int 19, .int 23, .int 29, .int 31, .int 37, .int 41, .int 43, .int 47, .int 53, .int 59, .int 61, .int 67, .int 71, .int 73, .int 79, .int 83, .int 89, .int 97]) pp = _ at hpv
        change upd H7 pp (.lst [V.int 2, .int 3, .int 5, .int 7, .int 11, .int 13, .int 17, .int 19, .int 23, .int 29, .int 31, .int 37, .int 41, .int 43, .int 47, .int 53, .int 59, .int 61, .int 67, .int 71, .int 73, .int 79, .int 83, .int 89, .int 97]) na = _ at hna8
        generalize upd H7 pp (.lst [V.int 2, .int 3, .int 5, .int 7, .int 11, .int 13, .int 17, .int 19, .int 23, .int 29, .int 31, .int 37, .int 41, .int 43, .int 47, .int 53, .int 59, .int 61, .int 67, .int 71, .int 73, .int 79, .int 83, .int 89, .int 97]) = H8 at *
        refine ⟨_, rfl, _, rfl, _, rfl, _, _, rfl, rfl, na, _, _, _, rfl, rfl, sq_of hna8, hz1, Or.inl ⟨_, rfl, _, _, rfl, rfl, (by show (0 : Int) < _; decide), pp, _, _, _, rfl, rfl, sq_of hpv, hp4, ?_⟩⟩
        refine ⟨_, rfl, _, rfl, _, _, rfl, rfl, na, _, _, _, rfl, rfl, sq_of hna8, hz3, Or.inl ⟨_, rfl, _, _, rfl, rfl, (by show (0 : Int) < _; decide), _, _, rfl, rfl, ?_⟩⟩
        have h68 := F1 _ _ h6
        refine ⟨_, rfl, Or.inl ⟨rfl, _, sq_of h68⟩, _, rfl, _, rfl, _, _, rfl, rfl, cmul (kst (by decide) (by decide)), _, _, rfl, rfl, _, rfl, _, rfl, _, _, rfl, rfl, cmul (kst (by decide) (by decide)), _, _, rfl, rfl, _, rfl, na, _, rfl, sq_of hna8, fun p5 hp5 => ?_⟩
        have F2 := Ex.new (o := .lst (cutV (nums.map V.int) (some (10 + 130 * (k : Int))) (some (140 + 130 * (k : Int))))) hp5
        have ecut : cutV (nums.map V.int) (some (10 + 130 * (k : Int))) (some (140 + 130 * (k : Int))) = ((nums.drop (10 + 130 * k)).take 130).map V.int := by
          have e1 : (10 + 130 * (k : Int)) = ((10 + 130 * k : Nat) : Int) := by simp
          have e2 : (140 + 130 * (k : Int)) = ((140 + 130 * k : Nat) : Int) := by simp
          rw [e1, e2, cut_mid _ _ _ (by rw [List.length_map, hnums]; omega) (by rw [List.length_map, hnums]; omega), ← List.map_drop, ← List.map_take]
          rw [show 140 + 130 * k - (10 + 130 * k) = 130 by omega]
        have h5v : upd H8 p5 (.lst (cutV (nums.map V.int) (some (10 + 130 * (k : Int))) (some (140 + 130 * (k : Int))))) p5 = some (.lst (((nums.drop (10 + 130 * k)).take 130).map V.int)) := by rw [← ecut]; exact upd_same
        generalize upd H8 p5 (.lst (cutV (nums.map V.int) (some (10 + 130 * (k : Int))) (some (140 + 130 * (k : Int))))) = H9 at *
        have hlen : ((nums.drop (10 + 130 * k)).take 130).length = 130 := by rw [List.length_take, List.length_drop, hnums]; omega
        refine ⟨_, rfl, _, rfl, _, rfl, _, rfl, _, _, rfl, rfl, na, _, _, _, rfl, rfl, sq_of (F2 _ _ hna8), hz5, Or.inl ⟨_, rfl, _, _, rfl, rfl, (by show (0 : Int) < _; decide), _, rfl, ?_⟩⟩
        refine ⟨.ref p5, (nums.drop (10 + 130 * k)).take 130, L, 1 + cw, cm, p, ?_, ⟨p5, _, rfl, h5v, ints_allD _⟩, by omega, by omega, l1, l4, by omega, by omega, by omega, hp2, hp3, ?_⟩
        · show [V.ref p5, V.int (L : Int), V.int (1 + z3 % 3), V.int (z5 % 3), V.int p] = _
          rw [hcw3, hcm3]
        rintro vn HA FA ⟨n, rfl, no, nd⟩
        refine ⟨nt, nvs, vn, rfl, rfl, (F2.trans FA) _ _ h68, sz_lt (by rw [hv6.1]; omega), ?_⟩
        have im := Im.lst (o := .lst (nvs ++ [vn])) ((F2.trans FA) _ _ h68)
        refine ⟨_, _, _, _, nvs ++ [vn], nets ++ [n], rfl, (E6.trans (F1.trans (F2.trans FA))).mut hnt0, upd_same, (hv6.mono mono_ln ((im_ex (F1.trans (F2.trans FA))).trans im)).snoc (mono_ln _ _ _ _ im nd), by simp [hl6], fun m hm => ?_⟩
        rcases List.mem_append.mp hm with h | h
        · exact ho6 m h
        · rw [List.mem_singleton.mp h]
          exact ⟨hp1, 1 + cw, no⟩
      · obtain ⟨d5, d6, d7, d8, nvs, nets, rfl, E6, h6, hv6, hl6, ho6⟩ := p
        match nets, hl6 with
        | [n1, n2], _ =>
        obtain ⟨hp1, W1, ok1⟩ := ho6 n1 (by simp)
        obtain ⟨hp2, W2, ok2⟩ := ho6 n2 (by simp)
        have kL : 0 ≤ (L : Int) ∧ (L : Int) < 2 ^ 64 := kst (by omega) (by omega)
        have hLp : (0 : Int) < (L : Int) := by omega
        have hna7 := E6 _ _ hna
        have EB7 := (E1.trans E3).trans E6
        clear hnt0 EBB hntv hna5 EB EA ho6
        -- ends
        refine ⟨(2 : Int), rfl, by decide, by decide, fun D1 hD1 => ?_⟩
        refine lc_go (P := fun _ _ _ => True) (walk_range (lo := 0) (n := 2)) (by decide) hD1 (fun _ _ => trivial) (fun _ _ _ _ _ _ => trivial) (fun k y HB HC Q' hk ex yy q' => ?_) (fun acc1 H8 E8 hacc1 hlen1 _ => ?_)
        · obtain ⟨rfl, hy⟩ := yy
          have hy' : y = .int ((k : Nat) : Int) := hy.trans (by show V.int (0 + _) = _; rw [Int.zero_add])
          clear hy
          subst hy'
          obtain ⟨z1, hz1⟩ := at_num hnums (290 + (k : Int)) (by omega) (by omega)
          obtain ⟨z2, hz2⟩ := at_num hnums (292 + (k : Int)) (by omega) (by omega)
          have hnb := ex _ _ hna7
          refine ⟨rfl, _, rfl, _, rfl, _, _, rfl, rfl, na, _, _, _, rfl, rfl, sq_of hnb, hz1, Or.inl ⟨_, rfl, _, rfl, _, _, rfl, rfl, hLp, sz_of (by simp), fun pe hpe => ?_⟩⟩
          have F1 := Ex.new (o := .lst [V.non, V.int (z1 % (L : Int))]) hpe
          obtain ⟨ev, hev⟩ := pick2 V.non (V.int (z1 % (L : Int))) z2
          refine ⟨_, rfl, _, rfl, _, _, rfl, rfl, na, _, _, _, rfl, rfl, sq_of (F1 _ _ hnb), hz2, Or.inl ⟨_, rfl, _, _, rfl, rfl, (by show (0 : Int) < _; decide), pe, _, _, _, rfl, rfl, sq_of upd_same, hev, q' _ _ F1 trivial⟩⟩
        -- told
        have h68 := E8 _ _ h6
        have hv8 := hv6.mono mono_ln (im_ex E8)
        have hna8 := E8 _ _ hna7
        refine ⟨(2 : Int), rfl, by decide, by decide, fun D2 hD2 => ?_⟩
        refine lc_den (R := NetAt t.aNet) (zs := [n1, n2]) (walk_range (lo := 0) (n := 2)) rfl (by decide) hD2 (fun _ _ => trivial) mono_net (fun k y HB HC Q' n hz ex yy q' => ?_) (fun acc2 H9 E9 hacc2 hlen2 hall2 => ?_)
        · obtain ⟨rfl, hy⟩ := yy
          have hk2 : k < 2 := (List.getElem?_eq_some_iff.mp hz).1
          have hy' : y = .int ((k : Nat) : Int) := hy.trans (by show V.int (0 + _) = _; rw [Int.zero_add])
          clear hy
          subst hy'
          obtain ⟨vk, hvk1, hvk2⟩ := hv8.get hz
          obtain ⟨va, e, s, l, o, rfl, nv⟩ := mono_ln _ _ _ _ (im_ex ex) hvk2
          obtain ⟨hpn, Wn, okn⟩ : n.p ∈ primes ∧ ∃ W, NetOk L W n := by
            rcases (show k = 0 ∨ k = 1 by omega) with rfl | rfl
            · cases hz
              exact ⟨hp1, W1, ok1⟩
            · cases hz
              exact ⟨hp2, W2, ok2⟩
          have hnt := sq_of (K := K) (ex _ _ h68)
          have hat := atI_nat hvk1
          have hd1 := ex _ _ hacc1
          obtain ⟨ev, hev⟩ : ∃ ev, acc1[k]? = some ev := ⟨_, List.getElem?_eq_getElem (by rw [hlen1]; exact hk2)⟩
          have wn3 := okn.w3
          refine ⟨rfl, _, rfl, _, rfl, nt, _, _, _, rfl, rfl, hnt, hat, va, _, _, _, rfl, rfl, st_of nv.at_, rfl, ?_⟩
          refine ⟨_, rfl, _, rfl, nt, _, _, _, rfl, rfl, hnt, hat, va, _, _, _, rfl, rfl, st_of nv.at_, rfl, ?_⟩
          refine ⟨_, rfl, _, rfl, nt, _, _, _, rfl, rfl, hnt, hat, va, _, _, _, rfl, rfl, st_of nv.at_, rfl, ?_⟩
          refine ⟨_, rfl, _, rfl, nt, _, _, _, rfl, rfl, hnt, hat, va, _, _, _, rfl, rfl, st_of nv.at_, rfl, ?_⟩
          refine ⟨_, rfl, _, rfl, nt, _, _, _, rfl, rfl, hnt, hat, va, _, _, _, rfl, rfl, st_of nv.at_, rfl, ?_⟩
          refine ⟨_, rfl, _, rfl, D1, _, _, _, rfl, rfl, sq_of hd1, atI_nat hev, ?_⟩
          intro x dx nx ndx ne
          have EX : Ex HC (upd (upd HC dx (.own x)) x (.ins t.aNet dx [])) := (Ex.new ndx).trans (Ex.new (by rw [upd_ne ne.symm]; exact nx))
          have nv' := mono_lnv (im_ex EX) nv
          refine ⟨x, dx, n, e, s, l, o, ev, rfl, upd_same, hpn, okn.p2, okn.p97, nv'.e, by rw [okn.emb.1]; omega, nv'.s, nv'.l, by have := okn.few; omega, fun y hy m hm => ?_, nv'.o, by rw [okn.out.1]; omega, ?_⟩
          · have lk := okn.lay y hy
            have hml : m.length = Wn := by
              simp only [layL, List.mem_cons, List.not_mem_nil, or_false] at hm
              rcases hm with rfl | rfl | rfl | rfl | rfl
              · exact lk.q.1
              · exact lk.k.1
              · exact lk.v.1
              · exact lk.f.1
              · exact lk.s.1
            omega
          · intro HX e' s' l' o' off nx'
            exact ⟨rfl, q' (.ref x) HX (fun b ob h => off b ob (ne_of_none h nx) (EX b ob h)) ⟨x, dx, e', s', l', o', ev, rfl, nx'⟩⟩
        have hna9 := E9 _ _ hna8
        have h69 := E9 _ _ h68
        have hv9 := hv8.mono mono_ln (im_ex E9)
        have EB9 := (EB7.trans E8).trans E9
        obtain ⟨t1, t2, rfl, ht1, ht2⟩ : ∃ t1 t2, acc2 = [t1, t2] ∧ NetAt t.aNet t1 n1 H9 ∧ NetAt t.aNet t2 n2 H9 := by
          match acc2, hlen2, hall2 with
          | [t1, t2], _, h => exact ⟨t1, t2, rfl, h.2 0 _ _ rfl rfl, h.2 1 _ _ rfl rfl⟩
        obtain ⟨v1, v2, rfl, hv1, hv2⟩ : ∃ v1 v2, nvs = [v1, v2] ∧ LNetD v1 n1 H9 ∧ LNetD v2 n2 H9 := by
          match nvs, hv9.1, hv9 with
          | [v1, v2], _, h => exact ⟨v1, v2, rfl, h.2 0 _ _ rfl rfl, h.2 1 _ _ rfl rfl⟩
        clear hall2 hlen2 hv9 hv8 hv6 h68 hna8 E8 E9 hacc1
        -- prompt
        obtain ⟨z8, hz8⟩ := at_num hnums 8 (by decide) (by decide)
        obtain ⟨z9, hz9⟩ := at_num hnums 9 (by decide) (by decide)
        obtain ⟨c8', hc8, hc8'⟩ := modN z8 (k := 4) (by decide)
        obtain ⟨c9', hc9, hc9'⟩ := modN z9 (k := 3) (by decide)
        have hpz : (1 + z8 % 4 : Int) = ((1 + c8' : Nat) : Int) := by
          rw [Int.natCast_add, ← hc8']
          rfl
        obtain ⟨many, hmany, hmz⟩ : ∃ many : Nat, (1 ≤ many ∧ many ≤ 3) ∧ (1 + z9 % 3 : Int) = ((many : Nat) : Int) := ⟨1 + c9', by omega, by rw [Int.natCast_add, ← hc9']; rfl⟩
        have hmz1 : (1 + z9 % 3 + 1 : Int) = ((many + 1 : Nat) : Int) := by rw [hmz]; rfl
        refine ⟨_, rfl, na, _, _, _, rfl, rfl, sq_of hna9, hz8, Or.inl ⟨_, rfl, _, _, rfl, rfl, (by show (0 : Int) < _; decide), _, _, rfl, rfl, ((1 + c8' : Nat) : Int), (by show [V.int (1 + z8 % 4)] = _; rw [hpz]), rg_lo _, rg_hi (by omega), fun D3 hD3 => ?_⟩⟩
        rw [Int.toNat_natCast]
        refine lc_go (P := fun _ v _ => LetP L v) (walk_range (lo := 0) (n := 1 + c8')) (by omega) hD3 (fun _ _ => trivial) (fun _ _ _ _ _ h => h) (fun k y HB HC Q' hk ex yy q' => ?_) (fun acc3 HA EA hacc3 hlen3 hall3 => ?_)
        · obtain ⟨rfl, hy⟩ := yy
          have hy' : y = .int ((k : Nat) : Int) := hy.trans (by show V.int (0 + _) = _; rw [Int.zero_add])
          clear hy
          subst hy'
          obtain ⟨z1, hz1⟩ := at_num hnums (270 + (k : Int)) (by omega) (by omega)
          obtain ⟨c, hc1, hc2⟩ := modN z1 (k := L) (by omega)
          refine ⟨rfl, _, rfl, _, rfl, _, _, rfl, rfl, na, _, _, _, rfl, rfl, sq_of (ex _ _ hna9), hz1, Or.inl ⟨_, rfl, _, rfl, _, _, rfl, rfl, hLp, q' _ _ (Ex.refl _) ⟨c, hc1, ?_⟩⟩⟩
          show V.int (z1 % (L : Int)) = _
          rw [hc2]
        obtain ⟨pr, rfl, hprb⟩ := lets hall3
        have hprl : pr.length = 1 + c8' := by rw [List.length_map] at hlen3; exact hlen3
        have lo1 : LsOk L W1 n1 pr := ⟨ok1, hprb, by omega, fun z => by rw [z] at hprl; simp at hprl; omega⟩
        have lo2 : LsOk L W2 n2 pr := ⟨ok2, hprb, by omega, lo1.ne⟩
        have hnaA := EA _ _ hna9
        have hacc2A := EA _ _ hacc2
        have h6A := EA _ _ h69
        have iA := im_ex EA
        have ht1A := mono_net _ _ _ _ iA ht1
        have ht2A := mono_net _ _ _ _ iA ht2
        have hv1A := mono_ln _ _ _ _ iA hv1
        have EBA := EB9.trans EA
        clear ht1 ht2 hv1 hv2 iA hna9 hacc2 h69 EA hall3 hlen3 hz8 hpz hna7 hna E6 EB7 EB9
        -- many
        refine ⟨_, rfl, na, _, _, _, rfl, rfl, sq_of hnaA, hz9, Or.inl ⟨_, rfl, _, _, rfl, rfl, (by show (0 : Int) < _; decide), _, _, rfl, rfl, ?_⟩⟩
        -- rows
        refine ⟨_, rfl, D2, _, _, _, rfl, rfl, sq_of hacc2A, rfl, _, rfl, D2, _, _, _, rfl, rfl, sq_of hacc2A, rfl, _, rfl, D3, _, rfl, Or.inl ⟨sq_of hacc3, fun lp hlp => ?_⟩⟩
        have F1 := Ex.new (o := .tup (pr.map fun n : Nat => V.int (n : Int))) hlp
        refine ⟨_, rfl, t1, t2, .ref lp, n1, n2, L, W1, W2, many, pr, ?_, mono_net _ _ _ _ (im_ex F1) ht1A, mono_net _ _ _ _ (im_ex F1) ht2A, lo1, lo2, ⟨lp, _, rfl, upd_same, nats_allD pr⟩, by omega, by omega, ?_⟩
        · show [t1, t2, V.ref lp, V.int (1 + z9 % 3)] = _
          rw [hmz]
        rintro vr HB FB ⟨es, perm, ra, rvs, rfl, hra, hrv⟩
        have EAB := F1.trans FB
        have hprD : LstD NatD (.ref D3) pr HB := ⟨D3, _, rfl, EAB _ _ hacc3, nats_allD pr⟩
        have hnaB := EAB _ _ hnaA
        have hacc2B := EAB _ _ hacc2A
        have h6B := EAB _ _ h6A
        have ht1B := mono_net _ _ _ _ (im_ex EAB) ht1A
        have hv1B := mono_ln _ _ _ _ (im_ex EAB) hv1A
        have EBB := EBA.trans EAB
        clear F1 FB hnaA hacc2A h6A ht1A ht2A hv1A EBA EAB hacc3 hlp
        have wa1 : WA L (wW n1 pr) := wa_of lo1
        have wa2 : WA L (wW n2 pr) := wa_of lo2
        have WWW : WW L many (wW n1 pr) (wW n2 pr) := ww_of l1 l4 wa1 wa2
        have hel : es.length ≤ 340 := by rw [perm.length_eq]; exact ents_le WWW (by omega)
        have hS1 : S (fun _ => 1) es = 1 := by rw [S_perm perm]; exact ents_harm WWW (harm_one WWW)
        have hlo1 : ∀ i, Lo 1000 (S (fun _ => 1) (es.take i)) := part_lo WWW (by omega) (tail_one WWW) (harm_one WWW) Rat.le_refl perm (fun _ _ => by decide)
        have hesok : ∀ x ∈ es, EOk L many x := fun x hx => ents_ok WWW x (perm.subset hx)
        have heslo : ∀ x ∈ es, Lo 100 x.2 := fun x hx => (ents_lo WWW x (perm.subset hx)).more (by omega)
        have hespos : ∀ x ∈ es, 0 < x.2 := fun x hx => ents_pos WWW x (perm.subset hx)
        have hcnt : (es.filter fun x => decide (x.1.length = many + 1)).length = L ^ (many + 1) := by
          rw [(perm.filter _).length_eq]
          exact ents_len WWW
        -- whole, most
        refine ⟨sz_of (by simp), fun wp hwp => ?_⟩
        have G1 := Ex.new (o := .tup [V.int 0, V.int 1]) hwp
        have hw0 : QD (.ref wp) 0 (upd HB wp (.tup [V.int 0, V.int 1])) := q_zero upd_same
        have hraC := G1 _ _ hra
        have hrvC := hrv.mono mono_ent (im_ex G1)
        have hprC := lstd_ex mono_nat G1 hprD
        have hnaC := G1 _ _ hnaB
        have hacc2C := G1 _ _ hacc2B
        have h6C := G1 _ _ h6B
        have ht1C := mono_net _ _ _ _ (im_ex G1) ht1B
        have hv1C := mono_ln _ _ _ _ (im_ex G1) hv1B
        have EBC := EBB.trans G1
        generalize upd HB wp (.tup [V.int 0, V.int 1]) = HC at *
        clear G1 hra hrv hprD hnaB hacc2B h6B ht1B hv1B EBB hwp
        refine ⟨_, rfl, _, _, rfl, rfl, ((many + 1 : Nat) : Int), (by show [V.int (1 + z9 % 3 + 1)] = _; rw [hmz1]), rg_lo _, rg_hi (by omega), ?_⟩
        rw [Int.toNat_natCast]
        refine for_it (walk_range (lo := 0) (n := many + 1)) (fun k σ H' => ∃ (b5 : Option V) (m : Int), σ = [some (.ref a), some (.int (0 + ((i : Nat) : Int))), some (.ref na), some (.int (L : Int)), some (.ref nt), b5, d6, d7, d8, some (.ref D1), some (.ref D2), some (.ref D3), some (.int (1 + z9 % 3)), some (.ref ra), some (.ref wp), some (.int m), c16, c17, c18, c19, c20] ∧ H' = HC ∧ m = ((L ^ k : Nat) : Int))
          ⟨_, _, rfl, rfl, by simp⟩ (fun i σ H' _ _ => trivial) (fun k y σ HD HE hk p yy => ?_) (fun σ HD p => ?_)
        · obtain ⟨b5, m, rfl, rfl, hm⟩ := p
          obtain ⟨rfl, rfl⟩ := yy
          refine ⟨_, rfl, _, rfl, _, _, rfl, rfl, cmul' kL, _, _, rfl, rfl, ?_⟩
          rw [hm, Nat.pow_succ, Int.natCast_mul]
        obtain ⟨b5, m, rfl, rfl, hm⟩ := p
        -- the count
        refine ⟨_, rfl, ra, rfl, ⟨_, st_of hraC⟩, fun D4 hD4 => ?_⟩
        refine lc_flt (R := EntD t.aShare) (xs := es) (pr := fun x => decide (x.1.length = many + 1)) (f := id) (walk_tup (xs := rvs)) hrvC.1.symm (by rw [hrvC.1]; omega) hD4 (fun HB e => ex_t e (st_of hraC)) mono_ent (fun j y HE HF Qy Qn x hx ex yy qy qn => ?_) (fun acc4 HE EE hacc4 hall4 => ?_)
        · obtain ⟨rfl, hy⟩ := yy
          have hyd := mono_ent _ _ _ _ (im_ex ex) (hrvC.2 j y x hy hx)
          obtain ⟨ya, y1, y2, rfl, hya, hy1, hy2⟩ := id hyd
          obtain ⟨y1a, rfl, hy1a⟩ := txt_tup hy1
          refine ⟨rfl, _, rfl, ya, _, _, _, rfl, rfl, st_of hya, rfl, y1a, _, rfl, Or.inr (st_of hy1a), _, rfl, _, _, rfl, rfl, rfl, _, rfl, ?_⟩
          have edec : decide (V.int (((x.1.map fun n : Nat => V.int (n : Int)).length : Nat) : Int) = V.int (1 + z9 % 3 + 1)) = decide (x.1.length = many + 1) := by
            rw [hmz1, List.length_map]
            refine decide_eq_decide.mpr ⟨fun h => ?_, fun h => by rw [h]⟩
            injection h with h
            omega
          by_cases hl : x.1.length = many + 1
          · rw [edec, decide_eq_true hl]
            exact iteT ⟨_, rfl, qy (decide_eq_true hl) _ _ (Ex.refl _) hyd⟩
          · rw [edec, decide_eq_false hl]
            exact iteF (qn (decide_eq_false hl) _ (Ex.refl _))
        rw [List.map_id] at hall4
        refine ⟨D4, acc4, rfl, Or.inl (sq_of hacc4), _, rfl, rfl, _, rfl, ?_⟩
        have ecnt : V.int (((acc4.length : Nat)) : Int) = V.int m := by rw [hall4.1, hcnt, hm]
        rw [ecnt, decide_eq_true rfl]
        refine iteF ?_
        have hraE := EE _ _ hraC
        have hrvE := hrvC.mono mono_ent (im_ex EE)
        have hprE := lstd_ex mono_nat EE hprC
        have hnaE := EE _ _ hnaC
        have hacc2E := EE _ _ hacc2C
        have h6E := EE _ _ h6C
        have ht1E := mono_net _ _ _ _ (im_ex EE) ht1C
        have hv1E := mono_ln _ _ _ _ (im_ex EE) hv1C
        have hw0E := mono_q _ _ _ _ (im_ex EE) hw0
        have EBE := EBC.trans EE
        clear hall4 hacc4 hD4 ecnt EE hraC hrvC hprC hnaC hacc2C h6C ht1C hv1C hw0 EBC
        -- the sum
        refine ⟨_, rfl, ra, rfl, ⟨_, st_of hraE⟩, ?_⟩
        refine for_it (walk_tup (xs := rvs)) (fun k σ H' => ∃ (sv : V) (b16 : Option V), σ = [some (.ref a), some (.int (0 + ((i : Nat) : Int))), some (.ref na), some (.int (L : Int)), some (.ref nt), b5, d6, d7, d8, some (.ref D1), some (.ref D2), some (.ref D3), some (.int (1 + z9 % 3)), some (.ref ra), some sv, some (.int m), b16, c17, c18, c19, c20] ∧ Ex HE H' ∧ QD sv (S (fun _ => 1) (es.take k)) H')
          ⟨_, _, rfl, Ex.refl _, hw0E⟩ (fun i σ H' _ ⟨_, _, _, e, _⟩ => ex_t e (st_of hraE)) (fun k y σ HF HG hk p yy => ?_) (fun σ HF p => ?_)
        · obtain ⟨sv, b16, rfl, EF, hsv⟩ := p
          obtain ⟨rfl, hy⟩ := yy
          obtain ⟨x, hx, hxd⟩ := hrvE.get' hy
          obtain ⟨ya, y1, y2, rfl, hya, hy1, hy2⟩ := mono_ent _ _ _ _ (im_ex EF) hxd
          obtain ⟨y1a, rfl, hy1a⟩ := txt_tup hy1
          obtain ⟨sa, dx, rfl, hsa⟩ := id hy2
          have hxm := List.mem_of_getElem? hx
          have eo := hesok x hxm
          have hxp := hespos x hxm
          have hxl := heslo x hxm
          have h1 : (1 : Int) ≤ (((x.1.map fun n : Nat => V.int (n : Int)).length : Nat) : Int) := by rw [List.length_map]; have := eo.lo; omega
          have h2 : (((x.1.map fun n : Nat => V.int (n : Int)).length : Nat) : Int) ≤ 1 + z9 % 3 + 1 := by rw [hmz1, List.length_map]; have := eo.hi; omega
          refine ⟨_, rfl, ya, _, _, _, rfl, rfl, st_of hya, rfl, y1a, _, rfl, Or.inr (st_of hy1a), _, _, rfl, rfl, _, rfl, ?_⟩
          rw [decide_eq_true h1]
          refine iteT ⟨_, rfl, _, _, rfl, rfl, _, _, rfl, rfl, _, rfl, ?_⟩
          rw [decide_eq_true h2]
          refine iteF ?_
          refine ⟨_, rfl, ya, _, _, _, rfl, rfl, st_of hya, rfl, sa, _, dx, _, _, rfl, hsa, t.cl_Share, t.na_Share_over, sh_over _, _, _, rfl, rfl, _, rfl, ?_⟩
          rw [decide_eq_false (show ¬ (x.2.num ≤ 0) by have := num_pos.mpr hxp; omega)]
          refine iteF ?_
          refine ⟨_, rfl, ya, _, _, _, rfl, rfl, st_of hya, rfl, sa, _, dx, _, _, rfl, hsa, t.cl_Share, t.na_Share_under, sh_under _, _, _, rfl, rfl, _, rfl, ?_⟩
          rw [decide_eq_false (show ¬ (((x.2.den : Nat) : Int) ≤ 0) by have := den_pos x.2; omega)]
          refine iteF ?_
          refine ⟨_, rfl, _, rfl, ya, _, _, _, rfl, rfl, st_of hya, rfl, sa, _, dx, _, _, rfl, hsa, t.cl_Share, t.na_Share_over, sh_over _, ?_⟩
          refine ⟨_, rfl, ya, _, _, _, rfl, rfl, st_of hya, rfl, sa, _, dx, _, _, rfl, hsa, t.cl_Share, t.na_Share_under, sh_under _, sz_of (by simp), fun p6 hp6 => ?_⟩
          have F6 := Ex.new (o := .tup [V.int x.2.num, V.int ((x.2.den : Nat) : Int)]) hp6
          refine ⟨sv, .ref p6, _, x.2, rfl, mono_q _ _ _ _ (im_ex F6) hsv, ⟨p6, rfl, upd_same⟩, (hlo1 k).sz (by decide), hxl.sz (by decide), Lo.cc (hlo1 k) hxl (by decide), ?_⟩
          intro v8 H8' E8' h8
          refine ⟨v8, _, rfl, EF.trans (F6.trans E8'), ?_⟩
          rw [S_take hx, Rat.mul_one]
          exact h8
        obtain ⟨sv, b16, rfl, EF, hsv⟩ := p
        rw [List.take_of_length_le (by rw [hrvE.1]; exact Nat.le_refl _), hS1] at hsv
        obtain ⟨wa', rfl, hwa'⟩ := hsv
        refine ⟨_, rfl, sz_of (by simp), fun p7 hp7 => ?_⟩
        have F7 := Ex.new (o := .tup [V.int 1, V.int 1]) hp7
        refine ⟨dI [1, 1], dI [1, 1], dp_tup (ns := [1, 1]) (F7 _ _ hwa'), dp_tup (ns := [1, 1]) upd_same, shaped_ints _, shaped_ints _, _, rfl, ?_⟩
        rw [eqv_dI, decide_eq_true rfl]
        refine iteF ?_
        have EFG := EF.trans F7
        have hraG := EFG _ _ hraE
        have hrvG := hrvE.mono mono_ent (im_ex EFG)
        have hprG := lstd_ex mono_nat EFG hprE
        have hnaG := EFG _ _ hnaE
        have hacc2G := EFG _ _ hacc2E
        have h6G := EFG _ _ h6E
        have ht1G := mono_net _ _ _ _ (im_ex EFG) ht1E
        have hv1G := mono_ln _ _ _ _ (im_ex EFG) hv1E
        have EBG := EBE.trans EFG
        generalize upd HF p7 (.tup [V.int 1, V.int 1]) = HG at *
        clear EF F7 EFG hraE hrvE hprE hnaE hacc2E h6E ht1E hv1E EBE hwa' hp7
        -- kept
        intro dk hdk
        have G2 := Ex.new (o := .dT []) hdk
        have hkd : KeptD n1 L (upd HG dk (.dT [])) dk := ⟨[], ⟨[], upd_same, rfl, AllD.nil⟩, by simp, fun _ h => nomatch h⟩
        have hraH := G2 _ _ hraG
        have hrvH := hrvG.mono mono_ent (im_ex G2)
        have hprH := lstd_ex mono_nat G2 hprG
        have hnaH := G2 _ _ hnaG
        have hacc2H := G2 _ _ hacc2G
        have h6H := G2 _ _ h6G
        have ht1H := mono_net _ _ _ _ (im_ex G2) ht1G
        have hv1H := mono_ln _ _ _ _ (im_ex G2) hv1G
        have EBH := EBG.trans G2
        have hdkH : H dk = none := fresh_back EBG hdk
        generalize upd HG dk (.dT []) = HH at *
        clear G2 hraG hrvG hprG hnaG hacc2G h6G ht1G hv1G EBG hdk
        -- drawn
        refine ⟨_, rfl, _, _, rfl, rfl, ((many + 1 : Nat) : Int), (by show [V.int (1 + z9 % 3 + 1)] = _; rw [hmz1]), rg_lo _, rg_hi (by omega), fun D5 hD5 => ?_⟩
        rw [Int.toNat_natCast]
        refine lc_go (P := fun _ v _ => LetP L v) (walk_range (lo := 0) (n := many + 1)) (by omega) hD5 (fun _ _ => trivial) (fun _ _ _ _ _ h => h) (fun k y HI HJ Q' hk ex yy q' => ?_) (fun acc5 HI EI hacc5 hlen5 hall5 => ?_)
        · obtain ⟨rfl, hy⟩ := yy
          have hy' : y = .int ((k : Nat) : Int) := hy.trans (by show V.int (0 + _) = _; rw [Int.zero_add])
          clear hy
          subst hy'
          obtain ⟨z1, hz1⟩ := at_num hnums (280 + (k : Int)) (by omega) (by omega)
          obtain ⟨c, hc1, hc2⟩ := modN z1 (k := L) (by omega)
          refine ⟨rfl, _, rfl, _, rfl, _, _, rfl, rfl, na, _, _, _, rfl, rfl, sq_of (ex _ _ hnaH), hz1, Or.inl ⟨_, rfl, _, rfl, _, _, rfl, rfl, hLp, q' _ _ (Ex.refl _) ⟨c, hc1, ?_⟩⟩⟩
          show V.int (z1 % (L : Int)) = _
          rw [hc2]
        obtain ⟨dr, rfl, hdrb⟩ := lets hall5
        have hdrl : dr.length = many + 1 := by rw [List.length_map] at hlen5; exact hlen5
        refine ⟨D5, _, rfl, Or.inl ⟨sq_of hacc5, fun l5 hl5 => ?_⟩⟩
        have EJ := EI.trans (Ex.new (o := .tup (dr.map fun n : Nat => V.int (n : Int))) hl5)
        have hdr : TxtD (.ref l5) dr (upd HI l5 (.tup (dr.map fun n : Nat => V.int (n : Int)))) := ⟨l5, _, rfl, upd_same, nats_allD dr⟩
        generalize upd HI l5 (.tup (dr.map fun n : Nat => V.int (n : Int))) = HJ at *
        clear EI hacc5 hall5 hlen5 hl5 hD5
        refine ⟨_, rfl, _, rfl, _, _, rfl, rfl, _, rfl, L, many + 1, .ref l5, dr, ?_, l1, l4, by omega, hdr, fun tt htt => by rw [List.mem_singleton.mp htt]; exact ⟨hdrl, hdrb⟩, ?_⟩
        · show [V.int (L : Int), V.int (1 + z9 % 3 + 1), V.ref l5] = _
          rw [hmz1]
        rintro vt HK EK ⟨txs, ⟨ta, tvs, rfl, hta, htv⟩, htok, htl⟩
        have EJK := EJ.trans EK
        refine ⟨ta, rfl, ⟨_, sq_of hta⟩, ?_⟩
        have hkK := hkd.ex EJK
        obtain ⟨kvs0, hkv0⟩ := hkK.at
        have hraK := EJK _ _ hraH
        have hrvK := hrvH.mono mono_ent (im_ex EJK)
        have hprK := lstd_ex mono_nat EJK hprH
        have hacc2K := EJK _ _ hacc2H
        have h6K := EJK _ _ h6H
        have ht1K := mono_net _ _ _ _ (im_ex EJK) ht1H
        have hv1K := mono_ln _ _ _ _ (im_ex EJK) hv1H
        have EBK := EBH.trans EJK
        clear EJ EK EJK hraH hrvH hprH hnaH hacc2H h6H ht1H hv1H EBH hkd hdr
        have tane : ta ≠ dk := fun z => by subst z; rw [hkv0] at hta; cases hta
        refine for_it (walk_list (xs := tvs)) (fun k σ H' => ∃ (b19 b20 : Option V), σ = [some (.ref a), some (.int (0 + ((i : Nat) : Int))), some (.ref na), some (.int (L : Int)), some (.ref nt), b5, d6, d7, d8, some (.ref D1), some (.ref D2), some (.ref D3), some (.int (1 + z9 % 3)), some (.ref ra), some (.ref wa'), some (.int m), b16, some (.ref dk), some (.ref l5), b19, b20] ∧ Off dk HK H' ∧ KeptD n1 L H' dk)
          ⟨_, _, rfl, Off.refl _ _, hkK⟩ (fun k σ H' _ ⟨_, _, _, o, _⟩ => sq_of (o _ _ tane hta)) (fun k y σ HL HM hk p yy => ?_) (fun σ HL p => ?_)
        · obtain ⟨b19, b20, rfl, oL, kL'⟩ := p
          obtain ⟨rfl, hy⟩ := yy
          obtain ⟨tx, htx, htd⟩ := htv.get' hy
          obtain ⟨htxl, htxb⟩ := htok tx (List.mem_of_getElem? htx)
          have iL := off_im hkv0 oL
          have htdL := mono_txt _ _ _ _ iL htd
          have h6L := off_lst hkv0 oL h6K
          have hprL := off_lstD mono_nat hkv0 oL hprK
          have hacc2L := off_lst hkv0 oL hacc2K
          refine ⟨_, rfl, nt, _, _, _, rfl, rfl, sq_of h6L, rfl, _, rfl, _, rfl, _, rfl, v1, .ref D3, y, dk, n1, L, W1, pr, tx, rfl, mono_ln _ _ _ _ iL hv1K, lo1, by omega, kL', hprL, htdL, htxb, ?_⟩
          intro vd HN oN kN hvd
          have oN' := oL.trans oN
          have iN := off_im hkv0 oN'
          have htdN := mono_txt _ _ _ _ iN htd
          have h6N := off_lst hkv0 oN' h6K
          have hprN := off_lstD mono_nat hkv0 oN' hprK
          have hacc2N := off_lst hkv0 oN' hacc2K
          refine ⟨_, rfl, D2, _, _, _, rfl, rfl, sq_of hacc2N, rfl, _, rfl, _, rfl, t1, .ref D3, y, n1, L, W1, pr, tx, rfl, mono_net _ _ _ _ iN ht1K, lo1, hprN, by omega, htdN, htxb, by omega, ?_⟩
          intro vs HO EO hvs
          refine ⟨_, rfl, vs, vd, _, rfl, hvs, mono_q _ _ _ _ (im_ex EO) hvd, fun HP EP => ?_⟩
          refine ⟨_, rfl, iteF ?_⟩
          have oP := oN'.trans (Off.of (EO.trans EP))
          have iP := off_im hkv0 oP
          have kP := kN.ex (EO.trans EP)
          have h6P := off_lst hkv0 oP h6K
          have hprP := off_lstD mono_nat hkv0 oP hprK
          have hHm := harm_phi (L := L) (many := many) (w := wW n1 pr) (t := tx) htxl
          have hple : phi (wW n1 pr) tx [] ≤ 1 := by
            rw [phi_nil]
            exact (ts_lo l1 l4 wa1 tx [] (fun _ h => nomatch h) htxb).le
          have hSp : S (phi (wW n1 pr) tx) es = ts (wW n1 pr) [] tx := by
            rw [S_perm perm, ents_harm WWW hHm, phi_nil]
          refine ⟨_, rfl, nt, _, _, _, rfl, rfl, sq_of h6P, rfl, _, rfl, _, rfl, _, rfl, _, rfl, _, rfl, v1, .ref D3, .ref ra, y, vd, dk, n1, L, W1, pr, tx, es, _, rfl, mono_ln _ _ _ _ iP hv1K, lo1, by omega, kP, hprP, ⟨ra, rvs, rfl, iP _ _ rfl hraK, hrvK.mono mono_ent iP⟩, mono_txt _ _ _ _ iP htd, htxb, mono_q _ _ _ _ (im_ex (EO.trans EP)) hvd, fun e he => ⟨by have := (hesok e he).hi; omega, heslo e he⟩, part_lo WWW (by omega) (tail_phi WWW htxl htxb) hHm hple perm (fun x _ => phi_nn l1 l4 wa1 htxb x.1), hSp, ?_⟩
          intro HR oR kR
          exact ⟨_, rfl, iteF ⟨_, _, rfl, oP.trans oR, kR⟩⟩
        obtain ⟨b19, b20, rfl, oL, kL'⟩ := p
        refine ⟨_, _, _, _, _, _, _, _, _, _, _, _, _, _, _, _, _, _, _, _, rfl, fun b ob h => oL b ob (fun z => by subst z; rw [hdkH] at h; cases h) (EBK b ob h)⟩
    · obtain ⟨c1, c2, c3, c4, c5, c6, c7, c8, c9, c10, c11, c12, c13, c14, c15, c16, c17, c18, c19, c20, rfl, E1⟩ := p
      exact q _
end
end SA
set_option maxRecDepth 100000
namespace SAHead
open PySem PySem.W PyProof.Rows
set_option maxHeartbeats 0
open_top head for PySem.Challenge.rw_servedalone_k61_whole_rounds_write_as_th
end SAHead
set_option maxRecDepth 100000
set_option maxHeartbeats 4000000
/-! What the top has written, the head, the end. Printed by gen_fin.py. -/
namespace SA
open PySem PySem.Spec PyProof.Rows L2 Evl SAZ
theorem dun_add : PySem.dunder (Operator.info .Add).2 = "__add__" := by decide +kernel
theorem dun_sub : PySem.dunder (Operator.info .Sub).2 = "__sub__" := by decide +kernel
theorem dun_mul : PySem.dunder (Operator.info .Mult).2 = "__mul__" := by decide +kernel

theorem t_mk {P : Program} {w : World} {K : PySem.W.Frag} {h : Heap} {mg : Str → Option Value} {fa CShare CNet CRound CP : Addr} {odP : Option Addr} {its : Array Value} {nP : Nat} {slP : Array (Option Value)} (X : K.In h) (G : h.Ns mainGlobals mg) (hfa : mg "law" = some (.ref fa))
    {f0 : Addr} {oc0 kV0 dc0 pm0 cd0 ct0 : Value} {od0 an0 : Option Addr} {sl0 : Array (Option Value)}
    {f1 : Addr} {oc1 kV1 dc1 pm1 cd1 ct1 : Value} {od1 an1 : Option Addr} {sl1 : Array (Option Value)}
    {f2 : Addr} {oc2 kV2 dc2 pm2 cd2 ct2 : Value} {od2 an2 : Option Addr} {sl2 : Array (Option Value)}
    {f3 : Addr} {oc3 kV3 dc3 pm3 cd3 ct3 : Value} {od3 an3 : Option Addr} {sl3 : Array (Option Value)}
    {f4 : Addr} {oc4 kV4 dc4 pm4 cd4 ct4 : Value} {od4 an4 : Option Addr} {sl4 : Array (Option Value)}
    {f5 : Addr} {oc5 kV5 dc5 pm5 cd5 ct5 : Value} {od5 an5 : Option Addr} {sl5 : Array (Option Value)}
    {f6 : Addr} {oc6 kV6 dc6 pm6 cd6 ct6 : Value} {od6 an6 : Option Addr} {sl6 : Array (Option Value)}
    {f7 : Addr} {oc7 kV7 dc7 pm7 cd7 ct7 : Value} {od7 an7 : Option Addr} {sl7 : Array (Option Value)}
    {f8 : Addr} {oc8 kV8 dc8 pm8 cd8 ct8 : Value} {od8 an8 : Option Addr} {sl8 : Array (Option Value)}
    {f9 : Addr} {oc9 kV9 dc9 pm9 cd9 ct9 : Value} {od9 an9 : Option Addr} {sl9 : Array (Option Value)}
    {f10 : Addr} {oc10 kV10 dc10 pm10 cd10 ct10 : Value} {od10 an10 : Option Addr} {sl10 : Array (Option Value)}
    {f11 : Addr} {oc11 kV11 dc11 pm11 cd11 ct11 : Value} {od11 an11 : Option Addr} {sl11 : Array (Option Value)}
    {f12 : Addr} {oc12 kV12 dc12 pm12 cd12 ct12 : Value} {od12 an12 : Option Addr} {sl12 : Array (Option Value)}
    {f13 : Addr} {oc13 kV13 dc13 pm13 cd13 ct13 : Value} {od13 an13 : Option Addr} {sl13 : Array (Option Value)}
    {f14 : Addr} {oc14 kV14 dc14 pm14 cd14 ct14 : Value} {od14 an14 : Option Addr} {sl14 : Array (Option Value)}
    {f15 : Addr} {oc15 kV15 dc15 pm15 cd15 ct15 : Value} {od15 an15 : Option Addr} {sl15 : Array (Option Value)}
    {f16 : Addr} {oc16 kV16 dc16 pm16 cd16 ct16 : Value} {od16 an16 : Option Addr} {sl16 : Array (Option Value)}
    {f17 : Addr} {oc17 kV17 dc17 pm17 cd17 ct17 : Value} {od17 an17 : Option Addr} {sl17 : Array (Option Value)}
    {f18 : Addr} {oc18 kV18 dc18 pm18 cd18 ct18 : Value} {od18 an18 : Option Addr} {sl18 : Array (Option Value)}
    {f19 : Addr} {oc19 kV19 dc19 pm19 cd19 ct19 : Value} {od19 an19 : Option Addr} {sl19 : Array (Option Value)}
    {f20 : Addr} {oc20 kV20 dc20 pm20 cd20 ct20 : Value} {od20 an20 : Option Addr} {sl20 : Array (Option Value)}
    {f21 : Addr} {oc21 kV21 dc21 pm21 cd21 ct21 : Value} {od21 an21 : Option Addr} {sl21 : Array (Option Value)}
    {f22 : Addr} {oc22 kV22 dc22 pm22 cd22 ct22 : Value} {od22 an22 : Option Addr} {sl22 : Array (Option Value)}
    {f23 : Addr} {oc23 kV23 dc23 pm23 cd23 ct23 : Value} {od23 an23 : Option Addr} {sl23 : Array (Option Value)}
    {f24 : Addr} {oc24 kV24 dc24 pm24 cd24 ct24 : Value} {od24 an24 : Option Addr} {sl24 : Array (Option Value)}
    {f25 : Addr} {oc25 kV25 dc25 pm25 cd25 ct25 : Value} {od25 an25 : Option Addr} {sl25 : Array (Option Value)}
    {f26 : Addr} {oc26 kV26 dc26 pm26 cd26 ct26 : Value} {od26 an26 : Option Addr} {sl26 : Array (Option Value)}
    {f27 : Addr} {oc27 kV27 dc27 pm27 cd27 ct27 : Value} {od27 an27 : Option Addr} {sl27 : Array (Option Value)}
    {f28 : Addr} {oc28 kV28 dc28 pm28 cd28 ct28 : Value} {od28 an28 : Option Addr} {sl28 : Array (Option Value)}
    {f29 : Addr} {oc29 kV29 dc29 pm29 cd29 ct29 : Value} {od29 an29 : Option Addr} {sl29 : Array (Option Value)}
    {f30 : Addr} {oc30 kV30 dc30 pm30 cd30 ct30 : Value} {od30 an30 : Option Addr} {sl30 : Array (Option Value)}
    {f31 : Addr} {oc31 kV31 dc31 pm31 cd31 ct31 : Value} {od31 an31 : Option Addr} {sl31 : Array (Option Value)}
    {f32 : Addr} {oc32 kV32 dc32 pm32 cd32 ct32 : Value} {od32 an32 : Option Addr} {sl32 : Array (Option Value)}
    {f33 : Addr} {oc33 kV33 dc33 pm33 cd33 ct33 : Value} {od33 an33 : Option Addr} {sl33 : Array (Option Value)}
    {f34 : Addr} {oc34 kV34 dc34 pm34 cd34 ct34 : Value} {od34 an34 : Option Addr} {sl34 : Array (Option Value)}
    {f35 : Addr} {oc35 kV35 dc35 pm35 cd35 ct35 : Value} {od35 an35 : Option Addr} {sl35 : Array (Option Value)}
    {f36 : Addr} {oc36 kV36 dc36 pm36 cd36 ct36 : Value} {od36 an36 : Option Addr} {sl36 : Array (Option Value)}
    {f37 : Addr} {oc37 kV37 dc37 pm37 cd37 ct37 : Value} {od37 an37 : Option Addr} {sl37 : Array (Option Value)}
    {f38 : Addr} {oc38 kV38 dc38 pm38 cd38 ct38 : Value} {od38 an38 : Option Addr} {sl38 : Array (Option Value)}
    {f39 : Addr} {oc39 kV39 dc39 pm39 cd39 ct39 : Value} {od39 an39 : Option Addr} {sl39 : Array (Option Value)}
    {f40 : Addr} {oc40 kV40 dc40 pm40 cd40 ct40 : Value} {od40 an40 : Option Addr} {sl40 : Array (Option Value)}
    {f41 : Addr} {oc41 kV41 dc41 pm41 cd41 ct41 : Value} {od41 an41 : Option Addr} {sl41 : Array (Option Value)}
    {f42 : Addr} {oc42 kV42 dc42 pm42 cd42 ct42 : Value} {od42 an42 : Option Addr} {sl42 : Array (Option Value)}
    {f43 : Addr} {oc43 kV43 dc43 pm43 cd43 ct43 : Value} {od43 an43 : Option Addr} {sl43 : Array (Option Value)}
    {f44 : Addr} {oc44 kV44 dc44 pm44 cd44 ct44 : Value} {od44 an44 : Option Addr} {sl44 : Array (Option Value)}
    (aShare : PySem.W.nsIn K mainGlobals "Share" = some (some (.ref CShare)))
    (aNet : PySem.W.nsIn K mainGlobals "Net" = some (some (.ref CNet)))
    (aRound : PySem.W.nsIn K mainGlobals "Round" = some (some (.ref CRound)))
    (a0 : PySem.W.nsIn K mainGlobals "rows_of" = some (some (.ref f0)))
    (l0 : K.lookup f0 = some ⟨oc0, od0, .func (PySem.W.fnOf "rows_of" "rows_of" (defArgs st_rows_of) (defBody st_rows_of) (defScope st_rows_of) .none kV0 dc0 pm0 an0 cd0 ct0), sl0⟩)
    (c0 : PySem.W.codeIn K cd0 "rows_of" = true)
    (k0 : PySem.W.keepIn K (.ref f0) = true)
    (a1 : PySem.W.nsIn K mainGlobals "weights_behind" = some (some (.ref f1)))
    (l1 : K.lookup f1 = some ⟨oc1, od1, .func (PySem.W.fnOf "weights_behind" "weights_behind" (defArgs st_weights_behind) (defBody st_weights_behind) (defScope st_weights_behind) .none kV1 dc1 pm1 an1 cd1 ct1), sl1⟩)
    (c1 : PySem.W.codeIn K cd1 "weights_behind" = true)
    (k1 : PySem.W.keepIn K (.ref f1) = true)
    (a2 : PySem.W.nsIn K mainGlobals "greatest_divisor" = some (some (.ref f2)))
    (l2 : K.lookup f2 = some ⟨oc2, od2, .func (PySem.W.fnOf "greatest_divisor" "greatest_divisor" (defArgs st_greatest_divisor) (defBody st_greatest_divisor) (defScope st_greatest_divisor) .none kV2 dc2 pm2 an2 cd2 ct2), sl2⟩)
    (c2 : PySem.W.codeIn K cd2 "greatest_divisor" = true)
    (k2 : PySem.W.keepIn K (.ref f2) = true)
    (a3 : PySem.W.nsIn K mainGlobals "lesser_of" = some (some (.ref f3)))
    (l3 : K.lookup f3 = some ⟨oc3, od3, .func (PySem.W.fnOf "lesser_of" "lesser_of" (defArgs st_lesser_of) (defBody st_lesser_of) (defScope st_lesser_of) .none kV3 dc3 pm3 an3 cd3 ct3), sl3⟩)
    (c3 : PySem.W.codeIn K cd3 "lesser_of" = true)
    (k3 : PySem.W.keepIn K (.ref f3) = true)
    (a4 : PySem.W.nsIn K mainGlobals "next_shares" = some (some (.ref f4)))
    (l4 : K.lookup f4 = some ⟨oc4, od4, .func (PySem.W.fnOf "next_shares" "next_shares" (defArgs st_next_shares) (defBody st_next_shares) (defScope st_next_shares) .none kV4 dc4 pm4 an4 cd4 ct4), sl4⟩)
    (c4 : PySem.W.codeIn K cd4 "next_shares" = true)
    (k4 : PySem.W.keepIn K (.ref f4) = true)
    (a5 : PySem.W.nsIn K mainGlobals "text_share" = some (some (.ref f5)))
    (l5 : K.lookup f5 = some ⟨oc5, od5, .func (PySem.W.fnOf "text_share" "text_share" (defArgs st_text_share) (defBody st_text_share) (defScope st_text_share) .none kV5 dc5 pm5 an5 cd5 ct5), sl5⟩)
    (c5 : PySem.W.codeIn K cd5 "text_share" = true)
    (k5 : PySem.W.keepIn K (.ref f5) = true)
    (a6 : PySem.W.nsIn K mainGlobals "shares_above" = some (some (.ref f6)))
    (l6 : K.lookup f6 = some ⟨oc6, od6, .func (PySem.W.fnOf "shares_above" "shares_above" (defArgs st_shares_above) (defBody st_shares_above) (defScope st_shares_above) .none kV6 dc6 pm6 an6 cd6 ct6), sl6⟩)
    (c6 : PySem.W.codeIn K cd6 "shares_above" = true)
    (k6 : PySem.W.keepIn K (.ref f6) = true)
    (a7 : PySem.W.nsIn K mainGlobals "round_shares" = some (some (.ref f7)))
    (l7 : K.lookup f7 = some ⟨oc7, od7, .func (PySem.W.fnOf "round_shares" "round_shares" (defArgs st_round_shares) (defBody st_round_shares) (defScope st_round_shares) .none kV7 dc7 pm7 an7 cd7 ct7), sl7⟩)
    (c7 : PySem.W.codeIn K cd7 "round_shares" = true)
    (k7 : PySem.W.keepIn K (.ref f7) = true)
    (a8 : PySem.W.nsIn K mainGlobals "is_between" = some (some (.ref f8)))
    (l8 : K.lookup f8 = some ⟨oc8, od8, .func (PySem.W.fnOf "is_between" "is_between" (defArgs st_is_between) (defBody st_is_between) (defScope st_is_between) .none kV8 dc8 pm8 an8 cd8 ct8), sl8⟩)
    (c8 : PySem.W.codeIn K cd8 "is_between" = true)
    (k8 : PySem.W.keepIn K (.ref f8) = true)
    (a9 : PySem.W.nsIn K mainGlobals "vector_of" = some (some (.ref f9)))
    (l9 : K.lookup f9 = some ⟨oc9, od9, .func (PySem.W.fnOf "vector_of" "vector_of" (defArgs st_vector_of) (defBody st_vector_of) (defScope st_vector_of) .none kV9 dc9 pm9 an9 cd9 ct9), sl9⟩)
    (c9 : PySem.W.codeIn K cd9 "vector_of" = true)
    (k9 : PySem.W.keepIn K (.ref f9) = true)
    (a10 : PySem.W.nsIn K mainGlobals "matrix_of" = some (some (.ref f10)))
    (l10 : K.lookup f10 = some ⟨oc10, od10, .func (PySem.W.fnOf "matrix_of" "matrix_of" (defArgs st_matrix_of) (defBody st_matrix_of) (defScope st_matrix_of) .none kV10 dc10 pm10 an10 cd10 ct10), sl10⟩)
    (c10 : PySem.W.codeIn K cd10 "matrix_of" = true)
    (k10 : PySem.W.keepIn K (.ref f10) = true)
    (a11 : PySem.W.nsIn K mainGlobals "product_sum" = some (some (.ref f11)))
    (l11 : K.lookup f11 = some ⟨oc11, od11, .func (PySem.W.fnOf "product_sum" "product_sum" (defArgs st_product_sum) (defBody st_product_sum) (defScope st_product_sum) .none kV11 dc11 pm11 an11 cd11 ct11), sl11⟩)
    (c11 : PySem.W.codeIn K cd11 "product_sum" = true)
    (k11 : PySem.W.keepIn K (.ref f11) = true)
    (a12 : PySem.W.nsIn K mainGlobals "_law_numbers" = some (some (.ref f12)))
    (l12 : K.lookup f12 = some ⟨oc12, od12, .func (PySem.W.fnOf "_law_numbers" "_law_numbers" (defArgs st_law_numbers) (defBody st_law_numbers) (defScope st_law_numbers) .none kV12 dc12 pm12 an12 cd12 ct12), sl12⟩)
    (c12 : PySem.W.codeIn K cd12 "_law_numbers" = true)
    (k12 : PySem.W.keepIn K (.ref f12) = true)
    (a13 : PySem.W.nsIn K mainGlobals "_law_same" = some (some (.ref f13)))
    (l13 : K.lookup f13 = some ⟨oc13, od13, .func (PySem.W.fnOf "_law_same" "_law_same" (defArgs st_law_same) (defBody st_law_same) (defScope st_law_same) .none kV13 dc13 pm13 an13 cd13 ct13), sl13⟩)
    (c13 : PySem.W.codeIn K cd13 "_law_same" = true)
    (k13 : PySem.W.keepIn K (.ref f13) = true)
    (a14 : PySem.W.nsIn K mainGlobals "_law_vector" = some (some (.ref f14)))
    (l14 : K.lookup f14 = some ⟨oc14, od14, .func (PySem.W.fnOf "_law_vector" "_law_vector" (defArgs st_law_vector) (defBody st_law_vector) (defScope st_law_vector) .none kV14 dc14 pm14 an14 cd14 ct14), sl14⟩)
    (c14 : PySem.W.codeIn K cd14 "_law_vector" = true)
    (k14 : PySem.W.keepIn K (.ref f14) = true)
    (a15 : PySem.W.nsIn K mainGlobals "_law_net" = some (some (.ref f15)))
    (l15 : K.lookup f15 = some ⟨oc15, od15, .func (PySem.W.fnOf "_law_net" "_law_net" (defArgs st_law_net) (defBody st_law_net) (defScope st_law_net) .none kV15 dc15 pm15 an15 cd15 ct15), sl15⟩)
    (c15 : PySem.W.codeIn K cd15 "_law_net" = true)
    (k15 : PySem.W.keepIn K (.ref f15) = true)
    (a16 : PySem.W.nsIn K mainGlobals "_law_dot" = some (some (.ref f16)))
    (l16 : K.lookup f16 = some ⟨oc16, od16, .func (PySem.W.fnOf "_law_dot" "_law_dot" (defArgs st_law_dot) (defBody st_law_dot) (defScope st_law_dot) .none kV16 dc16 pm16 an16 cd16 ct16), sl16⟩)
    (c16 : PySem.W.codeIn K cd16 "_law_dot" = true)
    (k16 : PySem.W.keepIn K (.ref f16) = true)
    (a17 : PySem.W.nsIn K mainGlobals "_law_times" = some (some (.ref f17)))
    (l17 : K.lookup f17 = some ⟨oc17, od17, .func (PySem.W.fnOf "_law_times" "_law_times" (defArgs st_law_times) (defBody st_law_times) (defScope st_law_times) .none kV17 dc17 pm17 an17 cd17 ct17), sl17⟩)
    (c17 : PySem.W.codeIn K cd17 "_law_times" = true)
    (k17 : PySem.W.keepIn K (.ref f17) = true)
    (a18 : PySem.W.nsIn K mainGlobals "_law_row" = some (some (.ref f18)))
    (l18 : K.lookup f18 = some ⟨oc18, od18, .func (PySem.W.fnOf "_law_row" "_law_row" (defArgs st_law_row) (defBody st_law_row) (defScope st_law_row) .none kV18 dc18 pm18 an18 cd18 ct18), sl18⟩)
    (c18 : PySem.W.codeIn K cd18 "_law_row" = true)
    (k18 : PySem.W.keepIn K (.ref f18) = true)
    (a19 : PySem.W.nsIn K mainGlobals "_law_common" = some (some (.ref f19)))
    (l19 : K.lookup f19 = some ⟨oc19, od19, .func (PySem.W.fnOf "_law_common" "_law_common" (defArgs st_law_common) (defBody st_law_common) (defScope st_law_common) .none kV19 dc19 pm19 an19 cd19 ct19), sl19⟩)
    (c19 : PySem.W.codeIn K cd19 "_law_common" = true)
    (k19 : PySem.W.keepIn K (.ref f19) = true)
    (a20 : PySem.W.nsIn K mainGlobals "_law_least" = some (some (.ref f20)))
    (l20 : K.lookup f20 = some ⟨oc20, od20, .func (PySem.W.fnOf "_law_least" "_law_least" (defArgs st_law_least) (defBody st_law_least) (defScope st_law_least) .none kV20 dc20 pm20 an20 cd20 ct20), sl20⟩)
    (c20 : PySem.W.codeIn K cd20 "_law_least" = true)
    (k20 : PySem.W.keepIn K (.ref f20) = true)
    (a21 : PySem.W.nsIn K mainGlobals "_law_plus" = some (some (.ref f21)))
    (l21 : K.lookup f21 = some ⟨oc21, od21, .func (PySem.W.fnOf "_law_plus" "_law_plus" (defArgs st_law_plus) (defBody st_law_plus) (defScope st_law_plus) .none kV21 dc21 pm21 an21 cd21 ct21), sl21⟩)
    (c21 : PySem.W.codeIn K cd21 "_law_plus" = true)
    (k21 : PySem.W.keepIn K (.ref f21) = true)
    (a22 : PySem.W.nsIn K mainGlobals "_law_by" = some (some (.ref f22)))
    (l22 : K.lookup f22 = some ⟨oc22, od22, .func (PySem.W.fnOf "_law_by" "_law_by" (defArgs st_law_by) (defBody st_law_by) (defScope st_law_by) .none kV22 dc22 pm22 an22 cd22 ct22), sl22⟩)
    (c22 : PySem.W.codeIn K cd22 "_law_by" = true)
    (k22 : PySem.W.keepIn K (.ref f22) = true)
    (a23 : PySem.W.nsIn K mainGlobals "_law_is_share" = some (some (.ref f23)))
    (l23 : K.lookup f23 = some ⟨oc23, od23, .func (PySem.W.fnOf "_law_is_share" "_law_is_share" (defArgs st_law_is_share) (defBody st_law_is_share) (defScope st_law_is_share) .none kV23 dc23 pm23 an23 cd23 ct23), sl23⟩)
    (c23 : PySem.W.codeIn K cd23 "_law_is_share" = true)
    (k23 : PySem.W.keepIn K (.ref f23) = true)
    (a24 : PySem.W.nsIn K mainGlobals "_law_shares" = some (some (.ref f24)))
    (l24 : K.lookup f24 = some ⟨oc24, od24, .func (PySem.W.fnOf "_law_shares" "_law_shares" (defArgs st_law_shares) (defBody st_law_shares) (defScope st_law_shares) .none kV24 dc24 pm24 an24 cd24 ct24), sl24⟩)
    (c24 : PySem.W.codeIn K cd24 "_law_shares" = true)
    (k24 : PySem.W.keepIn K (.ref f24) = true)
    (a25 : PySem.W.nsIn K mainGlobals "_law_text_share" = some (some (.ref f25)))
    (l25 : K.lookup f25 = some ⟨oc25, od25, .func (PySem.W.fnOf "_law_text_share" "_law_text_share" (defArgs st_law_text_share) (defBody st_law_text_share) (defScope st_law_text_share) .none kV25 dc25 pm25 an25 cd25 ct25), sl25⟩)
    (c25 : PySem.W.codeIn K cd25 "_law_text_share" = true)
    (k25 : PySem.W.keepIn K (.ref f25) = true)
    (a26 : PySem.W.nsIn K mainGlobals "_law_texts" = some (some (.ref f26)))
    (l26 : K.lookup f26 = some ⟨oc26, od26, .func (PySem.W.fnOf "_law_texts" "_law_texts" (defArgs st_law_texts) (defBody st_law_texts) (defScope st_law_texts) .none kV26 dc26 pm26 an26 cd26 ct26), sl26⟩)
    (c26 : PySem.W.codeIn K cd26 "_law_texts" = true)
    (k26 : PySem.W.keepIn K (.ref f26) = true)
    (a27 : PySem.W.nsIn K mainGlobals "_law_sums_up" = some (some (.ref f27)))
    (l27 : K.lookup f27 = some ⟨oc27, od27, .func (PySem.W.fnOf "_law_sums_up" "_law_sums_up" (defArgs st_law_sums_up) (defBody st_law_sums_up) (defScope st_law_sums_up) .none kV27 dc27 pm27 an27 cd27 ct27), sl27⟩)
    (c27 : PySem.W.codeIn K cd27 "_law_sums_up" = true)
    (k27 : PySem.W.keepIn K (.ref f27) = true)
    (a28 : PySem.W.nsIn K mainGlobals "law" = some (some (.ref f28)))
    (l28 : K.lookup f28 = some ⟨oc28, od28, .func (PySem.W.fnOf "law" "law" (defArgs st_law) (defBody st_law) (defScope st_law) .none kV28 dc28 pm28 an28 cd28 ct28), sl28⟩)
    (c28 : PySem.W.codeIn K cd28 "law" = true)
    (k28 : PySem.W.keepIn K (.ref f28) = true)
    (a29 : PySem.W.findIn K (.ref CShare) "__init__" = some (some (.ref f29)))
    (i29 : PySem.W.isFn K (.ref f29) = true)
    (l29 : K.lookup f29 = some ⟨oc29, od29, .func (PySem.W.fnOf "__init__" "Share.__init__" (defArgs st_Share_init) (defBody st_Share_init) (defScope st_Share_init) .none kV29 dc29 pm29 an29 cd29 ct29), sl29⟩)
    (c29 : PySem.W.codeIn K cd29 "Share.__init__" = true)
    (k29 : PySem.W.keepIn K (.ref f29) = true)
    (a30 : PySem.W.findIn K (.ref CShare) "__add__" = some (some (.ref f30)))
    (i30 : PySem.W.isFn K (.ref f30) = true)
    (l30 : K.lookup f30 = some ⟨oc30, od30, .func (PySem.W.fnOf "__add__" "Share.__add__" (defArgs st_Share_add) (defBody st_Share_add) (defScope st_Share_add) .none kV30 dc30 pm30 an30 cd30 ct30), sl30⟩)
    (c30 : PySem.W.codeIn K cd30 "Share.__add__" = true)
    (k30 : PySem.W.keepIn K (.ref f30) = true)
    (a31 : PySem.W.findIn K (.ref CShare) "__sub__" = some (some (.ref f31)))
    (i31 : PySem.W.isFn K (.ref f31) = true)
    (l31 : K.lookup f31 = some ⟨oc31, od31, .func (PySem.W.fnOf "__sub__" "Share.__sub__" (defArgs st_Share_sub) (defBody st_Share_sub) (defScope st_Share_sub) .none kV31 dc31 pm31 an31 cd31 ct31), sl31⟩)
    (c31 : PySem.W.codeIn K cd31 "Share.__sub__" = true)
    (k31 : PySem.W.keepIn K (.ref f31) = true)
    (a32 : PySem.W.findIn K (.ref CShare) "__mul__" = some (some (.ref f32)))
    (i32 : PySem.W.isFn K (.ref f32) = true)
    (l32 : K.lookup f32 = some ⟨oc32, od32, .func (PySem.W.fnOf "__mul__" "Share.__mul__" (defArgs st_Share_mul) (defBody st_Share_mul) (defScope st_Share_mul) .none kV32 dc32 pm32 an32 cd32 ct32), sl32⟩)
    (c32 : PySem.W.codeIn K cd32 "Share.__mul__" = true)
    (k32 : PySem.W.keepIn K (.ref f32) = true)
    (a33 : PySem.W.findIn K (.ref CShare) "is_below" = some (some (.ref f33)))
    (i33 : PySem.W.isFn K (.ref f33) = true)
    (l33 : K.lookup f33 = some ⟨oc33, od33, .func (PySem.W.fnOf "is_below" "Share.is_below" (defArgs st_Share_is_below) (defBody st_Share_is_below) (defScope st_Share_is_below) .none kV33 dc33 pm33 an33 cd33 ct33), sl33⟩)
    (c33 : PySem.W.codeIn K cd33 "Share.is_below" = true)
    (k33 : PySem.W.keepIn K (.ref f33) = true)
    (a34 : PySem.W.findIn K (.ref CRound) "__init__" = some (some (.ref f34)))
    (i34 : PySem.W.isFn K (.ref f34) = true)
    (l34 : K.lookup f34 = some ⟨oc34, od34, .func (PySem.W.fnOf "__init__" "Round.__init__" (defArgs st_Round_init) (defBody st_Round_init) (defScope st_Round_init) .none kV34 dc34 pm34 an34 cd34 ct34), sl34⟩)
    (c34 : PySem.W.codeIn K cd34 "Round.__init__" = true)
    (k34 : PySem.W.keepIn K (.ref f34) = true)
    (a35 : PySem.W.findIn K (.ref CRound) "gather" = some (some (.ref f35)))
    (i35 : PySem.W.isFn K (.ref f35) = true)
    (l35 : K.lookup f35 = some ⟨oc35, od35, .func (PySem.W.fnOf "gather" "Round.gather" (defArgs st_Round_gather) (defBody st_Round_gather) (defScope st_Round_gather) .none kV35 dc35 pm35 an35 cd35 ct35), sl35⟩)
    (c35 : PySem.W.codeIn K cd35 "Round.gather" = true)
    (k35 : PySem.W.keepIn K (.ref f35) = true)
    (a36 : PySem.W.findIn K (.ref CRound) "end_by" = some (some (.ref f36)))
    (i36 : PySem.W.isFn K (.ref f36) = true)
    (l36 : K.lookup f36 = some ⟨oc36, od36, .func (PySem.W.fnOf "end_by" "Round.end_by" (defArgs st_Round_end_by) (defBody st_Round_end_by) (defScope st_Round_end_by) .none kV36 dc36 pm36 an36 cd36 ct36), sl36⟩)
    (c36 : PySem.W.codeIn K cd36 "Round.end_by" = true)
    (k36 : PySem.W.keepIn K (.ref f36) = true)
    (a37 : PySem.W.findIn K (.ref CRound) "go_on" = some (some (.ref f37)))
    (i37 : PySem.W.isFn K (.ref f37) = true)
    (l37 : K.lookup f37 = some ⟨oc37, od37, .func (PySem.W.fnOf "go_on" "Round.go_on" (defArgs st_Round_go_on) (defBody st_Round_go_on) (defScope st_Round_go_on) .none kV37 dc37 pm37 an37 cd37 ct37), sl37⟩)
    (c37 : PySem.W.codeIn K cd37 "Round.go_on" = true)
    (k37 : PySem.W.keepIn K (.ref f37) = true)
    (a38 : PySem.W.findIn K (.ref CNet) "__init__" = some (some (.ref f38)))
    (i38 : PySem.W.isFn K (.ref f38) = true)
    (l38 : K.lookup f38 = some ⟨oc38, od38, .func (PySem.W.fnOf "__init__" "Net.__init__" (defArgs st_Net_init) (defBody st_Net_init) (defScope st_Net_init) .none kV38 dc38 pm38 an38 cd38 ct38), sl38⟩)
    (c38 : PySem.W.codeIn K cd38 "Net.__init__" = true)
    (k38 : PySem.W.keepIn K (.ref f38) = true)
    (a39 : PySem.W.findIn K (.ref CNet) "is_letter" = some (some (.ref f39)))
    (i39 : PySem.W.isFn K (.ref f39) = true)
    (l39 : K.lookup f39 = some ⟨oc39, od39, .func (PySem.W.fnOf "is_letter" "Net.is_letter" (defArgs st_Net_is_letter) (defBody st_Net_is_letter) (defScope st_Net_is_letter) .none kV39 dc39 pm39 an39 cd39 ct39), sl39⟩)
    (c39 : PySem.W.codeIn K cd39 "Net.is_letter" = true)
    (k39 : PySem.W.keepIn K (.ref f39) = true)
    (a40 : PySem.W.findIn K (.ref CNet) "rest" = some (some (.ref f40)))
    (i40 : PySem.W.isFn K (.ref f40) = true)
    (l40 : K.lookup f40 = some ⟨oc40, od40, .func (PySem.W.fnOf "rest" "Net.rest" (defArgs st_Net_rest) (defBody st_Net_rest) (defScope st_Net_rest) .none kV40 dc40 pm40 an40 cd40 ct40), sl40⟩)
    (c40 : PySem.W.codeIn K cd40 "Net.rest" = true)
    (k40 : PySem.W.keepIn K (.ref f40) = true)
    (a41 : PySem.W.findIn K (.ref CNet) "times" = some (some (.ref f41)))
    (i41 : PySem.W.isFn K (.ref f41) = true)
    (l41 : K.lookup f41 = some ⟨oc41, od41, .func (PySem.W.fnOf "times" "Net.times" (defArgs st_Net_times) (defBody st_Net_times) (defScope st_Net_times) .none kV41 dc41 pm41 an41 cd41 ct41), sl41⟩)
    (c41 : PySem.W.codeIn K cd41 "Net.times" = true)
    (k41 : PySem.W.keepIn K (.ref f41) = true)
    (a42 : PySem.W.findIn K (.ref CNet) "plus" = some (some (.ref f42)))
    (i42 : PySem.W.isFn K (.ref f42) = true)
    (l42 : K.lookup f42 = some ⟨oc42, od42, .func (PySem.W.fnOf "plus" "Net.plus" (defArgs st_Net_plus) (defBody st_Net_plus) (defScope st_Net_plus) .none kV42 dc42 pm42 an42 cd42 ct42), sl42⟩)
    (c42 : PySem.W.codeIn K cd42 "Net.plus" = true)
    (k42 : PySem.W.keepIn K (.ref f42) = true)
    (a43 : PySem.W.findIn K (.ref CNet) "looked_at" = some (some (.ref f43)))
    (i43 : PySem.W.isFn K (.ref f43) = true)
    (l43 : K.lookup f43 = some ⟨oc43, od43, .func (PySem.W.fnOf "looked_at" "Net.looked_at" (defArgs st_Net_looked_at) (defBody st_Net_looked_at) (defScope st_Net_looked_at) .none kV43 dc43 pm43 an43 cd43 ct43), sl43⟩)
    (c43 : PySem.W.codeIn K cd43 "Net.looked_at" = true)
    (k43 : PySem.W.keepIn K (.ref f43) = true)
    (a44 : PySem.W.findIn K (.ref CNet) "row" = some (some (.ref f44)))
    (i44 : PySem.W.isFn K (.ref f44) = true)
    (l44 : K.lookup f44 = some ⟨oc44, od44, .func (PySem.W.fnOf "row" "Net.row" (defArgs st_Net_row) (defBody st_Net_row) (defScope st_Net_row) .none kV44 dc44 pm44 an44 cd44 ct44), sl44⟩)
    (c44 : PySem.W.codeIn K cd44 "Net.row" = true)
    (k44 : PySem.W.keepIn K (.ref f44) = true)
    (pgShare : PySem.W.plainGet K CShare Str.empty = true)
    (hdShare : PySem.W.hasDictIn K CShare = true)
    (poShare : PySem.W.plainOver K CShare = true)
    (saShare : PySem.W.findIn K (.ref CShare) "__setattr__" = some (some (.builtin "object.__setattr__")))
    (mkShare : PySem.W.makesIn K CShare = true)
    (kcShare : PySem.W.keepIn K (.ref CShare) = true)
    (nShare_over : PySem.W.findIn K (.ref CShare) "over" = some none)
    (nShare_under : PySem.W.findIn K (.ref CShare) "under" = some none)
    (pgNet : PySem.W.plainGet K CNet Str.empty = true)
    (hdNet : PySem.W.hasDictIn K CNet = true)
    (poNet : PySem.W.plainOver K CNet = true)
    (saNet : PySem.W.findIn K (.ref CNet) "__setattr__" = some (some (.builtin "object.__setattr__")))
    (mkNet : PySem.W.makesIn K CNet = true)
    (kcNet : PySem.W.keepIn K (.ref CNet) = true)
    (nNet_prime : PySem.W.findIn K (.ref CNet) "prime" = some none)
    (nNet_embed : PySem.W.findIn K (.ref CNet) "embed" = some none)
    (nNet_shift : PySem.W.findIn K (.ref CNet) "shift" = some none)
    (nNet_layers : PySem.W.findIn K (.ref CNet) "layers" = some none)
    (nNet_out : PySem.W.findIn K (.ref CNet) "out" = some none)
    (nNet_end : PySem.W.findIn K (.ref CNet) "end" = some none)
    (pgRound : PySem.W.plainGet K CRound Str.empty = true)
    (hdRound : PySem.W.hasDictIn K CRound = true)
    (poRound : PySem.W.plainOver K CRound = true)
    (saRound : PySem.W.findIn K (.ref CRound) "__setattr__" = some (some (.builtin "object.__setattr__")))
    (mkRound : PySem.W.makesIn K CRound = true)
    (kcRound : PySem.W.keepIn K (.ref CRound) = true)
    (nRound_net : PySem.W.findIn K (.ref CRound) "net" = some none)
    (nRound_lesser : PySem.W.findIn K (.ref CRound) "lesser" = some none)
    (nRound_prompt : PySem.W.findIn K (.ref CRound) "prompt" = some none)
    (nRound_chances : PySem.W.findIn K (.ref CRound) "chances" = some none)
    (sf : PySem.W.selfFirst K CShare = true)
    (aP : PySem.W.nsIn K mainGlobals "PRIMES" = some (some (.ref CP)))
    (lP : K.lookup CP = some ⟨.type "tuple", odP, .seq its nP, slP⟩)
    (ztuple : PySem.W.nsIn K mainGlobals "tuple" = some none)
    (zlen : PySem.W.nsIn K mainGlobals "len" = some none)
    (zint : PySem.W.nsIn K mainGlobals "int" = some none)
    (zabs : PySem.W.nsIn K mainGlobals "abs" = some none)
    (zmin : PySem.W.nsIn K mainGlobals "min" = some none)
    (zsum : PySem.W.nsIn K mainGlobals "sum" = some none)
    (zlist : PySem.W.nsIn K mainGlobals "list" = some none)
    (zsorted : PySem.W.nsIn K mainGlobals "sorted" = some none)
    (zisinstance : PySem.W.nsIn K mainGlobals "isinstance" = some none)
    (zrange : PySem.W.nsIn K mainGlobals "range" = some none)
    (zzip : PySem.W.nsIn K mainGlobals "zip" = some none)
    (zenumerate : PySem.W.nsIn K mainGlobals "enumerate" = some none)
    (zstr : PySem.W.nsIn K mainGlobals "str" = some none)
    (zbool : PySem.W.nsIn K mainGlobals "bool" = some none)
    (vP : Vals (primes.map V.int) its.toList) :
    ∃ fd : FuncData, (∀ (s : Shared) (v : Value), BindsTo s fd ⟨[v], []⟩ [("_law_script", v)]) ∧ ∀ base : Heap, K.In base → base.Ns mainGlobals mg → FnOk P w K mg base CX0 10 fa fd ["_law_script"] (spLaw K) := by
  have e := hfa.symm.trans (PySem.W.mg_of X G a28)
  cases e
  have F0 := fun_mk (st := st_rows_of) l0 c0 k0
  have b0 := F0.binds (ps := p_rows_of) fun _ _ _ _ _ _ us hl => match us, hl with | [_, _], _ => rfl
  have F1 := fun_mk (st := st_weights_behind) l1 c1 k1
  have b1 := F1.binds (ps := p_weights_behind) fun _ _ _ _ _ _ us hl => match us, hl with | [_, _], _ => rfl
  have F2 := fun_mk (st := st_greatest_divisor) l2 c2 k2
  have b2 := F2.binds (ps := p_greatest_divisor) fun _ _ _ _ _ _ us hl => match us, hl with | [_, _], _ => rfl
  have F3 := fun_mk (st := st_lesser_of) l3 c3 k3
  have b3 := F3.binds (ps := p_lesser_of) fun _ _ _ _ _ _ us hl => match us, hl with | [_, _], _ => rfl
  have F4 := fun_mk (st := st_next_shares) l4 c4 k4
  have b4 := F4.binds (ps := p_next_shares) fun _ _ _ _ _ _ us hl => match us, hl with | [_, _], _ => rfl
  have F5 := fun_mk (st := st_text_share) l5 c5 k5
  have b5 := F5.binds (ps := p_text_share) fun _ _ _ _ _ _ us hl => match us, hl with | [_, _, _], _ => rfl
  have F6 := fun_mk (st := st_shares_above) l6 c6 k6
  have b6 := F6.binds (ps := p_shares_above) fun _ _ _ _ _ _ us hl => match us, hl with | [_, _], _ => rfl
  have F7 := fun_mk (st := st_round_shares) l7 c7 k7
  have b7 := F7.binds (ps := p_round_shares) fun _ _ _ _ _ _ us hl => match us, hl with | [_, _, _, _], _ => rfl
  have F8 := fun_mk (st := st_is_between) l8 c8 k8
  have b8 := F8.binds (ps := p_is_between) fun _ _ _ _ _ _ us hl => match us, hl with | [_, _, _], _ => rfl
  have F9 := fun_mk (st := st_vector_of) l9 c9 k9
  have b9 := F9.binds (ps := p_vector_of) fun _ _ _ _ _ _ us hl => match us, hl with | [_], _ => rfl
  have F10 := fun_mk (st := st_matrix_of) l10 c10 k10
  have b10 := F10.binds (ps := p_matrix_of) fun _ _ _ _ _ _ us hl => match us, hl with | [_], _ => rfl
  have F11 := fun_mk (st := st_product_sum) l11 c11 k11
  have b11 := F11.binds (ps := p_product_sum) fun _ _ _ _ _ _ us hl => match us, hl with | [_, _], _ => rfl
  have F12 := fun_mk (st := st_law_numbers) l12 c12 k12
  have b12 := F12.binds (ps := p_law_numbers) fun _ _ _ _ _ _ us hl => match us, hl with | [_, _, _], _ => rfl
  have F13 := fun_mk (st := st_law_same) l13 c13 k13
  have b13 := F13.binds (ps := p_law_same) fun _ _ _ _ _ _ us hl => match us, hl with | [_, _], _ => rfl
  have F14 := fun_mk (st := st_law_vector) l14 c14 k14
  have b14 := F14.binds (ps := p_law_vector) fun _ _ _ _ _ _ us hl => match us, hl with | [_, _, _, _], _ => rfl
  have F15 := fun_mk (st := st_law_net) l15 c15 k15
  have b15 := F15.binds (ps := p_law_net) fun _ _ _ _ _ _ us hl => match us, hl with | [_, _, _, _, _], _ => rfl
  have F16 := fun_mk (st := st_law_dot) l16 c16 k16
  have b16 := F16.binds (ps := p_law_dot) fun _ _ _ _ _ _ us hl => match us, hl with | [_, _, _], _ => rfl
  have F17 := fun_mk (st := st_law_times) l17 c17 k17
  have b17 := F17.binds (ps := p_law_times) fun _ _ _ _ _ _ us hl => match us, hl with | [_, _, _], _ => rfl
  have F18 := fun_mk (st := st_law_row) l18 c18 k18
  have b18 := F18.binds (ps := p_law_row) fun _ _ _ _ _ _ us hl => match us, hl with | [_, _, _], _ => rfl
  have F19 := fun_mk (st := st_law_common) l19 c19 k19
  have b19 := F19.binds (ps := p_law_common) fun _ _ _ _ _ _ us hl => match us, hl with | [_, _], _ => rfl
  have F20 := fun_mk (st := st_law_least) l20 c20 k20
  have b20 := F20.binds (ps := p_law_least) fun _ _ _ _ _ _ us hl => match us, hl with | [_, _], _ => rfl
  have F21 := fun_mk (st := st_law_plus) l21 c21 k21
  have b21 := F21.binds (ps := p_law_plus) fun _ _ _ _ _ _ us hl => match us, hl with | [_, _], _ => rfl
  have F22 := fun_mk (st := st_law_by) l22 c22 k22
  have b22 := F22.binds (ps := p_law_by) fun _ _ _ _ _ _ us hl => match us, hl with | [_, _], _ => rfl
  have F23 := fun_mk (st := st_law_is_share) l23 c23 k23
  have b23 := F23.binds (ps := p_law_is_share) fun _ _ _ _ _ _ us hl => match us, hl with | [_, _], _ => rfl
  have F24 := fun_mk (st := st_law_shares) l24 c24 k24
  have b24 := F24.binds (ps := p_law_shares) fun _ _ _ _ _ _ us hl => match us, hl with | [_, _, _], _ => rfl
  have F25 := fun_mk (st := st_law_text_share) l25 c25 k25
  have b25 := F25.binds (ps := p_law_text_share) fun _ _ _ _ _ _ us hl => match us, hl with | [_, _, _, _], _ => rfl
  have F26 := fun_mk (st := st_law_texts) l26 c26 k26
  have b26 := F26.binds (ps := p_law_texts) fun _ _ _ _ _ _ us hl => match us, hl with | [_, _, _], _ => rfl
  have F27 := fun_mk (st := st_law_sums_up) l27 c27 k27
  have b27 := F27.binds (ps := p_law_sums_up) fun _ _ _ _ _ _ us hl => match us, hl with | [_, _, _, _, _, _], _ => rfl
  have F28 := fun_mk (st := st_law) l28 c28 k28
  have b28 := F28.binds (ps := p_law) fun _ _ _ _ _ _ us hl => match us, hl with | [_], _ => rfl
  have F29 := fun_mk (st := st_Share_init) l29 c29 k29
  have b29 := F29.binds (ps := p_Share_init) fun _ _ _ _ _ _ us hl => match us, hl with | [_, _, _], _ => rfl
  have F30 := fun_mk (st := st_Share_add) l30 c30 k30
  have b30 := F30.binds (ps := p_Share_add) fun _ _ _ _ _ _ us hl => match us, hl with | [_, _], _ => rfl
  have F31 := fun_mk (st := st_Share_sub) l31 c31 k31
  have b31 := F31.binds (ps := p_Share_sub) fun _ _ _ _ _ _ us hl => match us, hl with | [_, _], _ => rfl
  have F32 := fun_mk (st := st_Share_mul) l32 c32 k32
  have b32 := F32.binds (ps := p_Share_mul) fun _ _ _ _ _ _ us hl => match us, hl with | [_, _], _ => rfl
  have F33 := fun_mk (st := st_Share_is_below) l33 c33 k33
  have b33 := F33.binds (ps := p_Share_is_below) fun _ _ _ _ _ _ us hl => match us, hl with | [_, _], _ => rfl
  have F34 := fun_mk (st := st_Round_init) l34 c34 k34
  have b34 := F34.binds (ps := p_Round_init) fun _ _ _ _ _ _ us hl => match us, hl with | [_, _, _, _], _ => rfl
  have F35 := fun_mk (st := st_Round_gather) l35 c35 k35
  have b35 := F35.binds (ps := p_Round_gather) fun _ _ _ _ _ _ us hl => match us, hl with | [_, _, _], _ => rfl
  have F36 := fun_mk (st := st_Round_end_by) l36 c36 k36
  have b36 := F36.binds (ps := p_Round_end_by) fun _ _ _ _ _ _ us hl => match us, hl with | [_, _, _, _], _ => rfl
  have F37 := fun_mk (st := st_Round_go_on) l37 c37 k37
  have b37 := F37.binds (ps := p_Round_go_on) fun _ _ _ _ _ _ us hl => match us, hl with | [_, _, _], _ => rfl
  have F38 := fun_mk (st := st_Net_init) l38 c38 k38
  have b38 := F38.binds (ps := p_Net_init) fun _ _ _ _ _ _ us hl => match us, hl with | [_, _, _, _, _, _, _], _ => rfl
  have F39 := fun_mk (st := st_Net_is_letter) l39 c39 k39
  have b39 := F39.binds (ps := p_Net_is_letter) fun _ _ _ _ _ _ us hl => match us, hl with | [_, _], _ => rfl
  have F40 := fun_mk (st := st_Net_rest) l40 c40 k40
  have b40 := F40.binds (ps := p_Net_rest) fun _ _ _ _ _ _ us hl => match us, hl with | [_, _], _ => rfl
  have F41 := fun_mk (st := st_Net_times) l41 c41 k41
  have b41 := F41.binds (ps := p_Net_times) fun _ _ _ _ _ _ us hl => match us, hl with | [_, _, _], _ => rfl
  have F42 := fun_mk (st := st_Net_plus) l42 c42 k42
  have b42 := F42.binds (ps := p_Net_plus) fun _ _ _ _ _ _ us hl => match us, hl with | [_, _, _], _ => rfl
  have F43 := fun_mk (st := st_Net_looked_at) l43 c43 k43
  have b43 := F43.binds (ps := p_Net_looked_at) fun _ _ _ _ _ _ us hl => match us, hl with | [_, _, _], _ => rfl
  have F44 := fun_mk (st := st_Net_row) l44 c44 k44
  have b44 := F44.binds (ps := p_Net_row) fun _ _ _ _ _ _ us hl => match us, hl with | [_, _, _], _ => rfl
  have hz : its.size ≤ sizeLine := by
    have e := vP.length
    have e2 : its.size = its.toList.length := by simp
    rw [e2, ← e]
    exact sz_of (by decide)
  let t : T K mg := {
    aShare := CShare
    aNet := CNet
    aRound := CRound
    aPrimes := CP
    rows_of := ⟨_, _, F0, PySem.W.mg_of X G a0, b0⟩
    weights_behind := ⟨_, _, F1, PySem.W.mg_of X G a1, b1⟩
    greatest_divisor := ⟨_, _, F2, PySem.W.mg_of X G a2, b2⟩
    lesser_of := ⟨_, _, F3, PySem.W.mg_of X G a3, b3⟩
    next_shares := ⟨_, _, F4, PySem.W.mg_of X G a4, b4⟩
    text_share := ⟨_, _, F5, PySem.W.mg_of X G a5, b5⟩
    shares_above := ⟨_, _, F6, PySem.W.mg_of X G a6, b6⟩
    round_shares := ⟨_, _, F7, PySem.W.mg_of X G a7, b7⟩
    is_between := ⟨_, _, F8, PySem.W.mg_of X G a8, b8⟩
    vector_of := ⟨_, _, F9, PySem.W.mg_of X G a9, b9⟩
    matrix_of := ⟨_, _, F10, PySem.W.mg_of X G a10, b10⟩
    product_sum := ⟨_, _, F11, PySem.W.mg_of X G a11, b11⟩
    law_numbers := ⟨_, _, F12, PySem.W.mg_of X G a12, b12⟩
    law_same := ⟨_, _, F13, PySem.W.mg_of X G a13, b13⟩
    law_vector := ⟨_, _, F14, PySem.W.mg_of X G a14, b14⟩
    law_net := ⟨_, _, F15, PySem.W.mg_of X G a15, b15⟩
    law_dot := ⟨_, _, F16, PySem.W.mg_of X G a16, b16⟩
    law_times := ⟨_, _, F17, PySem.W.mg_of X G a17, b17⟩
    law_row := ⟨_, _, F18, PySem.W.mg_of X G a18, b18⟩
    law_common := ⟨_, _, F19, PySem.W.mg_of X G a19, b19⟩
    law_least := ⟨_, _, F20, PySem.W.mg_of X G a20, b20⟩
    law_plus := ⟨_, _, F21, PySem.W.mg_of X G a21, b21⟩
    law_by := ⟨_, _, F22, PySem.W.mg_of X G a22, b22⟩
    law_is_share := ⟨_, _, F23, PySem.W.mg_of X G a23, b23⟩
    law_shares := ⟨_, _, F24, PySem.W.mg_of X G a24, b24⟩
    law_text_share := ⟨_, _, F25, PySem.W.mg_of X G a25, b25⟩
    law_texts := ⟨_, _, F26, PySem.W.mg_of X G a26, b26⟩
    law_sums_up := ⟨_, _, F27, PySem.W.mg_of X G a27, b27⟩
    law := ⟨_, _, F28, hfa, b28⟩
    Share_init := ⟨f29, _, F29, ⟨a29, i29, k29⟩, b29⟩
    Share_add := ⟨f30, _, F30, ⟨a30, i30, k30⟩, b30⟩
    Share_sub := ⟨f31, _, F31, ⟨a31, i31, k31⟩, b31⟩
    Share_mul := ⟨f32, _, F32, ⟨a32, i32, k32⟩, b32⟩
    Share_is_below := ⟨f33, _, F33, ⟨a33, i33, k33⟩, b33⟩
    Round_init := ⟨f34, _, F34, ⟨a34, i34, k34⟩, b34⟩
    Round_gather := ⟨f35, _, F35, ⟨a35, i35, k35⟩, b35⟩
    Round_end_by := ⟨f36, _, F36, ⟨a36, i36, k36⟩, b36⟩
    Round_go_on := ⟨f37, _, F37, ⟨a37, i37, k37⟩, b37⟩
    Net_init := ⟨f38, _, F38, ⟨a38, i38, k38⟩, b38⟩
    Net_is_letter := ⟨f39, _, F39, ⟨a39, i39, k39⟩, b39⟩
    Net_rest := ⟨f40, _, F40, ⟨a40, i40, k40⟩, b40⟩
    Net_times := ⟨f41, _, F41, ⟨a41, i41, k41⟩, b41⟩
    Net_plus := ⟨f42, _, F42, ⟨a42, i42, k42⟩, b42⟩
    Net_looked_at := ⟨f43, _, F43, ⟨a43, i43, k43⟩, b43⟩
    Net_row := ⟨f44, _, F44, ⟨a44, i44, k44⟩, b44⟩
    cl_Share := ⟨pgShare, hdShare, poShare, saShare⟩
    M_Share := ⟨mkShare, a29, i29, kcShare⟩
    mg_Share := PySem.W.mg_of X G aShare
    cl_Net := ⟨pgNet, hdNet, poNet, saNet⟩
    M_Net := ⟨mkNet, a38, i38, kcNet⟩
    mg_Net := PySem.W.mg_of X G aNet
    cl_Round := ⟨pgRound, hdRound, poRound, saRound⟩
    M_Round := ⟨mkRound, a34, i34, kcRound⟩
    mg_Round := PySem.W.mg_of X G aRound
    na_Share_over := nShare_over
    na_Share_under := nShare_under
    na_Net_prime := nNet_prime
    na_Net_embed := nNet_embed
    na_Net_shift := nNet_shift
    na_Net_layers := nNet_layers
    na_Net_out := nNet_out
    na_Net_end := nNet_end
    na_Round_net := nRound_net
    na_Round_lesser := nRound_lesser
    na_Round_prompt := nRound_prompt
    na_Round_chances := nRound_chances
    sf_Share := sf
    o_add := by rw [dun_add]; exact a30
    i_add := i30
    o_sub := by rw [dun_sub]; exact a31
    i_sub := i31
    o_mul := by rw [dun_mul]; exact a32
    i_mul := i32
    mg_PRIMES := PySem.W.mg_of X G aP
    sq_PRIMES := fun H => Or.inr ⟨_, its, nP, lP, rfl, rfl, hz, vP⟩
    z_tuple := PySem.W.mg_none_of X G ztuple
    z_len := PySem.W.mg_none_of X G zlen
    z_int := PySem.W.mg_none_of X G zint
    z_abs := PySem.W.mg_none_of X G zabs
    z_min := PySem.W.mg_none_of X G zmin
    z_sum := PySem.W.mg_none_of X G zsum
    z_list := PySem.W.mg_none_of X G zlist
    z_sorted := PySem.W.mg_none_of X G zsorted
    z_isinstance := PySem.W.mg_none_of X G zisinstance
    z_range := PySem.W.mg_none_of X G zrange
    z_zip := PySem.W.mg_none_of X G zzip
    z_enumerate := PySem.W.mg_none_of X G zenumerate
    z_str := PySem.W.mg_none_of X G zstr
    z_bool := PySem.W.mg_none_of X G zbool
  }
  exact ⟨t.law.d, fun s v => .of_eq rfl, fun base _ _ => ok_law t⟩
end SA

open PySem PySem.W PyProof.Rows in
set_option maxRecDepth 100000 in
set_option maxHeartbeats 0 in
theorem PySem.Challenge.cw_servedalone_k61_whole_rounds_write_as_th_holds : PySem.Challenge.rw_servedalone_k61_whole_rounds_write_as_th.Holds := by
  apply SAHead.head
  k_fill
  refine L2.walk_of (l := PySem.Challenge.rw_servedalone_k61_whole_rounds_write_as_th) (n := 63) (k := 10) (x := "_law_script") (CX := fun _ => L2.CX0) (sp := fun w => SA.spLaw (SAHead.head.heap_39 w.params)) rfl (by decide) rfl ⟨rfl, by decide, by decide⟩ (fun w h Y => PySem.W.kIn_of Y) ?F (fun _ _ a ns hl _ hS => ⟨a, ns, rfl, hS, hl, fun _ => rfl⟩) (fun _ _ _ _ _ h => h)
  case F =>
    intro w mg fa h KX G hmg
    refine' SA.t_mk KX G hmg ?aShare ?aNet ?aRound ?a0 ?l0 ?c0 ?k0 ?a1 ?l1 ?c1 ?k1 ?a2 ?l2 ?c2 ?k2 ?a3 ?l3 ?c3 ?k3 ?a4 ?l4 ?c4 ?k4 ?a5 ?l5 ?c5 ?k5 ?a6 ?l6 ?c6 ?k6 ?a7 ?l7 ?c7 ?k7 ?a8 ?l8 ?c8 ?k8 ?a9 ?l9 ?c9 ?k9 ?a10 ?l10 ?c10 ?k10 ?a11 ?l11 ?c11 ?k11 ?a12 ?l12 ?c12 ?k12 ?a13 ?l13 ?c13 ?k13 ?a14 ?l14 ?c14 ?k14 ?a15 ?l15 ?c15 ?k15 ?a16 ?l16 ?c16 ?k16 ?a17 ?l17 ?c17 ?k17 ?a18 ?l18 ?c18 ?k18 ?a19 ?l19 ?c19 ?k19 ?a20 ?l20 ?c20 ?k20 ?a21 ?l21 ?c21 ?k21 ?a22 ?l22 ?c22 ?k22 ?a23 ?l23 ?c23 ?k23 ?a24 ?l24 ?c24 ?k24 ?a25 ?l25 ?c25 ?k25 ?a26 ?l26 ?c26 ?k26 ?a27 ?l27 ?c27 ?k27 ?a28 ?l28 ?c28 ?k28 ?a29 ?i29 ?l29 ?c29 ?k29 ?a30 ?i30 ?l30 ?c30 ?k30 ?a31 ?i31 ?l31 ?c31 ?k31 ?a32 ?i32 ?l32 ?c32 ?k32 ?a33 ?i33 ?l33 ?c33 ?k33 ?a34 ?i34 ?l34 ?c34 ?k34 ?a35 ?i35 ?l35 ?c35 ?k35 ?a36 ?i36 ?l36 ?c36 ?k36 ?a37 ?i37 ?l37 ?c37 ?k37 ?a38 ?i38 ?l38 ?c38 ?k38 ?a39 ?i39 ?l39 ?c39 ?k39 ?a40 ?i40 ?l40 ?c40 ?k40 ?a41 ?i41 ?l41 ?c41 ?k41 ?a42 ?i42 ?l42 ?c42 ?k42 ?a43 ?i43 ?l43 ?c43 ?k43 ?a44 ?i44 ?l44 ?c44 ?k44 ?pgShare ?hdShare ?poShare ?saShare ?mkShare ?kcShare ?nShare_over ?nShare_under ?pgNet ?hdNet ?poNet ?saNet ?mkNet ?kcNet ?nNet_prime ?nNet_embed ?nNet_shift ?nNet_layers ?nNet_out ?nNet_end ?pgRound ?hdRound ?poRound ?saRound ?mkRound ?kcRound ?nRound_net ?nRound_lesser ?nRound_prompt ?nRound_chances ?sf ?aP ?lP ?ztuple ?zlen ?zint ?zabs ?zmin ?zsum ?zlist ?zsorted ?zisinstance ?zrange ?zzip ?zenumerate ?zstr ?zbool ?vP
    (case aShare => k_is)
    (case aNet => k_is)
    (case aRound => k_is)
    (case a0 => k_is)
    (case l0 => k_is)
    (case c0 => k_is)
    (case k0 => k_is)
    (case a1 => k_is)
    (case l1 => k_is)
    (case c1 => k_is)
    (case k1 => k_is)
    (case a2 => k_is)
    (case l2 => k_is)
    (case c2 => k_is)
    (case k2 => k_is)
    (case a3 => k_is)
    (case l3 => k_is)
    (case c3 => k_is)
    (case k3 => k_is)
    (case a4 => k_is)
    (case l4 => k_is)
    (case c4 => k_is)
    (case k4 => k_is)
    (case a5 => k_is)
    (case l5 => k_is)
    (case c5 => k_is)
    (case k5 => k_is)
    (case a6 => k_is)
    (case l6 => k_is)
    (case c6 => k_is)
    (case k6 => k_is)
    (case a7 => k_is)
    (case l7 => k_is)
    (case c7 => k_is)
    (case k7 => k_is)
    (case a8 => k_is)
    (case l8 => k_is)
    (case c8 => k_is)
    (case k8 => k_is)
    (case a9 => k_is)
    (case l9 => k_is)
    (case c9 => k_is)
    (case k9 => k_is)
    (case a10 => k_is)
    (case l10 => k_is)
    (case c10 => k_is)
    (case k10 => k_is)
    (case a11 => k_is)
    (case l11 => k_is)
    (case c11 => k_is)
    (case k11 => k_is)
    (case a12 => k_is)
    (case l12 => k_is)
    (case c12 => k_is)
    (case k12 => k_is)
    (case a13 => k_is)
    (case l13 => k_is)
    (case c13 => k_is)
    (case k13 => k_is)
    (case a14 => k_is)
    (case l14 => k_is)
    (case c14 => k_is)
    (case k14 => k_is)
    (case a15 => k_is)
    (case l15 => k_is)
    (case c15 => k_is)
    (case k15 => k_is)
    (case a16 => k_is)
    (case l16 => k_is)
    (case c16 => k_is)
    (case k16 => k_is)
    (case a17 => k_is)
    (case l17 => k_is)
    (case c17 => k_is)
    (case k17 => k_is)
    (case a18 => k_is)
    (case l18 => k_is)
    (case c18 => k_is)
    (case k18 => k_is)
    (case a19 => k_is)
    (case l19 => k_is)
    (case c19 => k_is)
    (case k19 => k_is)
    (case a20 => k_is)
    (case l20 => k_is)
    (case c20 => k_is)
    (case k20 => k_is)
    (case a21 => k_is)
    (case l21 => k_is)
    (case c21 => k_is)
    (case k21 => k_is)
    (case a22 => k_is)
    (case l22 => k_is)
    (case c22 => k_is)
    (case k22 => k_is)
    (case a23 => k_is)
    (case l23 => k_is)
    (case c23 => k_is)
    (case k23 => k_is)
    (case a24 => k_is)
    (case l24 => k_is)
    (case c24 => k_is)
    (case k24 => k_is)
    (case a25 => k_is)
    (case l25 => k_is)
    (case c25 => k_is)
    (case k25 => k_is)
    (case a26 => k_is)
    (case l26 => k_is)
    (case c26 => k_is)
    (case k26 => k_is)
    (case a27 => k_is)
    (case l27 => k_is)
    (case c27 => k_is)
    (case k27 => k_is)
    (case a28 => k_is)
    (case l28 => k_is)
    (case c28 => k_is)
    (case k28 => k_is)
    (case a29 => k_is)
    (case i29 => k_is)
    (case l29 => k_is)
    (case c29 => k_is)
    (case k29 => k_is)
    (case a30 => k_is)
    (case i30 => k_is)
    (case l30 => k_is)
    (case c30 => k_is)
    (case k30 => k_is)
    (case a31 => k_is)
    (case i31 => k_is)
    (case l31 => k_is)
    (case c31 => k_is)
    (case k31 => k_is)
    (case a32 => k_is)
    (case i32 => k_is)
    (case l32 => k_is)
    (case c32 => k_is)
    (case k32 => k_is)
    (case a33 => k_is)
    (case i33 => k_is)
    (case l33 => k_is)
    (case c33 => k_is)
    (case k33 => k_is)
    (case a34 => k_is)
    (case i34 => k_is)
    (case l34 => k_is)
    (case c34 => k_is)
    (case k34 => k_is)
    (case a35 => k_is)
    (case i35 => k_is)
    (case l35 => k_is)
    (case c35 => k_is)
    (case k35 => k_is)
    (case a36 => k_is)
    (case i36 => k_is)
    (case l36 => k_is)
    (case c36 => k_is)
    (case k36 => k_is)
    (case a37 => k_is)
    (case i37 => k_is)
    (case l37 => k_is)
    (case c37 => k_is)
    (case k37 => k_is)
    (case a38 => k_is)
    (case i38 => k_is)
    (case l38 => k_is)
    (case c38 => k_is)
    (case k38 => k_is)
    (case a39 => k_is)
    (case i39 => k_is)
    (case l39 => k_is)
    (case c39 => k_is)
    (case k39 => k_is)
    (case a40 => k_is)
    (case i40 => k_is)
    (case l40 => k_is)
    (case c40 => k_is)
    (case k40 => k_is)
    (case a41 => k_is)
    (case i41 => k_is)
    (case l41 => k_is)
    (case c41 => k_is)
    (case k41 => k_is)
    (case a42 => k_is)
    (case i42 => k_is)
    (case l42 => k_is)
    (case c42 => k_is)
    (case k42 => k_is)
    (case a43 => k_is)
    (case i43 => k_is)
    (case l43 => k_is)
    (case c43 => k_is)
    (case k43 => k_is)
    (case a44 => k_is)
    (case i44 => k_is)
    (case l44 => k_is)
    (case c44 => k_is)
    (case k44 => k_is)
    (case pgShare => k_is)
    (case hdShare => k_is)
    (case poShare => k_is)
    (case saShare => k_is)
    (case mkShare => k_is)
    (case kcShare => k_is)
    (case nShare_over => k_is)
    (case nShare_under => k_is)
    (case pgNet => k_is)
    (case hdNet => k_is)
    (case poNet => k_is)
    (case saNet => k_is)
    (case mkNet => k_is)
    (case kcNet => k_is)
    (case nNet_prime => k_is)
    (case nNet_embed => k_is)
    (case nNet_shift => k_is)
    (case nNet_layers => k_is)
    (case nNet_out => k_is)
    (case nNet_end => k_is)
    (case pgRound => k_is)
    (case hdRound => k_is)
    (case poRound => k_is)
    (case saRound => k_is)
    (case mkRound => k_is)
    (case kcRound => k_is)
    (case nRound_net => k_is)
    (case nRound_lesser => k_is)
    (case nRound_prompt => k_is)
    (case nRound_chances => k_is)
    (case sf => k_is)
    (case aP => k_is)
    (case lP => k_is)
    (case ztuple => k_is)
    (case zlen => k_is)
    (case zint => k_is)
    (case zabs => k_is)
    (case zmin => k_is)
    (case zsum => k_is)
    (case zlist => k_is)
    (case zsorted => k_is)
    (case zisinstance => k_is)
    (case zrange => k_is)
    (case zzip => k_is)
    (case zenumerate => k_is)
    (case zstr => k_is)
    (case zbool => k_is)
    (case vP => exact .cons ⟨_, rfl⟩ (.cons ⟨_, rfl⟩ (.cons ⟨_, rfl⟩ (.cons ⟨_, rfl⟩ (.cons ⟨_, rfl⟩ (.cons ⟨_, rfl⟩ (.cons ⟨_, rfl⟩ (.cons ⟨_, rfl⟩ (.cons ⟨_, rfl⟩ (.cons ⟨_, rfl⟩ (.cons ⟨_, rfl⟩ (.cons ⟨_, rfl⟩ (.cons ⟨_, rfl⟩ (.cons ⟨_, rfl⟩ (.cons ⟨_, rfl⟩ (.cons ⟨_, rfl⟩ (.cons ⟨_, rfl⟩ (.cons ⟨_, rfl⟩ (.cons ⟨_, rfl⟩ (.cons ⟨_, rfl⟩ (.cons ⟨_, rfl⟩ (.cons ⟨_, rfl⟩ (.cons ⟨_, rfl⟩ (.cons ⟨_, rfl⟩ (.cons ⟨_, rfl⟩ .nil)))))))))))))))))))))))))
#print axioms PySem.Challenge.cw_servedalone_k61_whole_rounds_write_as_th_holds
