import PyProof.Rows.All
import Wide.All
import OpenK.AllK
import Wide.FinOn
import HandS.ForMost
import HandS.Conv
import HandS.Defaults
import HandS.SortRule
import HandS.More
import HandS.DictComp
import HandS.Property
import HandS.IsInst
import HandS.TupAny
import HandS.Deep
import PySem.Challenge.RW_rimcords_k04_tables_whole
set_option Elab.async false
set_option linter.all false
/-! The plain mathematics: lists of entries (a, b, n), their weights, normal forms, dicts of pairs, tables. No Python here. -/
namespace RC

abbrev Tri := Int × Int × Int
abbrev Sym (f : Int → Int → Int) : Prop := ∀ a b, f a b = f b a
/-- the weight of a list of entries -/
def wt (f : Int → Int → Int) : List Tri → Int
  | [] => 0
  | t :: r => t.2.2 * f t.1 t.2.1 + wt f r
theorem wt_nil (f : Int → Int → Int) : wt f [] = 0 := rfl
theorem wt_cons (f : Int → Int → Int) (t : Tri) (r : List Tri) : wt f (t :: r) = t.2.2 * f t.1 t.2.1 + wt f r := rfl
theorem wt_append (f : Int → Int → Int) : ∀ xs ys : List Tri, wt f (xs ++ ys) = wt f xs + wt f ys
  | [], ys => by rw [List.nil_append, wt_nil]; omega
  | t :: r, ys => by rw [List.cons_append, wt_cons, wt_cons, wt_append f r ys]; omega
theorem wt_scale (f : Int → Int → Int) (c : Int) : ∀ xs : List Tri, wt f (xs.map fun t => (t.1, t.2.1, t.2.2 * c)) = wt f xs * c
  | [] => by show (0 : Int) = 0 * c; rw [Int.zero_mul]
  | t :: r => by
    rw [List.map_cons, wt_cons, wt_cons, wt_scale f c r, Int.add_mul]
    show t.2.2 * c * f t.1 t.2.1 + wt f r * c = t.2.2 * f t.1 t.2.1 * c + wt f r * c
    rw [Int.mul_right_comm]
theorem wt_perm (f : Int → Int → Int) {xs ys : List Tri} (h : xs.Perm ys) : wt f xs = wt f ys := by
  induction h with
  | nil => rfl
  | cons x _ ih => rw [wt_cons, wt_cons, ih]
  | swap x y l => rw [wt_cons, wt_cons, wt_cons, wt_cons]; omega
  | trans _ _ h1 h2 => rw [h1, h2]
theorem wt_zero (f : Int → Int → Int) : ∀ xs : List Tri, (∀ t ∈ xs, f t.1 t.2.1 = 0) → wt f xs = 0
  | [], _ => rfl
  | t :: r, h => by
    rw [wt_cons, h t (List.mem_cons_self ..), wt_zero f r fun s hs => h s (List.mem_cons_of_mem _ hs), Int.mul_zero]
    rfl
theorem wt_nonneg (f : Int → Int → Int) (hf : ∀ a b, 0 ≤ f a b) : ∀ xs : List Tri, (∀ t ∈ xs, 0 ≤ t.2.2) → 0 ≤ wt f xs
  | [], _ => Int.le_refl _
  | t :: r, h => by
    rw [wt_cons]
    exact Int.add_nonneg (Int.mul_nonneg (h t (List.mem_cons_self ..)) (hf _ _)) (wt_nonneg f hf r fun s hs => h s (List.mem_cons_of_mem _ hs))

/-- the weight that looks at one pair alone -/
def ind (p q a b : Int) : Int := if (a = p ∧ b = q) ∨ (a = q ∧ b = p) then 1 else 0
theorem ind_sym (p q : Int) : Sym (ind p q) := fun a b => by
  unfold ind
  by_cases h : (a = p ∧ b = q) ∨ (a = q ∧ b = p)
  · rw [if_pos h, if_pos (by omega)]
  · rw [if_neg h, if_neg (by omega)]
theorem ind_self (p q : Int) : ind p q p q = 1 := if_pos (.inl ⟨rfl, rfl⟩)
theorem ind_no {p q a b : Int} (h : ¬ ((a = p ∧ b = q) ∨ (a = q ∧ b = p))) : ind p q a b = 0 := if_neg h
theorem ind_nonneg (p q a b : Int) : 0 ≤ ind p q a b := by
  unfold ind
  split <;> omega

/-- the order of pairs -/
def klt (s t : Int × Int) : Prop := s.1 < t.1 ∨ (s.1 = t.1 ∧ s.2 < t.2)
def key (t : Tri) : Int × Int := (t.1, t.2.1)
structure Nrm (ys : List Tri) : Prop where
  srt : ys.Pairwise fun s t => klt (key s) (key t)
  ok : ∀ t ∈ ys, t.1 < t.2.1 ∧ 0 < t.2.2
theorem Nrm.nil : Nrm [] := ⟨List.Pairwise.nil, fun _ h => (by cases h)⟩
theorem Nrm.tail {t : Tri} {r : List Tri} (h : Nrm (t :: r)) : Nrm r := ⟨(List.pairwise_cons.mp h.srt).2, fun s hs => h.ok s (List.mem_cons_of_mem _ hs)⟩
theorem Nrm.head_wt {t : Tri} {r : List Tri} (h : Nrm (t :: r)) {p q : Int} (hk : ¬ klt (key t) (p, q)) (hpq : p < q) : wt (ind p q) r = 0 := by
  refine wt_zero _ _ fun s hs => ind_no ?_
  have h1 := (List.pairwise_cons.mp h.srt).1 s hs
  have h2 := h.ok s (List.mem_cons_of_mem _ hs)
  unfold klt key at h1 hk
  dsimp only at h1 hk
  omega
/-- a normal list is told by its weights -/
theorem nrm_uniq : ∀ {xs ys : List Tri}, Nrm xs → Nrm ys → (∀ f, Sym f → wt f xs = wt f ys) → xs = ys
  | [], [], _, _, _ => rfl
  | [], t :: r, _, hy, e => by
    have h1 := e (ind t.1 t.2.1) (ind_sym _ _)
    have h2 := hy.ok t (List.mem_cons_self ..)
    rw [wt_cons, ind_self, wt_nil, hy.head_wt (p := t.1) (q := t.2.1) (by unfold klt key; dsimp only; omega) h2.1] at h1
    omega
  | t :: r, [], hx, _, e => by
    have h1 := e (ind t.1 t.2.1) (ind_sym _ _)
    have h2 := hx.ok t (List.mem_cons_self ..)
    rw [wt_cons, ind_self, wt_nil, hx.head_wt (p := t.1) (q := t.2.1) (by unfold klt key; dsimp only; omega) h2.1] at h1
    omega
  | s :: xs, t :: ys, hx, hy, e => by
    have ox := hx.ok s (List.mem_cons_self ..)
    have oy := hy.ok t (List.mem_cons_self ..)
    have es := e (ind s.1 s.2.1) (ind_sym _ _)
    have et := e (ind t.1 t.2.1) (ind_sym _ _)
    rw [wt_cons, wt_cons, ind_self, hx.head_wt (p := s.1) (q := s.2.1) (by unfold klt key; dsimp only; omega) ox.1] at es
    rw [wt_cons, wt_cons, ind_self, hy.head_wt (p := t.1) (q := t.2.1) (by unfold klt key; dsimp only; omega) oy.1] at et
    by_cases hk : key s = key t
    · have e1 : s.1 = t.1 := (congrArg Prod.fst hk : (key s).1 = (key t).1)
      have e2 : s.2.1 = t.2.1 := (congrArg Prod.snd hk : (key s).2 = (key t).2)
      rw [e1, e2, ind_self, hy.head_wt (p := t.1) (q := t.2.1) (by unfold klt key; dsimp only; omega) oy.1] at es
      have e3 : s.2.2 = t.2.2 := by omega
      have e4 : s = t := Prod.ext e1 (Prod.ext e2 e3)
      subst e4
      rw [nrm_uniq hx.tail hy.tail fun f hf => by
        have h := e f hf
        rw [wt_cons, wt_cons] at h
        omega]
    · exfalso
      by_cases hlt : klt (key s) (key t)
      · rw [ind_no (p := s.1) (q := s.2.1) (a := t.1) (b := t.2.1) (by unfold klt key at hlt; dsimp only at hlt; omega), hy.head_wt (p := s.1) (q := s.2.1) (by unfold klt key at hlt ⊢; dsimp only at hlt ⊢; omega) ox.1] at es
        omega
      · have hne : ¬ (s.1 = t.1 ∧ s.2.1 = t.2.1) := fun z => hk (Prod.ext z.1 z.2)
        rw [ind_no (p := t.1) (q := t.2.1) (a := s.1) (b := s.2.1) (by unfold klt key at hlt; dsimp only at hlt; omega), hx.head_wt (p := t.1) (q := t.2.1) (by unfold klt key at hlt ⊢; dsimp only at hlt ⊢; omega) oy.1] at et
        omega

/-- ys is a normal form of xs -/
structure IsNorm (xs ys : List Tri) : Prop where
  nrm : Nrm ys
  wts : ∀ f, Sym f → wt f ys = wt f xs
  sub : ∀ t ∈ ys, ∃ s ∈ xs, (s.1 = t.1 ∧ s.2.1 = t.2.1) ∨ (s.1 = t.2.1 ∧ s.2.1 = t.1)
  len : ys.length ≤ xs.length
theorem IsNorm.self {xs ys : List Tri} (h : IsNorm xs ys) (n : Nrm xs) : ys = xs := nrm_uniq h.nrm n h.wts

/-! ### the lesser and the greater of two, as Python's min and max tell them -/
def lo (a b : Int) : Int := if b < a then b else a
def hi (a b : Int) : Int := if b > a then b else a
theorem lo_hi {a b : Int} (h : a ≠ b) : lo a b < hi a b := by
  unfold lo hi
  split <;> split <;> omega
theorem lo_hi_of {a b : Int} (h : a < b) : lo a b = a ∧ hi a b = b := by
  unfold lo hi
  rw [if_neg (by omega), if_pos (by omega)]
  exact ⟨rfl, rfl⟩
theorem lo_hi_or (a b : Int) : (lo a b = a ∧ hi a b = b) ∨ (lo a b = b ∧ hi a b = a) := by
  unfold lo hi
  split <;> split <;> omega
theorem sym_lo {f : Int → Int → Int} (hf : Sym f) (a b : Int) : f (lo a b) (hi a b) = f a b := by
  rcases lo_hi_or a b with ⟨h1, h2⟩ | ⟨h1, h2⟩
  · rw [h1, h2]
  · rw [h1, h2, hf]

/-! ### dicts whose keys are pairs -/
abbrev Dic := List ((Int × Int) × Int)
def dget (d : Dic) (k : Int × Int) : Option Int := (d.find? fun e => decide (e.1 = k)).map (·.2)
def dput (d : Dic) (k : Int × Int) (v : Int) : Dic := if (d.any fun e => decide (e.1 = k)) = true then d.map (fun e => if e.1 = k then (e.1, v) else e) else d ++ [(k, v)]
def dz (d : Dic) (k : Int × Int) : Int := (dget d k).getD 0
def dwt (f : Int → Int → Int) : Dic → Int
  | [] => 0
  | e :: r => e.2 * f e.1.1 e.1.2 + dwt f r
abbrev keys (d : Dic) : List (Int × Int) := d.map (·.1)
theorem dget_cons (e : (Int × Int) × Int) (r : Dic) (k : Int × Int) : dget (e :: r) k = if e.1 = k then some e.2 else dget r k := by
  unfold dget
  by_cases h : e.1 = k
  · rw [if_pos h, List.find?_cons_of_pos (by exact decide_eq_true h)]
    rfl
  · rw [if_neg h, List.find?_cons_of_neg (by rw [decide_eq_false h]; decide)]
theorem dz_cons (e : (Int × Int) × Int) (r : Dic) (k : Int × Int) : dz (e :: r) k = if e.1 = k then e.2 else dz r k := by
  unfold dz
  rw [dget_cons]
  by_cases h : e.1 = k
  · rw [if_pos h, if_pos h]
    rfl
  · rw [if_neg h, if_neg h]
theorem dget_some_mem : ∀ {d : Dic} {k : Int × Int} {v : Int}, dget d k = some v → k ∈ keys d
  | [], k, v, h => by cases h
  | e :: r, k, v, h => by
    rw [dget_cons] at h
    by_cases q : e.1 = k
    · exact List.mem_cons.mpr (.inl q.symm)
    · rw [if_neg q] at h
      exact List.mem_cons_of_mem _ (dget_some_mem h)
theorem dget_of_mem : ∀ {d : Dic} {k : Int × Int}, k ∈ keys d → ∃ v, dget d k = some v
  | [], k, h => by cases h
  | e :: r, k, h => by
    rw [dget_cons]
    by_cases q : e.1 = k
    · exact ⟨e.2, if_pos q⟩
    · rw [if_neg q]
      exact dget_of_mem ((List.mem_cons.mp h).resolve_left fun z => q z.symm)
theorem dget_none {d : Dic} {k : Int × Int} (h : k ∉ keys d) : dget d k = none := by
  cases e : dget d k with
  | none => rfl
  | some v => exact absurd (dget_some_mem e) h
theorem dz_out {d : Dic} {k : Int × Int} (h : k ∉ keys d) : dz d k = 0 := by
  unfold dz
  rw [dget_none h]
  rfl
theorem any_keys (d : Dic) (k : Int × Int) : (d.any fun e => decide (e.1 = k)) = true ↔ k ∈ keys d := by
  rw [List.any_eq_true]
  constructor
  · rintro ⟨e, he, h⟩
    exact List.mem_map.mpr ⟨e, he, of_decide_eq_true h⟩
  · intro h
    obtain ⟨e, he, h⟩ := List.mem_map.mp h
    exact ⟨e, he, decide_eq_true h⟩
theorem map_out (k : Int × Int) (v : Int) : ∀ d : Dic, k ∉ keys d → d.map (fun e => if e.1 = k then (e.1, v) else e) = d
  | [], _ => rfl
  | e :: r, h => by
    have h1 : ¬ e.1 = k := fun z => h (List.mem_cons.mpr (.inl z.symm))
    rw [List.map_cons, if_neg h1, map_out k v r fun z => h (List.mem_cons_of_mem _ z)]
theorem dwt_map (f : Int → Int → Int) (k : Int × Int) (v : Int) : ∀ d : Dic, (keys d).Nodup → k ∈ keys d → dwt f (d.map fun e => if e.1 = k then (e.1, v) else e) = dwt f d + (v - dz d k) * f k.1 k.2
  | [], _, h => by cases h
  | e :: r, hn, h => by
    obtain ⟨n1, n2⟩ := List.nodup_cons.mp hn
    by_cases q : e.1 = k
    · rw [List.map_cons, if_pos q, dz_cons, if_pos q, map_out k v r (by rw [← q]; exact n1)]
      show v * f e.1.1 e.1.2 + dwt f r = e.2 * f e.1.1 e.1.2 + dwt f r + (v - e.2) * f k.1 k.2
      rw [q, Int.sub_mul]
      omega
    · rw [List.map_cons, if_neg q, dz_cons, if_neg q]
      show e.2 * f e.1.1 e.1.2 + dwt f (r.map _) = e.2 * f e.1.1 e.1.2 + dwt f r + _
      rw [dwt_map f k v r n2 ((List.mem_cons.mp h).resolve_left fun z => q z.symm)]
      omega
theorem dwt_append (f : Int → Int → Int) : ∀ c d : Dic, dwt f (c ++ d) = dwt f c + dwt f d
  | [], d => by rw [List.nil_append]; show dwt f d = 0 + dwt f d; omega
  | e :: r, d => by
    rw [List.cons_append]
    show e.2 * f e.1.1 e.1.2 + dwt f (r ++ d) = e.2 * f e.1.1 e.1.2 + dwt f r + dwt f d
    rw [dwt_append f r d]
    omega
theorem dwt_put (f : Int → Int → Int) {d : Dic} (k : Int × Int) (v : Int) (hn : (keys d).Nodup) : dwt f (dput d k v) = dwt f d + (v - dz d k) * f k.1 k.2 := by
  unfold dput
  by_cases h : k ∈ keys d
  · rw [if_pos ((any_keys d k).mpr h)]
    exact dwt_map f k v d hn h
  · rw [if_neg fun z => h ((any_keys d k).mp z), dwt_append, dz_out h]
    show dwt f d + (v * f k.1 k.2 + 0) = dwt f d + (v - 0) * f k.1 k.2
    rw [Int.sub_zero]
    omega
theorem keys_put_in {d : Dic} {k : Int × Int} (v : Int) (h : k ∈ keys d) : keys (dput d k v) = keys d := by
  unfold dput keys
  rw [if_pos ((any_keys d k).mpr h), List.map_map]
  refine List.map_congr_left fun e _ => ?_
  show (if e.1 = k then (e.1, v) else e).1 = e.1
  split <;> rfl
theorem keys_put_out {d : Dic} {k : Int × Int} (v : Int) (h : k ∉ keys d) : keys (dput d k v) = keys d ++ [k] := by
  unfold dput keys
  rw [if_neg fun z => h ((any_keys d k).mp z), List.map_append]
  rfl
theorem nodup_put {d : Dic} (k : Int × Int) (v : Int) (hn : (keys d).Nodup) : (keys (dput d k v)).Nodup := by
  by_cases h : k ∈ keys d
  · rw [keys_put_in v h]
    exact hn
  · rw [keys_put_out v h]
    refine List.nodup_append.mpr ⟨hn, List.nodup_cons.mpr ⟨fun z => (by cases z), List.nodup_nil⟩, fun a ha b hb => ?_⟩
    rw [List.mem_singleton.mp hb]
    exact fun z => h (z ▸ ha)
theorem mem_put {d : Dic} {k : Int × Int} {v : Int} {e : (Int × Int) × Int} (h : e ∈ dput d k v) : e ∈ d ∨ e = (k, v) := by
  unfold dput at h
  split at h
  · obtain ⟨e', he, q⟩ := List.mem_map.mp h
    by_cases z : e'.1 = k
    · rw [if_pos z] at q
      exact .inr (by rw [← q, z])
    · rw [if_neg z] at q
      exact .inl (q ▸ he)
  · rcases List.mem_append.mp h with h | h
    · exact .inl h
    · exact .inr (List.mem_singleton.mp h)
theorem length_put (d : Dic) (k : Int × Int) (v : Int) : (dput d k v).length ≤ d.length + 1 := by
  unfold dput
  split
  · rw [List.length_map]; omega
  · rw [List.length_append]; exact Nat.le_refl _
theorem length_put_in {d : Dic} {k : Int × Int} (v : Int) (h : k ∈ keys d) : (dput d k v).length = d.length := by
  unfold dput
  rw [if_pos ((any_keys d k).mpr h), List.length_map]
theorem mem_of_dz {d : Dic} {k : Int × Int} (hn : (keys d).Nodup) : ∀ {e}, e ∈ d → e.1 = k → dz d k = e.2 := by
  induction d with
  | nil => intro e h; cases h
  | cons c r ih =>
    intro e h q
    obtain ⟨n1, n2⟩ := List.nodup_cons.mp hn
    rw [dz_cons]
    rcases List.mem_cons.mp h with z | z
    · rw [← z, if_pos q]
    · have : ¬ c.1 = k := fun y => n1 (List.mem_map.mpr ⟨e, z, q.trans y.symm⟩)
      rw [if_neg this]
      exact ih n2 z q
theorem dz_mem {d : Dic} {k : Int × Int} (h : k ∈ keys d) : (k, dz d k) ∈ d := by
  induction d with
  | nil => cases h
  | cons c r ih =>
    rw [dz_cons]
    by_cases q : c.1 = k
    · rw [if_pos q, ← q]
      exact List.mem_cons_self ..
    · rw [if_neg q]
      exact List.mem_cons_of_mem _ (ih ((List.mem_cons.mp h).resolve_left fun z => q z.symm))
/-- the dict's entries as triples -/
def tris (d : Dic) : List Tri := d.map fun e => (e.1.1, e.1.2, e.2)
theorem dwt_tris (f : Int → Int → Int) : ∀ d : Dic, wt f (tris d) = dwt f d
  | [] => rfl
  | e :: r => by
    show e.2 * f e.1.1 e.1.2 + wt f (tris r) = e.2 * f e.1.1 e.1.2 + dwt f r
    rw [dwt_tris f r]
theorem tris_keys {d : Dic} (hn : (keys d).Nodup) : (keys d).map (fun k => ((k.1, k.2, dz d k) : Tri)) = tris d := by
  unfold tris keys
  rw [List.map_map]
  refine List.map_congr_left fun e he => ?_
  show (e.1.1, e.1.2, dz d e.1) = (e.1.1, e.1.2, e.2)
  rw [mem_of_dz hn he rfl]

/-! ### combined: the dict of sums -/
structure CInv (xs : List Tri) (m : Dic) : Prop where
  nd : (keys m).Nodup
  wts : ∀ f, Sym f → dwt f m = wt f xs
  ok : ∀ e ∈ m, e.1.1 < e.1.2 ∧ 0 < e.2
  sub : ∀ e ∈ m, ∃ s ∈ xs, (s.1 = e.1.1 ∧ s.2.1 = e.1.2) ∨ (s.1 = e.1.2 ∧ s.2.1 = e.1.1)
  len : m.length ≤ xs.length
theorem CInv.nil : CInv [] [] := ⟨List.nodup_nil, fun _ _ => rfl, fun _ h => (by cases h), fun _ h => (by cases h), Nat.le_refl _⟩
theorem CInv.dz_nn {xs : List Tri} {m : Dic} (h : CInv xs m) (k : Int × Int) : 0 ≤ dz m k := by
  by_cases q : k ∈ keys m
  · have := (h.ok _ (dz_mem q)).2
    dsimp only at this
    omega
  · rw [dz_out q]
    exact Int.le_refl _
theorem CInv.step {xs : List Tri} {m : Dic} (h : CInv xs m) {a b n : Int} (hab : a ≠ b) (hn : 0 < n) : CInv (xs ++ [(a, b, n)]) (dput m (lo a b, hi a b) (dz m (lo a b, hi a b) + n)) := by
  refine ⟨nodup_put _ _ h.nd, fun f hf => ?_, fun e he => ?_, fun e he => ?_, ?_⟩
  · rw [dwt_put f _ _ h.nd, h.wts f hf, wt_append, wt_cons, wt_nil]
    show wt f xs + (dz m (lo a b, hi a b) + n - dz m (lo a b, hi a b)) * f (lo a b) (hi a b) = wt f xs + (n * f a b + 0)
    rw [sym_lo hf, show dz m (lo a b, hi a b) + n - dz m (lo a b, hi a b) = n by omega]
    omega
  · rcases mem_put he with he | rfl
    · exact h.ok e he
    · have := h.dz_nn (lo a b, hi a b)
      exact ⟨lo_hi hab, by dsimp only; omega⟩
  · rcases mem_put he with he | rfl
    · obtain ⟨s, hs, q⟩ := h.sub e he
      exact ⟨s, List.mem_append_left _ hs, q⟩
    · refine ⟨(a, b, n), List.mem_append_right _ (List.mem_singleton.mpr rfl), ?_⟩
      rcases lo_hi_or a b with q | q
      · exact .inl ⟨q.1.symm, q.2.symm⟩
      · exact .inr ⟨q.2.symm, q.1.symm⟩
  · have := length_put m (lo a b, hi a b) (dz m (lo a b, hi a b) + n)
    have := h.len
    rw [List.length_append, List.length_singleton]
    omega
theorem CInv.skip {xs : List Tri} {m : Dic} (h : CInv xs m) {a b : Int} : CInv (xs ++ [(a, b, 0)]) m := by
  refine ⟨h.nd, fun f hf => ?_, h.ok, fun e he => ?_, ?_⟩
  · rw [h.wts f hf, wt_append, wt_cons, wt_nil]
    show wt f xs = wt f xs + (0 * f a b + 0)
    rw [Int.zero_mul]
    omega
  · obtain ⟨s, hs, q⟩ := h.sub e he
    exact ⟨s, List.mem_append_left _ hs, q⟩
  · rw [List.length_append]
    exact Nat.le_trans h.len (Nat.le_add_right _ _)
/-- pairs in order, none twice: strictly in order -/
theorem srt_strict {K : List (Int × Int)} (h : K.Pairwise fun p q => ¬ klt q p) (hn : K.Nodup) : K.Pairwise klt := by
  induction K with
  | nil => exact List.Pairwise.nil
  | cons k r ih =>
    obtain ⟨n1, n2⟩ := List.nodup_cons.mp hn
    obtain ⟨h1, h2⟩ := List.pairwise_cons.mp h
    refine List.pairwise_cons.mpr ⟨fun q hq => ?_, ih h2 n2⟩
    have a := h1 q hq
    have b : k ≠ q := fun z => n1 (z ▸ hq)
    have c : ¬ (k.1 = q.1 ∧ k.2 = q.2) := fun z => b (Prod.ext z.1 z.2)
    unfold klt at a ⊢
    omega
theorem CInv.out {xs : List Tri} {m : Dic} (h : CInv xs m) {K : List (Int × Int)} (hp : K.Perm (keys m)) (hs : K.Pairwise fun p q => ¬ klt q p) : IsNorm xs (K.map fun k => (k.1, k.2, dz m k)) := by
  have hn : K.Nodup := hp.nodup_iff.mpr h.nd
  have at_ : ∀ t ∈ K.map (fun k => ((k.1, k.2, dz m k) : Tri)), ∃ e ∈ m, t = (e.1.1, e.1.2, e.2) := fun t ht => by
    obtain ⟨k, hk, e⟩ := List.mem_map.mp ht
    exact ⟨(k, dz m k), dz_mem (hp.mem_iff.mp hk), e.symm⟩
  refine ⟨⟨List.pairwise_map.mpr (srt_strict hs hn), fun t ht => ?_⟩, fun f hf => ?_, fun t ht => ?_, ?_⟩
  · obtain ⟨e, he, rfl⟩ := at_ t ht
    exact h.ok e he
  · rw [wt_perm f (hp.map _), tris_keys h.nd, dwt_tris, h.wts f hf]
  · obtain ⟨e, he, rfl⟩ := at_ t ht
    exact h.sub e he
  · have := hp.length_eq
    rw [List.length_map] at this ⊢
    have := h.len
    omega
end RC
/-! The plain mathematics, second part: the law's own normal form, the difference, tables. -/
namespace RC

/-! ### the law's normal form -/
/-- how much of xs lies between the pair k -/
def tot (k : Int × Int) : List Tri → Int
  | [] => 0
  | t :: r => (if lo t.1 t.2.1 = k.1 ∧ hi t.1 t.2.1 = k.2 then t.2.2 else 0) + tot k r
theorem tot_append (k : Int × Int) : ∀ xs ys : List Tri, tot k (xs ++ ys) = tot k xs + tot k ys
  | [], ys => by rw [List.nil_append]; show _ = 0 + tot k ys; omega
  | t :: r, ys => by
    rw [List.cons_append]
    show _ + tot k (r ++ ys) = _ + tot k r + tot k ys
    rw [tot_append k r ys]
    omega
theorem tot_nn (k : Int × Int) : ∀ xs : List Tri, (∀ t ∈ xs, 0 < t.2.2) → 0 ≤ tot k xs
  | [], _ => Int.le_refl _
  | t :: r, h => by
    have h1 := h t (List.mem_cons_self ..)
    have h2 := tot_nn k r fun s hs => h s (List.mem_cons_of_mem _ hs)
    show 0 ≤ (if lo t.1 t.2.1 = k.1 ∧ hi t.1 t.2.1 = k.2 then t.2.2 else 0) + tot k r
    split <;> omega
theorem tot_pos {k : Int × Int} : ∀ {xs : List Tri}, (∀ t ∈ xs, 0 < t.2.2) → (∃ t ∈ xs, lo t.1 t.2.1 = k.1 ∧ hi t.1 t.2.1 = k.2) → 0 < tot k xs
  | [], _, ⟨_, h, _⟩ => by cases h
  | t :: r, h, ⟨s, hs, hk⟩ => by
    have h1 := h t (List.mem_cons_self ..)
    have h2 := tot_nn k r fun s hs => h s (List.mem_cons_of_mem _ hs)
    show 0 < (if lo t.1 t.2.1 = k.1 ∧ hi t.1 t.2.1 = k.2 then t.2.2 else 0) + tot k r
    rcases List.mem_cons.mp hs with e | hs
    · subst e
      rw [if_pos hk]
      omega
    · have h3 := tot_pos (fun s hs => h s (List.mem_cons_of_mem _ hs)) ⟨s, hs, hk⟩
      split <;> omega
theorem wt_add (f : Int → Int → Int) (g h : Int × Int → Int) : ∀ K : List (Int × Int), wt f (K.map fun k => ((k.1, k.2, g k + h k) : Tri)) = wt f (K.map fun k => ((k.1, k.2, g k) : Tri)) + wt f (K.map fun k => ((k.1, k.2, h k) : Tri))
  | [] => rfl
  | k :: r => by
    rw [List.map_cons, List.map_cons, List.map_cons, wt_cons, wt_cons, wt_cons, wt_add f g h r]
    show (g k + h k) * f k.1 k.2 + _ = g k * f k.1 k.2 + _ + (h k * f k.1 k.2 + _)
    rw [Int.add_mul]
    omega
theorem wt_none (f : Int → Int → Int) (p q n : Int) : ∀ K : List (Int × Int), (p, q) ∉ K → wt f (K.map fun k => ((k.1, k.2, if p = k.1 ∧ q = k.2 then n else 0) : Tri)) = 0
  | [], _ => rfl
  | k :: r, h => by
    rw [List.map_cons, wt_cons, wt_none f p q n r fun z => h (List.mem_cons_of_mem _ z)]
    have e : ¬ (p = k.1 ∧ q = k.2) := fun z => h (List.mem_cons.mpr (.inl (Prod.ext z.1 z.2)))
    show (if p = k.1 ∧ q = k.2 then n else 0) * f k.1 k.2 + 0 = 0
    rw [if_neg e, Int.zero_mul]
    rfl
theorem wt_one (f : Int → Int → Int) (p q n : Int) : ∀ K : List (Int × Int), K.Nodup → (p, q) ∈ K → wt f (K.map fun k => ((k.1, k.2, if p = k.1 ∧ q = k.2 then n else 0) : Tri)) = n * f p q
  | [], _, h => by cases h
  | k :: r, hn, h => by
    obtain ⟨n1, n2⟩ := List.nodup_cons.mp hn
    rw [List.map_cons, wt_cons]
    show (if p = k.1 ∧ q = k.2 then n else 0) * f k.1 k.2 + _ = n * f p q
    by_cases e : p = k.1 ∧ q = k.2
    · have ek : (p, q) = k := Prod.ext e.1 e.2
      rw [if_pos e, wt_none f p q n r (by rw [ek]; exact n1), ← e.1, ← e.2]
      omega
    · rw [if_neg e, Int.zero_mul, wt_one f p q n r n2 ((List.mem_cons.mp h).resolve_left fun z => e ⟨congrArg Prod.fst z, congrArg Prod.snd z⟩)]
      omega
theorem wt_tot (f : Int → Int → Int) (hf : Sym f) {K : List (Int × Int)} (hn : K.Nodup) : ∀ xs : List Tri, (∀ t ∈ xs, (lo t.1 t.2.1, hi t.1 t.2.1) ∈ K) → wt f (K.map fun k => ((k.1, k.2, tot k xs) : Tri)) = wt f xs
  | [], _ => by
    rw [wt_nil]
    refine (?_ : wt f (K.map fun k => ((k.1, k.2, 0) : Tri)) = 0)
    clear hn
    induction K with
    | nil => rfl
    | cons k r ih =>
      rw [List.map_cons, wt_cons, ih fun _ z => (by cases z)]
      show 0 * f k.1 k.2 + 0 = 0
      rw [Int.zero_mul]
      rfl
  | t :: r, h => by
    have e := wt_add f (fun k => if lo t.1 t.2.1 = k.1 ∧ hi t.1 t.2.1 = k.2 then t.2.2 else 0) (fun k => tot k r) K
    refine (e : wt f (K.map fun k => ((k.1, k.2, tot k (t :: r)) : Tri)) = _).trans ?_
    rw [wt_one f (lo t.1 t.2.1) (hi t.1 t.2.1) t.2.2 K hn (h t (List.mem_cons_self ..)), wt_tot f hf hn r fun s hs => h s (List.mem_cons_of_mem _ hs), sym_lo hf, wt_cons]
/-- the pairs met so far -/
structure PInv (xs : List Tri) (P : List (Int × Int)) : Prop where
  nd : P.Nodup
  all : ∀ t ∈ xs, (lo t.1 t.2.1, hi t.1 t.2.1) ∈ P
  sub : ∀ k ∈ P, ∃ t ∈ xs, lo t.1 t.2.1 = k.1 ∧ hi t.1 t.2.1 = k.2
  len : P.length ≤ xs.length
theorem PInv.nil : PInv [] [] := ⟨List.nodup_nil, fun _ h => (by cases h), fun _ h => (by cases h), Nat.le_refl _⟩
theorem PInv.there {xs : List Tri} {P : List (Int × Int)} (h : PInv xs P) {t : Tri} (ht : (lo t.1 t.2.1, hi t.1 t.2.1) ∈ P) : PInv (xs ++ [t]) P := by
  refine ⟨h.nd, fun s hs => ?_, fun k hk => ?_, ?_⟩
  · rcases List.mem_append.mp hs with hs | hs
    · exact h.all s hs
    · rw [List.mem_singleton.mp hs]
      exact ht
  · obtain ⟨s, hs, q⟩ := h.sub k hk
    exact ⟨s, List.mem_append_left _ hs, q⟩
  · rw [List.length_append]
    exact Nat.le_trans h.len (Nat.le_add_right _ _)
theorem PInv.new {xs : List Tri} {P : List (Int × Int)} (h : PInv xs P) {t : Tri} (ht : (lo t.1 t.2.1, hi t.1 t.2.1) ∉ P) : PInv (xs ++ [t]) (P ++ [(lo t.1 t.2.1, hi t.1 t.2.1)]) := by
  refine ⟨List.nodup_append.mpr ⟨h.nd, List.nodup_cons.mpr ⟨fun z => (by cases z), List.nodup_nil⟩, fun a ha b hb z => ?_⟩, fun s hs => ?_, fun k hk => ?_, ?_⟩
  · rw [List.mem_singleton.mp hb] at z
    exact ht (z ▸ ha)
  · rcases List.mem_append.mp hs with hs | hs
    · exact List.mem_append_left _ (h.all s hs)
    · rw [List.mem_singleton.mp hs]
      exact List.mem_append_right _ (List.mem_singleton.mpr rfl)
  · rcases List.mem_append.mp hk with hk | hk
    · obtain ⟨s, hs, q⟩ := h.sub k hk
      exact ⟨s, List.mem_append_left _ hs, q⟩
    · rw [List.mem_singleton.mp hk]
      exact ⟨t, List.mem_append_right _ (List.mem_singleton.mpr rfl), rfl, rfl⟩
  · rw [List.length_append, List.length_append, List.length_singleton, List.length_singleton]
    exact Nat.succ_le_succ h.len
theorem PInv.out {xs : List Tri} {P K : List (Int × Int)} (h : PInv xs P) (hx : ∀ t ∈ xs, t.1 ≠ t.2.1 ∧ 0 < t.2.2) (hp : K.Perm P) (hs : K.Pairwise fun p q => ¬ klt q p) : IsNorm xs (K.map fun k => (k.1, k.2, tot k xs)) := by
  have hn : K.Nodup := hp.nodup_iff.mpr h.nd
  refine ⟨⟨List.pairwise_map.mpr (srt_strict hs hn), fun t ht => ?_⟩, fun f hf => wt_tot f hf hn xs fun t ht => hp.mem_iff.mpr (h.all t ht), fun t ht => ?_, ?_⟩
  · obtain ⟨k, hk, rfl⟩ := List.mem_map.mp ht
    obtain ⟨s, hs, q1, q2⟩ := h.sub k (hp.mem_iff.mp hk)
    refine ⟨?_, tot_pos (fun t ht => (hx t ht).2) ⟨s, hs, q1, q2⟩⟩
    show k.1 < k.2
    rw [← q1, ← q2]
    exact lo_hi (hx s hs).1
  · obtain ⟨k, hk, rfl⟩ := List.mem_map.mp ht
    obtain ⟨s, hs, q1, q2⟩ := h.sub k (hp.mem_iff.mp hk)
    refine ⟨s, hs, ?_⟩
    show (s.1 = k.1 ∧ s.2.1 = k.2) ∨ (s.1 = k.2 ∧ s.2.1 = k.1)
    rw [← q1, ← q2]
    rcases lo_hi_or s.1 s.2.1 with ⟨a, b⟩ | ⟨a, b⟩
    · exact .inl ⟨a.symm, b.symm⟩
    · exact .inr ⟨b.symm, a.symm⟩
  · rw [List.length_map, hp.length_eq]
    exact h.len

/-! ### the difference -/
/-- what is left of xs without done -/
structure LInv (xs done : List Tri) (d : Dic) : Prop where
  nd : (keys d).Nodup
  wts : ∀ f, Sym f → dwt f d = wt f xs - wt f done
  ok : ∀ e ∈ d, e.1.1 < e.1.2 ∧ 0 ≤ e.2
  sub : ∀ e ∈ d, ∃ s ∈ xs, s.1 = e.1.1 ∧ s.2.1 = e.1.2
  len : d.length = xs.length
theorem nrm_nodup : ∀ {xs : List Tri}, Nrm xs → (xs.map key).Nodup
  | [], _ => List.nodup_nil
  | t :: r, h => by
    rw [List.map_cons]
    refine List.nodup_cons.mpr ⟨fun z => ?_, nrm_nodup h.tail⟩
    obtain ⟨s, hs, e⟩ := List.mem_map.mp z
    have h1 := (List.pairwise_cons.mp h.srt).1 s hs
    rw [e] at h1
    unfold klt at h1
    omega
/-- the dict of a normal list -/
def dicOf (xs : List Tri) : Dic := xs.map fun t => ((t.1, t.2.1), t.2.2)
theorem keys_dicOf (xs : List Tri) : keys (dicOf xs) = xs.map key := by
  unfold keys dicOf
  rw [List.map_map]
  rfl
theorem dwt_dicOf (f : Int → Int → Int) : ∀ xs : List Tri, dwt f (dicOf xs) = wt f xs
  | [] => rfl
  | t :: r => by
    show t.2.2 * f t.1 t.2.1 + dwt f (dicOf r) = t.2.2 * f t.1 t.2.1 + wt f r
    rw [dwt_dicOf f r]
theorem LInv.start {xs : List Tri} (h : Nrm xs) : LInv xs [] (dicOf xs) := by
  refine ⟨by rw [keys_dicOf]; exact nrm_nodup h, fun f _ => by rw [dwt_dicOf, wt_nil]; omega, fun e he => ?_, fun e he => ?_, List.length_map ..⟩
  · obtain ⟨t, ht, rfl⟩ := List.mem_map.mp he
    have := h.ok t ht
    exact ⟨this.1, Int.le_of_lt this.2⟩
  · obtain ⟨t, ht, rfl⟩ := List.mem_map.mp he
    exact ⟨t, ht, rfl, rfl⟩
theorem dwt_ind {d : Dic} {p q : Int} (hn : (keys d).Nodup) (ho : ∀ e ∈ d, e.1.1 < e.1.2) (hpq : p < q) : dwt (ind p q) d = dz d (p, q) := by
  induction d with
  | nil => rfl
  | cons e r ih =>
    obtain ⟨n1, n2⟩ := List.nodup_cons.mp hn
    have ih := ih n2 fun x hx => ho x (List.mem_cons_of_mem _ hx)
    have oe := ho e (List.mem_cons_self ..)
    rw [dz_cons]
    show e.2 * ind p q e.1.1 e.1.2 + dwt (ind p q) r = _
    rw [ih]
    by_cases h : e.1 = (p, q)
    · rw [if_pos h, h, ind_self, dz_out (by rw [← h]; exact n1)]
      omega
    · rw [if_neg h, ind_no, Int.mul_zero]
      · omega
      · rintro (z | z)
        · exact h (Prod.ext z.1 z.2)
        · omega
/-- enough is left for the next entry -/
theorem LInv.room {xs zs done more : List Tri} {d : Dic} {a b n : Int} (h : LInv xs done d) (hw : ∀ f, Sym f → wt f xs = wt f zs + wt f (done ++ (a, b, n) :: more)) (hz : ∀ t ∈ zs, 0 ≤ t.2.2) (hm : ∀ t ∈ more, 0 ≤ t.2.2) (hab : a < b) : n ≤ dz d (a, b) := by
  rw [← dwt_ind h.nd (fun e he => (h.ok e he).1) hab, h.wts _ (ind_sym _ _), hw _ (ind_sym _ _), wt_append, wt_cons]
  show n ≤ wt (ind a b) zs + (wt (ind a b) done + (n * ind a b a b + wt (ind a b) more)) - wt (ind a b) done
  rw [ind_self]
  have h1 := wt_nonneg (ind a b) (ind_nonneg a b) zs hz
  have h2 := wt_nonneg (ind a b) (ind_nonneg a b) more hm
  omega
theorem LInv.has {xs done : List Tri} {d : Dic} {k : Int × Int} (h : LInv xs done d) {n : Int} (hn : 0 < n) (hd : n ≤ dz d k) : k ∈ keys d := by
  refine Classical.byContradiction fun q => ?_
  rw [dz_out q] at hd
  omega
theorem LInv.step {xs done : List Tri} {d : Dic} {a b n : Int} (h : LInv xs done d) (hn : 0 < n) (hd : n ≤ dz d (a, b)) : LInv xs (done ++ [(a, b, n)]) (dput d (a, b) (dz d (a, b) - n)) := by
  have hk := h.has hn hd
  refine ⟨nodup_put _ _ h.nd, fun f hf => ?_, fun e he => ?_, fun e he => ?_, by rw [length_put_in _ hk]; exact h.len⟩
  · rw [dwt_put f _ _ h.nd, h.wts f hf, wt_append, wt_cons, wt_nil]
    show wt f xs - wt f done + (dz d (a, b) - n - dz d (a, b)) * f a b = wt f xs - (wt f done + (n * f a b + 0))
    rw [show dz d (a, b) - n - dz d (a, b) = -n by omega, Int.neg_mul]
    omega
  · rcases mem_put he with he | rfl
    · exact h.ok e he
    · exact ⟨(h.ok _ (dz_mem hk)).1, by dsimp only; omega⟩
  · rcases mem_put he with he | rfl
    · exact h.sub e he
    · obtain ⟨s, hs, q⟩ := h.sub _ (dz_mem hk)
      exact ⟨s, hs, q⟩

/-! ### tables -/
/-- 1 where the pins a and b part the gaps i and j -/
def chi (i j a b : Int) : Int := if (decide (lo a b ≤ i) && decide (i < hi a b)) = (decide (lo a b ≤ j) && decide (j < hi a b)) then 0 else 1
theorem chi_sym (i j : Int) : Sym (chi i j) := fun a b => by
  have e : lo a b = lo b a ∧ hi a b = hi b a := by
    unfold lo hi
    rcases Int.lt_trichotomy a b with h | h | h
    · rw [if_neg (by omega), if_pos h, if_pos h, if_neg (by omega)]
      exact ⟨rfl, rfl⟩
    · subst h
      exact ⟨rfl, rfl⟩
    · rw [if_pos h, if_neg (by omega), if_neg (by omega), if_pos h]
      exact ⟨rfl, rfl⟩
  unfold chi
  rw [e.1, e.2]
theorem chi_swap (i j a b : Int) : chi i j a b = chi j i a b := by
  unfold chi
  by_cases h : (decide (lo a b ≤ i) && decide (i < hi a b)) = (decide (lo a b ≤ j) && decide (j < hi a b))
  · rw [if_pos h, if_pos h.symm]
  · rw [if_neg h, if_neg fun z => h z.symm]
theorem chi_diag (i a b : Int) : chi i i a b = 0 := if_pos rfl
/-- the cords that pass, counted one by one -/
theorem passing_eq (i j : Int) : ∀ xs : List Tri, (∀ t ∈ xs, t.1 < t.2.1) →
    ((xs.filter fun t => (decide (t.1 ≤ i) && decide (i < t.2.1)) != (decide (t.1 ≤ j) && decide (j < t.2.1))).map (·.2.2)).sum = wt (chi i j) xs
  | [], _ => rfl
  | t :: r, h => by
    have ih := passing_eq i j r fun s hs => h s (List.mem_cons_of_mem _ hs)
    have e := lo_hi_of (h t (List.mem_cons_self ..))
    rw [wt_cons]
    unfold chi at ih ⊢
    rw [e.1, e.2]
    by_cases q : (decide (t.1 ≤ i) && decide (i < t.2.1)) = (decide (t.1 ≤ j) && decide (j < t.2.1))
    · rw [if_pos q, List.filter_cons_of_neg (by rw [q]; simp), ih, Int.mul_zero]
      omega
    · rw [if_neg q, List.filter_cons_of_pos (by simpa using q), List.map_cons, List.sum_cons, ih]
      omega
/-- the table of xs on a rim with so many gaps -/
def tabOf (n : Nat) (xs : List Tri) : List (List Int) := (List.range n).map fun (i : Nat) => (List.range n).map fun (j : Nat) => wt (chi i j) xs
theorem tabOf_congr {n : Nat} {xs ys : List Tri} (h : ∀ f, Sym f → wt f xs = wt f ys) : tabOf n xs = tabOf n ys := by
  unfold tabOf
  refine List.map_congr_left fun i _ => List.map_congr_left fun j _ => h _ (chi_sym _ _)
theorem tabOf_length (n : Nat) (xs : List Tri) : (tabOf n xs).length = n := by
  unfold tabOf
  rw [List.length_map, List.length_range]
theorem tabOf_row {n : Nat} (xs : List Tri) {i : Nat} (h : i < n) : (tabOf n xs)[i]? = some ((List.range n).map fun (j : Nat) => wt (chi i j) xs) := by
  unfold tabOf
  rw [List.getElem?_map, List.getElem?_range h]
  rfl

/-! ### the walk clockwise -/
/-- pin x has been passed after so many steps from gap i -/
def met (n i step x : Nat) : Bool := decide (0 < (x + n - i) % n ∧ (x + n - i) % n ≤ step)
theorem off_eq {n i x : Nat} (hi : i < n) (hx : x < n) : (x + n - i) % n = if i ≤ x then x - i else x + n - i := by
  by_cases h : i ≤ x
  · rw [if_pos h, show x + n - i = (x - i) + n by omega, Nat.add_mod_right, Nat.mod_eq_of_lt (by omega)]
  · rw [if_neg h, Nat.mod_eq_of_lt (by omega)]
theorem to_eq {n i step : Nat} (hi : i < n) (hs : step < n) : (i + step) % n = if i + step < n then i + step else i + step - n := by
  by_cases h : i + step < n
  · rw [if_pos h, Nat.mod_eq_of_lt h]
  · rw [if_neg h, show i + step = (i + step - n) + n by omega, Nat.add_mod_right, Nat.mod_eq_of_lt (by omega)]
    omega
theorem met_zero (n i x : Nat) : met n i 0 x = false := by
  unfold met
  rw [decide_eq_false]
  omega
/-- the next step passes the pin behind it -/
theorem met_succ {n i step x : Nat} (hi : i < n) (hs : step + 1 < n) (hx : x < n) : met n i (step + 1) x = if x = (i + (step + 1)) % n then true else met n i step x := by
  unfold met
  rw [off_eq hi hx, to_eq hi hs]
  by_cases h1 : i ≤ x
  · rw [if_pos h1]
    by_cases h2 : i + (step + 1) < n
    · rw [if_pos h2]
      by_cases h3 : x = i + (step + 1)
      · rw [if_pos h3, decide_eq_true (by omega)]
      · rw [if_neg h3]
        exact decide_eq_decide.mpr (by omega)
    · rw [if_neg h2, if_neg (by omega)]
      exact decide_eq_decide.mpr (by omega)
  · rw [if_neg h1]
    by_cases h2 : i + (step + 1) < n
    · rw [if_pos h2, if_neg (by omega)]
      exact decide_eq_decide.mpr (by omega)
    · rw [if_neg h2]
      by_cases h3 : x = i + (step + 1) - n
      · rw [if_pos h3, decide_eq_true (by omega)]
      · rw [if_neg h3]
        exact decide_eq_decide.mpr (by omega)
theorem met_chi {n i step : Nat} (hi : i < n) (h0 : 0 < step) (hs : step < n) {a b : Nat} (hab : a < b) (hb : b < n) :
    (met n i step a != met n i step b) = !decide (chi (i : Int) (((i + step) % n : Nat) : Int) (a : Int) (b : Int) = 0) := by
  have e := lo_hi_of (show (a : Int) < (b : Int) by omega)
  have ea : met n i step a = decide ((i < a ∧ a ≤ i + step) ∨ (a < i ∧ a + n ≤ i + step)) := by
    unfold met
    rw [off_eq hi (by omega)]
    exact decide_eq_decide.mpr (by split <;> omega)
  have eb : met n i step b = decide ((i < b ∧ b ≤ i + step) ∨ (b < i ∧ b + n ≤ i + step)) := by
    unfold met
    rw [off_eq hi hb]
    exact decide_eq_decide.mpr (by split <;> omega)
  have ej := to_eq hi hs
  unfold chi
  rw [e.1, e.2, ea, eb]
  generalize hj : (i + step) % n = j at ej ⊢
  have key : ((i < a ∧ a ≤ i + step ∨ a < i ∧ a + n ≤ i + step) ↔ (i < b ∧ b ≤ i + step ∨ b < i ∧ b + n ≤ i + step)) ↔ (((a : Int) ≤ i ∧ (i : Int) < b) ↔ ((a : Int) ≤ j ∧ (j : Int) < b)) := by
    by_cases h2 : i + step < n
    · rw [if_pos h2] at ej
      omega
    · rw [if_neg h2] at ej
      omega
  by_cases q : (((a : Int) ≤ i ∧ (i : Int) < b) ↔ ((a : Int) ≤ j ∧ (j : Int) < b))
  · have q1 : decide ((a : Int) ≤ i ∧ (i : Int) < b) = decide ((a : Int) ≤ j ∧ (j : Int) < b) := decide_eq_decide.mpr q
    have q2 : decide (i < a ∧ a ≤ i + step ∨ a < i ∧ a + n ≤ i + step) = decide (i < b ∧ b ≤ i + step ∨ b < i ∧ b + n ≤ i + step) := decide_eq_decide.mpr (key.mpr q)
    rw [← Bool.decide_and, ← Bool.decide_and, if_pos q1, q2, bne_self_eq_false]
    rfl
  · have q1 : ¬ (decide ((a : Int) ≤ i ∧ (i : Int) < b) = decide ((a : Int) ≤ j ∧ (j : Int) < b)) := fun z => q (decide_eq_decide.mp z)
    have q2 : ¬ (decide (i < a ∧ a ≤ i + step ∨ a < i ∧ a + n ≤ i + step) = decide (i < b ∧ b ≤ i + step ∨ b < i ∧ b + n ≤ i + step)) := fun z => q (key.mp (decide_eq_decide.mp z))
    rw [← Bool.decide_and, ← Bool.decide_and, if_neg q1]
    rw [show (!decide ((1 : Int) = 0)) = true from rfl, bne_iff_ne]
    exact q2
/-- what the walk counts at its step is what passes -/
theorem walk_eq {n i step : Nat} (hi : i < n) (h0 : 0 < step) (hs : step < n) (m : Int → Bool) (hm : ∀ x : Nat, x < n → m (x : Int) = met n i step x) : ∀ xs : List Tri, (∀ t ∈ xs, 0 ≤ t.1 ∧ t.1 < t.2.1 ∧ t.2.1 < n) →
    ((xs.filter fun t => m t.1 != m t.2.1).map (·.2.2)).sum = wt (chi (i : Int) (((i + step) % n : Nat) : Int)) xs
  | [], _ => rfl
  | t :: r, h => by
    have ih := walk_eq hi h0 hs m hm r fun s hs => h s (List.mem_cons_of_mem _ hs)
    obtain ⟨h1, h2, h3⟩ := h t (List.mem_cons_self ..)
    obtain ⟨a, ha⟩ : ∃ a : Nat, t.1 = (a : Int) := ⟨t.1.toNat, by omega⟩
    obtain ⟨b, hb⟩ : ∃ b : Nat, t.2.1 = (b : Int) := ⟨t.2.1.toNat, by omega⟩
    have e : (m t.1 != m t.2.1) = !decide (chi (i : Int) (((i + step) % n : Nat) : Int) t.1 t.2.1 = 0) := by
      rw [ha, hb, hm a (by omega), hm b (by omega)]
      exact met_chi hi h0 hs (by omega) (by omega)
    have e01 : chi (i : Int) (((i + step) % n : Nat) : Int) t.1 t.2.1 = 0 ∨ chi (i : Int) (((i + step) % n : Nat) : Int) t.1 t.2.1 = 1 := by
      unfold chi
      split
      · exact .inl rfl
      · exact .inr rfl
    rw [wt_cons]
    rcases e01 with z | z
    · rw [z] at e ⊢
      rw [List.filter_cons_of_neg (by rw [e]; decide), ih, Int.mul_zero]
      omega
    · rw [z] at e ⊢
      rw [List.filter_cons_of_pos (by rw [e]; decide), List.map_cons, List.sum_cons, ih]
      omega
end RC
set_option maxRecDepth 100000
set_option maxHeartbeats 4000000
/-! Rules that the layer lacks: a walk over a list or a tuple, own operators, a call by one keyword, sorted of a dict whose keys are pairs. -/
namespace Rc
open PySem L2

/-! ### for x in xs, xs a list or a tuple: which of them is told at the walk -/
section
variable {X : Cx} {tg : Expr}
def iSeq (K : PySem.W.Frag) (tl : TE) : TI := fun σ H R => tl σ H fun x H1 => ∃ a, x = .ref a ∧ (((∃ xs, SqL K H1 a xs) ∧ R (Itl K a) H1) ∨ ((∃ xs, SqT K H1 a xs) ∧ R (Itt K a) H1))
theorem pi_seq {l : Expr} {tl : TE} (hl : PE X l tl) : PI X tg l (iSeq X.K tl) := by
  constructor
  intro pins s σ H R I h
  refine thn (hl.run pins s σ H _ I h) fun v s1 hv => ?_
  obtain ⟨x, H1, I1, r1, a, rfl, hq⟩ := hv
  cases r1
  have pin : ∀ b ∈ [s1.heap.objs.size], FpOk X pins H1 b := fun b hb => by
    rw [List.mem_singleton.mp hb]
    exact I1.fpOk (Nat.le_refl _) (I1.hok.fresh (Nat.le_refl _))
  rcases hq with ⟨⟨xs, hx⟩, q⟩ | ⟨⟨xs, hx⟩, q⟩
  · obtain ⟨its, rv, p, hz⟩ := I1.list hx
    refine wpAny_pyIter_list p.isList ⟨_, _, _, _, H1, rfl, ?_, turn_list a s1.heap.objs.size, ?_, pin, q⟩
    · exact I1.kept (t' := s1.toks) fun b o e => Heap.get?_push_of_some _ e
    · exact ⟨_, Heap.get?_push_size _ rfl, rfl, rfl⟩
  · obtain ⟨its, rv, p, hz⟩ := I1.tuple hx
    refine wpAny_pyIter_tuple (show s1.heap.IsTuple a its.toArray from p) ⟨_, _, _, _, H1, rfl, ?_, turn_tuple a s1.heap.objs.size, ?_, pin, q⟩
    · exact I1.kept (t' := s1.toks) fun b o e => Heap.get?_push_of_some _ e
    · exact ⟨_, Heap.get?_push_size _ rfl, rfl, rfl⟩
end

/-! ### operators of an own class -/
section
variable {X : Cx} {CX : CXT} {k : Nat} {C f : Addr} {fd : FuncData} {ps : List Str} {sp : Sp} {E : XK} {op : Operator}
theorem noNotImpl {pins : List (Addr × Obj)} {σ : St} {Q : VK} {u : Value} {s' : Shared} (h : EP X pins σ Q u s') : PySem.W.CmpBack (EP X pins σ Q) u s' := by
  cases u with
  | notImplemented =>
    obtain ⟨v, H', _, r, _⟩ := h
    cases v <;> simp [RelV] at r
  | _ => exact h
/-- x + y, both of the class C, by its def f -/
def rOwn (C : Addr) (sp : Sp) (E : XK) : R2 := fun x y H Q => ∃ a dx fs b dy gs, x = .ref a ∧ y = .ref b ∧ H a = some (.ins C dx fs) ∧ H b = some (.ins C dy gs) ∧ sp [.ref a, .ref b] H Q E
theorem op_own (F : FnOk X.prog X.w X.K X.mg X.base CX k f fd ps sp) (hr : Room k X.A) (hb : Binds X.K fd ps []) (hx : Passes CX X E) (hc : PySem.W.selfFirst X.K C = true)
    (hs : PySem.W.findIn X.K (.ref C) (PySem.dunder op.info.2) = some (some (.ref f))) (hf : PySem.W.isFn X.K (.ref f) = true) : OpR X (binaryOp op) (rOwn C sp E) := by
  intro pins s σ H x y v u Q I rx ry h
  obtain ⟨a, dx, fs, b, dy, gs, rfl, rfl, ea, eb, h⟩ := h
  cases rx
  cases ry
  obtain ⟨_, O, _⟩ := ins_get I.hok ea
  obtain ⟨_, O', _⟩ := ins_get I.hok eb
  obtain ⟨_, J, _⟩ := O.look
  obtain ⟨_, J', _⟩ := O'.look
  obtain ⟨m, Fm⟩ := I.fr
  refine PySem.W.binop_K Fm I.ok.mod.kin J J'.type hc hs hf ?_
  exact wpAny_mono (run_fn (dvs := []) (ds := []) (vs := [.ref a, .ref b]) F hr hb .nil hx I (.cons rfl (.cons rfl .nil)) h) (fun _ _ q => noNotImpl q) fun _ _ z => z
/-- x * n, x of the class C, n a whole number, by its def f -/
def rOwnI (C : Addr) (sp : Sp) (E : XK) : R2 := fun x y H Q => ∃ a dx fs n, x = .ref a ∧ y = .int n ∧ H a = some (.ins C dx fs) ∧ sp [.ref a, .int n] H Q E
theorem op_ownI {fo ro : Option Value} (F : FnOk X.prog X.w X.K X.mg X.base CX k f fd ps sp) (hr : Room k X.A) (hb : Binds X.K fd ps []) (hx : Passes CX X E) (hc : PySem.W.selfFirst X.K C = true)
    (hs : PySem.W.findIn X.K (.ref C) (PySem.dunder op.info.2) = some (some (.ref f))) (hf : PySem.W.isFn X.K (.ref f) = true) (hR : PySem.W.findIn X.K (.ref C) (dunderR op.info.2) = some none)
    (h1 : PySem.W.findIn X.K (.type "int") (PySem.dunder op.info.2) = some fo) (h2 : PySem.W.findIn X.K (.type "int") (dunderR op.info.2) = some ro) (hsub : PySem.W.subIn X.K (.type "int") (.ref C) = some false) :
    OpR X (binaryOp op) (rOwnI C sp E) := by
  intro pins s σ H x y v u Q I rx ry h
  obtain ⟨a, dx, fs, n, rfl, rfl, ea, h⟩ := h
  cases rx
  obtain ⟨t, rfl⟩ := ry
  obtain ⟨_, O, _⟩ := ins_get I.hok ea
  obtain ⟨_, J, _⟩ := O.look
  obtain ⟨m, Fm⟩ := I.fr
  refine PySem.W.ksp_binT (T := "int") Fm I.ok.mod.kin J rfl hc hs hf hR (.inl rfl) h1 h2 hsub ?_
  exact wpAny_mono (run_fn (dvs := []) (ds := []) (vs := [.ref a, .int n]) F hr hb .nil hx I (.cons rfl (.cons ⟨t, rfl⟩ .nil)) h) (fun _ _ q => noNotImpl q) fun _ _ z => z
end

/-! ### f(k=e, ..): keywords alone -/
section
variable {X : Cx} {CX : CXT} {k : Nat} {f : Addr} {fd : FuncData} {ps ks : List Str} {sp : Sp} {E : XK} {x : Str} {p pos : Pos} {kws : List Keyword} {tk : TA} {g : List Value → List Value → List Value} {gV : List V → List V → List V}
def tCallK0 (sp : Sp) (gV : List V → List V → List V) (E : XK) (tk : TA) : TE := fun σ H Q => tk σ H fun zs H2 => sp (gV [] zs) H2 Q E
end

/-! ### dicts whose keys are pairs of ints -/
/-- a pair as a key -/
def encK (k : Int × Int) : List L2.Key := [Sum.inl k.1, Sum.inl k.2]
theorem encK_inj {k j : Int × Int} (h : encK k = encK j) : k = j := by
  unfold encK at h
  injection h with h1 h2
  injection h2 with h2 _
  injection h1 with h1
  injection h2 with h2
  exact Prod.ext h1 h2
/-- the dict d as the layer tells it -/
def encD (d : RC.Dic) : List (List L2.Key × V) := d.map fun e => (encK e.1, V.int e.2)
theorem encD_len (d : RC.Dic) : (encD d).length = d.length := List.length_map ..
theorem val_encD (k : Int × Int) : ∀ d : RC.Dic, valV (encD d) (encK k) = (RC.dget d k).map V.int
  | [] => rfl
  | e :: r => by
    have ih := val_encD k r
    rw [RC.dget_cons]
    by_cases h : e.1 = k
    · rw [if_pos h]
      exact valV_pos (by show encK e.1 = encK k; rw [h])
    · rw [if_neg h, ← ih]
      exact valV_neg fun z => h (encK_inj z)
theorem any_encD (d : RC.Dic) (k : Int × Int) : ((encD d).any fun kv => decide (kv.1 = encK k)) = d.any fun e => decide (e.1 = k) := by
  unfold encD
  rw [List.any_map]
  congr 1
  funext e
  exact decide_eq_decide.mpr ⟨fun z => encK_inj z, fun z => congrArg encK z⟩
theorem put_encD (d : RC.Dic) (k : Int × Int) (v : Int) : putK (encD d) (encK k) (V.int v) = encD (RC.dput d k v) := by
  unfold putK RC.dput
  rw [any_encD]
  by_cases h : (d.any fun e => decide (e.1 = k)) = true
  · rw [if_pos h, if_pos h]
    unfold encD
    rw [List.map_map, List.map_map]
    refine List.map_congr_left fun e _ => ?_
    show (if encK e.1 = encK k then (encK e.1, V.int v) else (encK e.1, V.int e.2)) = (encK (if e.1 = k then (e.1, v) else e).1, V.int (if e.1 = k then (e.1, v) else e).2)
    by_cases q : e.1 = k
    · rw [if_pos q, if_pos (congrArg encK q)]
    · rw [if_neg q, if_neg fun z => q (encK_inj z)]
  · rw [if_neg h, if_neg h]
    unfold encD
    rw [List.map_append]
    rfl
theorem tup_key (k : Int × Int) : (encK k).map kV = [V.int k.1, V.int k.2] := rfl

/-- the pair that stands at a value -/
def pairAt (H : Hp) (v : V) : Int × Int := match v with
  | .ref a => (match H a with
    | some (.tup [.int i, .int j]) => (i, j)
    | _ => (0, 0))
  | _ => (0, 0)
theorem pairAt_of {H : Hp} {a : Addr} {i j : Int} (h : H a = some (.tup [.int i, .int j])) : pairAt H (.ref a) = (i, j) := by
  show (match H a with
    | some (.tup [.int i, .int j]) => (i, j)
    | _ => (0, 0)) = (i, j)
  rw [h]
/-- the references rs stand at the pairs ks -/
def PairsAt (H : Hp) (rs : List Addr) (ks : List (Int × Int)) : Prop := Paired (fun (r : Addr) (k : Int × Int) => H r = some (.tup [.int k.1, .int k.2])) rs ks
theorem PairsAt.same {H H' : Hp} (e : Same H H') : ∀ {rs : List Addr} {ks : List (Int × Int)}, PairsAt H rs ks → PairsAt H' rs ks
  | _, _, .nil => .nil
  | _, _, .cons h t => .cons (e _ _ h) (PairsAt.same e t)
theorem PairsAt.map {H : Hp} : ∀ {rs : List Addr} {ks : List (Int × Int)}, PairsAt H rs ks → ks = rs.map fun r => pairAt H (.ref r)
  | _, _, .nil => rfl
  | _, _, .cons h t => by
    rw [List.map_cons, ← PairsAt.map t, pairAt_of h]
theorem PairsAt.back {H : Hp} : ∀ {rs : List Addr}, (∀ r ∈ rs, ∃ i j, H r = some (.tup [.int i, .int j])) → PairsAt H rs (rs.map fun r => pairAt H (.ref r))
  | [], _ => .nil
  | r :: rs, h => by
    obtain ⟨i, j, e⟩ := h r (List.mem_cons_self ..)
    rw [List.map_cons, pairAt_of e]
    exact .cons e (PairsAt.back fun s hs => h s (List.mem_cons_of_mem _ hs))
theorem PairsAt.each {H : Hp} : ∀ {rs : List Addr} {ks : List (Int × Int)}, PairsAt H rs ks → ∀ r ∈ rs, ∃ i j, H r = some (.tup [.int i, .int j])
  | _, _, .cons h t, r, hr => by
    rcases List.mem_cons.mp hr with e | hr
    · rw [e]
      exact ⟨_, _, h⟩
    · exact PairsAt.each t r hr
  | _, _, .nil, r, hr => by cases hr
theorem ltP_klt {a b : Int × Int} : SrtO.lexB a b = false ↔ ¬ RC.klt a b := by
  rw [SrtO.lexB_no]
  rfl

section
variable {X : Cx}
/-- sorted(xs), a list of pairs of ints -/
def rSortPairs (K : PySem.W.Frag) : List V → Hp → VK → Prop := fun vs H Q => ∃ (a : Addr) (rs : List Addr) (ks : List (Int × Int)), vs = [V.ref a] ∧ SqL K H a (rs.map V.ref) ∧ PairsAt H rs ks ∧
  ∀ (qs : List Addr) (js : List (Int × Int)) (p : Addr), js.Perm ks → js.Pairwise (fun u v => ¬ RC.klt v u) → PairsAt H qs js → H p = none → Q (.ref p) (upd H p (.lst (qs.map V.ref)))
theorem refs_list : ∀ {ys : List V}, (∀ y ∈ ys, ∃ r, y = V.ref r) → ∃ rs : List Addr, ys = rs.map V.ref
  | [], _ => ⟨[], rfl⟩
  | y :: ys, h => by
    obtain ⟨r, rfl⟩ := h y (List.mem_cons_self ..)
    obtain ⟨rs, e⟩ := refs_list fun z hz => h z (List.mem_cons_of_mem _ hz)
    exact ⟨r :: rs, by rw [e]; rfl⟩
/-- a rearrangement of references in order, as pairs -/
theorem sorted_refs {H : Hp} {rs : List Addr} {ks : List (Int × Int)} (hp : PairsAt H rs ks) {ys : List V} (h1 : SrtO.Srtd (ltP (pairAt H)) ys) (h2 : ys.Perm (rs.map V.ref)) :
    ∃ (qs : List Addr) (js : List (Int × Int)), ys = qs.map V.ref ∧ js.Perm ks ∧ js.Pairwise (fun u v => ¬ RC.klt v u) ∧ PairsAt H qs js := by
  obtain ⟨qs, rfl⟩ := refs_list (ys := ys) fun y hy => by
    obtain ⟨r, _, e⟩ := List.mem_map.mp (h2.mem_iff.mp hy)
    exact ⟨r, e.symm⟩
  have hq : ∀ q ∈ qs, ∃ i j, H q = some (.tup [.int i, .int j]) := fun q hq => by
    obtain ⟨r, hr, e⟩ := List.mem_map.mp (h2.mem_iff.mp (List.mem_map.mpr ⟨q, hq, rfl⟩))
    cases e
    exact hp.each _ hr
  refine ⟨qs, qs.map fun r => pairAt H (.ref r), rfl, ?_, ?_, PairsAt.back hq⟩
  · have e := h2.map (pairAt H)
    rw [List.map_map, List.map_map] at e
    rw [hp.map]
    exact e
  · rw [List.pairwise_map]
    exact (List.pairwise_map.mp h1).imp fun z => ltP_klt.mp z
theorem cr_sortPairs : CallR X (.builtin "sorted") (rSortPairs X.K) := by
  intro pins s σ H vs us Q I r h
  obtain ⟨a, rs, ks, rfl, hs, hp, q⟩ := h
  refine cr_sortedPO pins s σ H [.ref a] us Q I r ⟨a, rs.map V.ref, pairAt H, rfl, hs, fun x hx => ?_, fun ys p h1 h2 np => ?_⟩
  · obtain ⟨r, hr, rfl⟩ := List.mem_map.mp hx
    obtain ⟨i, j, e⟩ := hp.each r hr
    exact ⟨r, rfl, by rw [pairAt_of e]; exact e⟩
  · obtain ⟨qs, js, rfl, a1, a2, a3⟩ := sorted_refs hp h1 h2.perm
    exact q qs js p a1 a2 a3 np

/-- sorted(d), d a dict whose keys are pairs of ints: a new list of its key tuples -/
def rSortDic : List V → Hp → VK → Prop := fun vs H Q => ∃ (a : Addr) (d : RC.Dic), vs = [V.ref a] ∧ H a = some (.dT (encD d)) ∧
  ∀ (qs : List Addr) (js : List (Int × Int)) (p : Addr), js.Perm (RC.keys d) → js.Pairwise (fun u v => ¬ RC.klt v u) → PairsAt H qs js → H p = none → Q (.ref p) (upd H p (.lst (qs.map V.ref)))
theorem keys_at {H : Hp} : ∀ {d : RC.Dic} {xs : List (List L2.Key × Addr × Value)}, KT H (encD d) xs → PairsAt H (xs.map fun x => x.2.1) (RC.keys d)
  | [], _, .nil => .nil
  | _ :: _, _, .cons h t => .cons h.2.1 (keys_at t)
end
end Rc
/-! Further rules: f(k=e) by keywords alone, sorted(d) of a dict of pairs, {(a, b): n for .. in a tuple}. -/
namespace Rc
open PySem L2

section
variable {X : Cx} {CX : CXT} {k n : Nat} {f : Addr} {fd : FuncData} {ps ks : List Str} {sp : Sp} {E : XK} {x : Str} {p pos : Pos} {kws : List Keyword} {tk : TA} {g : List Value → List Value → List Value} {gV : List V → List V → List V}
/-- all arguments by keywords -/
def tKws (m : Nat) (sp : Sp) (gV : List V → List V → List V) (E : XK) (tk : TA) : TE := fun σ H Q => tk σ H fun zs H2 => zs.length = m ∧ sp (gV [] zs) H2 Q E
theorem pe_kws (F : FnOk X.prog X.w X.K X.mg X.base CX k f fd ps sp) (hr : Room k X.A) (hg : Gl X x) (hm : X.mg x = some (.ref f)) (hk : PySem.W.keepIn X.K (.ref f) = true) (hb : KBn X.K fd ps 0 ks g gV) (hx : Passes CX X E) (hkw : PK X kws tk)
    (hall : (backToKw pos (keywordEach kws X.env)).all (·.1.isSome) = true := by rfl) (hks : (backToKw pos (keywordEach kws X.env)).filterMap (·.1) = ks := by rfl)
    (hdb : (x == ("__debug__" : Str)) = false := by decide) (hpl : ((backTo pos (starEach [] X.env)).any (·.1) || (backToKw pos (keywordEach kws X.env)).any (·.1.isNone)) = false := by rfl) :
    PE X (.Call (.Name x p) [] kws pos) (tKws ks.length sp gV E tk) := by
  constructor
  intro pins s σ H Q I h
  refine wpAny_Call_Name_kw (ld_glob I hg hm ?_ hdb)
  refine PySem.W.callWith_KW0 (h₀ := X.base) I.ok.mod.kin hk hall (thn (hkw.run pos pins s σ H _ I h) fun ws s2 hw => ?_) hpl
  obtain ⟨zs, H2, I2, rz, l2, q2⟩ := hw
  refine ⟨I2.kIn, ?_⟩
  rw [hks]
  exact run_fnN (us := []) (vs := []) F hr hb hx I2 .nil rz rfl l2 q2
end

section
variable {X : Cx}
theorem pair_value {pins : List (Addr × Obj)} {σ : St} {H : Hp} {s : Shared} (I : Inv X pins σ H s) {r : Addr} {i j : Int} (h : H r = some (.tup [.int i, .int j])) : Srt.IsPair s.heap (.ref r) i j := by
  obtain ⟨_, its, rv, o, ho, hc, n, hd⟩ := I.hok _ _ h
  obtain ⟨u1, u2, rfl, ⟨t1, rfl⟩, ⟨t2, rfl⟩⟩ := vals2 rv
  exact ⟨r, o, t1, t2, n, rfl, ho, hc, hd⟩
theorem cr_sortDic (hcalm : X.calm = true) : CallR X (.builtin "sorted") rSortDic := by
  intro pins s σ H xs us Q I r h
  obtain ⟨a, d, rfl, hd, q⟩ := h
  obtain ⟨u, rfl, rx⟩ := vals1 r
  cases rx
  obtain ⟨zl, hsm, ks, kt, o, es, ep, ho, hex, hdat, hent, hnd⟩ := (show ObjOk X.prog X.w H s.heap a (.dT (encD d)) from I.hok _ _ hd)
  have les : es.size = ks.length := size_of_entries hent
  have lks : (encD d).length = ks.length := Paired.length kt
  have hpa : PairsAt H (ks.map fun x => x.2.1) (RC.keys d) := keys_at kt
  generalize hrs : ks.map (fun x => x.2.1) = rs at hpa
  have lrs : rs.length = ks.length := by rw [← hrs, List.length_map]
  -- sorted(..): what it collects, the list, its sort
  refine Calls.call_function_entry PyProof.Rows.kind_sorted PyProof.Rows.plain_sorted PyProof.Rows.entry_sorted (PyProof.Rows.args_sorted1 _) ?_
  unfold Builtin.«sorted»
  refine wpAny_bind (m := checkCount "sorted" 1 1 _) (wpAny_pure ?_)
  refine wpAny_bind (PySem.W.kdu_collect (A := X.A.in1) (kdl_raw hsm hex hdat) (I.ok.hd hcalm) ho (by omega) fun h' tk acc kp items => ?_)
  have lacc : acc.toList.length = ks.length := by rw [Array.length_toList, items.1, les]
  have eacc : acc.toList = rs.map Value.ref := by
    apply List.ext_getElem?
    intro j
    by_cases hj : j < ks.length
    · obtain ⟨en, hen, hv⟩ := items.2 j (acc.toList[j]'(by omega)) (by rw [← Array.getElem?_toList]; exact List.getElem?_eq_getElem (by omega))
      have qe := entry_at hent j
      rw [hen, List.getElem?_eq_getElem hj] at qe
      have e2 : en = entryOfKey (tupleKind (mixKind X.prog X.w)) ks[j] := Option.some.inj qe
      rw [List.getElem?_eq_getElem (by omega), hv, e2, ← hrs, List.map_map, List.getElem?_map, List.getElem?_eq_getElem hj]
      rfl
    · rw [List.getElem?_eq_none (by omega), List.getElem?_eq_none (by rw [List.length_map]; omega)]
  have I1 : Inv X pins σ H { s with heap := h', toks := tk } := I.kept kp
  generalize acc.toList = vs at lacc eacc ⊢
  have zvs : vs.length ≤ sizeLine := by omega
  refine wpAny_bind (wpAny_newList ?_ zvs)
  have hoL : (h'.push (PyProof.Rows.seqObj "list" vs.toArray 0)).get? h'.objs.size = some (PyProof.Rows.seqObj "list" vs.toArray 0) := Heap.get?_push_size _ rfl
  have I2 : Inv X pins σ H { s with heap := h'.push (PyProof.Rows.seqObj "list" vs.toArray 0), toks := tk } := I1.kept (t' := tk) fun b u e => Heap.get?_push_of_some _ e
  have hpv : ∀ v ∈ vs, Srt.IsPair (h'.push (PyProof.Rows.seqObj "list" vs.toArray 0)) v (pairAt H (backV v)).1 (pairAt H (backV v)).2 := fun v hv => by
    rw [eacc] at hv
    obtain ⟨r, hr, rfl⟩ := List.mem_map.mp hv
    obtain ⟨i, j, e⟩ := hpa.each r hr
    show Srt.IsPair _ _ (pairAt H (.ref r)).1 (pairAt H (.ref r)).2
    rw [pairAt_of e]
    exact pair_value I2 e
  show wpAny _ _ _ _ _ { s with heap := h'.push (PyProof.Rows.seqObj "list" vs.toArray 0), toks := tk }
  refine wpAny_bind (wpAny_holding (wpAny_call_entry PyProof.Rows.slot_list_sort ⟨_, hoL, rfl⟩ PyProof.Rows.entry_list_sort
    (SrtO.list_sort_ord (s := { s with heap := h'.push (PyProof.Rows.seqObj "list" vs.toArray 0), toks := tk }) (SrtO.swo_lex fun v => pairAt H (backV v)) hoL zvs
      (fun h2 => SrtO.pairs_sortableO (by omega) hpv fun o e => ?_) fun out h1 h2 => ⟨_, rfl, ?_⟩) (PyProof.Rows.args_list_sort _)))
  · have e' : some o = some (PyProof.Rows.seqObj "list" vs.toArray 0) := e.symm.trans hoL
    cases e'
    exact fun c => absurd (Value.type.inj c) (by decide)
  · have h3 : ∀ u ∈ out, ∃ a, u = Value.ref a := fun u hu => by
      have hm := h2.perm.mem_iff.mp hu
      rw [eacc] at hm
      obtain ⟨r, _, e⟩ := List.mem_map.mp hm
      exact ⟨r, e.symm⟩
    have eback : (rs.map Value.ref).map backV = rs.map V.ref := by rw [List.map_map]; rfl
    have hperm : (out.map backV).Perm (rs.map V.ref) := by
      rw [← eback, ← eacc]
      exact h2.perm.map backV
    obtain ⟨qs, js, eq, a1, a2, a3⟩ := sorted_refs hpa (SrtO.srtd_map (f := backV) h1) hperm
    obtain ⟨n, hn⟩ := PyProof.Rows.sortedHeap_at (out := out.toArray) hoL
    have zout : (out.map backV).length ≤ sizeLine := by
      rw [hperm.length_eq, List.length_map]
      omega
    refine wpAny_pure ⟨_, rfl, .ref h'.objs.size, upd H h'.objs.size (.lst (out.map backV)), I1.laid (t' := tk) (fun b u e => ?_) (Nat.le_refl _) ⟨zout, out, n, vals_back h3, hn⟩, rfl, ?_⟩
    · have hb : b < h'.objs.size := Heap.lt_size e
      rw [PyProof.Rows.sortedHeap_old (Nat.ne_of_lt hb) (by rw [PyProof.Rows.size_push']; exact Nat.lt_succ_of_lt hb)]
      exact Heap.get?_push_of_some _ e
    · rw [eq]
      exact q qs js _ a1 a2 a3 (I1.hok.fresh (Nat.le_refl _))
end
end Rc
/-! A dict comprehension whose keys are tuples. -/
namespace Rc
open PySem L2

/-- the block's store D[key] = value, the key a tuple -/
theorem dicT_set {X : Cx} {pins : List (Addr × Obj)} {σ : St} {H : Hp} {s : Shared} {E : Value → Shared → Prop} {D b : Addr} {kvs : List (List L2.Key × V)} {k : List L2.Key} {v : V} {r : Value} {Q : Unit → Shared → Prop}
    (hu : X.A.units + 1 < cLine) (I : Inv X pins σ H s) (hD : H D = some (.dT kvs)) (hb : H b = some (.tup (k.map kV))) (hz : kvs.length < sizeLine) (rv : RelV v r)
    (h : ∀ s', Inv X pins σ (upd H D (.dT (putK kvs k v))) s' → Q () s') : wpAny (model X.prog X.w) X.A (dictSet D (.ref b) r) Q E s := by
  obtain ⟨z, low, xs, rel, dd⟩ := dt_of I.hok hD
  have zx : xs.length ≤ sizeLine := by rw [← Paired.length rel]; exact z
  have room : (tupleKind (mixKind X.prog X.w)).room X.A := Nat.lt_of_le_of_lt (Nat.le_succ _) hu
  refine wpAny_dictSet_heap (hsz := zx) room (key_of I.hok hb) dd fun h' dd' sb => h _ ?_
  obtain ⟨o, es, ep, ho, hx, hdat, hent, _, hnd⟩ := dd'
  have zl : (putK kvs k v).length ≤ sizeLine := Nat.le_trans (length_putK kvs k v) hz
  refine d_write I (by rw [hD]; exact trivial) sb ⟨o, ho⟩ ⟨zl, low, _, KT.keeps (KT.put rel k hb rv) (fun c ys ec => ?_), o, es, ep, ho, hx, hdat, hent, hnd⟩
  have ne : c ≠ D := ne_of ec hD fun z => nomatch z
  rw [upd_ne ne]
  exact ec

section
variable {X : Cx}
/-- {key: value for target in iter}: D the new dict, its keys tuples -/
def tDcT (wi : TI) (g : TG) (tk tv : TE) (vs : List Nat) : TE := fun σ H Q => wi σ H fun J H1 => ∀ D, H1 D = none →
  ∃ W : Nat → Nat → Hp → Prop, (∃ m, W 0 m (upd H1 D (.dT []))) ∧ ∀ i m H, W i m H → (J.stop i H ∧ Q (.ref D) H) ∨
    (J.go i H ∧ ∃ Nx : Hp → Prop, (∀ H', Nx H' → ∃ m', m' < m ∧ W (i + 1) m' H') ∧ ∀ x H', J.yld i H x H' → g x (wipe σ vs) H' fun σ2 H2 => wipe σ2 vs = wipe σ vs ∧
      tk σ2 H2 fun y H3 => tv σ2 H3 fun u H4 => ∃ kvs k b, y = .ref b ∧ H4 b = some (.tup (k.map kV)) ∧ H4 D = some (.dT kvs) ∧ kvs.length < sizeLine ∧ Nx (upd H4 D (.dT (putK kvs k u))))

theorem pe_dcT {kx vx tg iter : Expr} {scope : Scope} {own : List (Str × Nat)} {pos : Pos} {wi : TI} {g : TG} {tk tv : TE} (hu : X.A.units + 1 < cLine) (hc : X.calm = true) (hN : X.N.Nodup) (hi : PI X tg iter wi) (ok : BlkOk X.N X.env.scope scope own)
    (hg : ∀ (s : Shared) (H : Hp) (C : Addr) (cl : List (Str × Addr)) (fp : List Addr), PG (X.blk s H scope (compEnvC scope cl C X.env) fp) tg g)
    (hk : ∀ (s : Shared) (H : Hp) (C : Addr) (cl : List (Str × Addr)) (fp : List Addr), PE (X.blk s H scope (compEnvC scope cl C X.env) fp) kx tk)
    (hv : ∀ (s : Shared) (H : Hp) (C : Addr) (cl : List (Str × Addr)) (fp : List Addr), PE (X.blk s H scope (compEnvC scope cl C X.env) fp) vx tv)
    (hs : ∀ x, foldedSetIterable iter X.env x = pure x := by intro _; rfl) : PE X (.DictComp kx vx [⟨tg, iter, [], 0⟩] scope pos) (tDcT wi g tk tv (own.map (·.2))) := by
  constructor
  intro pins s σ H Q I h
  rw [arm_eval_DictComp]
  have caught : ∀ y ∈ scope.names, y.2 = .free → ∃ c, X.env.cells.lookup y.1 = some c := fun y hy e => I.ok.has _ (ok.free y hy e)
  refine wpAny_comprehension_free (use := none) rfl hs (closure_ok caught) ok.kind (fun y hy e => by rw [ok.uniq y hy, e]) (thn (hi.run pins s σ H _ I h) fun xv s1 hx => thn hx fun itv s2 hit => ?_)
  obtain ⟨it, fp, tn, J, H2, rfl, I2, T, st2, f2, reading⟩ := hit
  refine wpAny_newObj_type (newEnv_comp ?_)
  -- the dict D, untracked so far; the block C behind it
  have free2 : H2 s2.heap.objs.size = none := I2.hok.fresh (Nat.le_refl _)
  obtain ⟨W, ⟨m0, w0⟩, turn⟩ := reading s2.heap.objs.size free2
  have below : ∀ b ∈ fp, b < s2.heap.objs.size := fun b hb => (T.obj _ _ st2 b hb).elim fun o z => Heap.lt_size z.1
  have I3 : Inv X pins σ (upd H2 s2.heap.objs.size (.dT [])) { s2 with heap := s2.heap.push { cls := .type "dict", data := .dict #[] } } :=
    I2.laid (t' := s2.toks) (fun b o e => Heap.get?_push_of_some _ e) (Nat.le_refl _) (dt_empty s2.heap I2.big)
  have f3 : ∀ b ∈ fp, FpOk X pins (upd H2 s2.heap.objs.size (.dT [])) b ∧ b < (s2.heap.push { cls := .type "dict", data := .dict #[] }).objs.size := fun b hb => by
    have lt := below b hb
    have un : (upd H2 s2.heap.objs.size (.dT [])) b = none := by
      rw [upd_ne (Nat.ne_of_lt lt)]
      exact (f2 b hb).1
    exact ⟨⟨un, (f2 b hb).2⟩, by rw [Heap.size_push]; exact Nat.lt_succ_of_lt lt⟩
  have st3 : tn 0 (s2.heap.push { cls := .type "dict", data := .dict #[] }) := T.keep _ _ _ st2 fun b _ o e => Heap.get?_push_of_some _ e
  generalize hD : s2.heap.objs.size = D at *
  generalize hs3 : ({ s2 with heap := s2.heap.push { cls := .type "dict", data := .dict #[] } } : Shared) = s3 at I3 ⊢
  have eh : s3.heap = s2.heap.push { cls := .type "dict", data := .dict #[] } := by rw [← hs3]
  rw [← eh] at f3 st3
  have IB := block_start I3 ok hN f3
  generalize hC : s3.heap.objs.size = C at IB
  generalize hH3 : upd H2 D (.dT []) = H3 at *
  have rg := hg s3 H3 C (cellsFrom (C + 1) scope.names (cloFrom X.env.cells scope.names [])) fp
  have rk := hk s3 H3 C (cellsFrom (C + 1) scope.names (cloFrom X.env.cells scope.names [])) fp
  have rv := hv s3 H3 C (cellsFrom (C + 1) scope.names (cloFrom X.env.cells scope.names [])) fp
  subst hC
  show codeAny _ _ (.compStart (.DictComp kx vx [⟨tg, iter, [], 0⟩] scope pos) 0 (.ref it) (.ref _) (compEnvC scope (cellsFrom (s3.heap.objs.size + 1) scope.names (cloFrom X.env.cells scope.names [])) s3.heap.objs.size X.env)) (compPost (model X.prog X.w) X.A X.xe none _ (.ref _) s3.heap.objs.size) _
  generalize hce : compEnvC scope (cellsFrom (s3.heap.objs.size + 1) scope.names (cloFrom X.env.cells scope.names [])) s3.heap.objs.size X.env = ce at IB rg rk rv ⊢
  have cloc : ce.locals = s3.heap.objs.size := by rw [← hce]; rfl
  have st4 : tn 0 (pushCells (s3.heap.push { cls := .type "dict", data := .dict #[] }) scope.names) := T.keep _ _ _ st3 fun b _ o e => pushCells_keeps _ _ _ _ (Heap.get?_push_of_some _ e)
  have inBlk : ∀ {σ' : St} {H' : Hp} {s' : Shared}, Inv (X.blk s3 H3 scope ce fp) [] σ' H' s' → (∀ b ∈ fp, H' b = none) → ∀ b ∈ fp, FpOk (X.blk s3 H3 scope ce fp) [] H' b := by
    intro σ' H' s' I' un b hb
    exact ⟨un b hb, (I'.ok.exf b hb).1, I'.ok.exfs b hb, .inl hb, fun x c e => (I'.ok.exf b hb).2 x c e, fun p hp => by cases hp⟩
  generalize hs4 : ({ s3 with heap := pushCells (s3.heap.push { cls := .type "dict", data := .dict #[] }) scope.names } : Shared) = s4 at IB ⊢
  have st4' : tn 0 s4.heap := by rw [← hs4]; exact st4
  have loop : codeAny (model X.prog X.w) X.A (.compLoop (.DictComp kx vx [⟨tg, iter, [], 0⟩] scope pos) 0 (.ref it) (.ref D) ce) (compPost (model X.prog X.w) X.A X.xe none (EP X pins σ Q) (.ref D) s3.heap.objs.size) s4 := by
    refine compLoop_anyD (fun n s' => ∃ i H', Inv (X.blk s3 H3 scope ce fp) [] (wipe σ (own.map (·.2))) H' s' ∧ tn i s'.heap ∧ (∀ b ∈ fp, H' b = none) ∧ W i n H') ?_ m0 ⟨0, H3, IB, st4', fun b hb => (f3 b hb).1.1, w0⟩
    intro n s5 hinv
    obtain ⟨i, H5, I5, st5, n5, w5⟩ := hinv
    rcases turn i n H5 w5 with ⟨stop, fin⟩ | ⟨go, Nx, hNx, step⟩
    · -- no item is left
      refine thnF (T.done (X.blk s3 H3 scope ce fp) rfl rfl rfl hc i [] s5 _ H5 (fun _ _ => False) I5 (inBlk I5 n5) st5 stop) fun r s6 hr => ?_
      obtain ⟨rfl, I6⟩ := hr
      have I7 : Inv X pins σ H5 s6 := I3.call' (ch := fp) I6.os I6.base I6.hok I6.bare fun b hb => by
        obtain ⟨⟨_, a2, _, a4, a5, a6⟩, _⟩ := f3 b hb
        exact ⟨a4, a2, a5, a6⟩
      have nC : H5 s3.heap.objs.size = none := by
        have z : H5 ce.locals = none := I6.free
        rw [cloc] at z
        exact z
      obtain ⟨m, hm, _⟩ := I6.loc
      have hm' : s6.heap.Ns ce.locals m := hm
      rw [cloc] at hm'
      refine ⟨m, hm', fun h'' sb => ?_⟩
      obtain ⟨b0, b1, b2, b3, b4, b5⟩ := I3.fpOk (H' := H5) (Nat.le_refl _) nC
      exact ⟨.ref D, H5, I7.turned (t' := s6.toks) (fun b o hb e => (sb.2 b hb).trans e) b0 b1 b3 b4 b5, rfl, fin⟩
    · -- one more
      refine thnF (T.item (X.blk s3 H3 scope ce fp) rfl rfl rfl hc i [] s5 _ H5 (fun _ _ => False) I5 (inBlk I5 n5) st5 go) fun r s6 hr => ?_
      obtain ⟨u, rfl, h6⟩ := hr
      refine thnF h6 fun _ s7 h7 => ?_
      obtain ⟨x, H7, I7, r7, y7, st7, n7⟩ := h7
      have P7 := I7.pinned (inBlk I7 n7) (T.obj _ _ st7)
      refine thnF (rg.run _ s7 _ H7 x u _ P7 r7 (step x H7 y7)) fun _ s8 h8 => ?_
      obtain ⟨σ8, H8, I8, hw8, q8⟩ := h8
      refine wpAny_tests_nil ?_
      rw [if_pos rfl]
      refine thnF (rk.run _ s8 σ8 H8 _ I8 q8) fun z s9 h9 => ?_
      obtain ⟨yk, H9, I9, r9, q9⟩ := h9
      refine thnF (rv.run _ s9 σ8 H9 _ I9 q9) fun z2 s10 h10 => ?_
      obtain ⟨yv, H10, I10, r10, kvs, k, b, rfl, hb, hD10, hz10, nx⟩ := h10
      cases r9
      refine dicT_set (X := X.blk s3 H3 scope ce fp) hu I10 hD10 hb hz10 r10 fun s11 I11 => ?_
      obtain ⟨m', lt, w'⟩ := hNx _ nx
      have kept : ∀ c ∈ fp, ∀ o, s7.heap.get? c = some o → s11.heap.get? c = some o ∧ (upd H10 D (.dT (putK kvs k yv))) c = none := fun c hcf o e =>
        have z := I11.pin (c, o) (List.mem_append_right _ (List.mem_append_right _ (mem_pinsAt hcf e)))
        ⟨z.1, z.2.1⟩
      have same : (wipe σ (own.map (·.2))).length = σ8.length := by rw [← hw8, wipe_length]
      refine ⟨m', lt, i + 1, _, (I11.unpinned (pins := [])).weak same (fun j v e => ?_), T.keep _ _ _ st7 fun c hcf o e => (kept c hcf o e).1, fun c hcf => ?_, w'⟩
      · rw [← hw8] at e
        exact (wipe_some e).1
      · obtain ⟨o, e, _⟩ := T.obj _ _ st7 c hcf
        exact (kept c hcf o e).2
  exact codeAny_compStart_dict loop (T.self X.A 0 _ _ _ st4' loop)

/-- over a tuple that stays: after i of its items Pv i holds -/
theorem dcT_tup {K : PySem.W.Frag} {a : Addr} {xs : List V} {g : TG} {tk tv : TE} {vs : List Nat} {σ : St} {H1 : Hp} {D : Addr} {Qd : Hp → Prop} (Pv : Nat → Hp → Prop) (h0 : Pv 0 (upd H1 D (.dT []))) (hl : ∀ i H, i ≤ xs.length → Pv i H → SqT K H a xs)
    (hs : ∀ i x H, xs[i]? = some x → Pv i H → g x (wipe σ vs) H fun σ2 H2 => wipe σ2 vs = wipe σ vs ∧ tk σ2 H2 fun y H3 => tv σ2 H3 fun u H4 =>
      ∃ kvs k b, y = .ref b ∧ H4 b = some (.tup (k.map kV)) ∧ H4 D = some (.dT kvs) ∧ kvs.length < sizeLine ∧ Pv (i + 1) (upd H4 D (.dT (putK kvs k u)))) (hd : ∀ H, Pv xs.length H → Qd H) :
    ∃ W : Nat → Nat → Hp → Prop, (∃ m, W 0 m (upd H1 D (.dT []))) ∧ ∀ i m H, W i m H → ((Itt K a).stop i H ∧ Qd H) ∨
      ((Itt K a).go i H ∧ ∃ Nx : Hp → Prop, (∀ H', Nx H' → ∃ m', m' < m ∧ W (i + 1) m' H') ∧ ∀ x H', (Itt K a).yld i H x H' → g x (wipe σ vs) H' fun σ2 H2 => wipe σ2 vs = wipe σ vs ∧
        tk σ2 H2 fun y H3 => tv σ2 H3 fun u H4 => ∃ kvs k b, y = .ref b ∧ H4 b = some (.tup (k.map kV)) ∧ H4 D = some (.dT kvs) ∧ kvs.length < sizeLine ∧ Nx (upd H4 D (.dT (putK kvs k u)))) := by
  refine ⟨fun i m H => i + m = xs.length ∧ Pv i H, ⟨xs.length, Nat.zero_add _, h0⟩, fun i m H hw => ?_⟩
  obtain ⟨em, p⟩ := hw
  have q := hl i H (by omega) p
  rcases Nat.lt_or_ge i xs.length with lt | ge
  · refine .inr ⟨⟨xs, xs[i], q, List.getElem?_eq_getElem lt⟩, Pv (i + 1), fun H' p' => ⟨m - 1, by omega, by omega, p'⟩, fun x H' y => ?_⟩
    obtain ⟨rfl, y⟩ := y
    exact hs i x _ (y xs q) p
  · have e : i = xs.length := by omega
    subst e
    exact .inl ⟨⟨xs, q, Nat.le_refl _⟩, hd H p⟩
end
end Rc
/-! The text by places, the data, the promises. -/
namespace Rc
open PySem L2

/-! ### the text -/
def top (i : Nat) : Stmt := PySem.Challenge.pw_rimcords_k04_tables_whole.main.body.getD i (.Pass ⟨0, 0, 0, 0⟩)
abbrev sGaps : Stmt := top 10
abbrev sWhole : Stmt := top 12
abbrev sCombined : Stmt := top 13
abbrev sPassing : Stmt := top 14
abbrev sTable : Stmt := top 15
abbrev sPin : Stmt := top 20
abbrev sEntry : Stmt := top 21
abbrev sInit : Stmt := inClass (top 23) 0
abbrev sAdd : Stmt := inClass (top 23) 4
abbrev sSub : Stmt := inClass (top 23) 5
abbrev sMul : Stmt := inClass (top 23) 6
abbrev sProp : Stmt := inClass (top 23) 8
abbrev sTableOf : Stmt := top 25
abbrev sLWhole : Stmt := top 27
abbrev sLCell : Stmt := top 28
abbrev sLDigits : Stmt := top 29
abbrev sLSame : Stmt := top 30
abbrev sLNorm : Stmt := top 31
abbrev sLPins : Stmt := top 32
abbrev sLTable : Stmt := top 33
abbrev sLLotIs : Stmt := top 34
abbrev sLLot : Stmt := top 35
abbrev sLTold : Stmt := top 36
abbrev sLSum : Stmt := top 37
abbrev sLTimes : Stmt := top 38
abbrev sLMirror : Stmt := top 39
abbrev sLaw : Stmt := top 40

/-! ### the data -/
/-- the references rs stand at tuples of ints -/
def RowsAt (H : Hp) (rs : List Addr) (rows : List (List Int)) : Prop := Paired (fun (r : Addr) (row : List Int) => H r = some (.tup (row.map V.int))) rs rows
def row3 (t : RC.Tri) : List Int := [t.1, t.2.1, t.2.2]
abbrev rows3 (ts : List RC.Tri) : List (List Int) := ts.map row3
theorem RowsAt.same {H H' : Hp} (e : Same H H') : ∀ {rs : List Addr} {rows : List (List Int)}, RowsAt H rs rows → RowsAt H' rs rows
  | _, _, .nil => .nil
  | _, _, .cons h t => .cons (e _ _ h) (RowsAt.same e t)
theorem RowsAt.length {H : Hp} : ∀ {rs : List Addr} {rows : List (List Int)}, RowsAt H rs rows → rs.length = rows.length
  | _, _, .nil => rfl
  | _, _, .cons _ t => congrArg Nat.succ (RowsAt.length t)
theorem RowsAt.append {H : Hp} : ∀ {rs qs : List Addr} {xs ys : List (List Int)}, RowsAt H rs xs → RowsAt H qs ys → RowsAt H (rs ++ qs) (xs ++ ys)
  | _, _, _, _, .nil, h => h
  | _, _, _, _, .cons h t, q => .cons h (RowsAt.append t q)
theorem RowsAt.get {H : Hp} : ∀ {rs : List Addr} {rows : List (List Int)}, RowsAt H rs rows → ∀ {i : Nat} {r : Addr}, rs[i]? = some r → ∃ row, rows[i]? = some row ∧ H r = some (.tup (row.map V.int))
  | _, _, .nil, i, r, h => by simp at h
  | _, _, .cons h t, 0, r, e => by
    have e' := Option.some.inj e
    subst e'
    exact ⟨_, rfl, h⟩
  | _, _, .cons h t, i + 1, r, e => RowsAt.get t (i := i) e
theorem RowsAt.one {H : Hp} {r : Addr} {row : List Int} (h : H r = some (.tup (row.map V.int))) : RowsAt H [r] [row] := .cons h .nil
/-- an item of a sequence of references at triples -/
theorem RowsAt.tri {H : Hp} {rs : List Addr} {ts : List RC.Tri} (h : RowsAt H rs (rows3 ts)) {i : Nat} {v : V} (e : (rs.map V.ref)[i]? = some v) : ∃ r t, v = .ref r ∧ ts[i]? = some t ∧ H r = some (.tup [.int t.1, .int t.2.1, .int t.2.2]) := by
  rw [List.getElem?_map] at e
  cases er : rs[i]? with
  | none => rw [er] at e; cases e
  | some r =>
    rw [er] at e
    obtain ⟨row, e1, e2⟩ := h.get er
    rw [List.getElem?_map] at e1
    cases et : ts[i]? with
    | none => rw [et] at e1; cases e1
    | some t =>
      rw [et] at e1
      cases e1
      exact ⟨r, t, (Option.some.inj e).symm, rfl, e2⟩
theorem Same.seqT {K : PySem.W.Frag} {H H' : Hp} {a : Addr} {xs : List V} (e : Same H H') (h : SqT K H a xs) : SqT K H' a xs := by
  rcases h with (h | ⟨o, h⟩) | h
  · exact .inl (.inl (e _ _ h))
  · exact .inl (.inr ⟨o, e _ _ h⟩)
  · exact .inr h
/-- a list or a tuple -/
def SqA (K : PySem.W.Frag) (H : Hp) (a : Addr) (xs : List V) : Prop := SqL K H a xs ∨ SqT K H a xs
theorem SqA.same {K : PySem.W.Frag} {H H' : Hp} {a : Addr} {xs : List V} (e : Same H H') (h : SqA K H a xs) : SqA K H' a xs := h.imp (fun z => e.seq z) fun z => Same.seqT e z
/-- a tuple of tuples of ints -/
def TabT (H : Hp) (v : V) (rows : List (List Int)) : Prop := ∃ a rs, v = .ref a ∧ H a = some (.tup (rs.map V.ref)) ∧ RowsAt H rs rows
abbrev CordsT (H : Hp) (v : V) (ts : List RC.Tri) : Prop := TabT H v (rows3 ts)
theorem TabT.same {H H' : Hp} (e : Same H H') {v : V} {rows : List (List Int)} (h : TabT H v rows) : TabT H' v rows := by
  obtain ⟨a, rs, q, h1, h2⟩ := h
  exact ⟨a, rs, q, e _ _ h1, h2.same e⟩
theorem same_new {H : Hp} {p : Addr} {o : HO} (h : H p = none) : Same H (upd H p o) := fun b x e => by
  rw [upd_ne (ne_of_none e h)]
  exact e
/-- a lot's attributes -/
def lotF (p : Nat) (c : Addr) : List (Str × V) := [("pins", .int (p : Int)), ("cords", .ref c)]
def LotAt (C : Addr) (H : Hp) (v : V) (p : Nat) (ts : List RC.Tri) : Prop := ∃ a dx c rs, v = .ref a ∧ H a = some (.ins C dx (lotF p c)) ∧ H c = some (.tup (rs.map V.ref)) ∧ RowsAt H rs (rows3 ts)
theorem LotAt.same {C : Addr} {H H' : Hp} (e : Same H H') {v : V} {p : Nat} {ts : List RC.Tri} (h : LotAt C H v p ts) : LotAt C H' v p ts := by
  obtain ⟨a, dx, c, rs, q, h1, h2, h3⟩ := h
  exact ⟨a, dx, c, rs, q, e _ _ h1, e _ _ h2, h3.same e⟩
/-- entries between two pins of the rim -/
def Fits (p : Nat) (ts : List RC.Tri) : Prop := ∀ t ∈ ts, 0 ≤ t.1 ∧ t.1 < p ∧ 0 ≤ t.2.1 ∧ t.2.1 < p ∧ t.1 ≠ t.2.1 ∧ 1 ≤ t.2.2
/-- a lot's cords: normal, on the rim, not too many -/
structure Good (p : Nat) (ts : List RC.Tri) : Prop where
  nrm : RC.Nrm ts
  fit : Fits p ts
  len : ts.length ≤ 200
theorem Fits.norm {p : Nat} {xs ys : List RC.Tri} (h : Fits p xs) (n : RC.IsNorm xs ys) : Fits p ys := fun t ht => by
  obtain ⟨s, hs, q⟩ := n.sub t ht
  have a := h s hs
  have b := n.nrm.ok t ht
  rcases q with ⟨q1, q2⟩ | ⟨q1, q2⟩
  · rw [q1, q2] at a
    omega
  · rw [q1, q2] at a
    omega
theorem Good.of {p : Nat} {xs ys : List RC.Tri} (h : Fits p xs) (hl : xs.length ≤ 200) (n : RC.IsNorm xs ys) : Good p ys := ⟨n.nrm, h.norm n, Nat.le_trans n.len hl⟩
theorem Good.lt {p : Nat} {ts : List RC.Tri} (h : Good p ts) : ∀ t ∈ ts, t.1 < t.2.1 := fun t ht => (h.nrm.ok t ht).1
theorem sz1000 {n : Nat} (h : n ≤ 1000) : n < sizeLine := Nat.lt_of_le_of_lt h (by decide)

/-! ### the promises -/
def spGaps : Sp := fun vs H Q _ => ∃ p : Nat, vs = [.int (p : Int)] ∧ Q (.int ((max p 1 : Nat) : Int)) H
def spWhole : Sp := fun vs H Q _ => ∃ i : Int, vs = [.int i] ∧ Q (.bl true) H
def spPin : Sp := fun vs H Q _ => ∃ (p v : Int), vs = [.int p, .int v] ∧ 0 ≤ v ∧ v < p ∧ Q (.bl true) H
def spEntry : Sp := fun vs H Q _ => ∃ (p : Nat) (r : Addr) (t : RC.Tri), vs = [.int (p : Int), .ref r] ∧ H r = some (.tup [.int t.1, .int t.2.1, .int t.2.2]) ∧ 0 ≤ t.1 ∧ t.1 < p ∧ 0 ≤ t.2.1 ∧ t.2.1 < p ∧ t.1 ≠ t.2.1 ∧ 1 ≤ t.2.2 ∧
  ∀ H', Same H H' → Q (.bl true) H'
def spCombined (K : PySem.W.Frag) : Sp := fun vs H Q _ => ∃ (a : Addr) (rs : List Addr) (xs : List RC.Tri), vs = [.ref a] ∧ SqA K H a (rs.map V.ref) ∧ RowsAt H rs (rows3 xs) ∧ (∀ t ∈ xs, t.1 ≠ t.2.1 ∧ 0 ≤ t.2.2) ∧ xs.length ≤ 1000 ∧
  ∀ H' v ys, Same H H' → RC.IsNorm xs ys → CordsT H' v ys → Q v H'
def spPassing : Sp := fun vs H Q _ => ∃ (c : Addr) (rs : List Addr) (i j : Int) (ts : List RC.Tri), vs = [.ref c, .int i, .int j] ∧ H c = some (.tup (rs.map V.ref)) ∧ RowsAt H rs (rows3 ts) ∧ (∀ t ∈ ts, t.1 < t.2.1) ∧ ts.length ≤ 1000 ∧
  ∀ H', Same H H' → Q (.int (RC.wt (RC.chi i j) ts)) H'
def spTable : Sp := fun vs H Q _ => ∃ (p : Nat) (c : V) (ts : List RC.Tri), vs = [.int (p : Int), c] ∧ CordsT H c ts ∧ (∀ t ∈ ts, t.1 < t.2.1) ∧ ts.length ≤ 1000 ∧ p ≤ 1000 ∧
  ∀ H' v, Same H H' → TabT H' v (RC.tabOf (max p 1) ts) → Q v H'
def spInit (K : PySem.W.Frag) (C : Addr) : Sp := fun vs H Q _ => ∃ (x dx c : Addr) (p : Nat) (rs : List Addr) (xs : List RC.Tri), vs = [.ref x, .int (p : Int), .ref c] ∧ H x = some (.ins C dx []) ∧ SqA K H c (rs.map V.ref) ∧ RowsAt H rs (rows3 xs) ∧ Fits p xs ∧ xs.length ≤ 1000 ∧
  ∀ H' ys, (∀ b o, b ≠ x → H b = some o → H' b = some o) → RC.IsNorm xs ys → LotAt C H' (.ref x) p ys → Q .non H'
def spAdd (C : Addr) : Sp := fun vs H Q _ => ∃ (x y : V) (p : Nat) (xs ys : List RC.Tri), vs = [x, y] ∧ LotAt C H x p xs ∧ LotAt C H y p ys ∧ Good p xs ∧ Good p ys ∧
  ∀ H' v zs, Same H H' → LotAt C H' v p zs → RC.IsNorm (xs ++ ys) zs → Q v H'
def spSub (C : Addr) : Sp := fun vs H Q _ => ∃ (x y : V) (p : Nat) (xs ys zs : List RC.Tri), vs = [x, y] ∧ LotAt C H x p xs ∧ LotAt C H y p ys ∧ Good p xs ∧ Good p ys ∧ (∀ t ∈ zs, 0 ≤ t.2.2) ∧ (∀ f, RC.Sym f → RC.wt f xs = RC.wt f zs + RC.wt f ys) ∧
  ∀ H' v us, Same H H' → LotAt C H' v p us → Good p us → (∀ f, RC.Sym f → RC.wt f us = RC.wt f zs) → Q v H'
def scale (c : Int) (xs : List RC.Tri) : List RC.Tri := xs.map fun t => (t.1, t.2.1, t.2.2 * c)
def spMul (C : Addr) : Sp := fun vs H Q _ => ∃ (x : V) (c : Int) (p : Nat) (xs : List RC.Tri), vs = [x, .int c] ∧ LotAt C H x p xs ∧ Good p xs ∧ 0 ≤ c ∧ c ≤ 1000000000 ∧
  ∀ H' v us, Same H H' → LotAt C H' v p us → Good p us → (∀ f, RC.Sym f → RC.wt f us = RC.wt f xs * c) → Q v H'
/-- the table of a lot, by the property and by table_of -/
def spTab (C : Addr) : Sp := fun vs H Q _ => ∃ (x : V) (p : Nat) (ts : List RC.Tri), vs = [x] ∧ LotAt C H x p ts ∧ Good p ts ∧ p ≤ 1000 ∧ ∀ H' v, Same H H' → TabT H' v (RC.tabOf (max p 1) ts) → Q v H'
/-- ints; tuples of ints; tuples of those: the same on both sides -/
def Alike : Nat → Hp → V → V → Prop
  | 0, _, v, u => ∃ i : Int, v = .int i ∧ u = .int i
  | n + 1, H, v, u => (∃ i : Int, v = .int i ∧ u = .int i) ∨ ∃ a b xs ys, v = .ref a ∧ u = .ref b ∧ H a = some (.tup xs) ∧ H b = some (.tup ys) ∧ ys.length ≤ 1000 ∧ Paired (Alike n H) xs ys
def spSame (n : Nat) : Sp := fun vs H Q _ => ∃ v u : V, vs = [v, u] ∧ Alike n H v u ∧ Q (.bl true) H
def spLotIs (C : Addr) : Sp := fun vs H Q _ => ∃ (x c : V) (p : Nat) (ts : List RC.Tri), vs = [x, .int (p : Int), c] ∧ LotAt C H x p ts ∧ CordsT H c ts ∧ ts.length ≤ 1000 ∧ Q (.bl true) H
def spTold (C : Addr) : Sp := fun vs H Q _ => ∃ (x t : V) (p : Nat) (ts : List RC.Tri), vs = [x, t] ∧ LotAt C H x p ts ∧ Good p ts ∧ p ≤ 1000 ∧ TabT H t (RC.tabOf (max p 1) ts) ∧ ∀ H', Same H H' → Q (.bl true) H'
def spLTable : Sp := fun vs H Q _ => ∃ (p : Nat) (c : V) (ts : List RC.Tri), vs = [.int (p : Int), c] ∧ CordsT H c ts ∧ Good p ts ∧ p ≤ 1000 ∧ ∀ H' v, Same H H' → TabT H' v (RC.tabOf (max p 1) ts) → Q v H'
def spLSum : Sp := fun vs H Q _ => ∃ (a b : V) (n : Nat) (xs ys : List RC.Tri), vs = [a, b] ∧ TabT H a (RC.tabOf n xs) ∧ TabT H b (RC.tabOf n ys) ∧ n ≤ 1000 ∧ ∀ H' v, Same H H' → TabT H' v (RC.tabOf n (xs ++ ys)) → Q v H'
def spLTimes : Sp := fun vs H Q _ => ∃ (a : V) (c : Int) (n : Nat) (xs : List RC.Tri), vs = [a, .int c] ∧ TabT H a (RC.tabOf n xs) ∧ n ≤ 1000 ∧ 0 ≤ c ∧ c ≤ 1000000000 ∧ ∀ H' v, Same H H' → TabT H' v (RC.tabOf n (scale c xs)) → Q v H'
def spLMirror : Sp := fun vs H Q _ => ∃ (a : V) (n : Nat) (xs : List RC.Tri), vs = [a] ∧ TabT H a (RC.tabOf n xs) ∧ n ≤ 1000 ∧ ∀ H' v, Same H H' → TabT H' v (RC.tabOf n xs) → Q v H'
def spLCell (K : PySem.W.Frag) : Sp := fun vs H Q _ => ∃ (a : Addr) (ns : List Int) (k : Int), vs = [.ref a, .int k] ∧ SqL K H a (ns.map V.int) ∧ 0 ≤ k ∧ k ≤ 1000 ∧ ∀ z : Int, Q (.int z) H
def spLDigits (K : PySem.W.Frag) : Sp := fun vs H Q _ => ∃ (z : Int) (l : Addr) (ss : List Int), vs = [.int z, .ref l] ∧ SqL K H l (ss.map V.int) ∧ (∀ s ∈ ss, 0 < s ∧ s < 1073741824) ∧ ss.length ≤ 100 ∧
  ∀ H' p (ds : List Int), Same H H' → H' p = some (.lst (ds.map V.int)) → Paired (fun d s => 0 ≤ d ∧ d < s) ds ss → Q (.ref p) H'
def spLPins : Sp := fun vs H Q _ => ∃ z : Int, vs = [.int z] ∧ ∀ H' (p : Nat), Same H H' → p ≤ 40 → Q (.int (p : Int)) H'
def spLNorm (K : PySem.W.Frag) : Sp := fun vs H Q _ => ∃ (a : Addr) (rs : List Addr) (xs : List RC.Tri), vs = [.ref a] ∧ SqA K H a (rs.map V.ref) ∧ RowsAt H rs (rows3 xs) ∧ (∀ t ∈ xs, t.1 ≠ t.2.1 ∧ 0 < t.2.2) ∧ xs.length ≤ 1000 ∧
  ∀ H' v ys, Same H H' → RC.IsNorm xs ys → CordsT H' v ys → Q v H'
def spLLot (K : PySem.W.Frag) : Sp := fun vs H Q _ => ∃ (a : Addr) (ns : List Int) (st ct : Int) (p : Nat), vs = [.ref a, .int st, .int ct, .int (p : Int)] ∧ SqL K H a (ns.map V.int) ∧ 0 ≤ st ∧ st ≤ 100 ∧ 0 ≤ ct ∧ ct ≤ 16 ∧ p ≤ 40 ∧
  ∀ H' v ts, Same H H' → CordsT H' v ts → Good p ts → ts.length ≤ 16 → (∀ t ∈ ts, t.2.2 ≤ 500000000) → Q v H'
def spLaw (K : PySem.W.Frag) : Sp := fun vs H Q _ => ∃ (a : Addr) (ns : List Int), vs = [.ref a] ∧ SqL K H a (ns.map V.int) ∧ ns.length ≤ 63 ∧ ∀ H', Q (.bl true) H'
end Rc
namespace Rc
open PySem L2

/-- the built-ins are what they are -/
structure Bt (mg : Str → Option Value) : Prop where
  isi : mg "isinstance" = none
  int : mg "int" = none
  bool : mg "bool" = none
  str : mg "str" = none
  list : mg "list" = none
  tuple : mg "tuple" = none
  max : mg "max" = none
  min : mg "min" = none
  sum : mg "sum" = none
  range : mg "range" = none
  len : mg "len" = none
  sorted : mg "sorted" = none
theorem bt_isi : bootBuiltins "isinstance" = some (.builtin "isinstance") := by decide +kernel
theorem bt_int : bootBuiltins "int" = some (.type "int") := by decide +kernel
theorem bt_bool : bootBuiltins "bool" = some (.type "bool") := by decide +kernel
theorem bt_str : bootBuiltins "str" = some (.type "str") := by decide +kernel
theorem bt_list : bootBuiltins "list" = some (.type "list") := by decide +kernel
theorem bt_tuple : bootBuiltins "tuple" = some (.type "tuple") := by decide +kernel
theorem bt_max : bootBuiltins "max" = some (.builtin "max") := by decide +kernel
theorem bt_min : bootBuiltins "min" = some (.builtin "min") := by decide +kernel
theorem bt_sum : bootBuiltins "sum" = some (.builtin "sum") := by decide +kernel
theorem bt_len : bootBuiltins "len" = some (.builtin "len") := by decide +kernel
theorem bt_sorted : bootBuiltins "sorted" = some (.builtin "sorted") := by decide +kernel
/-- whether a value of the type a is one of the type b -/
theorem k_ii {K : PySem.W.Frag} : PySem.W.kitOne K (.type "int") (.type "int") = some true := kit_ty (by decide +kernel)
theorem k_ib {K : PySem.W.Frag} : PySem.W.kitOne K (.type "int") (.type "bool") = some false := kit_ty (by decide +kernel)
theorem k_is {K : PySem.W.Frag} : PySem.W.kitOne K (.type "int") (.type "str") = some false := kit_ty (by decide +kernel)
theorem k_tb {K : PySem.W.Frag} : PySem.W.kitOne K (.type "tuple") (.type "bool") = some false := kit_ty (by decide +kernel)
theorem k_ti {K : PySem.W.Frag} : PySem.W.kitOne K (.type "tuple") (.type "int") = some false := kit_ty (by decide +kernel)
theorem k_ts {K : PySem.W.Frag} : PySem.W.kitOne K (.type "tuple") (.type "str") = some false := kit_ty (by decide +kernel)
theorem k_tl {K : PySem.W.Frag} : PySem.W.kitOne K (.type "tuple") (.type "list") = some false := kit_ty (by decide +kernel)
theorem k_tt {K : PySem.W.Frag} : PySem.W.kitOne K (.type "tuple") (.type "tuple") = some true := kit_ty (by decide +kernel)

theorem blQ {Q : VK} {H : Hp} {b : Bool} (e : b = true) (q : Q (.bl true) H) : Q (.bl b) H := by
  rw [e]
  exact q
section
variable {P : Program} {w : World} {K : PySem.W.Frag} {mg : Str → Option Value} {base : Heap}
/-! ### gaps -/
theorem scGaps : FnScope ["pins"] ["pins"] (defScope sGaps) := ⟨rfl, rfl, rfl, by decide +kernel, rfl, by decide +kernel, by decide +kernel⟩
theorem ok_gaps {f : Addr} {fd : FuncData} (F : Fun K "gaps" "gaps" sGaps f fd) (B : Bt mg) : FnOk P w K mg base CX0 1 f fd ["pins"] spGaps := by
  refine F.ok scGaps (fun vs H Q E h => ?_) (fun cdv A outer s H vs Q E hr h => ?_)
  · obtain ⟨p, rfl, _⟩ := h
    rfl
  · obtain ⟨p, rfl, q⟩ := h
    refine ⟨_, pss_one (ps_ret (pe_callB (call_max2 rfl) (by rfl) B.max bt_max (pa_cons (pv 0) (pa_cons pe_int pa_nil)))), ?_⟩
    refine ⟨_, rfl, (p : Int), 1, rfl, ?_⟩
    have e : (if (1 : Int) > (p : Int) then (1 : Int) else (p : Int)) = ((max p 1 : Nat) : Int) := by
      split <;> omega
    rw [e]
    exact q
/-! ### is_whole, in the package and in the law -/
theorem scWhole : FnScope ["value"] ["value"] (defScope sWhole) := ⟨rfl, rfl, rfl, by decide +kernel, rfl, by decide +kernel, by decide +kernel⟩
theorem ok_whole {f : Addr} {fd : FuncData} (F : Fun K "is_whole" "is_whole" sWhole f fd) (B : Bt mg) : FnOk P w K mg base CX0 1 f fd ["value"] spWhole := by
  refine F.ok scWhole (fun vs H Q E h => ?_) (fun cdv A outer s H vs Q E hr h => ?_)
  · obtain ⟨p, rfl, _⟩ := h
    rfl
  · obtain ⟨i, rfl, q⟩ := h
    refine ⟨_, pss_one (ps_ret (pe_and (pe_callB call_isi (by rfl) B.isi bt_isi (pa_cons (pv 0) (pa_cons (pe_bltn (v := .ty "int") (by rfl) B.int bt_int rfl) pa_nil)))
      (pe_one (pe_not (pe_callB call_isi (by rfl) B.isi bt_isi (pa_cons (pv 0) (pa_cons (pe_bltn (v := .ty "bool") (by rfl) B.bool bt_bool rfl) pa_nil))))))), ?_⟩
    refine ⟨_, rfl, _, _, _, _, _, rfl, .ty _, .base (.int i), k_ii, true, rfl, iteT ?_⟩
    exact ⟨_, rfl, _, _, _, _, _, rfl, .ty _, .base (.int i), k_ib, false, rfl, q⟩
theorem scLWhole : FnScope ["_law_value"] ["_law_value"] (defScope sLWhole) := ⟨rfl, rfl, rfl, by decide +kernel, rfl, by decide +kernel, by decide +kernel⟩
theorem ok_lwhole {f : Addr} {fd : FuncData} (F : Fun K "_law_whole" "_law_whole" sLWhole f fd) (B : Bt mg) : FnOk P w K mg base CX0 1 f fd ["_law_value"] spWhole := by
  refine F.ok scLWhole (fun vs H Q E h => ?_) (fun cdv A outer s H vs Q E hr h => ?_)
  · obtain ⟨p, rfl, _⟩ := h
    rfl
  · obtain ⟨i, rfl, q⟩ := h
    refine ⟨_, pss_one (ps_ret (pe_and (pe_callB call_isi (by rfl) B.isi bt_isi (pa_cons (pv 0) (pa_cons (pe_bltn (v := .ty "int") (by rfl) B.int bt_int rfl) pa_nil)))
      (pe_one (pe_not (pe_callB call_isi (by rfl) B.isi bt_isi (pa_cons (pv 0) (pa_cons (pe_bltn (v := .ty "bool") (by rfl) B.bool bt_bool rfl) pa_nil))))))), ?_⟩
    refine ⟨_, rfl, _, _, _, _, _, rfl, .ty _, .base (.int i), k_ii, true, rfl, iteT ?_⟩
    exact ⟨_, rfl, _, _, _, _, _, rfl, .ty _, .base (.int i), k_ib, false, rfl, q⟩
/-! ### is_pin -/
theorem scPin : FnScope ["pins", "value"] ["pins", "value"] (defScope sPin) := ⟨rfl, rfl, rfl, by decide +kernel, rfl, by decide +kernel, by decide +kernel⟩
theorem ok_pin {f fW : Addr} {fd fdW : FuncData} (F : Fun K "is_pin" "is_pin" sPin f fd) (FW : Fun K "is_whole" "is_whole" sWhole fW fdW) (bW : Binds K fdW ["value"] []) (gW : mg "is_whole" = some (.ref fW)) (B : Bt mg) : FnOk P w K mg base CX0 2 f fd ["pins", "value"] spPin := by
  have GW : FnOk P w K mg base CX0 1 fW fdW ["value"] spWhole := ok_whole FW B
  refine F.ok scPin (fun vs H Q E h => ?_) (fun cdv A outer s H vs Q E hr h => ?_)
  · obtain ⟨p, v, rfl, _⟩ := h
    rfl
  · obtain ⟨p, v, rfl, h0, h1, q⟩ := h
    refine ⟨_, pss_one (ps_ret (pe_and (pe_call GW hr (by rfl) gW FW.kp bW .nil pass0 (pa_cons (pv 1) pa_nil)) (pe_one (pe_chain op_le op_lt pe_int (pv 1) (pv 0))))), ?_⟩
    refine ⟨_, rfl, v, rfl, true, rfl, iteT ?_⟩
    refine ⟨_, rfl, 0, v, rfl, rfl, true, congrArg V.bl (decide_eq_true h0), iteT ?_⟩
    exact ⟨_, rfl, v, p, rfl, rfl, blQ (decide_eq_true h1) q⟩
/-! ### is_entry -/
theorem scEntry : FnScope ["pins", "entry", "a", "b", "n"] ["pins", "entry"] (defScope sEntry) := ⟨rfl, rfl, rfl, by decide +kernel, rfl, by decide +kernel, by decide +kernel⟩
theorem ok_entry {f fW fP : Addr} {fd fdW fdP : FuncData} (F : Fun K "is_entry" "is_entry" sEntry f fd) (FW : Fun K "is_whole" "is_whole" sWhole fW fdW) (bW : Binds K fdW ["value"] []) (gW : mg "is_whole" = some (.ref fW))
    (FP : Fun K "is_pin" "is_pin" sPin fP fdP) (bP : Binds K fdP ["pins", "value"] []) (gP : mg "is_pin" = some (.ref fP)) (B : Bt mg) : FnOk P w K mg base CX0 3 f fd ["pins", "entry"] spEntry := by
  have GW : FnOk P w K mg base CX0 1 fW fdW ["value"] spWhole := ok_whole FW B
  have GP : FnOk P w K mg base CX0 2 fP fdP ["pins", "value"] spPin := ok_pin FP FW bW gW B
  refine F.ok scEntry (fun vs H Q E h => ?_) (fun cdv A outer s H vs Q E hr h => ?_)
  · obtain ⟨p, r, t, rfl, _⟩ := h
    rfl
  · obtain ⟨p, r, t, rfl, hr3, a0, a1, b0, b1, ab, n1, q⟩ := h
    have hr1 : Room 1 _ := hr.mono (by decide)
    refine ⟨_, pss_cons (ps_if (pw_or (pt_not (pt_val (pe_callB call_isiT (by rfl) B.isi bt_isi (pa_cons (pv 1) (pa_cons (pe_tup (pa_cons (pe_bltn (v := .ty "list") (by rfl) B.list bt_list rfl) (pa_cons (pe_bltn (v := .ty "tuple") (by rfl) B.tuple bt_tuple rfl) pa_nil))) pa_nil)))))
          (pw_or1 (pt_cmpR op_ne (pe_callB call_len_seq (by rfl) B.len bt_len (pa_cons (pv 1) pa_nil)) pe_int (nomark _)))).pt (pss_one ps_never) pss_nil)
      (pss_cons (ps_asg (pv 1) (pg_tup rfl (pgs_cons (pg_name (i := 2) scEntry.nd rfl (.inl rfl)) (pgs_cons (pg_name (i := 3) scEntry.nd rfl (.inl rfl)) (pgs_cons (pg_name (i := 4) scEntry.nd rfl (.inl rfl)) pgs_nil)))))
      (pss_one (ps_ret (pe_and (pe_call GP hr (by rfl) gP FP.kp bP .nil pass0 (pa_cons (pv 0) (pa_cons (pv 2) pa_nil))) (pe_and (pe_call GP hr (by rfl) gP FP.kp bP .nil pass0 (pa_cons (pv 0) (pa_cons (pv 3) pa_nil)))
        (pe_and (pe_cmpR op_ne (pv 2) (pv 3) (nomark _)) (pe_and (pe_call GW hr1 (by rfl) gW FW.kp bW .nil pass0 (pa_cons (pv 4) pa_nil)) (pe_one (pe_cmpR op_ge (pv 4) pe_int (nomark _)))))))))), ?_⟩
    refine ⟨_, rfl, by decide, fun T nT => ?_⟩
    have s1 : Same H (upd H T (.tup [.ty "list", .ty "tuple"])) := same_new nT
    have e1 := s1 _ _ hr3
    refine ⟨_, _, _, _, _, true, rfl, upd_same, .cons (.ty _) (.cons (.ty _) .nil), .base (.tup e1), kitAny_cons k_tl (fun _ => kitAny_cons k_tt (fun z => nomatch z) fun _ => rfl) (fun z => nomatch z), true, rfl, iteF ?_⟩
    refine ⟨_, rfl, r, _, rfl, .inr (SqT.of e1), rfl, _, rfl, iteF ?_⟩
    refine ⟨_, rfl, r, _, rfl, SqT.of e1, rfl, _, _, rfl, _, _, rfl, _, _, rfl, rfl, ?_⟩
    refine ⟨_, rfl, _, rfl, (p : Int), t.1, rfl, a0, a1, true, rfl, iteT ?_⟩
    refine ⟨_, rfl, _, rfl, (p : Int), t.2.1, rfl, b0, b1, true, rfl, iteT ?_⟩
    refine ⟨_, rfl, _, rfl, rfl, true, ?_, iteT ?_⟩
    · rw [dec_int, beq_false_of_ne ab]
      rfl
    refine ⟨_, rfl, t.2.2, rfl, true, rfl, iteT ?_⟩
    exact ⟨_, rfl, t.2.2, 1, rfl, rfl, blQ (decide_eq_true n1) (q _ s1)⟩
end
end Rc
/-! Small tools for the readings. -/
namespace Rc
open PySem L2

/-- all tuples stay -/
def Tups (H H' : Hp) : Prop := ∀ b xs, H b = some (.tup xs) → H' b = some (.tup xs)
theorem Tups.refl (H : Hp) : Tups H H := fun _ _ e => e
theorem Tups.trans {H H1 H2 : Hp} (a : Tups H H1) (b : Tups H1 H2) : Tups H H2 := fun c xs e => b c xs (a c xs e)
theorem Tups.same {H H' : Hp} (e : Same H H') : Tups H H' := fun b xs h => e b _ h
theorem Tups.list {H : Hp} {D : Addr} {acc : List V} {o : HO} (h : H D = some (.lst acc)) : Tups H (upd H D o) := fun b xs e => by
  rw [upd_ne (ne_of e h fun z => nomatch z)]
  exact e
theorem Tups.dict {H : Hp} {D : Addr} {kvs : List (List L2.Key × V)} {o : HO} (h : H D = some (.dT kvs)) : Tups H (upd H D o) := fun b xs e => by
  rw [upd_ne (ne_of e h fun z => nomatch z)]
  exact e
theorem Tups.new {H : Hp} {p : Addr} {o : HO} (h : H p = none) : Tups H (upd H p o) := Tups.same (same_new h)
theorem RowsAt.tups {H H' : Hp} (e : Tups H H') : ∀ {rs : List Addr} {rows : List (List Int)}, RowsAt H rs rows → RowsAt H' rs rows
  | _, _, .nil => .nil
  | _, _, .cons h t => .cons (e _ _ h) (RowsAt.tups e t)
theorem PairsAt.tups {H H' : Hp} (e : Tups H H') : ∀ {rs : List Addr} {ks : List (Int × Int)}, PairsAt H rs ks → PairsAt H' rs ks
  | _, _, .nil => .nil
  | _, _, .cons h t => .cons (e _ _ h) (PairsAt.tups e t)
theorem PairsAt.get {H : Hp} : ∀ {rs : List Addr} {ks : List (Int × Int)}, PairsAt H rs ks → ∀ {i : Nat} {v : V}, (rs.map V.ref)[i]? = some v → ∃ r k, v = .ref r ∧ ks[i]? = some k ∧ H r = some (.tup [.int k.1, .int k.2])
  | _, _, .nil, i, v, h => by simp at h
  | _, _, .cons h t, 0, v, e => ⟨_, _, (Option.some.inj e).symm, rfl, h⟩
  | _, _, .cons h t, i + 1, v, e => PairsAt.get t (i := i) e
theorem PairsAt.length {H : Hp} : ∀ {rs : List Addr} {ks : List (Int × Int)}, PairsAt H rs ks → rs.length = ks.length
  | _, _, .nil => rfl
  | _, _, .cons _ t => congrArg Nat.succ (PairsAt.length t)
/-- one more is made and put to the list at D -/
theorem RowsAt.more {H : Hp} {rs : List Addr} {rows : List (List Int)} {r : Addr} {row : List Int} (h : RowsAt H rs rows) (e : H r = some (.tup (row.map V.int))) : RowsAt H (rs ++ [r]) (rows ++ [row]) := h.append (.one e)
/-- a thing that was not there then may be changed -/
theorem sSet {H H' : Hp} {d : Addr} {o : HO} (s : Same H H') (n : H d = none) : Same H (upd H' d o) := fun b x e => by
  rw [upd_ne (ne_of_none e n)]
  exact s b x e
theorem sNew {H H' : Hp} {d : Addr} {o : HO} (s : Same H H') (n : H' d = none) : Same H (upd H' d o) := s.trans (same_new n)
theorem refs_snoc (rs : List Addr) (r : Addr) : rs.map V.ref ++ [V.ref r] = (rs ++ [r]).map V.ref := by rw [List.map_append]; rfl
theorem take_snoc {α : Type} {l : List α} {i : Nat} {x : α} (h : l[i]? = some x) : l.take (i + 1) = l.take i ++ [x] := by
  rw [List.take_add_one, h]
  rfl
theorem take_all {α : Type} (l : List α) {n : Nat} (h : n = l.length) : l.take n = l := by
  rw [h]
  exact List.take_length
theorem getElem_len {α : Type} {l : List α} {i : Nat} {x : α} (h : l[i]? = some x) : i < l.length := (List.getElem?_eq_some_iff.mp h).1
theorem mem_get {α : Type} {l : List α} {i : Nat} {x : α} (h : l[i]? = some x) : x ∈ l := List.mem_of_getElem? h

/-- the loop over a list or a tuple -/
theorem for_seq {K : PySem.W.Frag} {a : Addr} {xs : List V} {g : TG} {tb : TS} {D : Ends} {σ : St} {H0 H : Hp} (hA : SqA K H0 a xs) (Pv : Nat → St → Hp → Prop) (h0 : Pv 0 σ H) (hsm : ∀ i σ' H', Pv i σ' H' → Same H0 H')
    (hs : ∀ i x σ H, xs[i]? = some x → Pv i σ H → g x σ H fun σ2 H2 => tb { D with nx := Pv (i + 1), ct := Pv (i + 1), bk := D.nx } σ2 H2) (hd : ∀ σ H, Pv xs.length σ H → D.nx σ H) :
    ((∃ xs, SqL K H a xs) ∧ tFor (fun _ H1 R => R (Itl K a) H1) g tb D σ H) ∨ ((∃ xs, SqT K H a xs) ∧ tFor (fun _ H1 R => R (Itt K a) H1) g tb D σ H) := by
  rcases hA with h | h
  · exact .inl ⟨⟨_, (hsm _ _ _ h0).seq h⟩, for_list (K := K) (a := a) (xs := xs) Pv h0 (fun i σ' H' _ p => (hsm _ _ _ p).seq h) hs hd⟩
  · exact .inr ⟨⟨_, Same.seqT (hsm _ _ _ h0) h⟩, for_tup (K := K) (a := a) (xs := xs) Pv h0 (fun i σ' H' _ p => Same.seqT (hsm _ _ _ p) h) hs hd⟩
theorem rows3_append (xs ys : List RC.Tri) : rows3 (xs ++ ys) = rows3 xs ++ rows3 ys := List.map_append
theorem getD_int (m : RC.Dic) (k : Int × Int) : ((RC.dget m k).map V.int).getD (.int 0) = .int (RC.dz m k) := by
  unfold RC.dz
  cases RC.dget m k <;> rfl
theorem val_dz {m : RC.Dic} {k : Int × Int} (h : k ∈ RC.keys m) : valV (encD m) (encK k) = some (.int (RC.dz m k)) := by
  rw [val_encD]
  obtain ⟨v, e⟩ := RC.dget_of_mem h
  unfold RC.dz
  rw [e]
  rfl
end Rc
namespace Rc
open PySem L2
section
variable {P : Program} {w : World} {K : PySem.W.Frag} {mg : Str → Option Value} {base : Heap}
theorem scCombined : FnScope ["triples", "many", "a", "b", "n", "pair"] ["triples"] (defScope sCombined) := ⟨rfl, rfl, rfl, by decide +kernel, rfl, by decide +kernel, by decide +kernel⟩
theorem ok_combined {f : Addr} {fd : FuncData} (F : Fun K "combined" "combined" sCombined f fd) (B : Bt mg) : FnOk P w K mg base CX0 1 f fd ["triples"] (spCombined K) := by
  refine F.ok scCombined (fun vs H Q E h => ?_) (fun cdv A outer s H vs Q E hr h => ?_)
  · obtain ⟨a, rs, xs, rfl, _⟩ := h
    rfl
  · obtain ⟨a, rs, xs, rfl, hA, hR, hx, hlen, q⟩ := h
    have hu := hu_of hr
    have nd := scCombined.nd
    have lrs : rs.length = xs.length := by
      rw [hR.length, List.length_map]
    refine ⟨_, pss_cons (ps_set (i := 1) nd rfl (.inr rfl) pe_dnewT)
      (pss_cons (ps_for PassesOwn.never rfl (pi_seq (pv 0)) (pg_tup rfl (pgs_cons (pg_name (i := 2) nd rfl (.inl rfl)) (pgs_cons (pg_name (i := 3) nd rfl (.inl rfl)) (pgs_cons (pg_name (i := 4) nd rfl (.inl rfl)) pgs_nil))))
        (pss_one (ps_if (pw_and (pt_cmpR op_ne (pv 2) (pv 3) (nomark _)) (pw_and1 (pt_cmpR op_gt (pv 4) pe_int (nomark _)))).pt
          (pss_cons (ps_set (i := 5) nd rfl (.inl rfl) (pe_tup (pa_cons (pe_callB (call_min2 rfl) (by rfl) B.min bt_min (pa_cons (pv 2) (pa_cons (pv 3) pa_nil))) (pa_cons (pe_callB (call_max2 rfl) (by rfl) B.max bt_max (pa_cons (pv 2) (pa_cons (pv 3) pa_nil))) pa_nil))))
            (pss_one (ps_dput hu (pv 1) (pv 5) (pe_op op_add (pe_dget2 hu (pv 1) (pv 5) pe_int ⟨rfl, rfl, rfl, rfl⟩) (pv 4)) rfl))) pss_nil)))
      (pss_one (ps_ret (pe_callTy call_tuple_of (by rfl) B.tuple bt_tuple (pa_cons
        (pe_lc (own := [("a", 2), ("b", 3)]) (g := gTup K 2 (gCons (gName 2) (gCons (gName 3) gNil))) (by rfl) nd (pi_list (pe_callB (cr_sortDic rfl) (by rfl) B.sorted bt_sorted (pa_cons (pv 1) pa_nil)))
          (blkOk_by (own := [("a", 2), ("b", 3)]) (N := ["triples", "many", "a", "b", "n", "pair"]) (sc := defScope sCombined) (by decide +kernel))
          (fun _ _ _ _ _ => pg_tup rfl (pgs_cons (pg_name (i := 2) nd rfl (.inl rfl)) (pgs_cons (pg_name (i := 3) nd rfl (.inl rfl)) pgs_nil)))
          (fun _ _ _ _ _ => pts_nil)
          (fun _ _ _ _ _ => pe_tup (pa_cons (pv 2) (pa_cons (pv 3) (pa_cons (pe_dget hu (pv 1) (pe_tup (pa_cons (pv 2) (pa_cons (pv 3) pa_nil))) (fun _ _ => rfl)) pa_nil))))) pa_nil))))), ?_⟩
    -- many = {}
    intro d nd0
    have s0 : Same H (upd H d (.dT [])) := same_new nd0
    -- for a, b, n in triples
    refine ⟨_, rfl, a, rfl, for_seq hA (fun i σ H' => ∃ y2 y3 y4 y5 m, σ = [some (.ref a), some (.ref d), y2, y3, y4, y5] ∧ Same H H' ∧ H' d = some (.dT (encD m)) ∧ RC.CInv (xs.take i) m)
      ⟨_, _, _, _, [], rfl, s0, upd_same, RC.CInv.nil⟩ (fun i σ' H' ⟨_, _, _, _, _, _, s1, _⟩ => s1) ?_ ?_⟩
    · rintro i x σ H1 hi ⟨y2, y3, y4, y5, m, rfl, s1, hd, ci⟩
      obtain ⟨r, t, rfl, et, er⟩ := hR.tri hi
      have er1 := s1 _ _ er
      obtain ⟨tne, tnn⟩ := hx t (mem_get et)
      have zl : (encD m).length < sizeLine := by
        rw [encD_len]
        have h1 := ci.len
        rw [List.length_take] at h1
        exact sz1000 (by omega)
      refine ⟨r, _, rfl, SqT.of er1, rfl, _, _, rfl, _, _, rfl, _, _, rfl, rfl, ?_⟩
      refine ⟨_, rfl, _, rfl, rfl, true, ?_, iteT ?_⟩
      · rw [dec_int, beq_false_of_ne tne]
        rfl
      refine ⟨_, rfl, _, _, rfl, rfl, _, rfl, ite2 (fun hn => ?_) (fun hn => ?_)⟩
      · have hn' : 0 < t.2.2 := of_decide_eq_true hn
        -- pair = (min(a, b), max(a, b)); many[pair] = many.get(pair, 0) + n
        refine ⟨_, rfl, _, rfl, t.1, t.2.1, rfl, _, rfl, _, rfl, t.1, t.2.1, rfl, (by show 2 ≤ sizeLine; decide), fun p np => ?_⟩
        have ndp : d ≠ p := ne_of_none hd np
        have hd2 : (upd H1 p (.tup [.int (RC.lo t.1 t.2.1), .int (RC.hi t.1 t.2.1)])) d = some (.dT (encD m)) := by rw [upd_ne ndp]; exact hd
        refine ⟨_, rfl, d, rfl, .inr ⟨_, Rd.of hd2⟩, _, rfl, _, DGet.t (k := encK (RC.lo t.1 t.2.1, RC.hi t.1 t.2.1)) hd2 upd_same, _, rfl, RC.dz m (RC.lo t.1 t.2.1, RC.hi t.1 t.2.1), t.2.2, ?_, rfl, ?_⟩
        · rw [val_encD]
          exact getD_int _ _
        refine ⟨_, rfl, _, rfl, d, _, rfl, DPut.t (k := encK (RC.lo t.1 t.2.1, RC.hi t.1 t.2.1)) hd2 upd_same zl, ?_⟩
        refine ⟨_, _, _, _, RC.dput m (RC.lo t.1 t.2.1, RC.hi t.1 t.2.1) (RC.dz m (RC.lo t.1 t.2.1, RC.hi t.1 t.2.1) + t.2.2), rfl, sSet (sNew s1 np) nd0, ?_, ?_⟩
        · rw [upd_same, put_encD]
        · rw [take_snoc et]
          exact ci.step tne hn'
      · have hn' : t.2.2 = 0 := by
          have := of_decide_eq_false (Bool.eq_false_iff.mpr hn)
          omega
        refine ⟨_, _, _, _, m, rfl, s1, hd, ?_⟩
        rw [take_snoc et, show t = (t.1, t.2.1, 0) from Prod.ext rfl (Prod.ext rfl hn')]
        exact ci.skip
    · -- return tuple([.. for a, b in sorted(many)])
      rintro σ H1 ⟨y2, y3, y4, y5, m, rfl, s1, hd, ci⟩
      rw [take_all xs (by rw [List.length_map, lrs])] at ci
      refine ⟨_, rfl, d, m, rfl, hd, fun qs js p hp hs hq np => ⟨p, rfl, ⟨_, SqL.of upd_same⟩, fun D nD => ?_⟩⟩
      have ljs : js.length ≤ 1000 := by
        have h1 := hp.length_eq
        have h2 := ci.len
        rw [List.length_map] at h1
        omega
      have sp : Same H1 (upd H1 p (.lst (qs.map V.ref))) := same_new np
      have sD : Same (upd H1 p (.lst (qs.map V.ref))) (upd (upd H1 p (.lst (qs.map V.ref))) D (.lst [])) := same_new nD
      have npD : p ≠ D := ne_of_none upd_same nD
      have nD1 : H1 D = none := by
        rw [upd_ne npD.symm] at nD
        exact nD
      refine lc_list (K := K) (a := p) (xs := qs.map V.ref) (fun i H' => Same H1 H' ∧ H' p = some (.lst (qs.map V.ref)) ∧ ∃ rs', H' D = some (.lst (rs'.map V.ref)) ∧ rs'.length = i ∧ RowsAt H' rs' (rows3 ((js.take i).map fun k => (k.1, k.2, RC.dz m k))))
        ⟨sp.trans sD, by rw [upd_ne npD, upd_same], [], upd_same, rfl, .nil⟩ (fun i H' _ h => SqL.of h.2.1) ?_ ?_
      · rintro i x H2 hi ⟨s2, hp2, rs', hD2, li, hR2⟩
        obtain ⟨r, k, rfl, ek, er⟩ := hq.get hi
        have er2 := s2 _ _ er
        have kin : k ∈ RC.keys m := hp.mem_iff.mp (mem_get ek)
        have hd2 := s2 _ _ hd
        have i1 : i < 1000 := by
          have := getElem_len ek
          omega
        refine ⟨r, _, rfl, SqT.of er2, rfl, _, _, rfl, _, _, rfl, rfl, rfl, ?_⟩
        refine ⟨_, rfl, _, rfl, _, rfl, _, rfl, _, rfl, (by show 2 ≤ sizeLine; decide), fun t nt => ?_⟩
        have hd3 : (upd H2 t (.tup [.int k.1, .int k.2])) d = some (.dT (encD m)) := by
          rw [upd_ne (ne_of_none hd2 nt)]
          exact hd2
        refine ⟨d, _, rfl, (val_dz kin) ▸ DGet.t (k := encK k) hd3 upd_same, (by show 3 ≤ sizeLine; decide), fun t2 nt2 => ?_⟩
        have st : Same H2 (upd (upd H2 t (.tup [.int k.1, .int k.2])) t2 (.tup [.int k.1, .int k.2, .int (RC.dz m k)])) := (same_new nt).trans (same_new nt2)
        have hD3 := st _ _ hD2
        refine ⟨_, hD3, ?_, sSet (s2.trans st) nD1, ?_, rs' ++ [t2], ?_, ?_, ?_⟩
        · rw [List.length_map, li]
          exact sz1000 (by omega)
        · rw [upd_ne npD]
          exact st _ _ hp2
        · rw [upd_same, refs_snoc]
        · rw [List.length_append, li]
          rfl
        · rw [take_snoc ek, List.map_append, rows3_append]
          refine ((hR2.same st).more ?_).tups (Tups.list hD3)
          exact upd_same
      · rintro H2 ⟨s2, hp2, rs', hD2, li, hR2⟩
        rw [take_all js (by rw [List.length_map, hq.length])] at hR2
        refine ⟨D, _, rfl, .inl ⟨SqL.of hD2, fun l nl => ?_⟩⟩
        exact q _ _ _ (sNew (s1.trans s2) nl) (ci.out hp hs) ⟨l, rs', rfl, upd_same, hR2.same (same_new nl)⟩
end
end Rc
/-! Readings of tuple([e for k in range(n)]) and of two of them nested; scopes of comprehensions by their places. -/
namespace Rc
open PySem L2

/-! ### places -/
def stVal : Stmt → Expr
  | .Return (some e) _ => e
  | .Assign _ e _ => e
  | .Expr e _ => e
  | _ => .Constant .none 0 ⟨0, 0, 0, 0⟩
def arg1 : Expr → Expr
  | .Call _ (a :: _) _ _ => a
  | e => e
def lcElt : Expr → Expr
  | .ListComp e _ _ _ => e
  | e => e
def lcScope : Expr → Scope
  | .ListComp _ _ sc _ => sc
  | .DictComp _ _ _ sc _ => sc
  | _ => { kind := .function, names := [], isGenerator := false, isCoroutine := false }
/-- the scope of the comprehension that is the i-th statement's value's first argument -/
def sc1 (st : Stmt) (i : Nat) : Scope := lcScope (arg1 (stVal ((defBody st).getD i (.Pass ⟨0, 0, 0, 0⟩))))

/-! ### tuple(..) -/
def rTu (K : PySem.W.Frag) : List V → Hp → VK → Prop := fun xs H Q => ∃ p ys, xs = [.ref p] ∧ ((SqL K H p ys ∧ ∀ l, H l = none → Q (.ref l) (upd H l (.tup ys))) ∨ (SqT K H p ys ∧ Q (.ref p) H))
theorem cr_tu {X : Cx} : CallR X (.type "tuple") (rTu X.K) := call_tuple_of

theorem wipe_one (σ : St) (k : Nat) (x : Option V) : wipe ((wipe σ [k]).set k x) [k] = wipe σ [k] := by
  show (((σ.set k none).set k x).set k none) = σ.set k none
  rw [List.set_set, List.set_set]
theorem range_take (n i : Nat) (h : i < n) : (List.range n).take (i + 1) = (List.range n).take i ++ [i] := take_snoc (by rw [List.getElem?_range h])
/-- [e for k in range(n)], e an int -/
theorem lc_ints {wi : TI} {te : TE} {σ : St} {H : Hp} {Q : VK} {n k : Nat} (val : Nat → Int) (hn : n ≤ 1000) (hwi : ∀ R : It → Hp → Prop, R (Itr 0 n) H → wi σ H R)
    (turn : ∀ (j : Nat) (H' : Hp) (R : VK), j < n → Same H H' → (∀ H'', Same H' H'' → R (.int (val j)) H'') → te ((wipe σ [k]).set k (some (.int (j : Int)))) H' R)
    (done : ∀ D H', Same H H' → H' D = some (.lst (((List.range n).map val).map V.int)) → Q (.ref D) H') : tLc wi (gName k) tYes te [k] σ H Q := by
  refine hwi _ fun D nD => ?_
  refine lc_range (lo := 0) (n := n) (fun i H' => Same H H' ∧ H' D = some (.lst ((((List.range n).take i).map val).map V.int))) ⟨same_new nD, upd_same⟩ (fun i H1 hi h => ?_) (fun H1 h => ?_)
  · obtain ⟨s1, e1⟩ := h
    refine ⟨wipe_one _ _ _, ?_⟩
    show te _ H1 _
    rw [show (0 : Int) + (i : Int) = (i : Int) by omega]
    refine turn i H1 _ hi s1 fun H2 s2 => ?_
    refine ⟨_, s2 _ _ e1, ?_, sSet (s1.trans s2) nD, ?_⟩
    · rw [List.length_map, List.length_map, List.length_take, List.length_range]
      exact sz1000 (by omega)
    · rw [upd_same, range_take n i hi, List.map_append, List.map_append]
      rfl
  · obtain ⟨s1, e1⟩ := h
    rw [take_all _ (by rw [List.length_range])] at e1
    exact done D H1 s1 e1
/-- [e for k in range(n)], e a new tuple of ints -/
theorem lc_rows {wi : TI} {te : TE} {σ : St} {H : Hp} {Q : VK} {n k : Nat} (row : Nat → List Int) (hn : n ≤ 1000) (hwi : ∀ R : It → Hp → Prop, R (Itr 0 n) H → wi σ H R)
    (turn : ∀ (i : Nat) (H' : Hp) (R : VK), i < n → Same H H' → (∀ H'' r, Same H' H'' → H'' r = some (.tup ((row i).map V.int)) → R (.ref r) H'') → te ((wipe σ [k]).set k (some (.int (i : Int)))) H' R)
    (done : ∀ D H' rs, Same H H' → H' D = some (.lst (rs.map V.ref)) → RowsAt H' rs ((List.range n).map row) → Q (.ref D) H') : tLc wi (gName k) tYes te [k] σ H Q := by
  refine hwi _ fun D nD => ?_
  refine lc_range (lo := 0) (n := n) (fun i H' => Same H H' ∧ ∃ rs, H' D = some (.lst (rs.map V.ref)) ∧ rs.length = i ∧ RowsAt H' rs (((List.range n).take i).map row)) ⟨same_new nD, [], upd_same, rfl, .nil⟩ (fun i H1 hi h => ?_) (fun H1 h => ?_)
  · obtain ⟨s1, rs, e1, l1, r1⟩ := h
    refine ⟨wipe_one _ _ _, ?_⟩
    show te _ H1 _
    rw [show (0 : Int) + (i : Int) = (i : Int) by omega]
    refine turn i H1 _ hi s1 fun H2 r s2 er => ?_
    have e2 := s2 _ _ e1
    refine ⟨_, e2, ?_, sSet (s1.trans s2) nD, rs ++ [r], ?_, ?_, ?_⟩
    · rw [List.length_map, l1]
      exact sz1000 (by omega)
    · rw [upd_same, refs_snoc]
    · rw [List.length_append, l1]
      rfl
    · rw [range_take n i hi, List.map_append]
      exact ((r1.same s2).more er).tups (Tups.list e2)
  · obtain ⟨s1, rs, e1, l1, r1⟩ := h
    rw [take_all _ (by rw [List.length_range])] at r1
    exact done D H1 rs s1 e1 r1
/-- tuple([e for k in range(n)]), e an int -/
theorem row_comp {K : PySem.W.Frag} {wi : TI} {te : TE} {σ : St} {H : Hp} {R : VK} {n k : Nat} (val : Nat → Int) (hn : n ≤ 1000) (hwi : ∀ R : It → Hp → Prop, R (Itr 0 n) H → wi σ H R)
    (turn : ∀ (j : Nat) (H' : Hp) (R : VK), j < n → Same H H' → (∀ H'', Same H' H'' → R (.int (val j)) H'') → te ((wipe σ [k]).set k (some (.int (j : Int)))) H' R)
    (done : ∀ H'' r, Same H H'' → H'' r = some (.tup (((List.range n).map val).map V.int)) → R (.ref r) H'') : tCB (rTu K) (tCons (tLc wi (gName k) tYes te [k]) tNil) σ H R :=
  lc_ints (Q := fun x H1 => rTu K [x] H1 R) val hn hwi turn fun D H' s e => ⟨D, _, rfl, .inl ⟨SqL.of e, fun l nl => done _ l (sNew s nl) upd_same⟩⟩
/-- tuple([e for k in range(n)]), e a new tuple of ints -/
theorem tab_comp {K : PySem.W.Frag} {wi : TI} {te : TE} {σ : St} {H : Hp} {R : VK} {n k : Nat} (row : Nat → List Int) (hn : n ≤ 1000) (hwi : ∀ R : It → Hp → Prop, R (Itr 0 n) H → wi σ H R)
    (turn : ∀ (i : Nat) (H' : Hp) (R : VK), i < n → Same H H' → (∀ H'' r, Same H' H'' → H'' r = some (.tup ((row i).map V.int)) → R (.ref r) H'') → te ((wipe σ [k]).set k (some (.int (i : Int)))) H' R)
    (done : ∀ H'' v, Same H H'' → TabT H'' v ((List.range n).map row) → R v H'') : tCB (rTu K) (tCons (tLc wi (gName k) tYes te [k]) tNil) σ H R :=
  lc_rows (Q := fun x H1 => rTu K [x] H1 R) row hn hwi turn fun D H' rs s e r => ⟨D, _, rfl, .inl ⟨SqL.of e, fun l nl => done _ _ (sNew s nl) ⟨l, rs, rfl, upd_same, r.same (same_new nl)⟩⟩⟩
/-- a <= i < b -/
theorem chain_rd {x y z : Nat} {σ : St} {H : Hp} {Q : VK} {a i b : Int} (ha : σ[x]? = some (some (.int a))) (hi : σ[y]? = some (some (.int i))) (hb : σ[z]? = some (some (.int b))) (q : Q (.bl (decide (a ≤ i) && decide (i < b))) H) :
    tChain (rI0 fun i j => .bl (decide (i ≤ j))) (rI0 fun i j => .bl (decide (i < j))) (tVar x) (tVar y) (tVar z) σ H Q := by
  refine ⟨_, ha, _, hi, a, i, rfl, rfl, _, rfl, ite2 (fun h => ?_) (fun h => ?_)⟩
  · rw [h, Bool.true_and] at q
    exact ⟨_, hb, i, b, rfl, rfl, q⟩
  · rw [Bool.eq_false_iff.mpr h, Bool.false_and] at q
    exact q
end Rc
namespace Rc
open PySem L2
section
variable {P : Program} {w : World} {K : PySem.W.Frag} {mg : Str → Option Value} {base : Heap}
/-! ### raw_passing -/
theorem scPassing : FnScope ["cords", "i", "j", "a", "b", "n"] ["cords", "i", "j"] (defScope sPassing) := ⟨rfl, rfl, rfl, by decide +kernel, rfl, by decide +kernel, by decide +kernel⟩
/-- the test of a cord: whether it passes -/
def pas (i j : Int) (t : RC.Tri) : Bool := (decide (t.1 ≤ i) && decide (i < t.2.1)) != (decide (t.1 ≤ j) && decide (j < t.2.1))
theorem filter_snoc {α : Type} {p : α → Bool} {l : List α} {i : Nat} {x : α} (h : l[i]? = some x) : (l.take (i + 1)).filter p = (l.take i).filter p ++ if p x = true then [x] else [] := by
  rw [take_snoc h, List.filter_append, List.filter_cons, List.filter_nil]
theorem ok_passing {f : Addr} {fd : FuncData} (F : Fun K "raw_passing" "raw_passing" sPassing f fd) (B : Bt mg) : FnOk P w K mg base CX0 1 f fd ["cords", "i", "j"] spPassing := by
  refine F.ok scPassing (fun vs H Q E h => ?_) (fun cdv A outer s H vs Q E hr h => ?_)
  · obtain ⟨c, rs, i, j, ts, rfl, _⟩ := h
    rfl
  · obtain ⟨c, rs, i, j, ts, rfl, hc, hR, hlt, hlen, q⟩ := h
    have nd := scPassing.nd
    refine ⟨_, pss_one (ps_ret (pe_callB (cr_sum rfl) (by rfl) B.sum bt_sum (pa_cons
      (pe_lc (own := [("a", 3), ("b", 4), ("n", 5)]) (g := gTup K 3 (gCons (gName 3) (gCons (gName 4) (gCons (gName 5) gNil)))) (by rfl) nd (pi_tup (pv 0))
        (blkOk_by (own := [("a", 3), ("b", 4), ("n", 5)]) (N := ["cords", "i", "j", "a", "b", "n"]) (sc := defScope sPassing) (by decide +kernel))
        (fun _ _ _ _ _ => pg_tup rfl (pgs_cons (pg_name (i := 3) nd rfl (.inl rfl)) (pgs_cons (pg_name (i := 4) nd rfl (.inl rfl)) (pgs_cons (pg_name (i := 5) nd rfl (.inl rfl)) pgs_nil))))
        (fun _ _ _ _ _ => pts_one (pt_cmpR op_ne (pe_chain op_le op_lt (pv 3) (pv 1) (pv 4)) (pe_chain op_le op_lt (pv 3) (pv 2) (pv 4)) (nomark _)))
        (fun _ _ _ _ _ => pv 5)) pa_nil))), ?_⟩
    refine ⟨_, rfl, c, rfl, ⟨_, SqT.of hc⟩, fun D nD => ?_⟩
    refine lc_tup (K := K) (a := c) (xs := rs.map V.ref) (fun k H' => Same H H' ∧ H' D = some (.lst ((((ts.take k).filter (pas i j)).map (·.2.2)).map V.int)))
      ⟨same_new nD, upd_same⟩ (fun k H' _ h => SqT.of (h.1 _ _ hc)) ?_ ?_
    · rintro k x H1 hi ⟨s1, e1⟩
      obtain ⟨r, t, rfl, et, er⟩ := hR.tri hi
      have er1 := s1 _ _ er
      have k1 : k < 1000 := by
        have := getElem_len et
        omega
      refine ⟨r, _, rfl, SqT.of er1, rfl, _, _, rfl, _, _, rfl, _, _, rfl, rfl, rfl, ?_⟩
      refine chain_rd (x := 3) (y := 1) (z := 4) (a := t.1) (i := i) (b := t.2.1) rfl rfl rfl ?_
      refine chain_rd (x := 3) (y := 2) (z := 4) (a := t.1) (i := j) (b := t.2.1) rfl rfl rfl ?_
      refine ⟨rfl, pas i j t, ?_, ?_⟩
      · rw [dec_bl]
        rfl
      by_cases hp : pas i j t = true
      · rw [hp]
        refine ⟨_, rfl, _, e1, ?_, sSet s1 nD, ?_⟩
        · rw [List.length_map, List.length_map]
          exact sz1000 (Nat.le_trans (List.length_filter_le _ _) (by rw [List.length_take]; omega))
        · rw [upd_same, filter_snoc et, if_pos hp, List.map_append, List.map_append]
          rfl
      · rw [Bool.eq_false_iff.mpr hp]
        refine ⟨s1, ?_⟩
        rw [filter_snoc et, if_neg hp, List.append_nil]
        exact e1
    · rintro H1 ⟨s1, e1⟩
      rw [take_all ts (by rw [List.length_map, hR.length, List.length_map])] at e1
      refine ⟨D, _, rfl, SqL.of e1, ?_⟩
      have e := RC.passing_eq i j ts hlt
      have e2 : ((ts.filter (pas i j)).map (·.2.2)).sum = RC.wt (RC.chi i j) ts := e
      rw [e2]
      exact q _ s1
/-! ### raw_table -/
theorem scTable : FnScope ["pins", "cords", "size", "i", "j"] ["pins", "cords"] (defScope sTable) := ⟨rfl, rfl, rfl, by decide +kernel, rfl, by decide +kernel, by decide +kernel⟩
theorem ok_table {f fG fP : Addr} {fd fdG fdP : FuncData} (F : Fun K "raw_table" "raw_table" sTable f fd) (FG : Fun K "gaps" "gaps" sGaps fG fdG) (bG : Binds K fdG ["pins"] []) (gG : mg "gaps" = some (.ref fG))
    (FP : Fun K "raw_passing" "raw_passing" sPassing fP fdP) (bP : Binds K fdP ["cords", "i", "j"] []) (gP : mg "raw_passing" = some (.ref fP)) (B : Bt mg) : FnOk P w K mg base CX0 2 f fd ["pins", "cords"] spTable := by
  have GG : FnOk P w K mg base CX0 1 fG fdG ["pins"] spGaps := ok_gaps FG B
  have GP : FnOk P w K mg base CX0 1 fP fdP ["cords", "i", "j"] spPassing := ok_passing FP B
  refine F.ok scTable (fun vs H Q E h => ?_) (fun cdv A outer s H vs Q E hr h => ?_)
  · obtain ⟨p, c, ts, rfl, _⟩ := h
    rfl
  · obtain ⟨p, c, ts, rfl, ⟨ca, rs, rfl, hc, hR⟩, hlt, hlen, hp, q⟩ := h
    have nd := scTable.nd
    refine ⟨_, pss_cons (ps_set (i := 2) nd rfl (.inr rfl) (pe_call GG hr (by rfl) gG FG.kp bG .nil pass0 (pa_cons (pv 0) pa_nil)))
      (pss_one (ps_ret (pe_callTy cr_tu (by rfl) B.tuple bt_tuple (pa_cons
        (pe_lc (own := [("i", 3)]) (g := gName 3) (by rfl) nd (pi_range1 (by rfl) B.range (pa_cons (pv 2) pa_nil))
          (blkOk_by (own := [("i", 3)]) (N := ["pins", "cords", "size", "i", "j"]) (sc := defScope sTable) (by decide +kernel))
          (fun _ _ _ _ _ => pg_name (i := 3) nd rfl (.inr rfl)) (fun _ _ _ _ _ => pts_nil)
          (te := tCB (rTu K) (tCons (tLc (iRng1 (tCons (tVar 2) tNil)) (gName 4) tYes (tCall spPassing [] E0 (tCons (tVar 1) (tCons (tVar 3) (tCons (tVar 4) tNil)))) [4]) tNil))
          (fun _ _ _ _ _ => pe_callTy cr_tu (by rfl) B.tuple bt_tuple (pa_cons
            (pe_lc (own := [("j", 4)]) (g := gName 4) (by rfl) nd (pi_range1 (by rfl) B.range (pa_cons (pv 2) pa_nil))
              (blkOk_by (own := [("j", 4)]) (N := ["pins", "cords", "size", "i", "j"]) (sc := relS (sc1 sTable 1) (defScope sTable)) (by decide +kernel))
              (fun _ _ _ _ _ => pg_name (i := 4) nd rfl (.inl rfl)) (fun _ _ _ _ _ => pts_nil)
              (fun _ _ _ _ _ => pe_call GP hr (by rfl) gP FP.kp bP .nil pass0 (pa_cons (pv 1) (pa_cons (pv 3) (pa_cons (pv 4) pa_nil))))) pa_nil))) pa_nil)))), ?_⟩
    refine ⟨_, rfl, p, rfl, ?_⟩
    have hn : max p 1 ≤ 1000 := by omega
    have rng : ∀ {σ : St} {H' : Hp} (e : σ[2]? = some (some (.int ((max p 1 : Nat) : Int)))) (R : It → Hp → Prop), R (Itr 0 (max p 1)) H' → iRng1 (tCons (tVar 2) tNil) σ H' R := fun e R h => ⟨_, e, _, rfl, by omega, by omega, h⟩
    refine tab_comp (fun i => (List.range (max p 1)).map fun (j : Nat) => RC.wt (RC.chi i j) ts) hn (rng rfl) (fun i H1 R hi s1 k1 => ?_) fun H1 v s1 hv => q H1 v s1 hv
    refine row_comp (fun j => RC.wt (RC.chi i j) ts) hn (rng rfl) (fun j H2 R hj s2 k2 => ?_) fun H2 r s2 er => k1 H2 r s2 er
    refine ⟨_, rfl, _, rfl, _, rfl, ca, rs, i, j, ts, rfl, (s1.trans s2) _ _ hc, hR.same (s1.trans s2), hlt, hlen, fun H3 s3 => k2 H3 s3⟩
end
end Rc
namespace Rc
open PySem L2

/-- the class Lot -/
structure Tx (K : PySem.W.Frag) (mg : Str → Option Value) (C : Addr) : Prop where
  cl : Cls K C
  nP : NoAttr K C "pins"
  nC : NoAttr K C "cords"
  mgC : mg "Lot" = some (.ref C)
theorem pins_ne : ¬ (("pins" : Str) = "cords") := by decide +kernel
theorem cords_ne : ¬ (("cords" : Str) = "pins") := by decide +kernel
theorem lotF_pins (p : Nat) (c : Addr) : (lotF p c).lookup ("pins" : Str) = some (.int (p : Int)) := by
  unfold lotF
  rw [List.lookup_cons_self]
theorem lotF_cords (p : Nat) (c : Addr) : (lotF p c).lookup ("cords" : Str) = some (.ref c) := by
  unfold lotF
  rw [List.lookup_cons, beq_false_of_ne cords_ne, List.lookup_cons_self]
theorem lotF_put (p : Nat) (c : Addr) : putF "cords" (.ref c) [(("pins" : Str), V.int (p : Int))] = lotF p c := by
  unfold lotF putF
  rw [if_neg pins_ne]
  rfl

section
variable {P : Program} {w : World} {K : PySem.W.Frag} {mg : Str → Option Value} {base : Heap}
/-- is_whole, is_pin, is_entry, combined as they stand -/
structure Lo (K : PySem.W.Frag) (mg : Str → Option Value) (fW fP fE fC : Addr) (fdW fdP fdE fdC : FuncData) : Prop where
  W : Fun K "is_whole" "is_whole" sWhole fW fdW
  bW : Binds K fdW ["value"] []
  gW : mg "is_whole" = some (.ref fW)
  P : Fun K "is_pin" "is_pin" sPin fP fdP
  bP : Binds K fdP ["pins", "value"] []
  gP : mg "is_pin" = some (.ref fP)
  E : Fun K "is_entry" "is_entry" sEntry fE fdE
  bE : Binds K fdE ["pins", "entry"] []
  gE : mg "is_entry" = some (.ref fE)
  C : Fun K "combined" "combined" sCombined fC fdC
  bC : Binds K fdC ["triples"] []
  gC : mg "combined" = some (.ref fC)
/-! ### Lot.__init__ -/
theorem scInit : FnScope ["self", "pins", "cords", "entry"] ["self", "pins", "cords"] (defScope sInit) := ⟨rfl, rfl, rfl, by decide +kernel, rfl, by decide +kernel, by decide +kernel⟩
theorem ok_init {f C fW fP fE fC : Addr} {fd fdW fdP fdE fdC : FuncData} {dvs : List V} (F : FunD K "__init__" "Lot.__init__" (defArgs sInit) (defBody sInit) (defScope sInit) dvs [] f fd) (T : Tx K mg C) (L : Lo K mg fW fP fE fC fdW fdP fdE fdC) (B : Bt mg) :
    FnOk P w K mg base CX0 4 f fd ["self", "pins", "cords"] (spInit K C) := by
  have GW : FnOk P w K mg base CX0 1 fW fdW ["value"] spWhole := ok_whole L.W B
  have GE : FnOk P w K mg base CX0 3 fE fdE ["pins", "entry"] spEntry := ok_entry L.E L.W L.bW L.gW L.P L.bP L.gP B
  have GC : FnOk P w K mg base CX0 1 fC fdC ["triples"] (spCombined K) := ok_combined L.C B
  refine F.ok scInit (fun vs H Q E h => ?_) (fun cdv A outer s H vs Q E hr h => ?_)
  · obtain ⟨x, dx, c, p, rs, xs, rfl, _⟩ := h
    rfl
  · obtain ⟨x, dx, c, p, rs, xs, rfl, hx, hA, hR, hF, hl, q⟩ := h
    have nd := scInit.nd
    have hr1 : Room 1 _ := hr.mono (by decide)
    refine ⟨_, PSs.nox (pss_cons (ps_if (pw_or (pt_not (pt_val (pe_call GW hr1 (by rfl) L.gW L.W.kp L.bW .nil pass0 (pa_cons (pv 1) pa_nil)))) (pw_or1 (pt_cmpR op_lt (pv 1) pe_int (nomark _)))).pt (pss_one ps_never) pss_nil)
      (pss_cons (ps_for PassesOwn.never rfl (pi_seq (pv 2)) (pg_name (i := 3) nd rfl (.inl rfl))
        (pss_one (ps_if (pt_not (pt_val (pe_call GE hr (by rfl) L.gE L.E.kp L.bE .nil pass0 (pa_cons (pv 1) (pa_cons (pv 3) pa_nil))))) (pss_one ps_never) pss_nil)))
      (pss_cons (ps_fld (pv 0) (pv 1) rfl) (pss_one (ps_fld (pv 0) (pe_call GC hr1 (by rfl) L.gC L.C.kp L.bC .nil pass0 (pa_cons (pv 2) pa_nil)) rfl))))), ?_⟩
    refine ⟨_, rfl, (p : Int), rfl, true, rfl, iteF ?_⟩
    refine ⟨_, rfl, (p : Int), 0, rfl, rfl, false, congrArg V.bl (decide_eq_false (by omega)), iteF ?_⟩
    refine ⟨_, rfl, c, rfl, for_seq hA (fun i σ H' => ∃ y, σ = [some (.ref x), some (.int (p : Int)), some (.ref c), y] ∧ Same H H') ⟨_, rfl, Same.refl H⟩ (fun i σ' H' ⟨_, _, s1⟩ => s1) ?_ ?_⟩
    · rintro i v σ H1 hi ⟨y, rfl, s1⟩
      obtain ⟨r, t, rfl, et, er⟩ := hR.tri hi
      obtain ⟨a0, a1, b0, b1, ab, n1⟩ := hF t (mem_get et)
      refine ⟨_, rfl, _, rfl, p, r, t, rfl, s1 _ _ er, a0, a1, b0, b1, ab, n1, fun H2 s2 => ⟨true, rfl, iteF ?_⟩⟩
      exact ⟨_, rfl, s1.trans s2⟩
    · rintro σ H1 ⟨y, rfl, s1⟩
      refine ⟨_, rfl, _, rfl, x, C, dx, [], rfl, s1 _ _ hx, T.cl, T.nP, by decide, ?_⟩
      have hx1 := s1 _ _ hx
      have keepT : ∀ {o : HO} {b : Addr} {u : HO}, b ≠ x → H b = some u → (upd H1 x o) b = some u := fun hb e => by
        rw [upd_ne hb]
        exact s1 _ _ e
      have tups : Tups H (upd H1 x (.ins C dx (putF "pins" (.int (p : Int)) []))) := fun b ys e => keepT (ne_of e hx fun z => nomatch z) e
      have hA2 : SqA K (upd H1 x (.ins C dx (putF "pins" (.int (p : Int)) []))) c (rs.map V.ref) := by
        rcases hA with ((h | ⟨o, h⟩) | h) | ((h | ⟨o, h⟩) | h)
        · exact .inl (.inl (.inl (keepT (ne_of h hx fun z => nomatch z) h)))
        · exact .inl (.inl (.inr ⟨o, keepT (ne_of h hx fun z => nomatch z) h⟩))
        · exact .inl (.inr h)
        · exact .inr (.inl (.inl (keepT (ne_of h hx fun z => nomatch z) h)))
        · exact .inr (.inl (.inr ⟨o, keepT (ne_of h hx fun z => nomatch z) h⟩))
        · exact .inr (.inr h)
      refine ⟨_, rfl, c, rs, xs, rfl, hA2, hR.tups tups, fun t ht => ?_, hl, fun H2 v ys s2 hn hv => ?_⟩
      · obtain ⟨a0, a1, b0, b1, ab, n1⟩ := hF t ht
        exact ⟨ab, by omega⟩
      · obtain ⟨cc, rs2, rfl, ec, er⟩ := hv
        have hx2 := s2 _ _ (upd_same (H := H1) (a := x) (o := .ins C dx (putF "pins" (.int (p : Int)) [])))
        refine ⟨_, rfl, x, C, dx, _, rfl, hx2, T.cl, T.nC, by show 1 < 1000; decide, ?_⟩
        have tup2 : Tups H2 (upd H2 x (.ins C dx (putF "cords" (.ref cc) (putF "pins" (.int (p : Int)) [])))) := fun b ys e => by
          rw [upd_ne (ne_of e hx2 fun z => nomatch z)]
          exact e
        refine q _ ys (fun b o hb e => ?_) hn ⟨x, dx, cc, rs2, rfl, ?_, tup2 _ _ ec, er.tups tup2⟩
        · rw [upd_ne hb]
          exact s2 _ _ (keepT hb e)
        · rw [upd_same, ← lotF_put]
          rfl
/-- what a new Lot keeps -/
theorem made_same {C : Addr} {H1 H' : Hp} {x dx : Addr} (nx : H1 x = none) (ndx : H1 dx = none) (keep : ∀ b o, b ≠ x → (upd (upd H1 dx (.own x)) x (.ins C dx [])) b = some o → H' b = some o) : Same H1 H' :=
  Same.made nx ndx fun b o e hb => keep b o hb e
/-! ### the property table, table_of -/
theorem scProp : FnScope ["self"] ["self"] (defScope sProp) := ⟨rfl, rfl, rfl, by decide +kernel, rfl, by decide +kernel, by decide +kernel⟩
theorem scTableOf : FnScope ["lot"] ["lot"] (defScope sTableOf) := ⟨rfl, rfl, rfl, by decide +kernel, rfl, by decide +kernel, by decide +kernel⟩
/-- gaps, raw_passing, raw_table as they stand -/
structure Ta (K : PySem.W.Frag) (mg : Str → Option Value) (fG fS fT : Addr) (fdG fdS fdT : FuncData) : Prop where
  G : Fun K "gaps" "gaps" sGaps fG fdG
  bG : Binds K fdG ["pins"] []
  gG : mg "gaps" = some (.ref fG)
  S : Fun K "raw_passing" "raw_passing" sPassing fS fdS
  bS : Binds K fdS ["cords", "i", "j"] []
  gS : mg "raw_passing" = some (.ref fS)
  T : Fun K "raw_table" "raw_table" sTable fT fdT
  bT : Binds K fdT ["pins", "cords"] []
  gT : mg "raw_table" = some (.ref fT)
theorem ok_prop {f C fG fS fT : Addr} {fd fdG fdS fdT : FuncData} (F : Fun K "table" "Lot.table" sProp f fd) (T : Tx K mg C) (L : Ta K mg fG fS fT fdG fdS fdT) (B : Bt mg) : FnOk P w K mg base CX0 3 f fd ["self"] (spTab C) := by
  have GT : FnOk P w K mg base CX0 2 fT fdT ["pins", "cords"] spTable := ok_table L.T L.G L.bG L.gG L.S L.bS L.gS B
  refine F.ok scProp (fun vs H Q E h => ?_) (fun cdv A outer s H vs Q E hr h => ?_)
  · obtain ⟨x, p, ts, rfl, _⟩ := h
    rfl
  · obtain ⟨_, p, ts, rfl, ⟨a, dx, c, rs, rfl, ha, hc, hR⟩, hG, hp, q⟩ := h
    refine ⟨_, pss_one (ps_ret (pe_call GT hr (by rfl) L.gT L.T.kp L.bT .nil pass0 (pa_cons (pe_fld (pv 0) rfl) (pa_cons (pe_fld (pv 0) rfl) pa_nil)))), ?_⟩
    refine ⟨_, rfl, a, C, dx, _, _, rfl, ha, T.cl, T.nP, lotF_pins _ _, _, rfl, a, C, dx, _, _, rfl, ha, T.cl, T.nC, lotF_cords _ _, ?_⟩
    exact ⟨p, .ref c, ts, rfl, ⟨c, rs, rfl, hc, hR⟩, hG.lt, Nat.le_trans hG.len (by decide), hp, q⟩
theorem ok_tableOf {f C fG fS fT : Addr} {fd fdG fdS fdT : FuncData} (F : Fun K "table_of" "table_of" sTableOf f fd) (T : Tx K mg C) (L : Ta K mg fG fS fT fdG fdS fdT) (B : Bt mg) : FnOk P w K mg base CX0 3 f fd ["lot"] (spTab C) := by
  have GT : FnOk P w K mg base CX0 2 fT fdT ["pins", "cords"] spTable := ok_table L.T L.G L.bG L.gG L.S L.bS L.gS B
  refine F.ok scTableOf (fun vs H Q E h => ?_) (fun cdv A outer s H vs Q E hr h => ?_)
  · obtain ⟨x, p, ts, rfl, _⟩ := h
    rfl
  · obtain ⟨_, p, ts, rfl, ⟨a, dx, c, rs, rfl, ha, hc, hR⟩, hG, hp, q⟩ := h
    refine ⟨_, pss_one (ps_ret (pe_call GT hr (by rfl) L.gT L.T.kp L.bT .nil pass0 (pa_cons (pe_fld (pv 0) rfl) (pa_cons (pe_fld (pv 0) rfl) pa_nil)))), ?_⟩
    refine ⟨_, rfl, a, C, dx, _, _, rfl, ha, T.cl, T.nP, lotF_pins _ _, _, rfl, a, C, dx, _, _, rfl, ha, T.cl, T.nC, lotF_cords _ _, ?_⟩
    exact ⟨p, .ref c, ts, rfl, ⟨c, rs, rfl, hc, hR⟩, hG.lt, Nat.le_trans hG.len (by decide), hp, q⟩
end
end Rc
namespace Rc
open PySem L2

section
variable {P : Program} {w : World} {K : PySem.W.Frag} {mg : Str → Option Value} {base : Heap}
/-- the class's making: its __init__ with two arguments written -/
structure Mi (P : Program) (w : World) (K : PySem.W.Frag) (mg : Str → Option Value) (base : Heap) (C fI : Addr) (fdI : FuncData) : Prop where
  M : Mk K C fI
  G : FnOk P w K mg base CX0 4 fI fdI ["self", "pins", "cords"] (spInit K C)
  b3 : Binds K fdI ["self", "pins", "cords"] []
/-- a new lot from the cords at c -/
theorem make_rd {C : Addr} {H H1 : Hp} {Q : VK} {E : XK} {c : Addr} {p : Nat} {rs : List Addr} {xs : List RC.Tri} (s1 : Same H H1) (hA : SqA K H1 c (rs.map V.ref)) (hR : RowsAt H1 rs (rows3 xs)) (hF : Fits p xs) (hl : xs.length ≤ 1000)
    (q : ∀ H' v ys, Same H H' → LotAt C H' v p ys → RC.IsNorm xs ys → Q v H') :
    ∀ x dx, H1 x = none → H1 dx = none → dx ≠ x → spInit K C (.ref x :: ([.int (p : Int), .ref c] ++ [])) (upd (upd H1 dx (.own x)) x (.ins C dx [])) (fun v H2 => v = .non ∧ Q (.ref x) H2) E := by
  intro x dx nx ndx ne
  have st : Same H1 (upd (upd H1 dx (.own x)) x (.ins C dx [])) := fun b o e => by
    rw [upd_ne (ne_of_none e nx), upd_ne (ne_of_none e ndx)]
    exact e
  exact ⟨x, dx, c, p, rs, xs, rfl, upd_same, hA.same st, hR.same st, hF, hl, fun H' ys keep hn hv => ⟨rfl, q H' _ ys (s1.trans (made_same nx ndx keep)) hv hn⟩⟩
theorem Fits.append {p : Nat} {xs ys : List RC.Tri} (a : Fits p xs) (b : Fits p ys) : Fits p (xs ++ ys) := fun t ht => (List.mem_append.mp ht).elim (a t) (b t)
theorem rows_nil {H : Hp} {rs : List Addr} {ts : List RC.Tri} (h : RowsAt H rs (rows3 ts)) (e : rs.map V.ref = []) : rs = [] ∧ ts = [] := by
  have h1 : rs = [] := by
    cases rs with
    | nil => rfl
    | cons _ _ => cases e
  have h2 := h.length
  rw [h1, List.length_map] at h2
  exact ⟨h1, List.eq_nil_of_length_eq_zero h2.symm⟩
/-! ### Lot.__add__ -/
theorem scAdd : FnScope ["self", "other"] ["self", "other"] (defScope sAdd) := ⟨rfl, rfl, rfl, by decide +kernel, rfl, by decide +kernel, by decide +kernel⟩
theorem ok_add {f C fI : Addr} {fd fdI : FuncData} (F : Fun K "__add__" "Lot.__add__" sAdd f fd) (T : Tx K mg C) (MI : Mi P w K mg base C fI fdI) (B : Bt mg) : FnOk P w K mg base CX0 6 f fd ["self", "other"] (spAdd C) := by
  have GI := MI.G
  refine F.ok scAdd (fun vs H Q E h => ?_) (fun cdv A outer s H vs Q E hr h => ?_)
  · obtain ⟨x, y, p, xs, ys, rfl, _⟩ := h
    rfl
  · obtain ⟨_, _, p, xs, ys, rfl, ⟨a, dx, c, rs, rfl, ha, hc, hR⟩, ⟨b, dy, d, us, rfl, hb, hd, hU⟩, gx, gy, q⟩ := h
    refine ⟨_, pss_cons (ps_if (pt_cmpR op_ne (pe_fld (pv 0) rfl) (pe_fld (pv 1) rfl) (nomark _)) (pss_one ps_never) pss_nil)
      (pss_one (ps_ret (pe_make MI.M GI hr rfl T.mgC MI.b3 .nil pass0 (pa_cons (pe_fld (pv 0) rfl) (pa_cons (pe_op op_catA (pe_fld (pv 0) rfl) (pe_fld (pv 1) rfl)) pa_nil))))), ?_⟩
    refine ⟨_, rfl, a, C, dx, _, _, rfl, ha, T.cl, T.nP, lotF_pins _ _, _, rfl, b, C, dy, _, _, rfl, hb, T.cl, T.nP, lotF_pins _ _, rfl, false, ?_, iteF ?_⟩
    · rw [dec_int, beq_self_eq_true]
      rfl
    have hF : Fits p (xs ++ ys) := gx.fit.append gy.fit
    have hl : (xs ++ ys).length ≤ 1000 := by
      have h1 := gx.len
      have h2 := gy.len
      rw [List.length_append]
      omega
    have lx := hR.length
    have ly := hU.length
    rw [List.length_map] at lx ly
    refine ⟨_, rfl, a, C, dx, _, _, rfl, ha, T.cl, T.nP, lotF_pins _ _, _, rfl, a, C, dx, _, _, rfl, ha, T.cl, T.nC, lotF_cords _ _, _, rfl, b, C, dy, _, _, rfl, hb, T.cl, T.nC, lotF_cords _ _, ?_⟩
    refine ⟨c, d, _, _, rfl, rfl, SqT.of hc, SqT.of hd, ?_, fun e => ?_, fun _ e => ?_, fun _ _ t nt => ?_⟩
    · have h1 := gx.len
      have h2 := gy.len
      rw [List.length_map, List.length_map]
      exact Nat.le_of_lt (sz1000 (by omega))
    · obtain ⟨e1, e2⟩ := rows_nil hR e
      refine make_rd (rs := us) (xs := xs ++ ys) (Same.refl H) (.inr (SqT.of hd)) ?_ hF hl q
      rw [e2]
      exact hU
    · obtain ⟨e1, e2⟩ := rows_nil hU e
      refine make_rd (rs := rs) (xs := xs ++ ys) (Same.refl H) (.inr (SqT.of hc)) ?_ hF hl q
      rw [e2, List.append_nil]
      exact hR
    · have st : Same H (upd H t (.tup (rs.map V.ref ++ us.map V.ref))) := same_new nt
      refine make_rd (rs := rs ++ us) (xs := xs ++ ys) st (.inr (SqT.of ?_)) ?_ hF hl q
      · rw [upd_same, List.map_append]
      · rw [rows3_append]
        exact ((hR.append hU).same st)
/-! ### Lot.__mul__ -/
theorem scMul : FnScope ["self", "number", "a", "b", "n"] ["self", "number"] (defScope sMul) := ⟨rfl, rfl, rfl, by decide +kernel, rfl, by decide +kernel, by decide +kernel⟩
theorem ok_mul {f C fI fW fP fE fC : Addr} {fd fdI fdW fdP fdE fdC : FuncData} (F : Fun K "__mul__" "Lot.__mul__" sMul f fd) (T : Tx K mg C) (MI : Mi P w K mg base C fI fdI) (L : Lo K mg fW fP fE fC fdW fdP fdE fdC) (B : Bt mg) : FnOk P w K mg base CX0 6 f fd ["self", "number"] (spMul C) := by
  have GI := MI.G
  have GW : FnOk P w K mg base CX0 1 fW fdW ["value"] spWhole := ok_whole L.W B
  have GC : FnOk P w K mg base CX0 1 fC fdC ["triples"] (spCombined K) := ok_combined L.C B
  refine F.ok scMul (fun vs H Q E h => ?_) (fun cdv A outer s H vs Q E hr h => ?_)
  · obtain ⟨x, c, p, xs, rfl, _⟩ := h
    rfl
  · obtain ⟨_, n, p, xs, rfl, ⟨a, dx, c, rs, rfl, ha, hc, hR⟩, gx, n0, n1, q⟩ := h
    have nd := scMul.nd
    have hr1 : Room 1 _ := hr.mono (by decide)
    refine ⟨_, pss_cons (ps_if (pw_or (pt_not (pt_val (pe_call GW hr1 (by rfl) L.gW L.W.kp L.bW .nil pass0 (pa_cons (pv 1) pa_nil)))) (pw_or1 (pt_cmpR op_lt (pv 1) pe_int (nomark _)))).pt (pss_one ps_never) pss_nil)
      (pss_one (ps_ret (pe_make MI.M GI hr rfl T.mgC MI.b3 .nil pass0 (pa_cons (pe_fld (pv 0) rfl) (pa_cons (pe_call GC hr1 (by rfl) L.gC L.C.kp L.bC .nil pass0 (pa_cons
        (pe_lc (own := [("a", 2), ("b", 3), ("n", 4)]) (g := gTup K 3 (gCons (gName 2) (gCons (gName 3) (gCons (gName 4) gNil)))) (by rfl) nd (pi_tup (pe_fld (pv 0) rfl))
          (blkOk_by (own := [("a", 2), ("b", 3), ("n", 4)]) (N := ["self", "number", "a", "b", "n"]) (sc := defScope sMul) (by decide +kernel))
          (fun _ _ _ _ _ => pg_tup rfl (pgs_cons (pg_name (i := 2) nd rfl (.inl rfl)) (pgs_cons (pg_name (i := 3) nd rfl (.inl rfl)) (pgs_cons (pg_name (i := 4) nd rfl (.inl rfl)) pgs_nil))))
          (fun _ _ _ _ _ => pts_nil)
          (fun _ _ _ _ _ => pe_tup (pa_cons (pv 2) (pa_cons (pv 3) (pa_cons (pe_op op_mul (pv 4) (pv 1)) pa_nil))))) pa_nil)) pa_nil))))), ?_⟩
    refine ⟨_, rfl, n, rfl, true, rfl, iteF ?_⟩
    refine ⟨_, rfl, n, 0, rfl, rfl, false, congrArg V.bl (decide_eq_false (by omega)), iteF ?_⟩
    refine ⟨_, rfl, a, C, dx, _, _, rfl, ha, T.cl, T.nP, lotF_pins _ _, ?_⟩
    refine ⟨_, rfl, a, C, dx, _, _, rfl, ha, T.cl, T.nC, lotF_cords _ _, c, rfl, ⟨_, SqT.of hc⟩, fun D nD => ?_⟩
    refine lc_tup (K := K) (a := c) (xs := rs.map V.ref) (fun k H' => Same H H' ∧ ∃ qs, H' D = some (.lst (qs.map V.ref)) ∧ qs.length = k ∧ RowsAt H' qs (rows3 (scale n (xs.take k))))
      ⟨same_new nD, [], upd_same, rfl, .nil⟩ (fun k H' _ h => SqT.of (h.1 _ _ hc)) ?_ ?_
    · rintro k x H1 hi ⟨s1, qs, e1, l1, r1⟩
      obtain ⟨r, t, rfl, et, er⟩ := hR.tri hi
      have er1 := s1 _ _ er
      have k1 : k < 1000 := by
        have h1 := getElem_len et
        have h2 := gx.len
        omega
      refine ⟨r, _, rfl, SqT.of er1, rfl, _, _, rfl, _, _, rfl, _, _, rfl, rfl, rfl, ?_⟩
      refine ⟨_, rfl, _, rfl, _, rfl, _, rfl, t.2.2, n, rfl, rfl, .inr ⟨by omega, by omega⟩, (by show 3 ≤ sizeLine; decide), fun u nu => ?_⟩
      have su : Same H1 (upd H1 u (.tup [.int t.1, .int t.2.1, .int (t.2.2 * n)])) := same_new nu
      have e2 := su _ _ e1
      refine ⟨_, e2, ?_, sSet (s1.trans su) nD, qs ++ [u], ?_, ?_, ?_⟩
      · rw [List.length_map, l1]
        exact sz1000 (by omega)
      · rw [upd_same, refs_snoc]
      · rw [List.length_append, l1]
        rfl
      · unfold scale at r1 ⊢
        rw [take_snoc et, List.map_append, rows3_append]
        exact ((r1.same su).more upd_same).tups (Tups.list e2)
    · rintro H1 ⟨s1, qs, e1, l1, r1⟩
      rw [take_all xs (by rw [List.length_map, hR.length, List.length_map])] at r1
      have lsc : (scale n xs).length = xs.length := List.length_map ..
      have len := gx.len
      refine ⟨D, qs, scale n xs, rfl, .inl (SqL.of e1), r1, fun t ht => ?_, by omega, fun H2 v ys s2 hn hv => ?_⟩
      · obtain ⟨u, hu, rfl⟩ := List.mem_map.mp ht
        have h1 := gx.fit u hu
        exact ⟨h1.2.2.2.2.1, Int.mul_nonneg (by omega) n0⟩
      · obtain ⟨cc, us, rfl, ec, eu⟩ := hv
        have hF : Fits p ys := fun t ht => by
          obtain ⟨u, hu, k⟩ := hn.sub t ht
          obtain ⟨u', hu', rfl⟩ := List.mem_map.mp hu
          have h1 := gx.fit u' hu'
          have h2 := hn.nrm.ok t ht
          dsimp only at k
          rcases k with ⟨k1, k2⟩ | ⟨k1, k2⟩
          · rw [k1, k2] at h1
            omega
          · rw [k1, k2] at h1
            omega
        have hl : ys.length ≤ 200 := by
          have := hn.len
          omega
        refine make_rd (rs := us) (xs := ys) (s1.trans s2) (.inr (SqT.of ec)) eu hF (by omega) fun H3 v zs s3 lz hz => ?_
        have ez := hz.self hn.nrm
        subst ez
        exact q H3 v _ s3 lz ⟨hn.nrm, hF, hl⟩ fun f hf => by
          rw [hn.wts f hf]
          exact RC.wt_scale f n xs
end
end Rc
namespace Rc
open PySem L2

/-- [e for (a, b) in d], d a locked dict whose keys are tuples: after i of them Pv i holds -/
theorem lc_keysT {d : Addr} {o : Obj} {kvs : List (List L2.Key × V)} {g : TG} {te : TE} {vs : List Nat} {σ : St} {H1 : Hp} {D : Addr} {Qd : Hp → Prop} (Pv : Nat → Hp → Prop) (h0 : Pv 0 (upd H1 D (.lst []))) (hl : ∀ i H', Pv i H' → H' d = some (.frz o (.dT kvs)))
    (hs : ∀ i k v q H', kvs[i]? = some (k, v) → H' q = some (.tup (k.map kV)) → Pv i H' → g (.ref q) (wipe σ vs) H' fun σ2 H2 => wipe σ2 vs = wipe σ vs ∧ te σ2 H2 fun y H4 => ∃ acc, H4 D = some (.lst acc) ∧ acc.length < sizeLine ∧ Pv (i + 1) (upd H4 D (.lst (acc ++ [y]))))
    (hd : ∀ H', Pv kvs.length H' → Qd H') : ∃ W : Nat → Nat → Hp → Prop, (∃ m, W 0 m (upd H1 D (.lst []))) ∧ ∀ i m H, W i m H → ((Itkt d o kvs).stop i H ∧ Qd H) ∨
      ((Itkt d o kvs).go i H ∧ ∃ Nx : Hp → Prop, (∀ H', Nx H' → ∃ m', m' < m ∧ W (i + 1) m' H') ∧ ∀ x H', (Itkt d o kvs).yld i H x H' → g x (wipe σ vs) H' fun σ2 H2 => wipe σ2 vs = wipe σ vs ∧
        tYes σ2 H2 fun b H3 => if b = true then te σ2 H3 fun y H4 => ∃ acc, H4 D = some (.lst acc) ∧ acc.length < sizeLine ∧ Nx (upd H4 D (.lst (acc ++ [y]))) else Nx H3) := by
  refine ⟨fun i m H' => i + m = kvs.length ∧ Pv i H', ⟨kvs.length, Nat.zero_add _, h0⟩, fun i m H' hw => ?_⟩
  obtain ⟨em, p⟩ := hw
  rcases Nat.lt_or_ge i kvs.length with lt | ge
  · refine .inr ⟨⟨hl _ _ p, lt⟩, Pv (i + 1), fun H2 p2 => ⟨m - 1, by omega, by omega, p2⟩, fun x H2 y => ?_⟩
    obtain ⟨rfl, k, v, q, e1, rfl, e2⟩ := y
    exact hs i k v q _ e1 e2 p
  · have e : i = kvs.length := by omega
    subst e
    exact .inl ⟨⟨hl _ _ p, Nat.le_refl _⟩, hd _ p⟩
theorem dput_new {d : RC.Dic} {k : Int × Int} (v : Int) (h : k ∉ RC.keys d) : RC.dput d k v = d ++ [(k, v)] := by
  unfold RC.dput
  rw [if_neg fun z => h ((RC.any_keys d k).mp z)]
/-- a normal list's entries come one by one into its dict -/
theorem dicOf_snoc {xs : List RC.Tri} (hn : RC.Nrm xs) {i : Nat} {t : RC.Tri} (e : xs[i]? = some t) : RC.dput (RC.dicOf (xs.take i)) (t.1, t.2.1) t.2.2 = RC.dicOf (xs.take (i + 1)) := by
  rw [take_snoc e]
  rw [dput_new]
  · unfold RC.dicOf
    rw [List.map_append]
    rfl
  · rw [RC.keys_dicOf]
    intro hm
    have h1 := RC.nrm_nodup hn
    have hx : xs = xs.take i ++ t :: xs.drop (i + 1) := by
      have e1 : xs.drop i = t :: xs.drop (i + 1) := by
        rw [List.drop_eq_getElem_cons (getElem_len e)]
        congr 1
        exact (List.getElem?_eq_some_iff.mp e).2
      rw [← e1, List.take_append_drop]
    rw [hx, List.map_append] at h1
    exact (List.nodup_append.mp h1).2.2 _ hm _ (by rw [List.map_cons]; exact List.mem_cons_self ..) rfl
theorem split_at {xs : List RC.Tri} {i : Nat} {t : RC.Tri} (e : xs[i]? = some t) : xs = xs.take i ++ t :: xs.drop (i + 1) := by
  have e1 : xs.drop i = t :: xs.drop (i + 1) := by
    rw [List.drop_eq_getElem_cons (getElem_len e)]
    congr 1
    exact (List.getElem?_eq_some_iff.mp e).2
  rw [← e1, List.take_append_drop]
theorem encD_get {d : RC.Dic} {i : Nat} {k : List L2.Key} {v : V} (h : (encD d)[i]? = some (k, v)) : ∃ e, d[i]? = some e ∧ k = encK e.1 ∧ v = .int e.2 := by
  unfold encD at h
  rw [List.getElem?_map] at h
  cases q : d[i]? with
  | none => rw [q] at h; cases h
  | some e =>
    rw [q] at h
    cases h
    exact ⟨e, rfl, rfl, rfl⟩

section
variable {P : Program} {w : World} {K : PySem.W.Frag} {mg : Str → Option Value} {base : Heap}
theorem scSub : FnScope ["self", "other", "a", "b", "n", "left"] ["self", "other"] (defScope sSub) := ⟨rfl, rfl, rfl, by decide +kernel, rfl, by decide +kernel, by decide +kernel⟩
theorem ok_sub {f C fI fW fP fE fC : Addr} {fd fdI fdW fdP fdE fdC : FuncData} (F : Fun K "__sub__" "Lot.__sub__" sSub f fd) (T : Tx K mg C) (MI : Mi P w K mg base C fI fdI) (L : Lo K mg fW fP fE fC fdW fdP fdE fdC) (B : Bt mg) : FnOk P w K mg base CX0 6 f fd ["self", "other"] (spSub C) := by
  have GI := MI.G
  have GC : FnOk P w K mg base CX0 1 fC fdC ["triples"] (spCombined K) := ok_combined L.C B
  refine F.ok scSub (fun vs H Q E h => ?_) (fun cdv A outer s H vs Q E hr h => ?_)
  · obtain ⟨x, y, p, xs, ys, zs, rfl, _⟩ := h
    rfl
  · obtain ⟨_, _, p, xs, ys, zs, rfl, ⟨a, dx, c, rs, rfl, ha, hc, hR⟩, ⟨b, dy, c2, us, rfl, hb, hc2, hU⟩, gx, gy, hz, hw, q⟩ := h
    have nd := scSub.nd
    have hu := hu_of hr
    have hr1 : Room 1 _ := hr.mono (by decide)
    have lx := gx.len
    have ly := gy.len
    have lrs := hR.length
    have lus := hU.length
    rw [List.length_map] at lrs lus
    refine ⟨_, pss_cons (ps_if (pt_cmpR op_ne (pe_fld (pv 0) rfl) (pe_fld (pv 1) rfl) (nomark _)) (pss_one ps_never) pss_nil)
      (pss_cons (ps_set (i := 5) nd rfl (.inr rfl) (pe_dcT (own := [("a", 2), ("b", 3), ("n", 4)]) (g := gTup K 3 (gCons (gName 2) (gCons (gName 3) (gCons (gName 4) gNil)))) hu (by rfl) nd (pi_tup (pe_fld (pv 0) rfl))
          (blkOk_by (own := [("a", 2), ("b", 3), ("n", 4)]) (N := ["self", "other", "a", "b", "n", "left"]) (sc := defScope sSub) (by decide +kernel))
          (fun _ _ _ _ _ => pg_tup rfl (pgs_cons (pg_name (i := 2) nd rfl (.inl rfl)) (pgs_cons (pg_name (i := 3) nd rfl (.inl rfl)) (pgs_cons (pg_name (i := 4) nd rfl (.inl rfl)) pgs_nil))))
          (fun _ _ _ _ _ => pe_tup (pa_cons (pv 2) (pa_cons (pv 3) pa_nil))) (fun _ _ _ _ _ => pv 4)))
      (pss_cons (ps_for PassesOwn.never rfl (pi_tup (pe_fld (pv 1) rfl)) (pg_tup rfl (pgs_cons (pg_name (i := 2) nd rfl (.inl rfl)) (pgs_cons (pg_name (i := 3) nd rfl (.inl rfl)) (pgs_cons (pg_name (i := 4) nd rfl (.inl rfl)) pgs_nil))))
        (pss_cons (ps_if (pt_cmpR op_gt (pv 4) (pe_dget2 hu (pv 5) (pe_tup (pa_cons (pv 2) (pa_cons (pv 3) pa_nil))) pe_int ⟨rfl, rfl, rfl, rfl⟩) (nomark _)) (pss_one ps_never) pss_nil)
          (pss_one (ps_dput hu (pv 5) (pe_tup (pa_cons (pv 2) (pa_cons (pv 3) pa_nil))) (pe_op op_sub (pe_dget hu (pv 5) (pe_tup (pa_cons (pv 2) (pa_cons (pv 3) pa_nil))) (fun _ _ => rfl)) (pv 4)) rfl))))
      (pss_one (ps_ret (pe_make MI.M GI hr rfl T.mgC MI.b3 .nil pass0 (pa_cons (pe_fld (pv 0) rfl) (pa_cons (pe_call GC hr1 (by rfl) L.gC L.C.kp L.bC .nil pass0 (pa_cons
        (pe_lock (pe_lc (own := [("a", 2), ("b", 3)]) (g := gTup K 2 (gCons (gName 2) (gCons (gName 3) gNil))) (by rfl) nd (pi_keys (pv 5))
          (blkOk_by (own := [("a", 2), ("b", 3)]) (N := ["self", "other", "a", "b", "n", "left"]) (sc := defScope sSub) (by decide +kernel))
          (fun _ _ _ _ _ => pg_tup rfl (pgs_cons (pg_name (i := 2) nd rfl (.inl rfl)) (pgs_cons (pg_name (i := 3) nd rfl (.inl rfl)) pgs_nil)))
          (fun _ _ _ _ _ => pts_nil)
          (fun _ _ _ _ _ => pe_tup (pa_cons (pv 2) (pa_cons (pv 3) (pa_cons (pe_dget hu (pv 5) (pe_tup (pa_cons (pv 2) (pa_cons (pv 3) pa_nil))) (fun _ _ => rfl)) pa_nil)))))) pa_nil)) pa_nil))))))), ?_⟩
    refine ⟨_, rfl, a, C, dx, _, _, rfl, ha, T.cl, T.nP, lotF_pins _ _, _, rfl, b, C, dy, _, _, rfl, hb, T.cl, T.nP, lotF_pins _ _, rfl, false, ?_, iteF ?_⟩
    · rw [dec_int, beq_self_eq_true]
      rfl
    -- left = {(a, b): n for ..}
    refine ⟨_, rfl, a, C, dx, _, _, rfl, ha, T.cl, T.nC, lotF_cords _ _, c, rfl, ⟨_, SqT.of hc⟩, fun d nd0 => ?_⟩
    refine dcT_tup (K := K) (a := c) (xs := rs.map V.ref) (fun i H' => Same H H' ∧ H' d = some (.dT (encD (RC.dicOf (xs.take i))))) ⟨same_new nd0, upd_same⟩ (fun i H' _ h => SqT.of (h.1 _ _ hc)) ?_ ?_
    · rintro i x H1 hi ⟨s1, e1⟩
      obtain ⟨r, t, rfl, et, er⟩ := hR.tri hi
      have er1 := s1 _ _ er
      refine ⟨r, _, rfl, SqT.of er1, rfl, _, _, rfl, _, _, rfl, _, _, rfl, rfl, rfl, ?_⟩
      refine ⟨_, rfl, _, rfl, (by show 2 ≤ sizeLine; decide), fun t2 nt => ?_⟩
      have e2 : (upd H1 t2 (.tup [.int t.1, .int t.2.1])) d = some (.dT (encD (RC.dicOf (xs.take i)))) := same_new nt _ _ e1
      refine ⟨_, rfl, _, encK (t.1, t.2.1), t2, rfl, upd_same, e2, ?_, sSet (sNew s1 nt) nd0, ?_⟩
      · rw [encD_len]
        unfold RC.dicOf
        rw [List.length_map, List.length_take]
        exact sz1000 (by omega)
      · rw [upd_same, put_encD, dicOf_snoc gx.nrm et]
    · rintro H1 ⟨s1, e1⟩
      rw [take_all xs (by rw [List.length_map, lrs])] at e1
      -- for a, b, n in other.cords
      refine ⟨_, rfl, b, C, dy, _, _, rfl, s1 _ _ hb, T.cl, T.nC, lotF_cords _ _, c2, rfl, ⟨_, SqT.of (s1 _ _ hc2)⟩, ?_⟩
      refine for_tup (K := K) (a := c2) (xs := us.map V.ref) (fun i σ H' => ∃ y2 y3 y4 dd, σ = [some (.ref a), some (.ref b), y2, y3, y4, some (.ref d)] ∧ Same H H' ∧ H' d = some (.dT (encD dd)) ∧ RC.LInv xs (ys.take i) dd)
        ⟨_, _, _, _, rfl, s1, e1, RC.LInv.start gx.nrm⟩ (fun i σ H' _ h => ?_) ?_ ?_
      · obtain ⟨_, _, _, _, _, s2, _⟩ := h
        exact SqT.of (s2 _ _ hc2)
      · rintro i x σ H2 hi ⟨y2, y3, y4, dd, rfl, s2, e2, li⟩
        obtain ⟨r, t, rfl, et, er⟩ := hU.tri hi
        have er1 := s2 _ _ er
        obtain ⟨tlt, tpos⟩ := gy.nrm.ok t (mem_get et)
        have hroom : t.2.2 ≤ RC.dz dd (t.1, t.2.1) := by
          refine li.room (zs := zs) (more := ys.drop (i + 1)) (fun f hf => ?_) hz (fun u hu => Int.le_of_lt (gy.nrm.ok u (List.mem_of_mem_drop hu)).2) tlt
          rw [hw f hf]
          exact congrArg (fun l => RC.wt f zs + RC.wt f l) (split_at et)
        have hkey := li.has tpos hroom
        have ldd := li.len
        refine ⟨r, _, rfl, SqT.of er1, rfl, _, _, rfl, _, _, rfl, _, _, rfl, rfl, ?_⟩
        refine ⟨_, rfl, _, rfl, d, rfl, .inr ⟨_, Rd.of e2⟩, _, rfl, _, rfl, (by show 2 ≤ sizeLine; decide), fun t2 nt => ?_⟩
        have e3 : (upd H2 t2 (.tup [.int t.1, .int t.2.1])) d = some (.dT (encD dd)) := same_new nt _ _ e2
        refine ⟨_, DGet.t (k := encK (t.1, t.2.1)) e3 upd_same, t.2.2, RC.dz dd (t.1, t.2.1), rfl, ?_, false, congrArg V.bl (decide_eq_false (by omega)), iteF ?_⟩
        · rw [val_encD]
          exact getD_int _ _
        -- left[a, b] = left[a, b] - n
        refine ⟨_, rfl, _, rfl, _, rfl, (by show 2 ≤ sizeLine; decide), fun t3 nt3 => ?_⟩
        have e4 := same_new (o := .tup [.int t.1, .int t.2.1]) nt3 _ _ e3
        refine ⟨d, _, rfl, (val_dz hkey) ▸ DGet.t (k := encK (t.1, t.2.1)) e4 upd_same, _, rfl, RC.dz dd (t.1, t.2.1), t.2.2, rfl, rfl, ?_⟩
        refine ⟨_, rfl, _, rfl, _, rfl, (by show 2 ≤ sizeLine; decide), fun t4 nt4 => ?_⟩
        have e5 := same_new (o := .tup [.int t.1, .int t.2.1]) nt4 _ _ e4
        refine ⟨d, _, rfl, DPut.t (k := encK (t.1, t.2.1)) e5 upd_same ?_, ?_⟩
        · rw [encD_len, ldd]
          exact sz1000 (by omega)
        refine ⟨_, _, _, RC.dput dd (t.1, t.2.1) (RC.dz dd (t.1, t.2.1) - t.2.2), rfl, sSet (sNew (sNew (sNew s2 nt) nt3) nt4) nd0, ?_, ?_⟩
        · rw [upd_same, put_encD]
        · rw [take_snoc et]
          exact li.step tpos hroom
      · rintro σ H2 ⟨y2, y3, y4, dd, rfl, s2, e2, li⟩
        rw [take_all ys (by rw [List.length_map, lus])] at li
        have ldd := li.len
        -- return Lot(self.pins, combined([.. for a, b in left]))
        refine ⟨_, rfl, a, C, dx, _, _, rfl, s2 _ _ ha, T.cl, T.nP, lotF_pins _ _, ?_⟩
        refine ⟨d, _, e2, trivial, fun od => ⟨_, rfl, d, od, rfl, .inr ⟨_, upd_same, ?_⟩⟩⟩
        intro D nD
        have ndD : d ≠ D := ne_of_none upd_same nD
        have nD2 : H2 D = none := by
          rw [upd_ne ndD.symm] at nD
          exact nD
        refine lc_keysT (fun i H' => (∀ b o, b ≠ d → H2 b = some o → H' b = some o) ∧ H' d = some (.frz od (.dT (encD dd))) ∧ ∃ qs, H' D = some (.lst (qs.map V.ref)) ∧ qs.length = i ∧ RowsAt H' qs (rows3 ((RC.tris dd).take i)))
          ⟨fun b o hb e => ?_, ?_, [], upd_same, rfl, .nil⟩ (fun i H' h => h.2.1) ?_ ?_
        · rw [upd_ne (ne_of_none e nD2), upd_ne hb]
          exact e
        · rw [upd_ne ndD, upd_same]
        · rintro i k v r H3 hi er ⟨s3, e3, qs, eD, l3, r3⟩
          obtain ⟨e, ee, rfl, rfl⟩ := encD_get hi
          have em : RC.dz dd e.1 = e.2 := RC.mem_of_dz li.nd (mem_get ee) rfl
          have ek : e.1 ∈ RC.keys dd := List.mem_map.mpr ⟨e, mem_get ee, rfl⟩
          have il : i < 200 := by
            have := getElem_len ee
            omega
          refine ⟨r, _, rfl, SqT.of er, rfl, _, _, rfl, _, _, rfl, rfl, rfl, ?_⟩
          refine ⟨_, rfl, _, rfl, _, rfl, _, rfl, _, rfl, (by show 2 ≤ sizeLine; decide), fun t nt => ?_⟩
          have e4 := same_new (o := .tup [.int e.1.1, .int e.1.2]) nt _ _ e3
          refine ⟨d, .int e.2, rfl, .inr ⟨_, encK e.1, t, .inr ⟨od, e4⟩, rfl, upd_same, ?_⟩, (by show 3 ≤ sizeLine; decide), fun t2 nt2 => ?_⟩
          · rw [val_dz ek, em]
          have st : Same H3 (upd (upd H3 t (.tup [.int e.1.1, .int e.1.2])) t2 (.tup [.int e.1.1, .int e.1.2, .int e.2])) := (same_new nt).trans (same_new nt2)
          have eD2 := st _ _ eD
          refine ⟨_, eD2, ?_, fun b o hb z => ?_, ?_, qs ++ [t2], ?_, ?_, ?_⟩
          · rw [List.length_map, l3]
            exact sz1000 (by omega)
          · rw [upd_ne (ne_of_none z nD2)]
            exact st _ _ (s3 b o hb z)
          · rw [upd_ne ndD]
            exact st _ _ e3
          · rw [upd_same, refs_snoc]
          · rw [List.length_append, l3]
            rfl
          · have et : (RC.tris dd)[i]? = some (e.1.1, e.1.2, e.2) := by
              unfold RC.tris
              rw [List.getElem?_map, ee]
              rfl
            rw [take_snoc et, rows3_append]
            exact ((r3.same st).more upd_same).tups (Tups.list eD2)
        · rintro H3 ⟨s3, e3, qs, eD, l3, r3⟩
          have lt : (RC.tris dd).length = dd.length := List.length_map ..
          rw [take_all (RC.tris dd) (by rw [encD_len, lt])] at r3
          refine ⟨e3, ?_⟩
          have s4 : Same H2 (upd H3 d (.dT (encD dd))) := fun b o z => by
            by_cases hb : b = d
            · subst hb
              rw [e2] at z
              cases z
              exact upd_same
            · rw [upd_ne hb]
              exact s3 b o hb z
          have tup4 : Tups H3 (upd H3 d (.dT (encD dd))) := fun b zs z => by
            rw [upd_ne (ne_of z e3 fun y => nomatch y)]
            exact z
          have eD4 : (upd H3 d (.dT (encD dd))) D = some (.lst (qs.map V.ref)) := by
            rw [upd_ne ndD.symm]
            exact eD
          refine ⟨D, qs, RC.tris dd, rfl, .inl (SqL.of eD4), r3.tups tup4, fun t ht => ?_, by omega, fun H5 v vs2 s5 hn hv => ?_⟩
          · obtain ⟨e, he, rfl⟩ := List.mem_map.mp ht
            have := li.ok e he
            exact ⟨by dsimp only; omega, this.2⟩
          · obtain ⟨cc, ws, rfl, ec, ew⟩ := hv
            have hF : Fits p vs2 := fun t ht => by
              obtain ⟨u, hu2, k⟩ := hn.sub t ht
              obtain ⟨e, he, rfl⟩ := List.mem_map.mp hu2
              obtain ⟨s0, hs0, q1, q2⟩ := li.sub e he
              have h1 := gx.fit s0 hs0
              have h2 := hn.nrm.ok t ht
              dsimp only at k
              rw [q1, q2] at h1
              rcases k with ⟨k1, k2⟩ | ⟨k1, k2⟩
              · rw [k1, k2] at h1
                omega
              · rw [k1, k2] at h1
                omega
            have hl : vs2.length ≤ 200 := by
              have := hn.len
              omega
            refine make_rd (rs := ws) (xs := vs2) ((s2.trans s4).trans s5) (.inr (SqT.of ec)) ew hF (by omega) fun H6 v zs2 s6 lz hz2 => ?_
            have ez := hz2.self hn.nrm
            subst ez
            exact q H6 v _ s6 lz ⟨hn.nrm, hF, hl⟩ fun f hf => by
              rw [hn.wts f hf, RC.dwt_tris, li.wts f hf, hw f hf]
              omega
end
end Rc
namespace Rc
open PySem L2

theorem paired_snoc {α β : Type} {G : α → β → Prop} : ∀ {xs : List α} {ys : List β} {x : α} {y : β}, Paired G xs ys → G x y → Paired G (xs ++ [x]) (ys ++ [y])
  | _, _, _, _, .nil, h => .cons h .nil
  | _, _, _, _, .cons a t, h => .cons a (paired_snoc t h)
theorem paired_len {α β : Type} {G : α → β → Prop} : ∀ {xs : List α} {ys : List β}, Paired G xs ys → xs.length = ys.length
  | _, _, .nil => rfl
  | _, _, .cons _ t => congrArg Nat.succ (paired_len t)
theorem paired_at {α β : Type} {G : α → β → Prop} : ∀ {xs : List α} {ys : List β}, Paired G xs ys → ∀ {i : Nat} {x : α}, xs[i]? = some x → ∃ y, ys[i]? = some y ∧ G x y
  | _, _, .nil, i, x, h => by simp at h
  | _, _, .cons a t, 0, x, h => ⟨_, rfl, by
    have e := Option.some.inj h
    rw [← e]
    exact a⟩
  | _, _, .cons a t, i + 1, x, h => paired_at t (i := i) h
theorem paired_at2 {α β : Type} {G : α → β → Prop} {xs : List α} {ys : List β} (p : Paired G xs ys) {i : Nat} (h : i < ys.length) : ∃ x y, xs[i]? = some x ∧ ys[i]? = some y ∧ G x y := by
  have hl := paired_len p
  obtain ⟨y, e, g⟩ := paired_at p (List.getElem?_eq_getElem (show i < xs.length by omega))
  exact ⟨_, y, List.getElem?_eq_getElem _, e, g⟩
theorem map_at {α : Type} {l : List α} {f : α → V} {i : Nat} {x : V} (h : (l.map f)[i]? = some x) : ∃ a, l[i]? = some a ∧ x = f a := by
  rw [List.getElem?_map] at h
  cases e : l[i]? with
  | none => rw [e] at h; cases h
  | some a => rw [e] at h; exact ⟨a, rfl, (Option.some.inj h).symm⟩
theorem at_map {α : Type} {l : List α} {f : α → V} {i : Nat} {a : α} (h : l[i]? = some a) : (l.map f)[i]? = some (f a) := by
  rw [List.getElem?_map, h]
  rfl
theorem room65 {A : Around} {k : Nat} (hr : Room k A) : A.units + 65 < cLine := by
  have := hr.un
  omega
section
variable {P : Program} {w : World} {K : PySem.W.Frag} {mg : Str → Option Value} {base : Heap}
/-! ### _law_cell -/
theorem scCell : FnScope ["_law_script", "_law_k", "_law_seed", "_law_cell_here"] ["_law_script", "_law_k"] (defScope sLCell) := ⟨rfl, rfl, rfl, by decide +kernel, rfl, by decide +kernel, by decide +kernel⟩
theorem ok_cell {f : Addr} {fd : FuncData} (F : Fun K "_law_cell" "_law_cell" sLCell f fd) (B : Bt mg) : FnOk P w K mg base CX0 1 f fd ["_law_script", "_law_k"] (spLCell K) := by
  refine F.ok scCell (fun vs H Q E h => ?_) (fun cdv A outer s H vs Q E hr h => ?_)
  · obtain ⟨a, ns, k, rfl, _⟩ := h
    rfl
  · obtain ⟨a, ns, k, rfl, hS, k0, k1, q⟩ := h
    have nd := scCell.nd
    refine ⟨_, pss_cons (ps_if (pt_cmpR op_lt (pv 1) (pe_callB call_len_seq (by rfl) B.len bt_len (pa_cons (pv 0) pa_nil)) (nomark _)) (pss_one (ps_ret (pe_ix ix_list (pv 0) (pv 1) (fun _ _ => rfl)))) pss_nil)
      (pss_cons (ps_set (i := 2) nd rfl (.inl rfl) pe_int)
      (pss_cons (ps_for PassesOwn.never rfl (pi_list (pv 0)) (pg_name (i := 3) nd rfl (.inl rfl))
        (pss_one (ps_set (i := 2) nd rfl (.inl rfl) (pe_op op_mod (pe_callTy call_int1 (by rfl) B.int bt_int (pa_cons (pe_op op_add (pe_op op_mul (pv 2) pe_int) (pe_op op_mod (pe_callTy call_int1 (by rfl) B.int bt_int (pa_cons (pv 3) pa_nil)) pe_int)) pa_nil)) pe_int))))
      (pss_one (ps_ret (pe_op op_mod (pe_callTy call_int1 (by rfl) B.int bt_int (pa_cons (pe_op op_mul (pe_op op_mul (pe_op op_add (pv 2) pe_int) (pe_op op_add (pv 1) pe_int)) pe_int) pa_nil)) pe_int))))), ?_⟩
    refine ⟨_, rfl, _, rfl, a, _, rfl, .inl hS, k, _, rfl, rfl, _, rfl, ite2 (fun h => ?_) (fun _ => ?_)⟩
    · have h' := of_decide_eq_true h
      rw [List.length_map] at h'
      obtain ⟨j, rfl⟩ : ∃ j : Nat, k = (j : Int) := ⟨k.toNat, by omega⟩
      have hj : j < ns.length := by omega
      refine ⟨_, rfl, _, rfl, a, _, _, _, rfl, rfl, hS, atI_nat (at_map (List.getElem?_eq_getElem hj)), q _⟩
    · refine ⟨_, rfl, a, rfl, ⟨_, hS⟩, for_list (K := K) (a := a) (xs := ns.map V.int) (fun i σ H' => ∃ (z : Int) (y3 : Option V), σ = [some (.ref a), some (.int k), some (.int z), y3] ∧ H' = H) ⟨17, _, rfl, rfl⟩ (fun i σ H' _ h => ?_) ?_ ?_⟩
      · obtain ⟨_, _, _, rfl⟩ := h
        exact hS
      · rintro i x σ H1 hi ⟨z, y3, rfl, rfl⟩
        obtain ⟨n, en, rfl⟩ := map_at hi
        refine ⟨_, rfl, z, 31, rfl, rfl, .inr ⟨by decide, by decide⟩, _, rfl, .inl ⟨n, rfl, n, 1000003, rfl, rfl, by show (0 : Int) < 1000003; decide, _, _, rfl, rfl, .inl ⟨_, rfl, _, 1000003, rfl, rfl, by show (0 : Int) < 1000003; decide, ?_⟩⟩⟩
        exact ⟨_, _, rfl, rfl⟩
      · rintro σ H1 ⟨z, y3, rfl, rfl⟩
        refine ⟨_, rfl, z, 7, rfl, rfl, _, rfl, k, 3, rfl, rfl, z + 7, k + 3, rfl, rfl, .inr ⟨by omega, by omega⟩, _, 69621, rfl, rfl, .inr ⟨by decide, by decide⟩, .inl ⟨_, rfl, _, 2147483647, rfl, rfl, by show (0 : Int) < 2147483647; decide, q _⟩⟩
/-! ### _law_digits -/
theorem scDigits : FnScope ["_law_cell_here", "_law_sizes", "_law_row", "_law_rest", "_law_size", "_law_seed", "_law_k", "_law_twice"] ["_law_cell_here", "_law_sizes"] (defScope sLDigits) := ⟨rfl, rfl, rfl, by decide +kernel, rfl, by decide +kernel, by decide +kernel⟩
theorem ok_digits {f : Addr} {fd : FuncData} (F : Fun K "_law_digits" "_law_digits" sLDigits f fd) (B : Bt mg) : FnOk P w K mg base CX0 1 f fd ["_law_cell_here", "_law_sizes"] (spLDigits K) := by
  refine F.ok scDigits (fun vs H Q E h => ?_) (fun cdv A outer s H vs Q E hr h => ?_)
  · obtain ⟨z, l, ss, rfl, _⟩ := h
    rfl
  · obtain ⟨z, l, ss, rfl, hS, hs, hlen, q⟩ := h
    have nd := scDigits.nd
    refine ⟨_, pss_cons (ps_set (i := 2) nd rfl (.inl rfl) (pe_lst pa_nil))
      (pss_cons (ps_set (i := 3) nd rfl (.inl rfl) (pe_callTy call_int1 (by rfl) B.int bt_int (pa_cons (pv 0) pa_nil)))
      (pss_cons (ps_if (pt_cmpR op_ge (pv 3) (pe_op op_pow pe_int pe_int) (nomark _))
        (pss_cons (ps_set (i := 3) nd rfl (.inl rfl) (pe_op op_sub (pv 3) (pe_op op_pow pe_int pe_int)))
        (pss_cons (ps_for PassesOwn.never rfl (pi_list (pv 1)) (pg_name (i := 4) nd rfl (.inl rfl))
          (pss_cons (ps_expr (pe_bm PySem.F.plainAttrs_list PySem.F.slot_list_append PySem.F.type_list_append mt_append (pv 2) (pa_cons (pe_op op_mod (pe_callTy call_int1 (by rfl) B.int bt_int (pa_cons (pv 3) pa_nil)) (pv 4)) pa_nil)))
          (pss_one (ps_set (i := 3) nd rfl (.inl rfl) (pe_op op_fdiv (pe_callTy call_int1 (by rfl) B.int bt_int (pa_cons (pv 3) pa_nil)) (pv 4))))))
        (pss_one (ps_ret (pv 2))))) pss_nil)
      (pss_cons (ps_set (i := 5) nd rfl (.inl rfl) (pe_op op_mod (pe_callTy call_int1 (by rfl) B.int bt_int (pa_cons (pv 3) pa_nil)) pe_int))
      (pss_cons (ps_for PassesOwn.never rfl (pi_range1 (by rfl) B.range (pa_cons (pe_callB call_len_seq (by rfl) B.len bt_len (pa_cons (pv 1) pa_nil)) pa_nil)) (pg_name (i := 6) nd rfl (.inl rfl))
          (pss_cons (ps_set (i := 5) nd rfl (.inl rfl) (pe_op op_mod (pe_callTy call_int1 (by rfl) B.int bt_int (pa_cons (pe_op op_add (pe_op op_add (pe_op op_mul (pv 5) pe_int) (pe_op op_mul pe_int (pv 6))) pe_int) pa_nil)) pe_int))
          (pss_cons (ps_set (i := 7) nd rfl (.inl rfl) (pe_op op_mod (pe_callTy call_int1 (by rfl) B.int bt_int (pa_cons (pe_op op_mul (pv 5) (pe_op op_add (pe_op op_fdiv (pv 5) pe_int) pe_int)) pa_nil)) pe_int))
          (pss_one (ps_expr (pe_bm PySem.F.plainAttrs_list PySem.F.slot_list_append PySem.F.type_list_append mt_append (pv 2) (pa_cons (pe_op op_mod (pe_op op_fdiv (pv 7) pe_int) (pe_ix ix_list (pv 1) (pv 6) (fun _ _ => rfl))) pa_nil)))))))
      (pss_one (ps_ret (pv 2))))))), ?_⟩
    refine ⟨Nat.zero_le _, fun r nr => ?_⟩
    have s0 : Same H (upd H r (.lst [])) := same_new nr
    refine ⟨_, rfl, .inl ⟨z, rfl, ?_⟩⟩
    refine ⟨_, rfl, 10, 18, rfl, rfl, ⟨by decide, by decide, by decide⟩, z, _, rfl, rfl, _, rfl, ite2 (fun _ => ?_) (fun _ => ?_)⟩
    · refine ⟨_, rfl, 10, 18, rfl, rfl, ⟨by decide, by decide, by decide⟩, z, _, rfl, rfl, ?_⟩
      refine ⟨_, rfl, l, rfl, ⟨_, s0.seq hS⟩, for_list (K := K) (a := l) (xs := ss.map V.int) (fun i σ H' => ∃ (y : Int) (y4 y5 y6 y7 : Option V) (ds : List Int), σ = [some (.int z), some (.ref l), some (.ref r), some (.int y), y4, y5, y6, y7] ∧ Same H H' ∧ H' r = some (.lst (ds.map V.int)) ∧ Paired (fun d s => 0 ≤ d ∧ d < s) ds (ss.take i))
        ⟨_, _, _, _, _, [], rfl, s0, upd_same, .nil⟩ (fun i σ H' _ h => ?_) ?_ ?_⟩
      · obtain ⟨_, _, _, _, _, _, _, s1, _⟩ := h
        exact s1.seq hS
      · rintro i x σ H1 hi ⟨y, y4, y5, y6, y7, ds, rfl, s1, e1, pd⟩
        obtain ⟨n, en, rfl⟩ := map_at hi
        obtain ⟨n0, n1⟩ := hs n (mem_get en)
        have ld := paired_len pd
        rw [List.length_take] at ld
        refine ⟨_, rfl, .inl ⟨rfl, _, SqL.of e1⟩, _, rfl, .inl ⟨y, rfl, _, rfl, y, n, rfl, rfl, n0, r, _, _, rfl, rfl, e1, ?_, ?_⟩⟩
        · rw [List.length_map]
          exact sz1000 (by omega)
        · refine ⟨_, rfl, .inl ⟨y, rfl, _, rfl, y, n, rfl, rfl, ⟨n0, n1⟩, ?_⟩⟩
          refine ⟨_, _, _, _, _, ds ++ [y % n], rfl, sSet s1 nr, ?_, ?_⟩
          · rw [upd_same, List.map_append]
            rfl
          · rw [take_snoc en]
            exact paired_snoc pd ⟨Int.emod_nonneg _ (by omega), Int.emod_lt_of_pos _ n0⟩
      · rintro σ H1 ⟨y, y4, y5, y6, y7, ds, rfl, s1, e1, pd⟩
        rw [take_all ss (by rw [List.length_map])] at pd
        exact ⟨_, rfl, q _ r ds s1 e1 pd⟩
    · refine ⟨_, rfl, .inl ⟨z, rfl, z, 2147483629, rfl, rfl, by show (0 : Int) < 2147483629; decide, ?_⟩⟩
      refine ⟨_, rfl, l, _, rfl, .inl (s0.seq hS), _, rfl, by rw [List.length_map]; omega, by rw [List.length_map]; omega, ?_⟩
      refine for_range (lo := 0) (fun i σ H' => ∃ (y5 : Int) (y4 y6 y7 : Option V) (ds : List Int), σ = [some (.int z), some (.ref l), some (.ref r), some (.int z), y4, some (.int y5), y6, y7] ∧ Same H H' ∧ H' r = some (.lst (ds.map V.int)) ∧ Paired (fun d s => 0 ≤ d ∧ d < s) ds (ss.take i))
        ⟨_, _, _, _, [], rfl, s0, upd_same, .nil⟩ ?_ ?_
      · rintro i σ H1 hi ⟨y5, y4, y6, y7, ds, rfl, s1, e1, pd⟩
        have hi' : i < ss.length := by
          rw [List.length_map] at hi
          exact hi
        have en := List.getElem?_eq_getElem hi'
        generalize hn : ss[i] = n at en
        obtain ⟨n0, n1⟩ := hs n (mem_get en)
        have ld := paired_len pd
        rw [List.length_take] at ld
        refine ⟨_, rfl, y5, 48271, rfl, rfl, .inr ⟨by decide, by decide⟩, _, rfl, 974711, _, rfl, rfl, .inl ⟨by decide, by decide⟩, _, _, rfl, rfl, _, 12345, rfl, rfl, .inl ⟨_, rfl, _, 2147483647, rfl, rfl, by show (0 : Int) < 2147483647; decide, ?_⟩⟩
        refine ⟨_, rfl, _, rfl, _, 65537, rfl, rfl, ⟨by decide, by decide⟩, _, 3, rfl, rfl, _, _, rfl, rfl, .inl ⟨by omega, by omega⟩, .inl ⟨_, rfl, _, 2147483629, rfl, rfl, by show (0 : Int) < 2147483629; decide, ?_⟩⟩
        refine ⟨_, rfl, .inl ⟨rfl, _, SqL.of e1⟩, _, rfl, _, 19, rfl, rfl, ⟨by decide, by decide⟩, _, rfl, _, rfl, l, _, _, .int n, rfl, rfl, s1.seq hS, at_of (by omega) (at_map en), _, n, rfl, rfl, n0, r, _, _, rfl, rfl, e1, ?_, ?_⟩
        · rw [List.length_map]
          exact sz1000 (by omega)
        · refine ⟨_, _, _, _, ds ++ [_], rfl, sSet s1 nr, by rw [upd_same, List.map_append]; rfl, ?_⟩
          rw [take_snoc en]
          exact paired_snoc pd ⟨Int.emod_nonneg _ (by omega), Int.emod_lt_of_pos _ n0⟩
      · rintro σ H1 ⟨y5, y4, y6, y7, ds, rfl, s1, e1, pd⟩
        rw [take_all ss (by rw [List.length_map]; rfl)] at pd
        exact ⟨_, rfl, q _ r ds s1 e1 pd⟩
end
end Rc
namespace Rc
open PySem L2
section
variable {P : Program} {w : World} {K : PySem.W.Frag} {mg : Str → Option Value} {base : Heap}
/-! ### _law_pins -/
theorem scPins : FnScope ["_law_cell_here", "_law_row"] ["_law_cell_here"] (defScope sLPins) := ⟨rfl, rfl, rfl, by decide +kernel, rfl, by decide +kernel, by decide +kernel⟩
theorem nat_of {i : Int} (h : 0 ≤ i) : V.int i = V.int ((i.toNat : Nat) : Int) := congrArg V.int (Int.toNat_of_nonneg h).symm
theorem ok_pins {f fD : Addr} {fd fdD : FuncData} (F : Fun K "_law_pins" "_law_pins" sLPins f fd) (FD : Fun K "_law_digits" "_law_digits" sLDigits fD fdD) (bD : Binds K fdD ["_law_cell_here", "_law_sizes"] []) (gD : mg "_law_digits" = some (.ref fD)) (B : Bt mg) :
    FnOk P w K mg base CX0 2 f fd ["_law_cell_here"] spLPins := by
  have GD : FnOk P w K mg base CX0 1 fD fdD ["_law_cell_here", "_law_sizes"] (spLDigits K) := ok_digits FD B
  refine F.ok scPins (fun vs H Q E h => ?_) (fun cdv A outer s H vs Q E hr h => ?_)
  · obtain ⟨z, rfl, _⟩ := h
    rfl
  · obtain ⟨z, rfl, q⟩ := h
    have nd := scPins.nd
    refine ⟨_, pss_cons (ps_set (i := 1) nd rfl (.inl rfl) (pe_call GD hr (by rfl) gD FD.kp bD .nil pass0 (pa_cons (pv 0) (pa_cons (pe_lst (pa_cons pe_int (pa_cons pe_int (pa_cons pe_int pa_nil)))) pa_nil))))
      (pss_cons (ps_if (pt_cmpR op_lt (pe_ix ix_list (pv 1) pe_int (fun _ _ => rfl)) pe_int (nomark _)) (pss_one (ps_ret (pe_op op_add pe_int (pe_op op_mod (pe_callTy call_int1 (by rfl) B.int bt_int (pa_cons (pe_ix ix_list (pv 1) pe_int (fun _ _ => rfl)) pa_nil)) pe_int)))) pss_nil)
      (pss_cons (ps_if (pt_cmpR op_eq (pe_ix ix_list (pv 1) pe_int (fun _ _ => rfl)) pe_int (nomark _)) (pss_one (ps_ret (pe_op op_add pe_int (pe_op op_mod (pe_callTy call_int1 (by rfl) B.int bt_int (pa_cons (pe_ix ix_list (pv 1) pe_int (fun _ _ => rfl)) pa_nil)) pe_int)))) pss_nil)
      (pss_cons (ps_if (pt_cmpR op_eq (pe_ix ix_list (pv 1) pe_int (fun _ _ => rfl)) pe_int (nomark _)) (pss_one (ps_ret (pe_op op_mod (pe_callTy call_int1 (by rfl) B.int bt_int (pa_cons (pe_ix ix_list (pv 1) pe_int (fun _ _ => rfl)) pa_nil)) pe_int))) pss_nil)
      (pss_one (ps_ret (pe_ix ix_list (pv 1) pe_int (fun _ _ => rfl))))))), ?_⟩
    refine ⟨_, rfl, (by show 3 ≤ sizeLine; decide), fun l nl => ?_⟩
    refine ⟨z, l, [8, 30, 41], rfl, SqL.of upd_same, ?_, by decide, fun H1 r ds s1 e1 pd => ?_⟩
    · intro s hs
      simp only [List.mem_cons, List.not_mem_nil, or_false] at hs
      omega
    obtain ⟨d0, d1, d2, rfl, h0, h1, h2⟩ : ∃ d0 d1 d2, ds = [d0, d1, d2] ∧ (0 ≤ d0 ∧ d0 < 8) ∧ (0 ≤ d1 ∧ d1 < 30) ∧ (0 ≤ d2 ∧ d2 < 41) := by
      cases pd with
      | cons a t => cases t with
        | cons b t => cases t with
          | cons c t => cases t with
            | nil => exact ⟨_, _, _, rfl, a, b, c⟩
    have sH : Same H H1 := (same_new nl).trans s1
    have eL : SqL K H1 r ([d0, d1, d2].map V.int) := SqL.of e1
    refine ⟨_, rfl, r, _, 0, _, rfl, rfl, eL, atI_nat (j := 0) rfl, d0, 5, rfl, rfl, _, rfl, ite2 (fun _ => ?_) (fun _ => ?_)⟩
    · refine ⟨_, rfl, r, _, 1, _, rfl, rfl, eL, atI_nat (j := 1) rfl, .inl ⟨d1, rfl, d1, 5, rfl, rfl, by show (0 : Int) < 5; decide, 2, _, rfl, rfl, ?_⟩⟩
      have a := Int.emod_nonneg d1 (show (5 : Int) ≠ 0 by decide)
      have b := Int.emod_lt_of_pos d1 (show (0 : Int) < 5 by decide)
      show Q (.int (2 + d1 % 5)) H1
      rw [nat_of (by omega)]
      exact q _ _ sH (by omega)
    refine ⟨_, rfl, r, _, 0, _, rfl, rfl, eL, atI_nat (j := 0) rfl, rfl, _, rfl, ite2 (fun _ => ?_) (fun _ => ?_)⟩
    · refine ⟨_, rfl, r, _, 1, _, rfl, rfl, eL, atI_nat (j := 1) rfl, .inl ⟨d1, rfl, d1, 6, rfl, rfl, by show (0 : Int) < 6; decide, 7, _, rfl, rfl, ?_⟩⟩
      have a := Int.emod_nonneg d1 (show (6 : Int) ≠ 0 by decide)
      have b := Int.emod_lt_of_pos d1 (show (0 : Int) < 6 by decide)
      show Q (.int (7 + d1 % 6)) H1
      rw [nat_of (by omega)]
      exact q _ _ sH (by omega)
    refine ⟨_, rfl, r, _, 0, _, rfl, rfl, eL, atI_nat (j := 0) rfl, rfl, _, rfl, ite2 (fun _ => ?_) (fun _ => ?_)⟩
    · refine ⟨_, rfl, r, _, 1, _, rfl, rfl, eL, atI_nat (j := 1) rfl, .inl ⟨d1, rfl, d1, 2, rfl, rfl, by show (0 : Int) < 2; decide, ?_⟩⟩
      have a := Int.emod_nonneg d1 (show (2 : Int) ≠ 0 by decide)
      have b := Int.emod_lt_of_pos d1 (show (0 : Int) < 2 by decide)
      show Q (.int (d1 % 2)) H1
      rw [nat_of (by omega)]
      exact q _ _ sH (by omega)
    refine ⟨_, rfl, r, _, 2, _, rfl, rfl, eL, atI_nat (j := 2) rfl, ?_⟩
    show Q (.int d2) H1
    rw [nat_of (by omega)]
    exact q _ _ sH (by omega)
/-! ### _law_same -/
theorem scSame : FnScope ["_law_value", "_law_due", "_law_k"] ["_law_value", "_law_due"] (defScope sLSame) := ⟨rfl, rfl, rfl, by decide +kernel, rfl, by decide +kernel, by decide +kernel⟩
/-- one level more -/
theorem ok_same_of {f fW : Addr} {fd fdW : FuncData} {k : Nat} {sp' : Sp} {R : Hp → V → V → Prop} (F : Fun K "_law_same" "_law_same" sLSame f fd) (b : Binds K fd ["_law_value", "_law_due"] []) (g : mg "_law_same" = some (.ref f))
    (FW : Fun K "_law_whole" "_law_whole" sLWhole fW fdW) (bW : Binds K fdW ["_law_value"] []) (gW : mg "_law_whole" = some (.ref fW)) (B : Bt mg) (G : FnOk P w K mg base CX0 (k + 1) f fd ["_law_value", "_law_due"] sp')
    (hR : ∀ H v u, R H v u → (∃ i : Int, v = .int i ∧ u = .int i) ∨ ∃ a c xs ys, v = .ref a ∧ u = .ref c ∧ H a = some (.tup xs) ∧ H c = some (.tup ys) ∧ ys.length ≤ 1000 ∧ Paired (fun x y => ∀ Q, Q (.bl true) H → sp' [x, y] H Q E0) xs ys) :
    FnOk P w K mg base CX0 (k + 2) f fd ["_law_value", "_law_due"] (fun vs H Q _ => ∃ v u : V, vs = [v, u] ∧ R H v u ∧ Q (.bl true) H) := by
  have GW : FnOk P w K mg base CX0 1 fW fdW ["_law_value"] spWhole := ok_lwhole FW B
  refine F.ok scSame (fun vs H Q E h => ?_) (fun cdv A outer s H vs Q E hr h => ?_)
  · obtain ⟨v, u, rfl, _⟩ := h
    rfl
  · obtain ⟨v, u, rfl, hvu, q⟩ := h
    have nd := scSame.nd
    have hr1 : Room 1 _ := hr.mono (by omega)
    refine ⟨_, pss_cons (ps_if (pt_cmp (pc_isN (pv 1))) (pss_one ps_never) pss_nil)
      (pss_cons (ps_if (pt_val (pe_callB call_isi (by rfl) B.isi bt_isi (pa_cons (pv 1) (pa_cons (pe_bltn (v := .ty "bool") (by rfl) B.bool bt_bool rfl) pa_nil)))) (pss_one ps_never) pss_nil)
      (pss_cons (ps_if (pt_val (pe_callB call_isi (by rfl) B.isi bt_isi (pa_cons (pv 1) (pa_cons (pe_bltn (v := .ty "int") (by rfl) B.int bt_int rfl) pa_nil))))
        (pss_one (ps_ret (pe_and (pe_call GW hr1 (by rfl) gW FW.kp bW .nil pass0 (pa_cons (pv 0) pa_nil)) (pe_one (pe_cmpR op_eq (pv 0) (pv 1) (nomark _)))))) pss_nil)
      (pss_cons (ps_if (pt_val (pe_callB call_isi (by rfl) B.isi bt_isi (pa_cons (pv 1) (pa_cons (pe_bltn (v := .ty "str") (by rfl) B.str bt_str rfl) pa_nil)))) (pss_one ps_never) pss_nil)
      (pss_cons (ps_if (pw_and (pt_val (pe_callB call_isi (by rfl) B.isi bt_isi (pa_cons (pv 1) (pa_cons (pe_bltn (v := .ty "list") (by rfl) B.list bt_list rfl) pa_nil)))) (pw_and1 (pt_not (pt_val (pe_callB call_isi (by rfl) B.isi bt_isi (pa_cons (pv 0) (pa_cons (pe_bltn (v := .ty "list") (by rfl) B.list bt_list rfl) pa_nil))))))).pt (pss_one ps_never) pss_nil)
      (pss_cons (ps_if (pw_and (pt_val (pe_callB call_isi (by rfl) B.isi bt_isi (pa_cons (pv 1) (pa_cons (pe_bltn (v := .ty "tuple") (by rfl) B.tuple bt_tuple rfl) pa_nil)))) (pw_and1 (pt_not (pt_val (pe_callB call_isi (by rfl) B.isi bt_isi (pa_cons (pv 0) (pa_cons (pe_bltn (v := .ty "tuple") (by rfl) B.tuple bt_tuple rfl) pa_nil))))))).pt (pss_one ps_never) pss_nil)
      (pss_cons (ps_if (pt_cmpR op_ne (pe_callB call_len_seq (by rfl) B.len bt_len (pa_cons (pv 0) pa_nil)) (pe_callB call_len_seq (by rfl) B.len bt_len (pa_cons (pv 1) pa_nil)) (nomark _)) (pss_one ps_never) pss_nil)
      (pss_cons (ps_for PassesOwn.never rfl (pi_range1 (by rfl) B.range (pa_cons (pe_callB call_len_seq (by rfl) B.len bt_len (pa_cons (pv 1) pa_nil)) pa_nil)) (pg_name (i := 2) nd rfl (.inl rfl))
        (pss_one (ps_if (pt_not (pt_val (pe_call G hr (by rfl) g F.kp b .nil pass0 (pa_cons (pe_ix ix_tup (pv 0) (pv 2) (fun _ _ => rfl)) (pa_cons (pe_ix ix_tup (pv 1) (pv 2) (fun _ _ => rfl)) pa_nil))))) (pss_one ps_never) pss_nil)))
      (pss_one (ps_ret pe_bl))))))))), ?_⟩
    rcases hR H v u hvu with ⟨i, rfl, rfl⟩ | ⟨a, c, xs, ys, rfl, rfl, ha, hc, zc, pr⟩
    · refine ⟨_, rfl, false, rfl, iteF ?_⟩
      refine ⟨_, rfl, _, _, _, _, _, rfl, .ty _, .base (.int i), k_ib, false, rfl, iteF ?_⟩
      refine ⟨_, rfl, _, _, _, _, _, rfl, .ty _, .base (.int i), k_ii, true, rfl, iteT ?_⟩
      refine ⟨_, rfl, i, rfl, true, rfl, iteT ?_⟩
      refine ⟨_, rfl, _, rfl, rfl, blQ (decide_eq_true rfl) q⟩
    · refine ⟨_, rfl, false, rfl, iteF ?_⟩
      refine ⟨_, rfl, _, _, _, _, _, rfl, .ty _, .base (.tup hc), k_tb, false, rfl, iteF ?_⟩
      refine ⟨_, rfl, _, _, _, _, _, rfl, .ty _, .base (.tup hc), k_ti, false, rfl, iteF ?_⟩
      refine ⟨_, rfl, _, _, _, _, _, rfl, .ty _, .base (.tup hc), k_ts, false, rfl, iteF ?_⟩
      refine ⟨_, rfl, _, _, _, _, _, rfl, .ty _, .base (.tup hc), k_tl, false, rfl, iteF ?_⟩
      refine ⟨_, rfl, _, _, _, _, _, rfl, .ty _, .base (.tup hc), k_tt, true, rfl, iteT ?_⟩
      refine ⟨_, rfl, _, _, _, _, _, rfl, .ty _, .base (.tup ha), k_tt, true, rfl, iteF ?_⟩
      have hl := paired_len pr
      refine ⟨_, rfl, a, _, rfl, .inr (SqT.of ha), _, rfl, c, _, rfl, .inr (SqT.of hc), rfl, false, ?_, iteF ?_⟩
      · rw [dec_int, hl, beq_self_eq_true]
        rfl
      refine ⟨_, rfl, c, _, rfl, .inr (SqT.of hc), _, rfl, by omega, by omega, ?_⟩
      refine for_range (lo := 0) (fun i σ H' => ∃ y, σ = [some (.ref a), some (.ref c), y] ∧ H' = H) ⟨_, rfl, rfl⟩ ?_ ?_
      · rintro i σ H1 hi ⟨y, rfl, rfl⟩
        obtain ⟨x, z, ex, ez, px⟩ := paired_at2 pr (show i < ys.length from hi)
        refine ⟨_, rfl, _, rfl, a, _, _, x, rfl, rfl, SqT.of ha, at_of (by omega) ex, _, rfl, _, rfl, c, _, _, z, rfl, rfl, SqT.of hc, at_of (by omega) ez, px _ ⟨true, rfl, iteF ?_⟩⟩
        exact ⟨_, rfl, rfl⟩
      · rintro σ H1 ⟨y, rfl, rfl⟩
        exact q
theorem ok_nothing {f : Addr} {fd : FuncData} {ps : List Str} {k : Nat} : FnOk P w K mg base CX0 k f fd ps (fun _ _ _ _ => False) := ⟨fun _ _ _ _ h => h.elim, fun _ _ _ _ _ _ _ _ _ _ _ _ _ h => h.elim⟩
theorem ok_same {f fW : Addr} {fd fdW : FuncData} (F : Fun K "_law_same" "_law_same" sLSame f fd) (b : Binds K fd ["_law_value", "_law_due"] []) (g : mg "_law_same" = some (.ref f))
    (FW : Fun K "_law_whole" "_law_whole" sLWhole fW fdW) (bW : Binds K fdW ["_law_value"] []) (gW : mg "_law_whole" = some (.ref fW)) (B : Bt mg) : ∀ n : Nat, FnOk P w K mg base CX0 (n + 2) f fd ["_law_value", "_law_due"] (spSame n)
  | 0 => ok_same_of F b g FW bW gW B ok_nothing (R := Alike 0) fun H v u h => .inl h
  | n + 1 => ok_same_of F b g FW bW gW B (ok_same F b g FW bW gW B n) (R := Alike (n + 1)) fun H v u h => by
    rcases h with h | ⟨a, c, xs, ys, e1, e2, h1, h2, hz, pr⟩
    · exact .inl h
    · exact .inr ⟨a, c, xs, ys, e1, e2, h1, h2, hz, Paired.mapP pr fun x y z Q q => ⟨x, y, rfl, z, q⟩⟩
end
end Rc
namespace Rc
open PySem L2

/-! ### tables that are alike -/
theorem alike_ints (H : Hp) : ∀ ns : List Int, Paired (Alike 0 H) (ns.map V.int) (ns.map V.int)
  | [] => .nil
  | n :: ns => .cons ⟨n, rfl, rfl⟩ (alike_ints H ns)
theorem alike_rows {H : Hp} : ∀ {rs qs : List Addr} {rows : List (List Int)}, RowsAt H rs rows → RowsAt H qs rows → (∀ row ∈ rows, row.length ≤ 1000) → Paired (Alike 1 H) (rs.map V.ref) (qs.map V.ref)
  | _, _, _, .nil, .nil, _ => .nil
  | _, _, _, .cons a t, .cons b u, h => .cons (.inr ⟨_, _, _, _, rfl, rfl, a, b, by rw [List.length_map]; exact h _ (List.mem_cons_self ..), alike_ints H _⟩) (alike_rows t u fun row hr => h row (List.mem_cons_of_mem _ hr))
theorem alike_tab {H : Hp} {v u : V} {rows : List (List Int)} (a : TabT H v rows) (b : TabT H u rows) (hl : rows.length ≤ 1000) (h : ∀ row ∈ rows, row.length ≤ 1000) : Alike 2 H v u := by
  obtain ⟨p, rs, rfl, h1, h2⟩ := a
  obtain ⟨q, qs, rfl, h3, h4⟩ := b
  exact .inr ⟨p, q, _, _, rfl, rfl, h1, h3, by rw [List.length_map, h4.length]; exact hl, alike_rows h2 h4 h⟩
theorem tabOf_rows {n : Nat} (xs : List RC.Tri) (hn : n ≤ 1000) : (RC.tabOf n xs).length ≤ 1000 ∧ ∀ row ∈ RC.tabOf n xs, row.length ≤ 1000 := by
  refine ⟨by rw [RC.tabOf_length]; exact hn, fun row hr => ?_⟩
  obtain ⟨i, _, rfl⟩ := List.mem_map.mp hr
  rw [List.length_map, List.length_range]
  exact hn
theorem rows3_rows (ts : List RC.Tri) : ∀ row ∈ rows3 ts, row.length ≤ 1000 := fun row hr => by
  obtain ⟨t, _, rfl⟩ := List.mem_map.mp hr
  show 3 ≤ 1000
  decide
theorem RowsAt.at_ {H : Hp} : ∀ {rs : List Addr} {rows : List (List Int)}, RowsAt H rs rows → ∀ {i : Nat} {row : List Int}, rows[i]? = some row → ∃ r, rs[i]? = some r ∧ H r = some (.tup (row.map V.int))
  | _, _, .nil, i, row, h => by simp at h
  | _, _, .cons h t, 0, row, e => by
    have e' := Option.some.inj e
    subst e'
    exact ⟨_, rfl, h⟩
  | _, _, .cons h t, i + 1, row, e => RowsAt.at_ t (i := i) e
/-- table[i][j] -/
abbrev tCell (K : PySem.W.Frag) (x y z : Nat) : TE := tOp (rIxT K) (tOp (rIxT K) (tVar x) (tVar y)) (tVar z)
theorem cell_rd {K : PySem.W.Frag} {x y z : Nat} {σ : St} {H : Hp} {Q : VK} {v : V} {n i j : Nat} {xs : List RC.Tri} (ha : σ[x]? = some (some v)) (hi : σ[y]? = some (some (.int (i : Int)))) (hj : σ[z]? = some (some (.int (j : Int)))) (ht : TabT H v (RC.tabOf n xs)) (li : i < n) (lj : j < n)
    (q : Q (.int (RC.wt (RC.chi i j) xs)) H) : tCell K x y z σ H Q := by
  obtain ⟨a, rs, rfl, h1, h2⟩ := ht
  obtain ⟨r, e1, e2⟩ := h2.at_ (RC.tabOf_row xs li)
  refine ⟨_, ha, _, hi, a, _, _, .ref r, rfl, rfl, SqT.of h1, atI_nat (at_map e1), _, hj, r, _, _, .int (RC.wt (RC.chi i j) xs), rfl, rfl, SqT.of e2, atI_nat (at_map ?_), q⟩
  rw [List.getElem?_map, List.getElem?_range lj]
  rfl
/-- range(len(table)) -/
theorem len_rd {K : PySem.W.Frag} {x : Nat} {σ : St} {H : Hp} {v : V} {n : Nat} {xs : List RC.Tri} (ha : σ[x]? = some (some v)) (ht : TabT H v (RC.tabOf n xs)) (hn : n ≤ 1000) (R : It → Hp → Prop) (q : R (Itr 0 n) H) :
    iRng1 (tCons (tCB (fun xs H Q => ∃ p ys, xs = [.ref p] ∧ (SqL K H p ys ∨ SqT K H p ys) ∧ Q (.int ys.length) H) (tCons (tVar x) tNil)) tNil) σ H R := by
  obtain ⟨a, rs, rfl, h1, h2⟩ := ht
  have e := h2.length
  rw [RC.tabOf_length] at e
  refine ⟨_, ha, a, _, rfl, .inr (SqT.of h1), _, rfl, by rw [List.length_map, e]; omega, by rw [List.length_map, e]; omega, ?_⟩
  rw [List.length_map, e]
  exact q
abbrev rLenS (K : PySem.W.Frag) : List V → Hp → VK → Prop := fun xs H Q => ∃ p ys, xs = [.ref p] ∧ (SqL K H p ys ∨ SqT K H p ys) ∧ Q (.int ys.length) H
theorem TabT.ge {H H' : Hp} (e : Same H H') {v : V} {rows : List (List Int)} (h : TabT H v rows) : TabT H' v rows := h.same e

section
variable {P : Program} {w : World} {K : PySem.W.Frag} {mg : Str → Option Value} {base : Heap}
/-- _law_same, table_of and the property as they stand -/
structure Te (P : Program) (w : World) (K : PySem.W.Frag) (mg : Str → Option Value) (base : Heap) (C fS fO pA fP : Addr) (fdS fdO fdP : FuncData) : Prop where
  S : FnOk P w K mg base CX0 4 fS fdS ["_law_value", "_law_due"] (spSame 2)
  kS : PySem.W.keepIn K (.ref fS) = true
  bS : Binds K fdS ["_law_value", "_law_due"] []
  gS : mg "_law_same" = some (.ref fS)
  O : FnOk P w K mg base CX0 3 fO fdO ["lot"] (spTab C)
  kO : PySem.W.keepIn K (.ref fO) = true
  bO : Binds K fdO ["lot"] []
  gO : mg "table_of" = some (.ref fO)
  P : FnOk P w K mg base CX0 3 fP fdP ["self"] (spTab C)
  bP : Binds K fdP ["self"] []
  hP : PropOf K C "table" pA fP
/-! ### _law_told -/
theorem scTold : FnScope ["_law_thing", "_law_table_here"] ["_law_thing", "_law_table_here"] (defScope sLTold) := ⟨rfl, rfl, rfl, by decide +kernel, rfl, by decide +kernel, by decide +kernel⟩
theorem ok_told {f C fS fO pA fP : Addr} {fd fdS fdO fdP : FuncData} (F : Fun K "_law_told" "_law_told" sLTold f fd) (T : Tx K mg C) (L : Te P w K mg base C fS fO pA fP fdS fdO fdP) : FnOk P w K mg base CX0 5 f fd ["_law_thing", "_law_table_here"] (spTold C) := by
  have GS := L.S
  have GO := L.O
  have GP := L.P
  refine F.ok scTold (fun vs H Q E h => ?_) (fun cdv A outer s H vs Q E hr h => ?_)
  · obtain ⟨x, t, p, ts, rfl, _⟩ := h
    rfl
  · obtain ⟨x, t, p, ts, rfl, hx, hG, hp, ht, q⟩ := h
    have hr3 : Room 3 _ := hr.mono (by decide)
    refine ⟨_, pss_one (ps_ret (pe_and (pe_call GS hr (by rfl) L.gS L.kS L.bS .nil pass0 (pa_cons (pe_call GO hr3 (by rfl) L.gO L.kO L.bO .nil pass0 (pa_cons (pv 0) pa_nil)) (pa_cons (pv 1) pa_nil)))
      (pe_one (pe_call GS hr (by rfl) L.gS L.kS L.bS .nil pass0 (pa_cons (pe_prop (pv 0) T.cl L.hP GP hr L.bP .nil pass0 rfl) (pa_cons (pv 1) pa_nil)))))), ?_⟩
    obtain ⟨z1, z2⟩ := tabOf_rows ts (show max p 1 ≤ 1000 by omega)
    refine ⟨_, rfl, x, p, ts, rfl, hx, hG, hp, fun H1 v1 s1 t1 => ?_⟩
    refine ⟨_, rfl, v1, t, rfl, alike_tab t1 (ht.same s1) z1 z2, true, rfl, iteT ?_⟩
    obtain ⟨a, dx, c, rs, rfl, h1, h2, h3⟩ := id (hx.same s1)
    refine ⟨_, rfl, a, dx, _, rfl, h1, .ref a, p, ts, rfl, hx.same s1, hG, hp, fun H2 v2 s2 t2 => ?_⟩
    exact ⟨_, rfl, v2, t, rfl, alike_tab t2 (ht.same (s1.trans s2)) z1 z2, q _ (s1.trans s2)⟩
/-! ### _law_lot_is -/
theorem scLotIs : FnScope ["_law_thing", "_law_pins_here", "_law_bunch"] ["_law_thing", "_law_pins_here", "_law_bunch"] (defScope sLLotIs) := ⟨rfl, rfl, rfl, by decide +kernel, rfl, by decide +kernel, by decide +kernel⟩
theorem ok_lotIs {f C fS fO pA fP : Addr} {fd fdS fdO fdP : FuncData} (F : Fun K "_law_lot_is" "_law_lot_is" sLLotIs f fd) (T : Tx K mg C) (L : Te P w K mg base C fS fO pA fP fdS fdO fdP) : FnOk P w K mg base CX0 5 f fd ["_law_thing", "_law_pins_here", "_law_bunch"] (spLotIs C) := by
  have GS := L.S
  refine F.ok scLotIs (fun vs H Q E h => ?_) (fun cdv A outer s H vs Q E hr h => ?_)
  · obtain ⟨x, c, p, ts, rfl, _⟩ := h
    rfl
  · obtain ⟨_, c, p, ts, rfl, ⟨a, dx, cc, rs, rfl, h1, h2, h3⟩, hc, hl, q⟩ := h
    refine ⟨_, pss_one (ps_ret (pe_and (pe_call GS hr (by rfl) L.gS L.kS L.bS .nil pass0 (pa_cons (pe_fld (pv 0) rfl) (pa_cons (pv 1) pa_nil)))
      (pe_one (pe_call GS hr (by rfl) L.gS L.kS L.bS .nil pass0 (pa_cons (pe_fld (pv 0) rfl) (pa_cons (pv 2) pa_nil)))))), ?_⟩
    refine ⟨_, rfl, a, C, dx, _, _, rfl, h1, T.cl, T.nP, lotF_pins _ _, _, rfl, _, _, rfl, .inl ⟨_, rfl, rfl⟩, true, rfl, iteT ?_⟩
    refine ⟨_, rfl, a, C, dx, _, _, rfl, h1, T.cl, T.nC, lotF_cords _ _, _, rfl, _, _, rfl, alike_tab ⟨cc, rs, rfl, h2, h3⟩ hc ?_ (rows3_rows ts), q⟩
    rw [List.length_map]
    exact hl
/-! ### _law_sum -/
theorem scSum : FnScope ["_law_one", "_law_two", "_law_i", "_law_j"] ["_law_one", "_law_two"] (defScope sLSum) := ⟨rfl, rfl, rfl, by decide +kernel, rfl, by decide +kernel, by decide +kernel⟩
theorem tab_add (n : Nat) (xs ys : List RC.Tri) : ((List.range n).map fun (i : Nat) => (List.range n).map fun (j : Nat) => RC.wt (RC.chi i j) xs + RC.wt (RC.chi i j) ys) = RC.tabOf n (xs ++ ys) :=
  List.map_congr_left fun i _ => List.map_congr_left fun j _ => (RC.wt_append _ _ _).symm
theorem ok_sum {f : Addr} {fd : FuncData} (F : Fun K "_law_sum" "_law_sum" sLSum f fd) (B : Bt mg) : FnOk P w K mg base CX0 1 f fd ["_law_one", "_law_two"] spLSum := by
  refine F.ok scSum (fun vs H Q E h => ?_) (fun cdv A outer s H vs Q E hr h => ?_)
  · obtain ⟨a, b, n, xs, ys, rfl, _⟩ := h
    rfl
  · obtain ⟨a, b, n, xs, ys, rfl, ha, hb, hn, q⟩ := h
    have nd := scSum.nd
    refine ⟨_, pss_one (ps_ret (pe_callTy cr_tu (by rfl) B.tuple bt_tuple (pa_cons
        (pe_lc (own := [("_law_i", 2)]) (g := gName 2) (by rfl) nd (pi_range1 (by rfl) B.range (pa_cons (pe_callB call_len_seq (by rfl) B.len bt_len (pa_cons (pv 0) pa_nil)) pa_nil))
          (blkOk_by (own := [("_law_i", 2)]) (N := ["_law_one", "_law_two", "_law_i", "_law_j"]) (sc := defScope sLSum) (by decide +kernel))
          (fun _ _ _ _ _ => pg_name (i := 2) nd rfl (.inr rfl)) (fun _ _ _ _ _ => pts_nil)
          (te := tCB (rTu K) (tCons (tLc (iRng1 (tCons (tCB (rLenS K) (tCons (tVar 0) tNil)) tNil)) (gName 3) tYes (tOp (rI0 fun i j => .int (i + j)) (tCell K 0 2 3) (tCell K 1 2 3)) [3]) tNil))
          (fun _ _ _ _ _ => pe_callTy cr_tu (by rfl) B.tuple bt_tuple (pa_cons
            (pe_lc (own := [("_law_j", 3)]) (g := gName 3) (by rfl) nd (pi_range1 (by rfl) B.range (pa_cons (pe_callB call_len_seq (by rfl) B.len bt_len (pa_cons (pv 0) pa_nil)) pa_nil))
              (blkOk_by (own := [("_law_j", 3)]) (N := ["_law_one", "_law_two", "_law_i", "_law_j"]) (sc := relS (sc1 sLSum 0) (defScope sLSum)) (by decide +kernel))
              (fun _ _ _ _ _ => pg_name (i := 3) nd rfl (.inl rfl)) (fun _ _ _ _ _ => pts_nil)
              (fun _ _ _ _ _ => pe_op op_add (pe_ix ix_tup (pe_ix ix_tup (pv 0) (pv 2) (fun _ _ => rfl)) (pv 3) (fun _ _ => rfl)) (pe_ix ix_tup (pe_ix ix_tup (pv 1) (pv 2) (fun _ _ => rfl)) (pv 3) (fun _ _ => rfl)))) pa_nil))) pa_nil))), ?_⟩
    refine tab_comp (fun i => (List.range n).map fun (j : Nat) => RC.wt (RC.chi i j) xs + RC.wt (RC.chi i j) ys) hn (len_rd rfl ha hn) (fun i H1 R hi s1 k1 => ?_) fun H1 v s1 hv => q H1 v s1 (by rw [tab_add] at hv; exact hv)
    refine row_comp (fun j => RC.wt (RC.chi i j) xs + RC.wt (RC.chi i j) ys) hn (len_rd rfl (ha.same s1) hn) (fun j H2 R hj s2 k2 => ?_) fun H2 r s2 er => k1 H2 r s2 er
    refine cell_rd rfl rfl rfl (ha.same (s1.trans s2)) hi hj ?_
    refine cell_rd rfl rfl rfl (hb.same (s1.trans s2)) hi hj ?_
    exact ⟨_, _, rfl, rfl, k2 H2 (Same.refl _)⟩
/-! ### _law_times -/
theorem scTimes : FnScope ["_law_one", "_law_factor", "_law_i", "_law_j"] ["_law_one", "_law_factor"] (defScope sLTimes) := ⟨rfl, rfl, rfl, by decide +kernel, rfl, by decide +kernel, by decide +kernel⟩
theorem tab_mul (n : Nat) (xs : List RC.Tri) (c : Int) : ((List.range n).map fun (i : Nat) => (List.range n).map fun (j : Nat) => RC.wt (RC.chi i j) xs * c) = RC.tabOf n (scale c xs) :=
  List.map_congr_left fun i _ => List.map_congr_left fun j _ => (RC.wt_scale _ c xs).symm
theorem ok_times {f : Addr} {fd : FuncData} (F : Fun K "_law_times" "_law_times" sLTimes f fd) (B : Bt mg) : FnOk P w K mg base CX0 1 f fd ["_law_one", "_law_factor"] spLTimes := by
  refine F.ok scTimes (fun vs H Q E h => ?_) (fun cdv A outer s H vs Q E hr h => ?_)
  · obtain ⟨a, c, n, xs, rfl, _⟩ := h
    rfl
  · obtain ⟨a, c, n, xs, rfl, ha, hn, c0, c1, q⟩ := h
    have nd := scTimes.nd
    refine ⟨_, pss_one (ps_ret (pe_callTy cr_tu (by rfl) B.tuple bt_tuple (pa_cons
        (pe_lc (own := [("_law_i", 2)]) (g := gName 2) (by rfl) nd (pi_range1 (by rfl) B.range (pa_cons (pe_callB call_len_seq (by rfl) B.len bt_len (pa_cons (pv 0) pa_nil)) pa_nil))
          (blkOk_by (own := [("_law_i", 2)]) (N := ["_law_one", "_law_factor", "_law_i", "_law_j"]) (sc := defScope sLTimes) (by decide +kernel))
          (fun _ _ _ _ _ => pg_name (i := 2) nd rfl (.inr rfl)) (fun _ _ _ _ _ => pts_nil)
          (te := tCB (rTu K) (tCons (tLc (iRng1 (tCons (tCB (rLenS K) (tCons (tVar 0) tNil)) tNil)) (gName 3) tYes (tOp (rI CMul fun i j => .int (i * j)) (tCell K 0 2 3) (tVar 1)) [3]) tNil))
          (fun _ _ _ _ _ => pe_callTy cr_tu (by rfl) B.tuple bt_tuple (pa_cons
            (pe_lc (own := [("_law_j", 3)]) (g := gName 3) (by rfl) nd (pi_range1 (by rfl) B.range (pa_cons (pe_callB call_len_seq (by rfl) B.len bt_len (pa_cons (pv 0) pa_nil)) pa_nil))
              (blkOk_by (own := [("_law_j", 3)]) (N := ["_law_one", "_law_factor", "_law_i", "_law_j"]) (sc := relS (sc1 sLTimes 0) (defScope sLTimes)) (by decide +kernel))
              (fun _ _ _ _ _ => pg_name (i := 3) nd rfl (.inl rfl)) (fun _ _ _ _ _ => pts_nil)
              (fun _ _ _ _ _ => pe_op op_mul (pe_ix ix_tup (pe_ix ix_tup (pv 0) (pv 2) (fun _ _ => rfl)) (pv 3) (fun _ _ => rfl)) (pv 1))) pa_nil))) pa_nil))), ?_⟩
    refine tab_comp (fun i => (List.range n).map fun (j : Nat) => RC.wt (RC.chi i j) xs * c) hn (len_rd rfl ha hn) (fun i H1 R hi s1 k1 => ?_) fun H1 v s1 hv => q H1 v s1 (by rw [tab_mul] at hv; exact hv)
    refine row_comp (fun j => RC.wt (RC.chi i j) xs * c) hn (len_rd rfl (ha.same s1) hn) (fun j H2 R hj s2 k2 => ?_) fun H2 r s2 er => k1 H2 r s2 er
    refine cell_rd rfl rfl rfl (ha.same (s1.trans s2)) hi hj ?_
    exact ⟨_, rfl, _, _, rfl, rfl, .inr ⟨by omega, by omega⟩, k2 H2 (Same.refl _)⟩
/-! ### _law_mirror -/
theorem scMirror : FnScope ["_law_table_here", "_law_i", "_law_j"] ["_law_table_here"] (defScope sLMirror) := ⟨rfl, rfl, rfl, by decide +kernel, rfl, by decide +kernel, by decide +kernel⟩
theorem chi_fun (i j : Int) : RC.chi j i = RC.chi i j := funext fun a => funext fun b => RC.chi_swap j i a b
theorem tab_mir (n : Nat) (xs : List RC.Tri) : ((List.range n).map fun (i : Nat) => (List.range n).map fun (j : Nat) => RC.wt (RC.chi j i) xs) = RC.tabOf n xs :=
  List.map_congr_left fun i _ => List.map_congr_left fun j _ => by rw [chi_fun]
theorem ok_mirror {f : Addr} {fd : FuncData} (F : Fun K "_law_mirror" "_law_mirror" sLMirror f fd) (B : Bt mg) : FnOk P w K mg base CX0 1 f fd ["_law_table_here"] spLMirror := by
  refine F.ok scMirror (fun vs H Q E h => ?_) (fun cdv A outer s H vs Q E hr h => ?_)
  · obtain ⟨a, n, xs, rfl, _⟩ := h
    rfl
  · obtain ⟨a, n, xs, rfl, ha, hn, q⟩ := h
    have nd := scMirror.nd
    refine ⟨_, pss_one (ps_ret (pe_callTy cr_tu (by rfl) B.tuple bt_tuple (pa_cons
        (pe_lc (own := [("_law_i", 1)]) (g := gName 1) (by rfl) nd (pi_range1 (by rfl) B.range (pa_cons (pe_callB call_len_seq (by rfl) B.len bt_len (pa_cons (pv 0) pa_nil)) pa_nil))
          (blkOk_by (own := [("_law_i", 1)]) (N := ["_law_table_here", "_law_i", "_law_j"]) (sc := defScope sLMirror) (by decide +kernel))
          (fun _ _ _ _ _ => pg_name (i := 1) nd rfl (.inr rfl)) (fun _ _ _ _ _ => pts_nil)
          (te := tCB (rTu K) (tCons (tLc (iRng1 (tCons (tCB (rLenS K) (tCons (tVar 0) tNil)) tNil)) (gName 2) tYes (tCell K 0 2 1) [2]) tNil))
          (fun _ _ _ _ _ => pe_callTy cr_tu (by rfl) B.tuple bt_tuple (pa_cons
            (pe_lc (own := [("_law_j", 2)]) (g := gName 2) (by rfl) nd (pi_range1 (by rfl) B.range (pa_cons (pe_callB call_len_seq (by rfl) B.len bt_len (pa_cons (pv 0) pa_nil)) pa_nil))
              (blkOk_by (own := [("_law_j", 2)]) (N := ["_law_table_here", "_law_i", "_law_j"]) (sc := relS (sc1 sLMirror 0) (defScope sLMirror)) (by decide +kernel))
              (fun _ _ _ _ _ => pg_name (i := 2) nd rfl (.inl rfl)) (fun _ _ _ _ _ => pts_nil)
              (fun _ _ _ _ _ => pe_ix ix_tup (pe_ix ix_tup (pv 0) (pv 2) (fun _ _ => rfl)) (pv 1) (fun _ _ => rfl))) pa_nil))) pa_nil))), ?_⟩
    refine tab_comp (fun i => (List.range n).map fun (j : Nat) => RC.wt (RC.chi j i) xs) hn (len_rd rfl ha hn) (fun i H1 R hi s1 k1 => ?_) fun H1 v s1 hv => q H1 v s1 (by rw [tab_mir] at hv; exact hv)
    refine row_comp (fun j => RC.wt (RC.chi j i) xs) hn (len_rd rfl (ha.same s1) hn) (fun j H2 R hj s2 k2 => ?_) fun H2 r s2 er => k1 H2 r s2 er
    exact cell_rd rfl rfl rfl (ha.same (s1.trans s2)) hj hi (k2 H2 (Same.refl _))
end
end Rc
namespace Rc
open PySem L2

/-! ### tuples of ints as data -/
def rD (row : List Int) : PyData := .tuple (row.map .int)
theorem ints_lay : ∀ ns : List Int, PyData.canLayAll0 (ns.map .int) = true
  | [] => by simp [PyData.canLayAll0]
  | n :: ns => by simp [PyData.canLayAll0, PyData.canLay0, ints_lay ns]
theorem ints_depth : ∀ ns : List Int, PyData.depthAll (ns.map .int) = 0
  | [] => by simp [PyData.depthAll]
  | n :: ns => by simp [PyData.depthAll, PyData.depth, ints_depth ns]
theorem rD_lay (row : List Int) : (rD row).canLay0 = true := by
  unfold rD
  simp only [PyData.canLay0]
  exact ints_lay row
theorem rD_depth (row : List Int) : (rD row).depth ≤ 1 := by
  unfold rD
  simp only [PyData.depth, ints_depth]
  omega
theorem rD_shaped (row : List Int) : SeqAt.shaped (rD row) = true := by
  have h := rD_depth row
  show ((rD row).canLay0 && decide ((rD row).depth ≤ 64)) = true
  rw [rD_lay, decide_eq_true (by omega)]
  rfl
theorem rDs_lay : ∀ rows : List (List Int), PyData.canLayAll0 (rows.map rD) = true
  | [] => by simp [PyData.canLayAll0]
  | r :: rows => by simp [PyData.canLayAll0, rD_lay r, rDs_lay rows]
theorem rDs_depth : ∀ rows : List (List Int), PyData.depthAll (rows.map rD) ≤ 1
  | [] => by simp [PyData.depthAll]
  | r :: rows => by
    have h1 := rDs_depth rows
    have h2 := rD_depth r
    simp only [List.map_cons, PyData.depthAll]
    omega
theorem list_shaped (rows : List (List Int)) : SeqAt.shaped (.list (rows.map rD)) = true := by
  have h := rDs_depth rows
  show (PyData.canLay0 (.list (rows.map rD)) && decide (PyData.depth (.list (rows.map rD)) ≤ 64)) = true
  rw [decide_eq_true (by simp only [PyData.depth]; omega)]
  simp only [PyData.canLay0, rDs_lay, Bool.and_true]
theorem tab_shaped (rows : List (List Int)) : SeqAt.shaped (.tuple (rows.map rD)) = true := by
  have h := rDs_depth rows
  show (PyData.canLay0 (.tuple (rows.map rD)) && decide (PyData.depth (.tuple (rows.map rD)) ≤ 64)) = true
  rw [decide_eq_true (by simp only [PyData.depth]; omega)]
  simp only [PyData.canLay0, rDs_lay, Bool.and_true]
theorem ints_dp (K : PySem.W.Frag) (H : Hp) : ∀ ns : List Int, DpAll K H (ns.map V.int) (ns.map .int)
  | [] => .nil
  | n :: ns => .cons (.int n) (ints_dp K H ns)
theorem row_dp {K : PySem.W.Frag} {H : Hp} {r : Addr} {row : List Int} (h : H r = some (.tup (row.map V.int))) : Dp K H (.ref r) (rD row) := .tup (SqT.of h) (ints_dp K H row)
theorem rows_dp {K : PySem.W.Frag} {H : Hp} : ∀ {rs : List Addr} {rows : List (List Int)}, RowsAt H rs rows → DpAll K H (rs.map V.ref) (rows.map rD)
  | _, _, .nil => .nil
  | _, _, .cons h t => .cons (row_dp h) (rows_dp t)
theorem tab_dp {K : PySem.W.Frag} {H : Hp} {v : V} {rows : List (List Int)} (h : TabT H v rows) : Dp K H v (.tuple (rows.map rD)) := by
  obtain ⟨a, rs, rfl, h1, h2⟩ := h
  exact .tup (SqT.of h1) (rows_dp h2)
/-- pairs as rows -/
abbrev row2 (k : Int × Int) : List Int := [k.1, k.2]
theorem pairs_dp {K : PySem.W.Frag} {H : Hp} : ∀ {rs : List Addr} {ks : List (Int × Int)}, PairsAt H rs ks → DpAll K H (rs.map V.ref) ((ks.map row2).map rD)
  | _, _, .nil => .nil
  | _, _, .cons h t => .cons (row_dp (row := [_, _]) h) (pairs_dp t)
theorem pair_eqv (k j : Int × Int) : PyData.eqv (rD (row2 k)) (rD (row2 j)) = decide (k = j) := by
  have e : PyData.eqv (rD (row2 k)) (rD (row2 j)) = ((k.1 == j.1) && ((k.2 == j.2) && true)) := by simp only [rD, row2, List.map_cons, List.map_nil, PyData.eqv, PyData.eqvAll]
  rw [e]
  by_cases h : k = j
  · rw [h, decide_eq_true rfl, beq_self_eq_true, beq_self_eq_true]
    rfl
  · rw [decide_eq_false h]
    by_cases h1 : k.1 = j.1
    · have h2 : ¬ k.2 = j.2 := fun z => h (Prod.ext h1 z)
      rw [beq_false_of_ne h2, Bool.false_and, Bool.and_false]
    · rw [beq_false_of_ne h1, Bool.false_and]
theorem any_pairs (P : List (Int × Int)) (k : Int × Int) : (((P.map row2).map rD).any fun z => PyData.eqv z (rD (row2 k))) = decide (k ∈ P) := by
  rw [List.any_map, List.any_map]
  have e : ((fun z => PyData.eqv z (rD (row2 k))) ∘ rD) ∘ row2 = fun j => decide (j = k) := funext fun j => pair_eqv j k
  rw [e]
  by_cases h : k ∈ P
  · rw [decide_eq_true h, List.any_eq_true]
    exact ⟨k, h, decide_eq_true rfl⟩
  · rw [decide_eq_false h, List.any_eq_false]
    exact fun j hj z => h ((of_decide_eq_true z) ▸ hj)
theorem PairsAt.more {H : Hp} : ∀ {rs : List Addr} {ks : List (Int × Int)} {r : Addr} {k : Int × Int}, PairsAt H rs ks → H r = some (.tup [.int k.1, .int k.2]) → PairsAt H (rs ++ [r]) (ks ++ [k])
  | _, _, _, _, .nil, h => .cons h .nil
  | _, _, _, _, .cons a t, h => .cons a (PairsAt.more t h)

section
variable {P : Program} {w : World} {K : PySem.W.Frag} {mg : Str → Option Value} {base : Heap}
/-! ### _law_norm -/
theorem scNorm : FnScope ["_law_triples", "_law_pairs", "_law_entry", "_law_low", "_law_high", "_law_row", "_law_pair", "_law_many"] ["_law_triples"] (defScope sLNorm) := ⟨rfl, rfl, rfl, by decide +kernel, rfl, by decide +kernel, by decide +kernel⟩
theorem ok_norm {f : Addr} {fd : FuncData} (F : Fun K "_law_norm" "_law_norm" sLNorm f fd) (B : Bt mg) : FnOk P w K mg base CX0 1 f fd ["_law_triples"] (spLNorm K) := by
  refine F.ok scNorm (fun vs H Q E h => ?_) (fun cdv A outer s H vs Q E hr h => ?_)
  · obtain ⟨a, rs, xs, rfl, _⟩ := h
    rfl
  · obtain ⟨a, rs, xs, rfl, hA, hR, hx, hlen, q⟩ := h
    have nd := scNorm.nd
    have h65 := room65 hr
    have lrs := hR.length
    rw [List.length_map] at lrs
    refine ⟨_, pss_cons (ps_set (i := 1) nd rfl (.inl rfl) (pe_lst pa_nil))
      (pss_cons (ps_for PassesOwn.never rfl (pi_seq (pv 0)) (pg_name (i := 2) nd rfl (.inl rfl))
        (pss_cons (ps_set (i := 3) nd rfl (.inl rfl) (pe_callB (call_min2 rfl) (by rfl) B.min bt_min (pa_cons (pe_ix ix_tup (pv 2) pe_int (fun _ _ => rfl)) (pa_cons (pe_ix ix_tup (pv 2) pe_int (fun _ _ => rfl)) pa_nil))))
        (pss_cons (ps_set (i := 4) nd rfl (.inl rfl) (pe_callB (call_max2 rfl) (by rfl) B.max bt_max (pa_cons (pe_ix ix_tup (pv 2) pe_int (fun _ _ => rfl)) (pa_cons (pe_ix ix_tup (pv 2) pe_int (fun _ _ => rfl)) pa_nil))))
        (pss_one (ps_if (pw_and (pt_cmpR op_gt (pe_ix ix_tup (pv 2) pe_int (fun _ _ => rfl)) pe_int (nomark _)) (pw_and1 (pt_cmpR (op_notInD h65) (pe_tup (pa_cons (pv 3) (pa_cons (pv 4) pa_nil))) (pv 1) (by rfl)))).pt
          (pss_one (ps_expr (pe_bm PySem.F.plainAttrs_list PySem.F.slot_list_append PySem.F.type_list_append mt_append (pv 1) (pa_cons (pe_tup (pa_cons (pv 3) (pa_cons (pv 4) pa_nil))) pa_nil)))) pss_nil)))))
      (pss_cons (ps_set (i := 5) nd rfl (.inl rfl) (pe_lst pa_nil))
      (pss_cons (ps_for PassesOwn.never rfl (pi_list (pe_callB cr_sortPairs (by rfl) B.sorted bt_sorted (pa_cons (pv 1) pa_nil))) (pg_name (i := 6) nd rfl (.inl rfl))
        (pss_cons (ps_set (i := 7) nd rfl (.inl rfl) pe_int)
        (pss_cons (ps_for PassesOwn.never rfl (pi_seq (pv 0)) (pg_name (i := 2) nd rfl (.inl rfl))
          (pss_one (ps_if (pw_and (pt_cmpR op_eq (pe_callB (call_min2 rfl) (by rfl) B.min bt_min (pa_cons (pe_ix ix_tup (pv 2) pe_int (fun _ _ => rfl)) (pa_cons (pe_ix ix_tup (pv 2) pe_int (fun _ _ => rfl)) pa_nil))) (pe_ix ix_tup (pv 6) pe_int (fun _ _ => rfl)) (nomark _))
              (pw_and1 (pt_cmpR op_eq (pe_callB (call_max2 rfl) (by rfl) B.max bt_max (pa_cons (pe_ix ix_tup (pv 2) pe_int (fun _ _ => rfl)) (pa_cons (pe_ix ix_tup (pv 2) pe_int (fun _ _ => rfl)) pa_nil))) (pe_ix ix_tup (pv 6) pe_int (fun _ _ => rfl)) (nomark _)))).pt
            (pss_one (ps_set (i := 7) nd rfl (.inl rfl) (pe_op op_add (pv 7) (pe_ix ix_tup (pv 2) pe_int (fun _ _ => rfl))))) pss_nil)))
        (pss_one (ps_expr (pe_bm PySem.F.plainAttrs_list PySem.F.slot_list_append PySem.F.type_list_append mt_append (pv 5) (pa_cons (pe_tup (pa_cons (pe_ix ix_tup (pv 6) pe_int (fun _ _ => rfl)) (pa_cons (pe_ix ix_tup (pv 6) pe_int (fun _ _ => rfl)) (pa_cons (pv 7) pa_nil)))) pa_nil)))))))
      (pss_one (ps_ret (pe_callTy cr_tu (by rfl) B.tuple bt_tuple (pa_cons (pv 5) pa_nil))))))), ?_⟩
    -- _law_pairs = []
    refine ⟨Nat.zero_le _, fun L nL => ?_⟩
    refine ⟨_, rfl, a, rfl, for_seq hA (fun i σ H' => ∃ y2 y3 y4 y5 y6 y7 ps P, σ = [some (.ref a), some (.ref L), y2, y3, y4, y5, y6, y7] ∧ Same H H' ∧ H' L = some (.lst (ps.map V.ref)) ∧ PairsAt H' ps P ∧ RC.PInv (xs.take i) P)
      ⟨_, _, _, _, _, _, [], [], rfl, same_new nL, upd_same, .nil, RC.PInv.nil⟩ (fun i σ' H' ⟨_, _, _, _, _, _, _, _, _, s1, _⟩ => s1) ?_ ?_⟩
    · rintro i x σ H1 hi ⟨y2, y3, y4, y5, y6, y7, ps, P, rfl, s1, eL, pp, pi⟩
      obtain ⟨r, t, rfl, et, er⟩ := hR.tri hi
      have er1 := s1 _ _ er
      obtain ⟨tne, tpos⟩ := hx t (mem_get et)
      have lP := pi.len
      rw [List.length_take] at lP
      have lp := pp.length
      refine ⟨_, rfl, r, _, 0, .int t.1, rfl, rfl, SqT.of er1, atI_nat (j := 0) rfl, _, rfl, r, _, 1, .int t.2.1, rfl, rfl, SqT.of er1, atI_nat (j := 1) rfl, t.1, t.2.1, rfl, ?_⟩
      refine ⟨_, rfl, r, _, 0, .int t.1, rfl, rfl, SqT.of er1, atI_nat (j := 0) rfl, _, rfl, r, _, 1, .int t.2.1, rfl, rfl, SqT.of er1, atI_nat (j := 1) rfl, t.1, t.2.1, rfl, ?_⟩
      refine ⟨_, rfl, r, _, 2, .int t.2.2, rfl, rfl, SqT.of er1, atI_nat (j := 2) rfl, t.2.2, 0, rfl, rfl, true, congrArg V.bl (decide_eq_true tpos), iteT ?_⟩
      refine ⟨_, rfl, _, rfl, (by show 2 ≤ sizeLine; decide), fun p np => ?_⟩
      have sp : Same H1 (upd H1 p (.tup [.int (RC.lo t.1 t.2.1), .int (RC.hi t.1 t.2.1)])) := same_new np
      have eL2 := sp _ _ eL
      refine ⟨_, rfl, rD (row2 (RC.lo t.1 t.2.1, RC.hi t.1 t.2.1)), (P.map row2).map rD, row_dp (row := [_, _]) upd_same, .lst (SqL.of eL2) (pairs_dp (pp.same sp)), rD_shaped _, list_shaped _, _, rfl, ?_⟩
      rw [any_pairs]
      refine ite2 (fun hn => ?_) (fun hn => ?_)
      · have hn' : (RC.lo t.1 t.2.1, RC.hi t.1 t.2.1) ∉ P := fun z => by
          rw [decide_eq_true z] at hn
          cases hn
        refine ⟨_, rfl, .inl ⟨rfl, _, SqL.of eL2⟩, _, rfl, _, rfl, (by show 2 ≤ sizeLine; decide), fun p2 np2 => ?_⟩
        have sp2 := same_new (o := .tup [.int (RC.lo t.1 t.2.1), .int (RC.hi t.1 t.2.1)]) np2
        have eL3 := sp2 _ _ eL2
        refine ⟨L, _, _, rfl, rfl, eL3, ?_, ?_⟩
        · rw [List.length_map]
          exact sz1000 (by omega)
        refine ⟨_, _, _, _, _, _, ps ++ [p2], P ++ [(RC.lo t.1 t.2.1, RC.hi t.1 t.2.1)], rfl, sSet ((s1.trans sp).trans sp2) nL, ?_, ?_, ?_⟩
        · rw [upd_same, refs_snoc]
        · exact (PairsAt.more ((pp.same sp).same sp2) upd_same).tups (Tups.list eL3)
        · rw [take_snoc et]
          exact pi.new hn'
      · have hn' : (RC.lo t.1 t.2.1, RC.hi t.1 t.2.1) ∈ P := Classical.byContradiction fun z => hn (by rw [decide_eq_false z]; rfl)
        refine ⟨_, _, _, _, _, _, ps, P, rfl, s1.trans sp, eL2, pp.same sp, ?_⟩
        rw [take_snoc et]
        exact pi.there hn'
    · rintro σ H1 ⟨y2, y3, y4, y5, y6, y7, ps, P, rfl, s1, eL, pp, pi⟩
      rw [take_all xs (by rw [List.length_map, lrs])] at pi
      -- _law_row = []
      refine ⟨Nat.zero_le _, fun r nr => ?_⟩
      have sr : Same H1 (upd H1 r (.lst [])) := same_new nr
      refine ⟨_, rfl, L, ps, P, rfl, SqL.of (sr _ _ eL), pp.same sr, fun qs js p hp hs hq np => ⟨p, rfl, ⟨_, SqL.of upd_same⟩, ?_⟩⟩
      have spn : Same (upd H1 r (.lst [])) (upd (upd H1 r (.lst [])) p (.lst (qs.map V.ref))) := same_new np
      have nrp : r ≠ p := ne_of_none upd_same np
      have ljs : js.length ≤ 1000 := by
        have h1 := hp.length_eq
        have h2 := pi.len
        omega
      have tupr : Tups (upd H1 r (.lst [])) H1 := fun b ys e => by
        by_cases hb : b = r
        · subst hb
          rw [upd_same] at e
          cases e
        · rw [upd_ne hb] at e
          exact e
      have hq1 : PairsAt H1 qs js := hq.tups tupr
      refine for_list (K := K) (a := p) (xs := qs.map V.ref) (fun i σ H' => ∃ y2 y6 y7 rs', σ = [some (.ref a), some (.ref L), y2, y3, y4, some (.ref r), y6, y7] ∧ Same H1 H' ∧ H' p = some (.lst (qs.map V.ref)) ∧ H' r = some (.lst (rs'.map V.ref)) ∧ rs'.length = i ∧ RowsAt H' rs' (rows3 ((js.take i).map fun k => (k.1, k.2, RC.tot k xs))))
        ⟨_, _, _, [], rfl, sr.trans spn, upd_same, by rw [upd_ne nrp, upd_same]; rfl, rfl, .nil⟩ (fun i σ H' _ h => ?_) ?_ ?_
      · obtain ⟨_, _, _, _, _, _, ep, _⟩ := h
        exact SqL.of ep
      · rintro i x σ H2 hi ⟨y2, y6, y7, rs', rfl, s2, ep, er, l2, r2⟩
        obtain ⟨u, k, rfl, ek, eu⟩ := hq1.get hi
        have eu2 := s2 _ _ eu
        have il : i < 1000 := by
          have := getElem_len ek
          omega
        have s12 := s1.trans s2
        -- the inner loop
        refine ⟨_, rfl, a, rfl, for_seq hA (fun j σ H' => ∃ y2, σ = [some (.ref a), some (.ref L), y2, y3, y4, some (.ref r), some (.ref u), some (.int (RC.tot k (xs.take j)))] ∧ H' = H2) ⟨_, rfl, rfl⟩ (fun j σ' H' h => ?_) ?_ ?_⟩
        · obtain ⟨_, _, rfl⟩ := h
          exact s12
        · rintro j x σ H3 hj ⟨z2, rfl, rfl⟩
          obtain ⟨v, t, rfl, et, ev⟩ := hR.tri hj
          have ev2 := s12 _ _ ev
          have estep : RC.tot k (xs.take (j + 1)) = RC.tot k (xs.take j) + (if RC.lo t.1 t.2.1 = k.1 ∧ RC.hi t.1 t.2.1 = k.2 then t.2.2 else 0) := by
            rw [take_snoc et, RC.tot_append]
            show _ + (_ + 0) = _
            rw [Int.add_zero]
          refine ⟨_, rfl, v, _, 0, .int t.1, rfl, rfl, SqT.of ev2, atI_nat (j := 0) rfl, _, rfl, v, _, 1, .int t.2.1, rfl, rfl, SqT.of ev2, atI_nat (j := 1) rfl, t.1, t.2.1, rfl, ?_⟩
          refine ⟨_, rfl, u, _, 0, .int k.1, rfl, rfl, SqT.of eu2, atI_nat (j := 0) rfl, rfl, _, rfl, ?_⟩
          show if decide (V.int (RC.lo t.1 t.2.1) = V.int k.1) = true then _ else _
          refine ite2 (fun h1 => ?_) (fun h1 => ?_)
          · have h1' : RC.lo t.1 t.2.1 = k.1 := V.int.inj (of_decide_eq_true h1)
            refine ⟨_, rfl, v, _, 0, .int t.1, rfl, rfl, SqT.of ev2, atI_nat (j := 0) rfl, _, rfl, v, _, 1, .int t.2.1, rfl, rfl, SqT.of ev2, atI_nat (j := 1) rfl, t.1, t.2.1, rfl, ?_⟩
            refine ⟨_, rfl, u, _, 1, .int k.2, rfl, rfl, SqT.of eu2, atI_nat (j := 1) rfl, rfl, _, rfl, ?_⟩
            show if decide (V.int (RC.hi t.1 t.2.1) = V.int k.2) = true then _ else _
            refine ite2 (fun h2 => ?_) (fun h2 => ?_)
            · have h2' : RC.hi t.1 t.2.1 = k.2 := V.int.inj (of_decide_eq_true h2)
              refine ⟨_, rfl, _, rfl, v, _, 2, .int t.2.2, rfl, rfl, SqT.of ev2, atI_nat (j := 2) rfl, _, t.2.2, rfl, rfl, ?_⟩
              refine ⟨some (.ref v), ?_, rfl⟩
              rw [estep, if_pos ⟨h1', h2'⟩]
              rfl
            · refine ⟨some (.ref v), ?_, rfl⟩
              rw [estep, if_neg fun z => h2 (decide_eq_true (congrArg V.int z.2)), Int.add_zero]
              rfl
          · refine ⟨some (.ref v), ?_, rfl⟩
            rw [estep, if_neg fun z => h1 (decide_eq_true (congrArg V.int z.1)), Int.add_zero]
            rfl
        · rintro σ H3 ⟨z2, rfl, rfl⟩
          rw [take_all xs (by rw [List.length_map, lrs])]
          refine ⟨_, rfl, .inl ⟨rfl, _, SqL.of er⟩, _, rfl, u, _, 0, .int k.1, rfl, rfl, SqT.of eu2, atI_nat (j := 0) rfl, _, rfl, u, _, 1, .int k.2, rfl, rfl, SqT.of eu2, atI_nat (j := 1) rfl, _, rfl, (by show 3 ≤ sizeLine; decide), fun g ng => ?_⟩
          have sg : Same H3 (upd H3 g (.tup [.int k.1, .int k.2, .int (RC.tot k xs)])) := same_new ng
          have er3 := sg _ _ er
          refine ⟨r, _, _, rfl, rfl, er3, ?_, _, _, _, rs' ++ [g], rfl, sSet (s2.trans sg) nr, ?_, ?_, ?_, ?_⟩
          · rw [List.length_map, l2]
            exact sz1000 (Nat.le_of_lt il)
          · rw [upd_ne nrp.symm]
            exact sg _ _ ep
          · rw [upd_same, refs_snoc]
          · rw [List.length_append, l2]
            rfl
          · rw [take_snoc ek, List.map_append, rows3_append]
            exact ((r2.same sg).more upd_same).tups (Tups.list er3)
      · rintro σ H2 ⟨y2, y6, y7, rs', rfl, s2, ep, er, l2, r2⟩
        rw [take_all js (by rw [List.length_map, hq.length])] at r2
        refine ⟨_, rfl, r, _, rfl, .inl ⟨SqL.of er, fun l nl => ?_⟩⟩
        exact q _ _ _ (sNew (s1.trans s2) nl) (pi.out hx hp hs) ⟨l, rs', rfl, upd_same, r2.same (same_new nl)⟩
end
end Rc
namespace Rc
open PySem L2

theorem ixT {X : Cx} (K : PySem.W.Frag) (e : X.K = K := by rfl) : IxR X (rIxT K) := by
  subst e
  exact ix_tup
theorem ixL {X : Cx} (K : PySem.W.Frag) (e : X.K = K := by rfl) : IxR X (rIxL K) := by
  subst e
  exact ix_list
/-- one of a list of positive numbers -/
theorem menu_at {ms : List Int} {d : Int} (hm : ∀ m ∈ ms, 0 < m) (h0 : 0 ≤ d) (h1 : d < ms.length) : ∃ c, atI (ms.map V.int) d = some (.int c) ∧ 0 < c := by
  obtain ⟨j, rfl⟩ : ∃ j : Nat, d = (j : Int) := ⟨d.toNat, by omega⟩
  have hj : j < ms.length := by omega
  exact ⟨ms[j], atI_nat (at_map (List.getElem?_eq_getElem hj)), hm _ (List.getElem_mem hj)⟩
theorem other_ne {p d0 d1 : Int} (h0 : 0 ≤ d0) (h1 : 0 ≤ d1) (h2 : d1 < p - 1) : d0 ≠ (d0 + 1 + d1) % p := by
  intro e
  have h := Int.mul_ediv_add_emod (d0 + 1 + d1) p
  rw [← e] at h
  have dv : p ∣ 1 + d1 := ⟨(d0 + 1 + d1) / p, by omega⟩
  have := Int.le_of_dvd (by omega) dv
  omega
theorem five8 : (5 : Int) * 10 ^ (8 : Int).toNat = 500000000 := by decide
/-- no more than so many cords between any two pins -/
def cap (t : RC.Tri) : RC.Tri := (t.1, t.2.1, if (5 : Int) * 10 ^ (8 : Int).toNat < t.2.2 then 5 * 10 ^ (8 : Int).toNat else t.2.2)
theorem cap_good {p : Nat} {ys : List RC.Tri} (h : Good p ys) : Good p (ys.map cap) := by
  refine ⟨⟨List.pairwise_map.mpr h.nrm.srt, fun t ht => ?_⟩, fun t ht => ?_, by rw [List.length_map]; exact h.len⟩
  · obtain ⟨u, hu, rfl⟩ := List.mem_map.mp ht
    have a := h.nrm.ok u hu
    refine ⟨a.1, ?_⟩
    show 0 < (if (5 : Int) * 10 ^ (8 : Int).toNat < u.2.2 then (5 : Int) * 10 ^ (8 : Int).toNat else u.2.2)
    rw [five8]
    split <;> omega
  · obtain ⟨u, hu, rfl⟩ := List.mem_map.mp ht
    have a := h.fit u hu
    refine ⟨a.1, a.2.1, a.2.2.1, a.2.2.2.1, a.2.2.2.2.1, ?_⟩
    show 1 ≤ (if (5 : Int) * 10 ^ (8 : Int).toNat < u.2.2 then (5 : Int) * 10 ^ (8 : Int).toNat else u.2.2)
    rw [five8]
    split <;> omega
theorem cap_le (ys : List RC.Tri) : ∀ t ∈ ys.map cap, t.2.2 ≤ 500000000 := fun t ht => by
  obtain ⟨u, hu, rfl⟩ := List.mem_map.mp ht
  show (if (5 : Int) * 10 ^ (8 : Int).toNat < u.2.2 then (5 : Int) * 10 ^ (8 : Int).toNat else u.2.2) ≤ _
  rw [five8]
  split <;> omega
section
variable {P : Program} {w : World} {K : PySem.W.Frag} {mg : Str → Option Value} {base : Heap}
/-- _law_cell, _law_digits, _law_norm as they stand -/
structure Ld (K : PySem.W.Frag) (mg : Str → Option Value) (fC fD fN : Addr) (fdC fdD fdN : FuncData) : Prop where
  C : Fun K "_law_cell" "_law_cell" sLCell fC fdC
  bC : Binds K fdC ["_law_script", "_law_k"] []
  gC : mg "_law_cell" = some (.ref fC)
  D : Fun K "_law_digits" "_law_digits" sLDigits fD fdD
  bD : Binds K fdD ["_law_cell_here", "_law_sizes"] []
  gD : mg "_law_digits" = some (.ref fD)
  N : Fun K "_law_norm" "_law_norm" sLNorm fN fdN
  bN : Binds K fdN ["_law_triples"] []
  gN : mg "_law_norm" = some (.ref fN)
theorem scLot : FnScope ["_law_script", "_law_start", "_law_count", "_law_pins_here", "_law_row", "_law_k", "_law_draw", "_law_other", "_law_c"] ["_law_script", "_law_start", "_law_count", "_law_pins_here"] (defScope sLLot) := ⟨rfl, rfl, rfl, by decide +kernel, rfl, by decide +kernel, by decide +kernel⟩
theorem ok_lot {f fC fD fN : Addr} {fd fdC fdD fdN : FuncData} (F : Fun K "_law_lot" "_law_lot" sLLot f fd) (L : Ld K mg fC fD fN fdC fdD fdN) (B : Bt mg) : FnOk P w K mg base CX0 2 f fd ["_law_script", "_law_start", "_law_count", "_law_pins_here"] (spLLot K) := by
  have GC : FnOk P w K mg base CX0 1 fC fdC ["_law_script", "_law_k"] (spLCell K) := ok_cell L.C B
  have GD : FnOk P w K mg base CX0 1 fD fdD ["_law_cell_here", "_law_sizes"] (spLDigits K) := ok_digits L.D B
  have GN : FnOk P w K mg base CX0 1 fN fdN ["_law_triples"] (spLNorm K) := ok_norm L.N B
  refine F.ok scLot (fun vs H Q E h => ?_) (fun cdv A outer s H vs Q E hr h => ?_)
  · obtain ⟨a, ns, st, ct, p, rfl, _⟩ := h
    rfl
  · obtain ⟨a, ns, st, ct, p, rfl, hS, st0, st1, ct0, ct1, hp, q⟩ := h
    have nd := scLot.nd
    refine ⟨_, pss_cons (ps_set (i := 4) nd rfl (.inl rfl) (pe_lst pa_nil))
      (pss_cons (ps_for PassesOwn.never rfl (pi_range1 (by rfl) B.range (pa_cons (pv 2) pa_nil)) (pg_name (i := 5) nd rfl (.inl rfl))
        (pss_one (ps_if (pt_cmpR op_ge (pv 3) pe_int (nomark _))
          (pss_cons (ps_set (i := 6) nd rfl (.inl rfl) (pe_call GD hr (by rfl) L.gD L.D.kp L.bD .nil pass0 (pa_cons (pe_call GC hr (by rfl) L.gC L.C.kp L.bC .nil pass0 (pa_cons (pv 0) (pa_cons (pe_op op_add (pv 1) (pv 5)) pa_nil)))
              (pa_cons (pe_lst (pa_cons (pv 3) (pa_cons (pe_op op_sub (pv 3) pe_int) (pa_cons pe_int (pa_cons (pe_op op_mul pe_int (pe_op op_pow pe_int pe_int)) pa_nil))))) pa_nil))))
          (pss_cons (ps_set (i := 7) nd rfl (.inl rfl) (pe_op op_mod (pe_callTy call_int1 (by rfl) B.int bt_int (pa_cons (pe_op op_add (pe_op op_add (pe_ix ix_list (pv 6) pe_int (fun _ _ => rfl)) pe_int) (pe_ix ix_list (pv 6) pe_int (fun _ _ => rfl))) pa_nil)) (pv 3)))
          (pss_one (ps_expr (pe_bm PySem.F.plainAttrs_list PySem.F.slot_list_append PySem.F.type_list_append mt_append (pv 4) (pa_cons (pe_tup (pa_cons (pe_ix ix_list (pv 6) pe_int (fun _ _ => rfl)) (pa_cons (pv 7) (pa_cons
            (pe_op op_add pe_int (pe_op op_mod (pe_callTy call_int1 (by rfl) B.int bt_int (pa_cons (pe_ix ix_list (pv 6) pe_int (fun _ _ => rfl)) pa_nil))
              (pe_ix ix_list (pe_lst (pa_cons pe_int (pa_cons pe_int (pa_cons pe_int (pa_cons pe_int (pa_cons pe_int (pa_cons (pe_op op_mul pe_int (pe_op op_pow pe_int pe_int)) pa_nil))))))) (pe_ix ix_list (pv 6) pe_int (fun _ _ => rfl)) (fun _ _ => rfl)))) pa_nil)))) pa_nil)))))) pss_nil)))
      (pss_one (ps_ret (pe_callTy cr_tu (by rfl) B.tuple bt_tuple (pa_cons
        (pe_lc (own := [("_law_c", 8)]) (g := gName 8) (by rfl) nd (pi_tup (pe_call GN hr (by rfl) L.gN L.N.kp L.bN .nil pass0 (pa_cons (pv 4) pa_nil)))
          (blkOk_by (own := [("_law_c", 8)]) (N := ["_law_script", "_law_start", "_law_count", "_law_pins_here", "_law_row", "_law_k", "_law_draw", "_law_other", "_law_c"]) (sc := defScope sLLot) (by decide +kernel))
          (fun _ _ _ _ _ => pg_name (i := 8) nd rfl (.inl rfl)) (fun _ _ _ _ _ => pts_nil)
          (fun _ _ _ _ _ => pe_tup (pa_cons (pe_ix (ixT K) (pv 8) pe_int (fun _ _ => rfl)) (pa_cons (pe_ix (ixT K) (pv 8) pe_int (fun _ _ => rfl)) (pa_cons (pe_callB (call_min2 rfl) (by rfl) B.min bt_min (pa_cons (pe_ix (ixT K) (pv 8) pe_int (fun _ _ => rfl)) (pa_cons (pe_op op_mul pe_int (pe_op op_pow pe_int pe_int)) pa_nil))) pa_nil))))) pa_nil))))), ?_⟩
    refine ⟨Nat.zero_le _, fun r nr => ?_⟩
    refine ⟨_, rfl, ct, rfl, by omega, by omega, ?_⟩
    refine for_range (lo := 0) (fun i σ H' => ∃ y5 y6 y7 rs xs, σ = [some (.ref a), some (.int st), some (.int ct), some (.int (p : Int)), some (.ref r), y5, y6, y7, none] ∧ Same H H' ∧ H' r = some (.lst (rs.map V.ref)) ∧ RowsAt H' rs (rows3 xs) ∧ Fits p xs ∧ xs.length ≤ i)
      ⟨_, _, _, [], [], rfl, same_new nr, upd_same, .nil, fun t ht => (by cases ht), Nat.le_refl _⟩ ?_ ?_
    · rintro i σ H1 hi ⟨y5, y6, y7, rs, xs, rfl, s1, e1, r1, hF, hl⟩
      refine ⟨_, rfl, (p : Int), 2, rfl, rfl, _, rfl, ite2 (fun h2 => ?_) (fun _ => ?_)⟩
      · have h2' := of_decide_eq_true h2
        refine ⟨_, rfl, _, rfl, _, rfl, st, 0 + (i : Int), rfl, rfl, a, ns, st + (0 + (i : Int)), rfl, s1.seq hS, by omega, by omega, fun z => ?_⟩
        refine ⟨_, rfl, _, rfl, (p : Int), 1, rfl, rfl, 10, 8, rfl, rfl, ⟨by decide, by decide, by decide⟩, 5, _, rfl, rfl, .inl ⟨by decide, by decide⟩, (by show 4 ≤ sizeLine; decide), fun l nl => ?_⟩
        have sl := same_new (o := .lst [.int (p : Int), .int ((p : Int) - 1), .int 6, .int (5 * 10 ^ (8 : Int).toNat)]) nl
        refine ⟨z, l, [(p : Int), (p : Int) - 1, 6, 5 * 10 ^ (8 : Int).toNat], rfl, SqL.of upd_same, ?_, (by show 4 ≤ 100; decide), fun H2 d ds s2 e2 pd => ?_⟩
        · intro s hs
          simp only [List.mem_cons, List.not_mem_nil, or_false] at hs
          rw [five8] at hs
          omega
        obtain ⟨d0, d1, d2, d3, rfl, h0, h1, h2, h3⟩ : ∃ d0 d1 d2 d3, ds = [d0, d1, d2, d3] ∧ (0 ≤ d0 ∧ d0 < (p : Int)) ∧ (0 ≤ d1 ∧ d1 < (p : Int) - 1) ∧ (0 ≤ d2 ∧ d2 < 6) ∧ 0 ≤ d3 := by
          cases pd with
          | cons a t => cases t with
            | cons b t => cases t with
              | cons c t => cases t with
                | cons d t => cases t with
                  | nil => exact ⟨_, _, _, _, rfl, a, b, c, d.1⟩
        have s12 : Same H1 H2 := sl.trans s2
        have sH := s1.trans s12
        have eD : SqL K H2 d ([d0, d1, d2, d3].map V.int) := SqL.of e2
        refine ⟨_, rfl, d, _, 0, _, rfl, rfl, eD, atI_nat (j := 0) rfl, d0, 1, rfl, rfl, _, rfl, d, _, 1, _, rfl, rfl, eD, atI_nat (j := 1) rfl, _, d1, rfl, rfl, .inl ⟨_, rfl, _, rfl, _, (p : Int), rfl, rfl, by omega, ?_⟩⟩
        have er2 := s12 _ _ e1
        refine ⟨_, rfl, .inl ⟨rfl, _, SqL.of er2⟩, _, rfl, d, _, 0, _, rfl, rfl, eD, atI_nat (j := 0) rfl, _, rfl, _, rfl, d, _, 3, _, rfl, rfl, eD, atI_nat (j := 3) rfl, .inl ⟨d3, rfl, ?_⟩⟩
        refine ⟨10, 8, rfl, rfl, ⟨by decide, by decide, by decide⟩, 5, _, rfl, rfl, .inl ⟨by decide, by decide⟩, (by show 6 ≤ sizeLine; decide), fun m nm => ?_⟩
        have sm := same_new (o := .lst ([3, 3, 3, 3, 1000, 5 * 10 ^ (8 : Int).toNat].map V.int)) nm
        obtain ⟨c, ec, c0⟩ := menu_at (ms := [3, 3, 3, 3, 1000, 5 * 10 ^ (8 : Int).toNat]) (d := d2) (fun m hm => by
          simp only [List.mem_cons, List.not_mem_nil, or_false] at hm
          rw [five8] at hm
          omega) h2.1 (by show d2 < 6; exact h2.2)
        refine ⟨_, rfl, d, _, 2, _, rfl, rfl, SqL.of (sm _ _ e2), atI_nat (j := 2) rfl, m, _, d2, .int c, rfl, rfl, SqL.of upd_same, ec, d3, c, rfl, rfl, c0, 1, _, rfl, rfl, (by show 3 ≤ sizeLine; decide), fun u nu => ?_⟩
        have su := same_new (o := .tup [.int d0, .int ((d0 + 1 + d1) % (p : Int)), .int (1 + d3 % c)]) nu
        have er3 := su _ _ (sm _ _ er2)
        have lrs := r1.length
        rw [List.length_map] at lrs
        refine ⟨r, _, _, rfl, rfl, er3, ?_, ?_⟩
        · rw [List.length_map, lrs]
          have : i < 16 := by omega
          exact sz1000 (by omega)
        refine ⟨_, _, _, rs ++ [u], xs ++ [(d0, (d0 + 1 + d1) % (p : Int), 1 + d3 % c)], rfl, sSet ((sH.trans sm).trans su) nr, ?_, ?_, ?_, ?_⟩
        · rw [upd_same, refs_snoc]
        · rw [rows3_append]
          exact ((((r1.same s12).same sm).same su).more upd_same).tups (Tups.list er3)
        · intro t ht
          rcases List.mem_append.mp ht with ht | ht
          · exact hF t ht
          · rw [List.mem_singleton.mp ht]
            have hp0 : (0 : Int) < p := by omega
            refine ⟨h0.1, h0.2, Int.emod_nonneg _ (by omega), Int.emod_lt_of_pos _ hp0, other_ne h0.1 h1.1 h1.2, ?_⟩
            have := Int.emod_nonneg d3 (show c ≠ 0 by omega)
            dsimp only
            omega
        · rw [List.length_append, List.length_singleton]
          omega
      · exact ⟨_, _, _, rs, xs, rfl, s1, e1, r1, hF, by omega⟩
    · rintro σ H1 ⟨y5, y6, y7, rs, xs, rfl, s1, e1, r1, hF, hl⟩
      have hl16 : xs.length ≤ 16 := by omega
      refine ⟨_, rfl, r, rs, xs, rfl, .inl (SqL.of e1), r1, fun t ht => ?_, by omega, fun H2 v ys s2 hn hv => ?_⟩
      · have := hF t ht
        omega
      obtain ⟨cc, us, rfl, ec, eu⟩ := hv
      have hG : Good p ys := Good.of hF (by omega) hn
      have ly := hn.len
      have lus := eu.length
      rw [List.length_map] at lus
      refine ⟨cc, rfl, ⟨_, SqT.of ec⟩, fun D nD => ?_⟩
      refine lc_tup (K := K) (a := cc) (xs := us.map V.ref) (fun k H' => Same H2 H' ∧ ∃ qs, H' D = some (.lst (qs.map V.ref)) ∧ qs.length = k ∧ RowsAt H' qs (rows3 ((ys.take k).map cap)))
        ⟨same_new nD, [], upd_same, rfl, .nil⟩ (fun k H' _ h => SqT.of (h.1 _ _ ec)) ?_ ?_
      · rintro k x H3 hk ⟨s3, qs, eD, l3, r3⟩
        obtain ⟨v, t, rfl, et, ev⟩ := eu.tri hk
        have ev3 := s3 _ _ ev
        have kl := getElem_len et
        refine ⟨rfl, ?_⟩
        refine ⟨_, rfl, v, _, 0, .int t.1, rfl, rfl, SqT.of ev3, atI_nat (j := 0) rfl, _, rfl, v, _, 1, .int t.2.1, rfl, rfl, SqT.of ev3, atI_nat (j := 1) rfl, _, rfl, v, _, 2, .int t.2.2, rfl, rfl, SqT.of ev3, atI_nat (j := 2) rfl, ?_⟩
        refine ⟨10, 8, rfl, rfl, ⟨by decide, by decide, by decide⟩, 5, _, rfl, rfl, .inl ⟨by decide, by decide⟩, t.2.2, _, rfl, (by show 3 ≤ sizeLine; decide), fun u nu => ?_⟩
        have su := same_new (o := .tup [.int (cap t).1, .int (cap t).2.1, .int (cap t).2.2]) nu
        have eD3 := su _ _ eD
        refine ⟨_, eD3, ?_, sSet (s3.trans su) nD, qs ++ [u], ?_, ?_, ?_⟩
        · rw [List.length_map, l3]
          exact sz1000 (by omega)
        · rw [upd_same, refs_snoc]
        · rw [List.length_append, l3]
          rfl
        · rw [take_snoc et, List.map_append, rows3_append]
          exact ((r3.same su).more upd_same).tups (Tups.list eD3)
      · rintro H3 ⟨s3, qs, eD, l3, r3⟩
        rw [take_all ys (by rw [List.length_map, lus])] at r3
        refine ⟨D, _, rfl, .inl ⟨SqL.of eD, fun l nl => ?_⟩⟩
        exact q _ _ _ (sNew ((s1.trans s2).trans s3) nl) ⟨l, qs, rfl, upd_same, r3.same (same_new nl)⟩ (cap_good hG) (by rw [List.length_map]; omega) (cap_le ys)
end
end Rc
namespace Rc
open PySem L2

/-- [e for k in range(n)]: a new list of what e is worth -/
theorem lc_vals {te : TE} {σ : St} {H1 : Hp} {D : Addr} {n k : Nat} {Qd : Hp → Prop} (val : Nat → V) (hn : n ≤ 1000) (nD : H1 D = none)
    (turn : ∀ (j : Nat) (H' : Hp) (R : VK), j < n → Same H1 H' → (∀ H'', Same H' H'' → R (val j) H'') → te ((wipe σ [k]).set k (some (.int (j : Int)))) H' R)
    (done : ∀ H', Same H1 H' → H' D = some (.lst ((List.range n).map val)) → Qd H') :
    ∃ W : Nat → Nat → Hp → Prop, (∃ m, W 0 m (upd H1 D (.lst []))) ∧ ∀ i m H, W i m H → ((Itr 0 n).stop i H ∧ Qd H) ∨ ((Itr 0 n).go i H ∧ ∃ Nx : Hp → Prop, (∀ H', Nx H' → ∃ m', m' < m ∧ W (i + 1) m' H') ∧ ∀ x H', (Itr 0 n).yld i H x H' →
      gName k x (wipe σ [k]) H' fun σ2 H2 => wipe σ2 [k] = wipe σ [k] ∧ tYes σ2 H2 fun b H3 => if b = true then te σ2 H3 fun y H4 => ∃ acc, H4 D = some (.lst acc) ∧ acc.length < sizeLine ∧ Nx (upd H4 D (.lst (acc ++ [y]))) else Nx H3) := by
  refine lc_range (lo := 0) (n := n) (fun i H' => Same H1 H' ∧ H' D = some (.lst (((List.range n).take i).map val))) ⟨same_new nD, upd_same⟩ (fun i H2 hi h => ?_) (fun H2 h => ?_)
  · obtain ⟨s1, e1⟩ := h
    refine ⟨wipe_one _ _ _, ?_⟩
    show te _ H2 _
    rw [show (0 : Int) + (i : Int) = (i : Int) by omega]
    refine turn i H2 _ hi s1 fun H3 s2 => ?_
    refine ⟨_, s2 _ _ e1, ?_, sSet (s1.trans s2) nD, ?_⟩
    · rw [List.length_map, List.length_take, List.length_range]
      exact sz1000 (by omega)
    · rw [upd_same, range_take n i hi, List.map_append]
      rfl
  · obtain ⟨s1, e1⟩ := h
    rw [take_all _ (by rw [List.length_range])] at e1
    exact done H2 s1 e1
theorem range_set {n j : Nat} {v : V} (f g : Nat → V) (h : ∀ x, x < n → g x = if x = j then v else f x) : ((List.range n).map f).set j v = (List.range n).map g := by
  apply List.ext_getElem?
  intro x
  rw [List.getElem?_set, List.getElem?_map, List.getElem?_map, List.length_map, List.length_range]
  by_cases hx : x < n
  · rw [List.getElem?_range hx, Option.map_some, Option.map_some, h x hx]
    by_cases e : j = x
    · subst e
      rw [if_pos rfl, if_pos hx, if_pos rfl]
    · rw [if_neg e, if_neg fun z => e z.symm]
  · rw [List.getElem?_eq_none (by rw [List.length_range]; omega)]
    by_cases e : j = x
    · subst e
      rw [if_pos rfl, if_neg hx]
      rfl
    · rw [if_neg e]
      rfl
theorem ixN_nat {n j : Nat} (h : j < n) : ixN n (j : Int) = some j := by
  unfold ixN
  rw [if_pos (by omega), if_pos (by omega)]
  rfl
theorem ixN_of {n j : Nat} {i : Int} (e : i = (j : Int)) (h : j < n) : ixN n i = some j := by
  rw [e]
  exact ixN_nat h
/-- the grid T of n rows: the lists Rs hold the rows -/
def Grid (H : Hp) (T : Addr) (Rs : List Addr) (rows : Nat → List V) : Prop := H T = some (.lst (Rs.map V.ref)) ∧ ∀ k r, Rs[k]? = some r → H r = some (.lst (rows k))
/-- a row of the walk: behind s steps from gap i -/
def cellW (n : Nat) (ts : List RC.Tri) (i s j : Nat) : V := if RC.met n i s j = true then .int (RC.wt (RC.chi i j) ts) else .int 0
def fullRow (n : Nat) (ts : List RC.Tri) (i : Nat) : List V := (List.range n).map fun (j : Nat) => V.int (RC.wt (RC.chi i j) ts)
def zeroRow (n : Nat) : List V := (List.range n).map fun _ => V.int 0
theorem cell_full {n : Nat} (ts : List RC.Tri) {i : Nat} (hi : i < n) : (List.range n).map (cellW n ts i (n - 1)) = fullRow n ts i := by
  unfold fullRow
  refine List.map_congr_left fun j hj => ?_
  have hj' := List.mem_range.mp hj
  unfold cellW
  by_cases e : j = i
  · subst e
    have h0 : RC.wt (RC.chi (j : Int) (j : Int)) ts = 0 := RC.wt_zero _ _ fun t _ => RC.chi_diag _ _ _
    rw [h0]
    split <;> rfl
  · have hm : RC.met n i (n - 1) j = true := by
      unfold RC.met
      rw [RC.off_eq hi hj']
      refine decide_eq_true ?_
      split <;> omega
    rw [if_pos hm]
theorem cell_zero (n : Nat) (ts : List RC.Tri) (i : Nat) : (List.range n).map (cellW n ts i 0) = zeroRow n := by
  unfold zeroRow
  refine List.map_congr_left fun j _ => ?_
  unfold cellW
  rw [RC.met_zero]
  rfl
/-- the rows behind i turns -/
def rowsB (n : Nat) (ts : List RC.Tri) (i : Nat) (k : Nat) : List V := if k < i then fullRow n ts k else zeroRow n
theorem Grid.put {H : Hp} {T : Addr} {Rs : List Addr} {rows : Nat → List V} (g : Grid H T Rs rows) (nd : Rs.Nodup) (nT : T ∉ Rs) {k : Nat} {r : Addr} (e : Rs[k]? = some r) (row : List V) : Grid (upd H r (.lst row)) T Rs (fun m => if m = k then row else rows m) := by
  refine ⟨?_, fun m u em => ?_⟩
  · have ne : T ≠ r := fun z => nT (by rw [z]; exact List.mem_of_getElem? e)
    rw [upd_ne ne]
    exact g.1
  · by_cases h : m = k
    · subst h
      rw [e] at em
      cases em
      show _ = some (HO.lst (if m = m then row else rows m))
      rw [upd_same, if_pos rfl]
    · have ne : u ≠ r := fun z => by
        subst z
        exact h (nd_ix nd em e)
      show _ = some (HO.lst (if m = k then row else rows m))
      rw [upd_ne ne, if_neg h]
      exact g.2 m u em
theorem Grid.same {H H' : Hp} {T : Addr} {Rs : List Addr} {rows : Nat → List V} (s : Same H H') (g : Grid H T Rs rows) : Grid H' T Rs rows := ⟨s _ _ g.1, fun k r e => s _ _ (g.2 k r e)⟩
theorem Grid.congr {H : Hp} {T : Addr} {Rs : List Addr} {rows rows' : Nat → List V} (g : Grid H T Rs rows) (h : ∀ k, k < Rs.length → rows k = rows' k) : Grid H T Rs rows' := ⟨g.1, fun k r e => by rw [← h k (getElem_len e)]; exact g.2 k r e⟩
/-- another thing is changed -/
theorem Grid.other {H : Hp} {T M : Addr} {o : HO} {Rs : List Addr} {rows : Nat → List V} (g : Grid H T Rs rows) (h1 : M ≠ T) (h2 : M ∉ Rs) : Grid (upd H M o) T Rs rows := by
  refine ⟨?_, fun k r e => ?_⟩
  · rw [upd_ne h1.symm]
    exact g.1
  · have ne : r ≠ M := fun z => h2 (by rw [← z]; exact List.mem_of_getElem? e)
    rw [upd_ne ne]
    exact g.2 k r e

section
variable {P : Program} {w : World} {K : PySem.W.Frag} {mg : Str → Option Value} {base : Heap}
theorem cell_step {n i s' : Nat} (ts : List RC.Tri) (hi : i < n) (hs : s' + 1 < n) : ((List.range n).map (cellW n ts i s')).set ((i + (s' + 1)) % n) (.int (RC.wt (RC.chi (i : Int) (((i + (s' + 1)) % n : Nat) : Int)) ts)) = (List.range n).map (cellW n ts i (s' + 1)) :=
  range_set _ _ fun x hx => by
    unfold cellW
    rw [RC.met_succ hi hs hx]
    by_cases e : x = (i + (s' + 1)) % n
    · rw [if_pos e, if_pos e, if_pos rfl, ← e]
    · rw [if_neg e, if_neg e]
theorem met_step {n i s' : Nat} (hi : i < n) (hs : s' + 1 < n) : ((List.range n).map fun x => V.bl (RC.met n i s' x)).set ((i + (s' + 1)) % n) (.bl true) = (List.range n).map fun x => V.bl (RC.met n i (s' + 1) x) :=
  range_set _ _ fun x hx => by
    rw [RC.met_succ hi hs hx]
    by_cases e : x = (i + (s' + 1)) % n
    · rw [if_pos e, if_pos e]
    · rw [if_neg e, if_neg e]
theorem range_at {n : Nat} (f : Nat → V) {x : Nat} (h : x < n) : ((List.range n).map f)[x]? = some (f x) := by
  rw [List.getElem?_map, List.getElem?_range h]
  rfl
theorem full_eq (n : Nat) (ts : List RC.Tri) (k : Nat) : ((List.range n).map fun (j : Nat) => RC.wt (RC.chi k j) ts).map V.int = fullRow n ts k := by
  unfold fullRow
  rw [List.map_map]
  rfl
theorem scLTable : FnScope ["_law_pins_here", "_law_bunch", "_law_size", "_law_i", "_law_j", "_law_table_here", "_law_met", "_law_step", "_law_entry", "_law_row"] ["_law_pins_here", "_law_bunch"] (defScope sLTable) := ⟨rfl, rfl, rfl, by decide +kernel, rfl, by decide +kernel, by decide +kernel⟩
abbrev nLT : List Str := ["_law_pins_here", "_law_bunch", "_law_size", "_law_i", "_law_j", "_law_table_here", "_law_met", "_law_step", "_law_entry", "_law_row"]
theorem ok_ltable {f : Addr} {fd : FuncData} (F : Fun K "_law_table" "_law_table" sLTable f fd) (B : Bt mg) : FnOk P w K mg base CX0 1 f fd ["_law_pins_here", "_law_bunch"] spLTable := by
  refine F.ok scLTable (fun vs H Q E h => ?_) (fun cdv A outer s H vs Q E hr h => ?_)
  · obtain ⟨p, c, ts, rfl, _⟩ := h
    rfl
  · obtain ⟨p, _, ts, rfl, ⟨c, rs, rfl, hc, hR⟩, hG, hp, q⟩ := h
    have nd := scLTable.nd
    have lrs := hR.length
    rw [List.length_map] at lrs
    refine ⟨_, pss_cons (ps_set (i := 2) nd rfl (.inr rfl) (pe_callB (call_max2 rfl) (by rfl) B.max bt_max (pa_cons (pv 0) (pa_cons pe_int pa_nil))))
      (pss_cons (ps_setLc (i := 5) (own := [("_law_i", 3)]) (g := gName 3) (by rfl) nd rfl rfl (sw_true rfl rfl rfl (by decide +kernel)) (pi_range1 (by rfl) B.range (pa_cons (pv 2) pa_nil))
        (blkOk_by (own := [("_law_i", 3)]) (N := nLT) (sc := defScope sLTable) (by decide +kernel))
        (fun _ _ _ _ _ => pg_name (i := 3) nd rfl (.inl rfl)) (fun _ _ _ _ _ => pts_nil)
        (te := tLc (iRng1 (tCons (tVar 2) tNil)) (gName 4) tYes (tC (.int 0)) [4])
        (fun _ _ _ _ _ => pe_lc (own := [("_law_j", 4)]) (g := gName 4) (by rfl) nd (pi_range1 (by rfl) B.range (pa_cons (pv 2) pa_nil))
          (blkOk_by (own := [("_law_j", 4)]) (N := nLT) (sc := relS (lcScope (stVal ((defBody sLTable).getD 1 (.Pass ⟨0, 0, 0, 0⟩)))) (defScope sLTable)) (by decide +kernel))
          (fun _ _ _ _ _ => pg_name (i := 4) nd rfl (.inl rfl)) (fun _ _ _ _ _ => pts_nil) (fun _ _ _ _ _ => pe_int)))
      (pss_cons (ps_for PassesOwn.never rfl (pi_range1 (by rfl) B.range (pa_cons (pv 2) pa_nil)) (pg_name (i := 3) nd rfl (.inl rfl))
        (pss_cons (ps_set (i := 6) nd rfl (.inr rfl) (pe_lc (own := [("_law_j", 4)]) (g := gName 4) (by rfl) nd (pi_range1 (by rfl) B.range (pa_cons (pv 2) pa_nil))
          (blkOk_by (own := [("_law_j", 4)]) (N := nLT) (sc := defScope sLTable) (by decide +kernel))
          (fun _ _ _ _ _ => pg_name (i := 4) nd rfl (.inl rfl)) (fun _ _ _ _ _ => pts_nil) (fun _ _ _ _ _ => pe_bl)))
        (pss_one (ps_for PassesOwn.never rfl (pi_range2 (by rfl) B.range (pa_cons pe_int (pa_cons (pv 2) pa_nil))) (pg_name (i := 7) nd rfl (.inl rfl))
          (pss_cons (ps_set (i := 4) nd rfl (.inl rfl) (pe_op op_mod (pe_callTy call_int1 (by rfl) B.int bt_int (pa_cons (pe_op op_add (pv 3) (pv 7)) pa_nil)) (pv 2)))
          (pss_cons (ps_asg pe_bl (pg_sub (pv 6) (pv 4) set_list))
          (pss_one (ps_asg (pe_callB (cr_sum rfl) (by rfl) B.sum bt_sum (pa_cons
              (pe_lc (own := [("_law_entry", 8)]) (g := gName 8) (by rfl) nd (pi_tup (pv 1))
                (blkOk_by (own := [("_law_entry", 8)]) (N := nLT) (sc := defScope sLTable) (by decide +kernel))
                (fun _ _ _ _ _ => pg_name (i := 8) nd rfl (.inl rfl))
                (fun _ _ _ _ _ => pts_one (pt_cmpR op_ne (pe_ix (ixL K) (pv 6) (pe_ix (ixT K) (pv 8) pe_int (fun _ _ => rfl)) (fun _ _ => rfl)) (pe_ix (ixL K) (pv 6) (pe_ix (ixT K) (pv 8) pe_int (fun _ _ => rfl)) (fun _ _ => rfl)) (nomark _)))
                (fun _ _ _ _ _ => pe_ix (ixT K) (pv 8) pe_int (fun _ _ => rfl))) pa_nil))
            (pg_sub (pe_ix ix_list (pv 5) (pv 3) (fun _ _ => rfl)) (pv 4) set_list)))))))))
      (pss_one (ps_ret (pe_callTy cr_tu (by rfl) B.tuple bt_tuple (pa_cons
        (pe_lc (own := [("_law_row", 9)]) (g := gName 9) (by rfl) nd (pi_list (pv 5))
          (blkOk_by (own := [("_law_row", 9)]) (N := nLT) (sc := defScope sLTable) (by decide +kernel))
          (fun _ _ _ _ _ => pg_name (i := 9) nd rfl (.inl rfl)) (fun _ _ _ _ _ => pts_nil)
          (te := tCB (rTu K) (tCons (tVar 9) tNil)) (fun _ _ _ _ _ => pe_callTy cr_tu (by rfl) B.tuple bt_tuple (pa_cons (pv 9) pa_nil))) pa_nil)))))), ?_⟩
    refine ⟨_, rfl, (p : Int), 1, rfl, ?_⟩
    have en : (if (1 : Int) > (p : Int) then (1 : Int) else (p : Int)) = ((max p 1 : Nat) : Int) := by
      split <;> omega
    rw [en]
    have hpn : p ≤ max p 1 := Nat.le_max_left _ _
    have hn0 : 0 < max p 1 := by omega
    have hn : max p 1 ≤ 1000 := by omega
    generalize hnn : max p 1 = n at hpn hn0 hn q ⊢
    have rng : ∀ {σ : St} {H' : Hp} (e : σ[2]? = some (some (.int (n : Int)))) (R : It → Hp → Prop), R (Itr 0 n) H' → iRng1 (tCons (tVar 2) tNil) σ H' R := fun e R h => ⟨_, e, _, rfl, by omega, by omega, h⟩
    -- the grid of noughts
    refine ⟨_, rfl, (n : Int), rfl, by omega, by omega, fun T nT => ?_⟩
    refine lc_range (lo := 0) (n := n) (fun i H' => Same H H' ∧ ∃ Rs, H' T = some (.lst (Rs.map V.ref)) ∧ Rs.length = i ∧ Rs.Nodup ∧ ∀ r ∈ Rs, H r = none ∧ r ≠ T ∧ H' r = some (.lst (zeroRow n)))
      ⟨same_new nT, [], upd_same, rfl, List.nodup_nil, fun r hr => (by cases hr)⟩ (fun i H1 hi h => ?_) (fun H1 h => ?_)
    · obtain ⟨s1, Rs, eT, l1, nd1, all⟩ := h
      refine ⟨rfl, ?_⟩
      refine ⟨_, rfl, (n : Int), rfl, by omega, by omega, fun D nD => lc_vals (te := tC (.int 0)) (k := 4) (fun _ => V.int 0) hn nD (fun j H' R _ _ k' => k' _ (Same.refl _)) fun H2 s2 e2 => ?_⟩
      have eT2 := s2 _ _ eT
      have nDT : D ≠ T := (ne_of_none eT nD).symm
      have nDR : D ∉ Rs := fun z => by
        have := (all D z).2.2
        rw [nD] at this
        cases this
      refine ⟨_, eT2, ?_, sSet (s1.trans s2) nT, Rs ++ [D], ?_, ?_, ?_, fun r hr => ?_⟩
      · rw [List.length_map, l1]
        exact sz1000 (by omega)
      · rw [upd_same, refs_snoc]
      · rw [List.length_append, l1]
        rfl
      · refine List.nodup_append.mpr ⟨nd1, List.nodup_cons.mpr ⟨fun z => (by cases z), List.nodup_nil⟩, fun x hx y hy e => ?_⟩
        rw [List.mem_singleton.mp hy] at e
        exact nDR (e ▸ hx)
      · rcases List.mem_append.mp hr with hr | hr
        · obtain ⟨a1, a2, a3⟩ := all r hr
          refine ⟨a1, a2, ?_⟩
          rw [upd_ne a2]
          exact s2 _ _ a3
        · rw [List.mem_singleton.mp hr]
          refine ⟨s1.free nD, nDT, ?_⟩
          rw [upd_ne nDT]
          exact e2
    obtain ⟨s1, Rs, eT, l1, nd1, all⟩ := h
    have nTR : T ∉ Rs := fun z => (all T z).2.1 rfl
    have nHT : H T = none := nT
    -- the walk from each gap
    refine ⟨_, rfl, (n : Int), rfl, by omega, by omega, ?_⟩
    refine for_range (lo := 0) (n := n) (fun i σ H' => ∃ y3 y4 y6 y7, σ = [some (.int (p : Int)), some (.ref c), some (.int (n : Int)), y3, y4, some (.ref T), y6, y7, none, none] ∧ Same H H' ∧ Grid H' T Rs (rowsB n ts i))
      ⟨_, _, _, _, rfl, s1, eT, fun k r e => ?_⟩ ?_ ?_
    · unfold rowsB
      rw [if_neg (Nat.not_lt_zero _)]
      exact (all r (List.mem_of_getElem? e)).2.2
    · rintro i σ H2 hi ⟨y3, y4, y6, y7, rfl, s2, g2⟩
      refine ⟨_, rfl, (n : Int), rfl, by omega, by omega, fun M nM => lc_vals (te := tC (.bl false)) (k := 4) (fun _ => V.bl false) hn nM (fun j H' R _ _ k' => k' _ (Same.refl _)) fun H3 s3 eM => ?_⟩
      have nMT : M ≠ T := (ne_of_none g2.1 nM).symm
      have nMR : M ∉ Rs := fun z => by
        obtain ⟨k, hk, e⟩ := List.getElem_of_mem z
        have := g2.2 k M (by rw [List.getElem?_eq_getElem hk, e])
        rw [nM] at this
        cases this
      have nHM : H M = none := s2.free nM
      obtain ⟨Ri, hRi⟩ : ∃ r, Rs[i]? = some r := ⟨_, List.getElem?_eq_getElem (by rw [l1]; exact hi)⟩
      have nHR : H Ri = none := (all Ri (List.mem_of_getElem? hRi)).1
      have nRM : Ri ≠ M := fun z => nMR (z ▸ List.mem_of_getElem? hRi)
      refine ⟨_, rfl, 1, (n : Int), rfl, ⟨by omega, by omega, by omega, by omega⟩, ?_⟩
      refine for_range (lo := 1) (fun s' σ H' => ∃ y4 y7, σ = [some (.int (p : Int)), some (.ref c), some (.int (n : Int)), some (.int (0 + (i : Int))), y4, some (.ref T), some (.ref M), y7, none, none] ∧ Same H H' ∧ H' M = some (.lst ((List.range n).map fun x => V.bl (RC.met n i s' x))) ∧
          Grid H' T Rs (fun k => if k = i then (List.range n).map (cellW n ts i s') else rowsB n ts i k))
        ⟨_, _, rfl, s2.trans s3, ?_, (g2.same s3).congr fun k _ => ?_⟩ ?_ ?_
      · rw [eM]
        congr 2
        exact List.map_congr_left fun x _ => by rw [RC.met_zero]
      · by_cases e : k = i
        · rw [if_pos e, cell_zero]
          unfold rowsB
          rw [if_neg (by omega)]
        · rw [if_neg e]
      · rintro s' σ H4 hs ⟨z4, z7, rfl, s4, eM4, g4⟩
        have hs1 : s' + 1 < n := by omega
        have hj : ((0 + (i : Int)) + (1 + (s' : Int))) % (n : Int) = (((i + (s' + 1)) % n : Nat) : Int) := by
          rw [Int.natCast_emod]
          congr 1
          omega
        have hjn : (i + (s' + 1)) % n < n := Nat.mod_lt _ hn0
        -- _law_j, _law_met[_law_j] = True
        refine ⟨_, rfl, _, rfl, 0 + (i : Int), 1 + (s' : Int), rfl, rfl, .inl ⟨_, rfl, _, rfl, _, (n : Int), rfl, rfl, by omega, ?_⟩⟩
        refine ⟨_, rfl, _, rfl, M, _, _, (i + (s' + 1)) % n, rfl, rfl, eM4, ixN_of hj (by rw [List.length_map, List.length_range]; exact hjn), ?_⟩
        rw [met_step hi hs1]
        have g5 := g4.other (M := M) (o := .lst ((List.range n).map fun x => V.bl (RC.met n i (s' + 1) x))) nMT nMR
        have s5 : Same H (upd H4 M (.lst ((List.range n).map fun x => V.bl (RC.met n i (s' + 1) x)))) := sSet s4 nHM
        have eM5 : (upd H4 M (.lst ((List.range n).map fun x => V.bl (RC.met n i (s' + 1) x)))) M = some (.lst ((List.range n).map fun x => V.bl (RC.met n i (s' + 1) x))) := upd_same
        generalize hH5 : upd H4 M (.lst ((List.range n).map fun x => V.bl (RC.met n i (s' + 1) x))) = H5 at g5 s5 eM5 ⊢
        -- what passes
        refine ⟨_, rfl, c, rfl, ⟨_, SqT.of (s5 _ _ hc)⟩, fun D nD => ?_⟩
        refine lc_tup (K := K) (a := c) (xs := rs.map V.ref) (fun k H' => Same H5 H' ∧ H' D = some (.lst ((((ts.take k).filter fun t => RC.met n i (s' + 1) t.1.toNat != RC.met n i (s' + 1) t.2.1.toNat).map (·.2.2)).map V.int)))
          ⟨same_new nD, upd_same⟩ (fun k H' _ h => SqT.of (h.1 _ _ (s5 _ _ hc))) ?_ ?_
        · rintro k x H6 hk ⟨s6, e6⟩
          obtain ⟨r, t, rfl, et, er⟩ := hR.tri hk
          have er6 := s6 _ _ (s5 _ _ er)
          have eM6 := s6 _ _ eM5
          obtain ⟨f0, f1, f2, f3, _, _⟩ := hG.fit t (mem_get et)
          have lt1 := getElem_len et
          have hlen := hG.len
          refine ⟨rfl, ?_⟩
          refine ⟨_, rfl, _, rfl, r, _, 0, .int t.1, rfl, rfl, SqT.of er6, atI_nat (j := 0) rfl, M, _, _, _, rfl, rfl, SqL.of eM6, at_of (j := t.1.toNat) (by omega) (range_at _ (by omega)), ?_⟩
          refine ⟨_, rfl, _, rfl, r, _, 1, .int t.2.1, rfl, rfl, SqT.of er6, atI_nat (j := 1) rfl, M, _, _, _, rfl, rfl, SqL.of eM6, at_of (j := t.2.1.toNat) (by omega) (range_at _ (by omega)), rfl, RC.met n i (s' + 1) t.1.toNat != RC.met n i (s' + 1) t.2.1.toNat, ?_, ?_⟩
          · rw [dec_bl]
            rfl
          by_cases hm : (RC.met n i (s' + 1) t.1.toNat != RC.met n i (s' + 1) t.2.1.toNat) = true
          · rw [hm]
            refine ⟨_, rfl, r, _, 2, .int t.2.2, rfl, rfl, SqT.of er6, atI_nat (j := 2) rfl, _, e6, ?_, sSet s6 nD, ?_⟩
            · rw [List.length_map, List.length_map]
              exact sz1000 (Nat.le_trans (List.length_filter_le _ _) (by rw [List.length_take]; omega))
            · rw [upd_same, filter_snoc et, if_pos hm, List.map_append, List.map_append]
              rfl
          · rw [Bool.eq_false_iff.mpr hm]
            refine ⟨s6, ?_⟩
            rw [filter_snoc et, if_neg hm, List.append_nil]
            exact e6
        · rintro H6 ⟨s6, e6⟩
          rw [take_all ts (by rw [List.length_map, lrs])] at e6
          have hw := RC.walk_eq hi (show 0 < s' + 1 by omega) hs1 (fun x => RC.met n i (s' + 1) x.toNat) (fun x _ => rfl) ts (fun t ht => by
            have h1 := hG.fit t ht
            have h2 := hG.lt t ht
            omega)
          have g6 := g5.same s6
          refine ⟨D, _, rfl, SqL.of e6, ?_⟩
          rw [hw]
          -- _law_table_here[_law_i][_law_j] = ..
          have eR6 := g6.2 i Ri hRi
          dsimp only at eR6
          rw [if_pos rfl] at eR6
          refine ⟨_, rfl, _, rfl, T, _, _, .ref Ri, rfl, rfl, SqL.of g6.1, at_of (j := i) (by omega) (at_map hRi), _, rfl, Ri, _, _, (i + (s' + 1)) % n, rfl, rfl, eR6, ixN_of hj (by rw [List.length_map, List.length_range]; exact hjn), ?_⟩
          rw [cell_step ts hi hs1]
          refine ⟨_, _, rfl, sSet (s5.trans s6) nHR, ?_, (g6.put nd1 nTR hRi _).congr fun k _ => ?_⟩
          · rw [upd_ne nRM.symm]
            exact s6 _ _ eM5
          · by_cases e : k = i
            · rw [if_pos e, if_pos e]
            · rw [if_neg e, if_neg e, if_neg e]
      · rintro σ H4 ⟨z4, z7, rfl, s4, eM4, g4⟩
        refine ⟨_, _, _, _, rfl, s4, g4.congr fun k _ => ?_⟩
        have e1 : ((n : Int) - 1).toNat = n - 1 := by omega
        unfold rowsB
        by_cases e : k = i
        · rw [if_pos e, e1, cell_full ts hi, if_pos (by omega), e]
        · rw [if_neg e]
          by_cases h : k < i
          · rw [if_pos h, if_pos (by omega)]
          · rw [if_neg h, if_neg (by omega)]
    · rintro σ H2 ⟨y3, y4, y6, y7, rfl, s2, g2⟩
      -- return tuple([tuple(row) for row in table])
      refine ⟨_, rfl, T, rfl, ⟨_, SqL.of g2.1⟩, fun D nD => ?_⟩
      refine lc_list (K := K) (a := T) (xs := Rs.map V.ref) (fun k H' => Same H2 H' ∧ ∃ qs, H' D = some (.lst (qs.map V.ref)) ∧ qs.length = k ∧ RowsAt H' qs ((RC.tabOf n ts).take k))
        ⟨same_new nD, [], upd_same, rfl, .nil⟩ (fun k H' _ h => SqL.of (h.1 _ _ g2.1)) ?_ ?_
      · rintro k x H3 hk ⟨s3, qs, eD, l3, r3⟩
        obtain ⟨Rk, hRk, rfl⟩ := map_at hk
        have kn : k < n := by
          have := getElem_len hRk
          omega
        have eR3 := s3 _ _ (g2.2 k Rk hRk)
        unfold rowsB at eR3
        rw [if_pos kn] at eR3
        refine ⟨rfl, ?_⟩
        refine ⟨_, rfl, Rk, _, rfl, .inl ⟨SqL.of eR3, fun l nl => ?_⟩⟩
        have sl := same_new (o := .tup (fullRow n ts k)) nl
        have eD3 := sl _ _ eD
        refine ⟨_, eD3, ?_, sSet (s3.trans sl) nD, qs ++ [l], ?_, ?_, ?_⟩
        · rw [List.length_map, l3]
          exact sz1000 (by omega)
        · rw [upd_same, refs_snoc]
        · rw [List.length_append, l3]
          rfl
        · rw [take_snoc (RC.tabOf_row ts kn)]
          refine ((r3.same sl).more ?_).tups (Tups.list eD3)
          rw [full_eq, upd_same]
      · rintro H3 ⟨s3, qs, eD, l3, r3⟩
        rw [take_all (RC.tabOf n ts) (by rw [List.length_map, l1, RC.tabOf_length])] at r3
        refine ⟨D, _, rfl, .inl ⟨SqL.of eD, fun l nl => ?_⟩⟩
        exact q _ _ (sNew (s2.trans s3) nl) ⟨l, qs, rfl, upd_same, r3.same (same_new nl)⟩
end
end Rc
namespace Rc
open PySem L2

/-- a def as it stands, with its promise -/
structure Df (P : Program) (w : World) (K : PySem.W.Frag) (mg : Str → Option Value) (base : Heap) (x : Str) (k : Nat) (f : Addr) (fd : FuncData) (ps : List Str) (sp : Sp) : Prop where
  G : FnOk P w K mg base CX0 k f fd ps sp
  kp : PySem.W.keepIn K (.ref f) = true
  b : Binds K fd ps []
  g : mg x = some (.ref f)
theorem pe_d {X : Cx} {x : Str} {k j : Nat} {f : Addr} {fd : FuncData} {ps : List Str} {sp : Sp} {e : Expr} {es : List Expr} {t : TA} {p pos : Pos} (D : Df X.prog X.w X.K X.mg X.base x k f fd ps sp) (hr : Room j X.A) (hk : k ≤ j) (ha : PA X (e :: es) t) (hg : Gl X x := by rfl) (hdb : (x == ("__debug__" : Str)) = false := by decide)
    (he : starEach (e :: es) X.env = (false, eval e X.env) :: starEach es X.env := by rfl) (hpl : (backTo pos (starEach es X.env)).any (·.1) = false := by rfl) : PE X (.Call (.Name x p) (e :: es) [] pos) (tCall sp [] E0 t) :=
  pe_call D.G (hr.mono hk) hg D.g D.kp D.b .nil pass0 ha hdb he hpl
/-- an operator of the class -/
structure Op (P : Program) (w : World) (K : PySem.W.Frag) (mg : Str → Option Value) (base : Heap) (C : Addr) (op : Operator) (f : Addr) (fd : FuncData) (ps : List Str) (sp : Sp) : Prop where
  G : FnOk P w K mg base CX0 6 f fd ps sp
  b : Binds K fd ps []
  hs : PySem.W.findIn K (.ref C) (PySem.dunder op.info.2) = some (some (.ref f))
  hf : PySem.W.isFn K (.ref f) = true
/-- all that the law calls -/
structure All (P : Program) (w : World) (K : PySem.W.Frag) (mg : Str → Option Value) (base : Heap) (C pA : Addr) (e0 : Addr) (fs : Fin 18 → Addr) (fds : Fin 18 → FuncData) (u0 fo ro : Option Value) : Prop where
  B : Bt mg
  T : Tx K mg C
  sf : PySem.W.selfFirst K C = true
  cell : Df P w K mg base "_law_cell" 1 (fs 0) (fds 0) ["_law_script", "_law_k"] (spLCell K)
  digits : Df P w K mg base "_law_digits" 1 (fs 1) (fds 1) ["_law_cell_here", "_law_sizes"] (spLDigits K)
  same : Df P w K mg base "_law_same" 4 (fs 2) (fds 2) ["_law_value", "_law_due"] (spSame 2)
  norm : Df P w K mg base "_law_norm" 1 (fs 3) (fds 3) ["_law_triples"] (spLNorm K)
  pins : Df P w K mg base "_law_pins" 2 (fs 4) (fds 4) ["_law_cell_here"] spLPins
  table : Df P w K mg base "_law_table" 1 (fs 5) (fds 5) ["_law_pins_here", "_law_bunch"] spLTable
  lotIs : Df P w K mg base "_law_lot_is" 5 (fs 6) (fds 6) ["_law_thing", "_law_pins_here", "_law_bunch"] (spLotIs C)
  lot : Df P w K mg base "_law_lot" 2 (fs 7) (fds 7) ["_law_script", "_law_start", "_law_count", "_law_pins_here"] (spLLot K)
  told : Df P w K mg base "_law_told" 5 (fs 8) (fds 8) ["_law_thing", "_law_table_here"] (spTold C)
  sum : Df P w K mg base "_law_sum" 1 (fs 9) (fds 9) ["_law_one", "_law_two"] spLSum
  times : Df P w K mg base "_law_times" 1 (fs 10) (fds 10) ["_law_one", "_law_factor"] spLTimes
  mirror : Df P w K mg base "_law_mirror" 1 (fs 11) (fds 11) ["_law_table_here"] spLMirror
  tableOf : Df P w K mg base "table_of" 3 (fs 12) (fds 12) ["lot"] (spTab C)
  tk : KBn K (fds 12) ["lot"] 0 ["lot"] (fun us ws => us ++ ws) (fun vs zs => vs ++ zs)
  prop : FnOk P w K mg base CX0 3 (fs 13) (fds 13) ["self"] (spTab C)
  pb : Binds K (fds 13) ["self"] []
  ph : PropOf K C "table" pA (fs 13)
  MI : Mi P w K mg base C (fs 14) (fds 14)
  b2 : ∃ u, Vals [.ref e0] [u] ∧ Binds K (fds 14) ["self", "pins", "cords"] [u]
  e0 : ∀ H : Hp, SqT K H e0 []
  add : Op P w K mg base C .Add (fs 15) (fds 15) ["self", "other"] (spAdd C)
  sub : Op P w K mg base C .Sub (fs 16) (fds 16) ["self", "other"] (spSub C)
  mul : Op P w K mg base C .Mult (fs 17) (fds 17) ["self", "number"] (spMul C)
  mR : PySem.W.findIn K (.ref C) (dunderR (Operator.info .Mult).2) = some none
  m1 : PySem.W.findIn K (.type "int") (PySem.dunder (Operator.info .Mult).2) = some fo
  m2 : PySem.W.findIn K (.type "int") (dunderR (Operator.info .Mult).2) = some ro
  mS : PySem.W.subIn K (.type "int") (.ref C) = some false

/-- what stands after a part, told by a property of its own -/
theorem seq_merge {t u : TS} {D : Ends} {σ : St} {H : Hp} (Inv : St → Hp → Prop) (h1 : ∀ k : St → Hp → Prop, (∀ σ' H', Inv σ' H' → k σ' H') → t { D with nx := k } σ H) (h2 : ∀ σ' H', Inv σ' H' → u D σ' H') : tSeq t u D σ H := h1 (u D) h2
theorem set_merge {t u : TS} {D : Ends} {σ : St} {H : Hp} {i : Nat} {v : V} (Inv : St → Hp → Prop) (h1 : ∀ k : St → Hp → Prop, (∀ σ' H', Inv σ' H' → k σ' H') → t { D with nx := k } (σ.set i (some v)) H) (h2 : ∀ σ' H', Inv σ' H' → u D σ' H') : gName i v σ H (tSeq t u D) := h1 (u D) h2
theorem nxt_merge {t u : TS} {D : Ends} {r : VK} {b c : St → Hp → Prop} {σ : St} {H : Hp} (Inv : St → Hp → Prop) (h1 : ∀ k : St → Hp → Prop, (∀ σ' H', Inv σ' H' → k σ' H') → t { D with nx := k } σ H) (h2 : ∀ σ' H', Inv σ' H' → u D σ' H') : tNext { nx := tSeq t u D, rt := r, bk := b, ct := c } σ H := h1 (u D) h2
/-- two tuples of cords, one behind the other -/
theorem catA_rd {K : PySem.W.Frag} {H : Hp} {Q : VK} {c d : Addr} {rs us : List Addr} {xs ys : List RC.Tri} (hc : H c = some (.tup (rs.map V.ref))) (hR : RowsAt H rs (rows3 xs)) (hd : H d = some (.tup (us.map V.ref))) (hU : RowsAt H us (rows3 ys)) (l1 : xs.length ≤ 200) (l2 : ys.length ≤ 200)
    (q : ∀ H' t ts, Same H H' → SqA K H' t (ts.map V.ref) → RowsAt H' ts (rows3 (xs ++ ys)) → Q (.ref t) H') : rCatA K (.ref c) (.ref d) H Q := by
  have lx := hR.length
  have ly := hU.length
  rw [List.length_map] at lx ly
  refine ⟨c, d, _, _, rfl, rfl, SqT.of hc, SqT.of hd, ?_, fun e => ?_, fun _ e => ?_, fun _ _ t nt => ?_⟩
  · rw [List.length_map, List.length_map]
    exact Nat.le_of_lt (sz1000 (by omega))
  · obtain ⟨e1, e2⟩ := rows_nil hR e
    refine q _ _ us (Same.refl H) (.inr (SqT.of hd)) ?_
    rw [e2]
    exact hU
  · obtain ⟨e1, e2⟩ := rows_nil hU e
    refine q _ _ rs (Same.refl H) (.inr (SqT.of hc)) ?_
    rw [e2, List.append_nil]
    exact hR
  · have st : Same H (upd H t (.tup (rs.map V.ref ++ us.map V.ref))) := same_new nt
    refine q _ _ (rs ++ us) st (.inr (SqT.of ?_)) ?_
    · rw [upd_same, List.map_append]
    · rw [rows3_append]
      exact (hR.append hU).same st
theorem same_mk {C : Addr} {H : Hp} {x dx : Addr} (nx : H x = none) (ndx : H dx = none) : Same H (upd (upd H dx (.own x)) x (.ins C dx [])) := fun b o e => by
  rw [upd_ne (ne_of_none e nx), upd_ne (ne_of_none e ndx)]
  exact e
theorem LotAt.ref {C : Addr} {H : Hp} {x : Addr} {p : Nat} {ts : List RC.Tri} (h : LotAt C H (.ref x) p ts) : ∃ dx c, H x = some (.ins C dx (lotF p c)) := by
  obtain ⟨_, dx, c, _, g, e, _⟩ := h
  cases g
  exact ⟨dx, c, e⟩
theorem menu_in {ms : List Int} {d : Int} {R : Int → Prop} (hm : ∀ m ∈ ms, R m) (h0 : 0 ≤ d) (h1 : d < ms.length) : ∃ c, atI (ms.map V.int) d = some (.int c) ∧ R c := by
  obtain ⟨j, rfl⟩ : ∃ j : Nat, d = (j : Int) := ⟨d.toNat, by omega⟩
  have hj : j < ms.length := by omega
  exact ⟨ms[j], atI_nat (at_map (List.getElem?_eq_getElem hj)), hm _ (List.getElem_mem hj)⟩
theorem tab_scale (n : Nat) {us xs : List RC.Tri} {c : Int} (h : ∀ f, RC.Sym f → RC.wt f us = RC.wt f xs * c) : RC.tabOf n (scale c xs) = RC.tabOf n us := RC.tabOf_congr fun f hf => (RC.wt_scale f c xs).trans (h f hf).symm
theorem tab_zero (n : Nat) (xs : List RC.Tri) : RC.tabOf n (scale 0 xs) = RC.tabOf n [] := tab_scale n fun f _ => by rw [Int.mul_zero]; rfl
theorem tab_eqv (rows : List (List Int)) : PyData.eqv (.tuple (rows.map rD)) (.tuple (rows.map rD)) = true := by
  refine PySem.SeqAt.eqv_refl _ ?_
  simp only [PyData.canLay0, rDs_lay]
theorem diag_sum (n : Nat) (xs : List RC.Tri) : ((List.range n).map fun (j : Nat) => RC.wt (RC.chi (j : Int) (j : Int)) xs).sum = 0 := by
  have h : ((List.range n).map fun (j : Nat) => RC.wt (RC.chi (j : Int) (j : Int)) xs) = (List.range n).map fun _ => (0 : Int) := List.map_congr_left fun j _ => RC.wt_zero _ _ fun t _ => RC.chi_diag _ _ _
  rw [h]
  induction List.range n with
  | nil => rfl
  | cons a l ih => rw [List.map_cons, List.sum_cons, ih]; rfl
theorem Fits.wide {p q : Nat} {xs : List RC.Tri} (h : Fits p xs) (l : p ≤ q) : Fits q xs := fun t ht => by
  have := h t ht
  omega
theorem Good.wide {p q : Nat} {xs : List RC.Tri} (h : Good p xs) (l : p ≤ q) : Good q xs := ⟨h.nrm, h.fit.wide l, h.len⟩
theorem nil_good (p : Nat) : Good p [] := ⟨RC.Nrm.nil, fun t ht => (by cases ht), Nat.zero_le _⟩

section
variable {P : Program} {w : World} {K : PySem.W.Frag} {mg : Str → Option Value} {base : Heap}
abbrev nLaw : List Str := ["_law_script", "_law_pins_here", "_law_held", "_law_wished", "_law_one", "_law_two", "_law_table_here", "_law_other", "_law_told_here", "_law_both", "_law_draw", "_law_factor", "_law_times_here", "_law_far", "_law_i", "_law_entry"]
theorem scLaw : FnScope ["_law_script", "_law_pins_here", "_law_held", "_law_wished", "_law_one", "_law_two", "_law_table_here", "_law_other", "_law_told_here", "_law_both", "_law_draw", "_law_factor", "_law_times_here", "_law_far", "_law_i", "_law_entry"] ["_law_script"] (defScope sLaw) := ⟨rfl, rfl, rfl, by decide +kernel, rfl, by decide +kernel, by decide +kernel⟩
theorem ok_law {f C pA e0 : Addr} {fd : FuncData} {fs : Fin 18 → Addr} {fds : Fin 18 → FuncData} {u0 fo ro : Option Value} (F : Fun K "law" "law" sLaw f fd) (L : All P w K mg base C pA e0 fs fds u0 fo ro) : FnOk P w K mg base CX0 7 f fd ["_law_script"] (spLaw K) := by
  have B := L.B
  obtain ⟨u, vu, b2⟩ := L.b2
  have GI := L.MI.G
  refine F.ok scLaw (fun vs H Q E h => ?_) (fun cdv A outer s H vs Q E hr h => ?_)
  · obtain ⟨a, ns, rfl, _⟩ := h
    rfl
  · obtain ⟨a, ns, rfl, hS, hlen, q⟩ := h
    have nd := scLaw.nd
    have hr5 : Room 5 _ := hr.mono (by decide)
    have hr4 : Room 4 _ := hr.mono (by decide)
    have hr3 : Room 3 _ := hr.mono (by decide)
    have h64 := hr.units
    refine ⟨_, pss_cons (ps_set (i := 1) nd rfl (.inl rfl) (pe_d L.pins hr (by decide) (pa_cons (pe_d L.cell hr (by decide) (pa_cons (pv 0) (pa_cons pe_int pa_nil))) pa_nil)))
      (pss_cons (ps_set (i := 2) nd rfl (.inl rfl) (pe_d L.lot hr (by decide) (pa_cons (pv 0) (pa_cons pe_int (pa_cons (pe_ix ix_list (pe_d L.digits hr (by decide) (pa_cons (pe_d L.cell hr (by decide) (pa_cons (pv 0) (pa_cons pe_int pa_nil))) (pa_cons (pe_lst (pa_cons pe_int pa_nil)) pa_nil))) pe_int (fun _ _ => rfl)) (pa_cons (pv 1) pa_nil))))))
      (pss_cons (ps_set (i := 3) nd rfl (.inl rfl) (pe_d L.lot hr (by decide) (pa_cons (pv 0) (pa_cons pe_int (pa_cons (pe_ix ix_list (pe_d L.digits hr (by decide) (pa_cons (pe_d L.cell hr (by decide) (pa_cons (pv 0) (pa_cons pe_int pa_nil))) (pa_cons (pe_lst (pa_cons pe_int pa_nil)) pa_nil))) pe_int (fun _ _ => rfl)) (pa_cons (pv 1) pa_nil))))))
      (pss_cons (ps_set (i := 4) nd rfl (.inl rfl) (pe_make L.MI.M GI hr5 rfl L.T.mgC L.MI.b3 .nil pass0 (pa_cons (pv 1) (pa_cons (pv 2) pa_nil))))
      (pss_cons (ps_set (i := 5) nd rfl (.inl rfl) (pe_make L.MI.M GI hr5 rfl L.T.mgC L.MI.b3 .nil pass0 (pa_cons (pv 1) (pa_cons (pv 3) pa_nil))))
      (pss_cons (ps_set (i := 6) nd rfl (.inl rfl) (pe_d L.table hr (by decide) (pa_cons (pv 1) (pa_cons (pv 2) pa_nil))))
      (pss_cons (ps_set (i := 7) nd rfl (.inl rfl) (pe_d L.table hr (by decide) (pa_cons (pv 1) (pa_cons (pv 3) pa_nil))))
      (pss_cons (ps_if (pw_or (pt_not (pt_val (pe_d L.told hr (by decide) (pa_cons (pv 4) (pa_cons (pv 6) pa_nil))))) (pw_or1 (pt_not (pt_val (pe_d L.told hr (by decide) (pa_cons (pv 5) (pa_cons (pv 7) pa_nil))))))).pt (pss_one ps_never) pss_nil)
      (pss_cons (ps_set (i := 8) nd rfl (.inr rfl) (pe_d L.tableOf hr (by decide) (pa_cons (pv 4) pa_nil)))
      (pss_cons (ps_if (pw_or (pt_cmpR (op_neD h64) (pv 8) (pe_d L.mirror hr (by decide) (pa_cons (pv 8) pa_nil)) (nomark _)) (pw_or1 (pt_cmpR op_ne (pe_callB (cr_sum rfl) (by rfl) B.sum bt_sum (pa_cons
          (pe_lc (own := [("_law_i", 14)]) (g := gName 14) (by rfl) nd (pi_range1 (by rfl) B.range (pa_cons (pe_callB call_len_seq (by rfl) B.len bt_len (pa_cons (pv 6) pa_nil)) pa_nil))
            (blkOk_by (own := [("_law_i", 14)]) (N := nLaw) (sc := defScope sLaw) (by decide +kernel))
            (fun _ _ _ _ _ => pg_name (i := 14) nd rfl (.inl rfl)) (fun _ _ _ _ _ => pts_nil)
            (fun _ _ _ _ _ => pe_ix (ixT K) (pe_ix (ixT K) (pv 8) (pv 14) (fun _ _ => rfl)) (pv 14) (fun _ _ => rfl))) pa_nil)) pe_int (nomark _)))).pt (pss_one ps_never) pss_nil)
      (pss_cons (ps_set (i := 9) nd rfl (.inl rfl) (pe_op (op_own L.add.G hr L.add.b pass0 L.sf L.add.hs L.add.hf) (pv 4) (pv 5)))
      (pss_cons (ps_if (pt_not (pt_val (pe_d L.told hr (by decide) (pa_cons (pv 9) (pa_cons (pe_d L.sum hr (by decide) (pa_cons (pv 6) (pa_cons (pv 7) pa_nil))) pa_nil))))) (pss_one ps_never) pss_nil)
      (pss_cons (ps_if (pw_or (pt_not (pt_val (pe_d L.told hr (by decide) (pa_cons (pv 9) (pa_cons (pe_d L.table hr (by decide) (pa_cons (pv 1) (pa_cons (pe_d L.norm hr (by decide) (pa_cons (pe_op op_catA (pv 2) (pv 3)) pa_nil)) pa_nil))) pa_nil)))))
          (pw_or1 (pt_not (pt_val (pe_d L.told hr (by decide) (pa_cons (pe_op (op_own L.sub.G hr L.sub.b pass0 L.sf L.sub.hs L.sub.hf) (pv 9) (pv 5)) (pa_cons (pv 6) pa_nil))))))).pt (pss_one ps_never) pss_nil)
      (pss_cons (ps_set (i := 10) nd rfl (.inl rfl) (pe_d L.digits hr (by decide) (pa_cons (pe_d L.cell hr (by decide) (pa_cons (pv 0) (pa_cons pe_int pa_nil))) (pa_cons (pe_lst (pa_cons pe_int (pa_cons pe_int pa_nil))) pa_nil))))
      (pss_cons (ps_set (i := 11) nd rfl (.inl rfl) (pe_ix ix_list (pv 10) pe_int (fun _ _ => rfl)))
      (pss_cons (ps_if (pt_cmpR op_lt (pe_ix ix_list (pv 10) pe_int (fun _ _ => rfl)) pe_int (nomark _)) (pss_one (ps_set (i := 11) nd rfl (.inl rfl) (pe_ix ix_list
          (pe_lst (pa_cons pe_int (pa_cons pe_int (pa_cons pe_int (pa_cons (pe_op op_mod (pe_callTy call_int1 (by rfl) B.int bt_int (pa_cons (pv 11) pa_nil)) (pe_op op_add (pe_op op_fdiv (pe_op op_pow pe_int pe_int)
            (pe_callB (cr_max rfl) (by rfl) B.max bt_max (pa_cons (pe_op op_cat
              (pe_lc (own := [("_law_entry", 15)]) (g := gName 15) (by rfl) nd (pi_tup (pv 2))
                (blkOk_by (own := [("_law_entry", 15)]) (N := nLaw) (sc := defScope sLaw) (by decide +kernel))
                (fun _ _ _ _ _ => pg_name (i := 15) nd rfl (.inl rfl)) (fun _ _ _ _ _ => pts_nil)
                (fun _ _ _ _ _ => pe_ix (ixT K) (pv 15) pe_int (fun _ _ => rfl)))
              (pe_lst (pa_cons pe_int pa_nil))) pa_nil))) pe_int)) pa_nil))))) (pe_ix ix_list (pv 10) pe_int (fun _ _ => rfl)) (fun _ _ => rfl)))) pss_nil)
      (pss_cons (ps_set (i := 12) nd rfl (.inl rfl) (pe_op (op_ownI L.mul.G hr L.mul.b pass0 L.sf L.mul.hs L.mul.hf L.mR L.m1 L.m2 L.mS) (pv 4) (pv 11)))
      (pss_cons (ps_if (pt_not (pt_val (pe_d L.same hr (by decide) (pa_cons (pe_prop (pv 12) L.T.cl L.ph L.prop hr4 L.pb .nil pass0 rfl) (pa_cons (pe_d L.times hr (by decide) (pa_cons (pv 6) (pa_cons (pv 11) pa_nil))) pa_nil))))) (pss_one ps_never) pss_nil)
      (pss_cons (ps_if (pw_and (pt_cmpR op_lt (pe_ix ix_list (pv 10) pe_int (fun _ _ => rfl)) pe_int (nomark _)) (pw_and1 (pt_not (pt_val (pe_d L.same hr (by decide) (pa_cons (pe_d L.tableOf hr (by decide) (pa_cons (pv 12) pa_nil)) (pa_cons (pe_d L.times hr (by decide) (pa_cons (pv 6) (pa_cons (pv 11) pa_nil))) pa_nil))))))).pt (pss_one ps_never) pss_nil)
      (pss_cons (ps_if (pt_cmpR op_lt (pv 1) pe_int (nomark _))
        (pss_cons (ps_set (i := 13) nd rfl (.inl rfl) (pe_op op_add (pe_op op_add (pv 1) pe_int) (pe_op op_mod (pe_callTy call_int1 (by rfl) B.int bt_int (pa_cons (pe_d L.cell hr (by decide) (pa_cons (pv 0) (pa_cons pe_int pa_nil))) pa_nil)) (pe_op op_sub pe_int (pv 1)))))
        (pss_one (ps_if (pt_not (pt_val (pe_d L.told hr (by decide) (pa_cons (pe_make L.MI.M GI hr5 rfl L.T.mgC L.MI.b3 .nil pass0 (pa_cons (pv 13) (pa_cons (pv 2) pa_nil))) (pa_cons (pe_d L.table hr (by decide) (pa_cons (pv 13) (pa_cons (pv 2) pa_nil))) pa_nil))))) (pss_one ps_never) pss_nil))) pss_nil)
      (pss_cons (ps_if (pt_not (pt_val (pe_d L.told hr (by decide) (pa_cons (pe_make L.MI.M GI hr5 rfl L.T.mgC b2 vu pass0 (pa_cons (pv 1) pa_nil)) (pa_cons (pe_d L.times hr (by decide) (pa_cons (pv 6) (pa_cons pe_int pa_nil))) pa_nil))))) (pss_one ps_never) pss_nil)
      (pss_cons (ps_if (pw_or (pt_not (pt_val (pe_d L.lotIs hr (by decide) (pa_cons (pv 4) (pa_cons (pv 1) (pa_cons (pv 2) pa_nil)))))) (pw_or (pt_not (pt_val (pe_d L.told hr (by decide) (pa_cons (pv 5) (pa_cons (pv 7) pa_nil))))) (pw_or1 (pt_not (pt_val (pe_d L.told hr (by decide) (pa_cons (pv 4) (pa_cons (pv 6) pa_nil)))))))).pt (pss_one ps_never) pss_nil)
      (pss_one (ps_ret (pe_d L.same hr (by decide) (pa_cons (pe_kws L.tableOf.G hr3 (by rfl) L.tableOf.g L.tableOf.kp L.tk pass0 (pk_cons (pv 4) pk_nil)) (pa_cons (pv 6) pa_nil)))))))))))))))))))))))))), ?_⟩
    -- the pins, the two bunches
    refine ⟨_, rfl, a, ns, 0, rfl, hS, by decide, by decide, fun z0 => ⟨z0, rfl, fun H1 p s1 hp => ?_⟩⟩
    refine ⟨_, rfl, _, rfl, a, ns, 1, rfl, s1.seq hS, by decide, by decide, fun z1 => ⟨(by show 1 ≤ sizeLine; decide), fun l1 nl1 => ?_⟩⟩
    have t1 := s1.trans (same_new (o := .lst [.int 17]) nl1)
    refine ⟨z1, l1, [17], rfl, SqL.of upd_same, by simp, (by show 1 ≤ 100; decide), fun H2 q1 ds1 s2 e2 pd1 => ?_⟩
    obtain ⟨d0, rfl, d00, d01⟩ : ∃ d, ds1 = [d] ∧ 0 ≤ d ∧ d < 17 := by
      cases pd1 with
      | cons x t => cases t with
        | nil => exact ⟨_, rfl, x⟩
    have t2 := t1.trans s2
    refine ⟨q1, _, 0, _, rfl, rfl, SqL.of e2, atI_nat (j := 0) rfl, _, rfl, a, ns, 4, d0, p, rfl, t2.seq hS, by decide, by decide, d00, by omega, hp, fun H3 vh hs s3 ch gh lh bh => ?_⟩
    have t3 := t2.trans s3
    refine ⟨_, rfl, _, rfl, a, ns, 2, rfl, t3.seq hS, by decide, by decide, fun z2 => ⟨(by show 1 ≤ sizeLine; decide), fun l2 nl2 => ?_⟩⟩
    have s34 := same_new (o := .lst [.int 17]) nl2
    refine ⟨z2, l2, [17], rfl, SqL.of upd_same, by simp, (by show 1 ≤ 100; decide), fun H4 q2 ds2 s4 e4 pd2 => ?_⟩
    obtain ⟨d1, rfl, d10, d11⟩ : ∃ d, ds2 = [d] ∧ 0 ≤ d ∧ d < 17 := by
      cases pd2 with
      | cons x t => cases t with
        | nil => exact ⟨_, rfl, x⟩
    have t4 := (t3.trans s34).trans s4
    refine ⟨q2, _, 0, _, rfl, rfl, SqL.of e4, atI_nat (j := 0) rfl, _, rfl, a, ns, 20, d1, p, rfl, t4.seq hS, by decide, by decide, d10, by omega, hp, fun H5 vw ws s5 cw gw lw bw => ?_⟩
    have t5 := t4.trans s5
    have ch5 := ch.same ((s34.trans s4).trans s5)
    clear s34 s1 s2 s3 s4 s5 e2 e4 pd1 pd2 t1 t2 t3 t4 nl1 nl2 ch
    obtain ⟨c, rs, rfl, hc, hR⟩ := ch5
    obtain ⟨d, us, rfl, hd, hU⟩ := cw
    have lh2 := gh.len
    have lw2 := gw.len
    have np : max p 1 ≤ 1000 := by omega
    -- the two lots and their tables
    refine ⟨_, rfl, _, rfl, fun x1 dx1 nx1 ndx1 ne1 => ?_⟩
    refine ⟨x1, dx1, c, p, rs, hs, rfl, upd_same, SqA.same (same_mk nx1 ndx1) (.inr (SqT.of hc)), hR.same (same_mk nx1 ndx1), gh.fit, by omega, fun H6 ys1 keep1 n1 lot1 => ⟨rfl, ?_⟩⟩
    have s6 := made_same nx1 ndx1 keep1
    obtain rfl := n1.self gh.nrm
    refine ⟨_, rfl, _, rfl, fun x2 dx2 nx2 ndx2 ne2 => ?_⟩
    have hd6 := s6 _ _ hd
    have hU6 := hU.same s6
    refine ⟨x2, dx2, d, p, us, ws, rfl, upd_same, SqA.same (same_mk nx2 ndx2) (.inr (SqT.of hd6)), hU6.same (same_mk nx2 ndx2), gw.fit, by omega, fun H7 ys2 keep2 n2 lot2 => ⟨rfl, ?_⟩⟩
    have s7 := made_same nx2 ndx2 keep2
    obtain rfl := n2.self gw.nrm
    refine ⟨_, rfl, _, rfl, p, _, ys1, rfl, ⟨c, rs, rfl, s7 _ _ (s6 _ _ hc), (hR.same s6).same s7⟩, gh, by omega, fun H8 v3 s8 tab1 => ?_⟩
    refine ⟨_, rfl, _, rfl, p, _, ys2, rfl, ⟨d, us, rfl, s8 _ _ (s7 _ _ (s6 _ _ hd)), ((hU.same s6).same s7).same s8⟩, gw, by omega, fun H9 v4 s9 tab2 => ?_⟩
    have k9 := ((s6.trans s7).trans s8).trans s9
    have hS9 := k9.seq (t5.seq hS)
    have hc9 := k9 _ _ hc
    have hR9 := hR.same k9
    have hd9 := k9 _ _ hd
    have hU9 := hU.same k9
    have L1 := lot1.same ((s7.trans s8).trans s9)
    have L2 := lot2.same (s8.trans s9)
    have T1 := tab1.same s9
    have T2 := tab2
    clear lot1 lot2 tab1 tab2 hd6 hU6 s6 s7 s8 s9 keep1 keep2 n1 n2 nx1 nx2 ndx1 ndx2 ne1 ne2 hc hR hd hU k9 t5
    -- the tables are told
    refine ⟨_, rfl, _, rfl, _, v3, p, ys1, rfl, L1, gh, by omega, T1, fun H10 e10 => ⟨true, rfl, iteF ?_⟩⟩
    refine ⟨_, rfl, _, rfl, _, v4, p, ys2, rfl, L2.same e10, gw, by omega, T2.same e10, fun H11 s11 => ⟨true, rfl, iteF ?_⟩⟩
    have e11 := e10.trans s11
    refine ⟨_, rfl, _, p, ys1, rfl, L1.same e11, gh, by omega, fun H12 v5 s12 T5 => ?_⟩
    have e12 := e11.trans s12
    -- the mirror, the diagonal
    refine ⟨_, rfl, _, rfl, v5, max p 1, ys1, rfl, T5, np, fun H13 v6 s13 T6 => ?_⟩
    have e13 := e12.trans s13
    refine ⟨_, _, tab_dp (T5.same s13), tab_dp T6, tab_shaped _, tab_shaped _, false, congrArg V.bl (by rw [tab_eqv]; rfl), iteF ?_⟩
    obtain ⟨a3, r3, rfl, h31, h32⟩ := id T1
    have e3 := h32.length
    rw [RC.tabOf_length] at e3
    refine ⟨_, rfl, a3, _, rfl, .inr (SqT.of (e13 _ _ h31)), _, rfl, by rw [List.length_map, e3]; omega, by rw [List.length_map, e3]; omega, ?_⟩
    rw [List.length_map, e3]
    refine fun D nD => lc_vals (te := tCell K 8 14 14) (k := 14) (fun j => V.int (RC.wt (RC.chi (j : Int) (j : Int)) ys1)) np nD (fun j H14 R hj s14 k14 => ?_) fun H14 s14 eD => ?_
    · exact cell_rd rfl rfl rfl ((T5.same s13).same s14) hj hj (k14 _ (Same.refl _))
    have e14 := e13.trans s14
    refine ⟨D, (List.range (max p 1)).map fun (j : Nat) => RC.wt (RC.chi (j : Int) (j : Int)) ys1, rfl, SqL.of (by rw [eD, List.map_map]; rfl), rfl, false, ?_, iteF ?_⟩
    · rw [diag_sum, dec_int]
      rfl
    -- the sum of both
    obtain ⟨y1, c1, a1⟩ := L1.ref
    obtain ⟨y2, c2, a2⟩ := L2.ref
    refine ⟨_, rfl, _, rfl, _, y1, _, _, y2, _, rfl, rfl, e14 _ _ a1, e14 _ _ a2, _, _, p, ys1, ys2, rfl, L1.same e14, L2.same e14, gh, gw, fun H15 v7 zs s15 L3 n3 => ?_⟩
    have e15 := e14.trans s15
    have hF : Fits p (ys1 ++ ys2) := gh.fit.append gw.fit
    have hl : (ys1 ++ ys2).length ≤ 200 := by
      rw [List.length_append]
      omega
    have gz : Good p zs := Good.of hF hl n3
    refine ⟨_, rfl, _, rfl, _, rfl, _, _, max p 1, ys1, ys2, rfl, T1.same e15, T2.same e15, np, fun H16 v8 s16 T8 => ?_⟩
    have e16 := e15.trans s16
    refine ⟨v7, v8, p, zs, rfl, L3.same s16, gz, by omega, (RC.tabOf_congr n3.wts).symm ▸ T8, fun H17 s17 => ⟨true, rfl, iteF ?_⟩⟩
    have e17 := e16.trans s17
    have f17 := s16.trans s17
    -- the sum of the two bunches
    refine ⟨_, rfl, _, rfl, _, rfl, _, rfl, ?_⟩
    refine catA_rd (e17 _ _ hc9) (hR9.same e17) (e17 _ _ hd9) (hU9.same e17) lh2 lw2 fun H18 t ts s18 hA hT => ?_
    refine ⟨t, ts, ys1 ++ ys2, rfl, hA, hT, fun u hu => ?_, by omega, fun H19 v9 xs s19 n9 c9 => ?_⟩
    · have := hF u hu
      omega
    refine ⟨p, v9, xs, rfl, c9, Good.of hF hl n9, by omega, fun H20 v10 s20 T10 => ?_⟩
    have f20 := ((f17.trans s18).trans s19).trans s20
    have h9 : RC.tabOf (max p 1) xs = RC.tabOf (max p 1) zs := RC.tabOf_congr fun f hf => (n9.wts f hf).trans (n3.wts f hf).symm
    refine ⟨v7, v10, p, zs, rfl, L3.same f20, gz, by omega, h9 ▸ T10, fun H21 s21 => ⟨true, rfl, iteF ?_⟩⟩
    have f21 := f20.trans s21
    have e21 := e15.trans f21
    -- the difference
    obtain ⟨x3, y3, c3, r3', rfl, a3', b3, w3⟩ := id L3
    refine ⟨_, rfl, _, rfl, _, y3, _, _, y2, _, rfl, rfl, f21 _ _ a3', e21 _ _ a2, _, _, p, zs, ys2, ys1, rfl, L3.same f21, L2.same e21, gz, gw, fun u hu => ?_, fun f hf => ?_, fun H22 v11 xs2 s22 L11 g11 w11 => ?_⟩
    · exact Int.le_of_lt (gh.nrm.ok u hu).2
    · rw [n3.wts f hf, RC.wt_append]
    have e22 := e21.trans s22
    have h11 : RC.tabOf (max p 1) ys1 = RC.tabOf (max p 1) xs2 := (RC.tabOf_congr w11).symm
    refine ⟨_, rfl, v11, _, p, xs2, rfl, L11, g11, by omega, h11 ▸ T1.same e22, fun H23 s23 => ⟨true, rfl, iteF ?_⟩⟩
    have e23 := e22.trans s23
    clear e10 e11 e12 e13 e14 e15 e16 e17 e21 e22 f17 f20 f21 s11 s12 s13 s14 s15 s16 s17 s18 s19 s20 s21 s22 s23 T5 T6 T8 T10 hA hT n9 c9 h9 h11 L11 g11 w11 eD nD w3 b3 L3
    -- the draw, the factor
    refine ⟨_, rfl, a, ns, 3, rfl, e23.seq hS9, by decide, by decide, fun z3 => ⟨(by show 2 ≤ sizeLine; decide), fun l3 nl3 => ?_⟩⟩
    have e24 := e23.trans (same_new (o := .lst [.int 5, .int 1000000001]) nl3)
    refine ⟨z3, l3, [5, 1000000001], rfl, SqL.of upd_same, by simp, (by show 2 ≤ 100; decide), fun H25 q3 ds3 s25 eD pd3 => ?_⟩
    obtain ⟨g0, g1, rfl, ⟨g00, g01⟩, g10, g11⟩ : ∃ g0 g1, ds3 = [g0, g1] ∧ (0 ≤ g0 ∧ g0 < 5) ∧ 0 ≤ g1 ∧ g1 < 1000000001 := by
      cases pd3 with
      | cons x t => cases t with
        | cons y t => cases t with
          | nil => exact ⟨_, _, rfl, x, y⟩
    have e25 := e24.trans s25
    refine ⟨_, rfl, q3, _, 1, _, rfl, rfl, SqL.of eD, atI_nat (j := 1) rfl, ?_⟩
    dsimp only
    refine set_merge (fun σ' H' => ∃ cf : Int, σ' = [some (.ref a), some (.int (p : Int)), some (.ref c), some (.ref d), some (.ref x1), some (.ref x2), some (.ref a3), some v4, some v5, some (.ref x3), some (.ref q3), some (.int cf), none, none, none, none] ∧ Same H25 H' ∧ 0 ≤ cf ∧ cf ≤ 1000000000) (fun k hk => ?_) ?_
    · refine ⟨_, rfl, q3, _, 0, _, rfl, rfl, SqL.of eD, atI_nat (j := 0) rfl, g0, 4, rfl, rfl, _, rfl, ite2 (fun h => ?_) (fun _ => ?_)⟩
      · have h4 := of_decide_eq_true h
        refine ⟨_, rfl, .inl ⟨g1, rfl, 10, 9, rfl, rfl, ⟨by decide, by decide, by decide⟩, ?_⟩⟩
        have hc25 := e25 _ _ hc9
        have hR25 := hR9.same e25
        have lrs := hR25.length
        rw [List.length_map] at lrs
        refine ⟨_, rfl, c, rfl, ⟨_, SqT.of hc25⟩, fun D nD => ?_⟩
        refine lc_tup (K := K) (a := c) (xs := rs.map V.ref) (fun k H' => Same H25 H' ∧ H' D = some (.lst (((ys1.take k).map (·.2.2)).map V.int))) ⟨same_new nD, upd_same⟩ (fun k H' _ h => SqT.of (h.1 _ _ hc25)) ?_ ?_
        · rintro k x H26 hk ⟨s26, e26⟩
          obtain ⟨r, t, rfl, et, er⟩ := hR25.tri hk
          have lt1 := getElem_len et
          refine ⟨rfl, ?_⟩
          refine ⟨_, rfl, r, _, 2, .int t.2.2, rfl, rfl, SqT.of (s26 _ _ er), atI_nat (j := 2) rfl, _, e26, ?_, sSet s26 nD, ?_⟩
          · rw [List.length_map, List.length_map, List.length_take]
            exact sz1000 (by omega)
          · rw [upd_same, take_snoc et, List.map_append, List.map_append]
            rfl
        · rintro H26 ⟨s26, e26⟩
          rw [take_all ys1 (by rw [List.length_map, lrs])] at e26
          refine ⟨(by show 1 ≤ sizeLine; decide), fun m1 nm1 => ?_⟩
          have s27 := same_new (o := .lst [.int 1]) nm1
          refine ⟨D, m1, _, _, rfl, rfl, s27 _ _ e26, upd_same, ?_, fun m2 nm2 => ?_⟩
          · rw [List.length_map, List.length_map]
            exact Nat.le_of_lt (sz1000 (show ys1.length + 1 ≤ 1000 by omega))
          have s28 := same_new (o := .lst ((ys1.map (·.2.2)).map V.int ++ [V.int 1])) nm2
          refine ⟨m2, ys1.map (·.2.2) ++ [1], rfl, SqL.of (by rw [upd_same, List.map_append]; rfl), by simp, fun mx hm1 hm2 => ?_⟩
          have m0 : 1 ≤ mx := hm2 1 (by simp)
          have m5 : mx ≤ 500000000 := by
            rcases List.mem_append.mp hm1 with h | h
            · obtain ⟨t, ht, rfl⟩ := List.mem_map.mp h
              exact bh t ht
            · rw [List.mem_singleton.mp h]
              decide
          have t9 : (10 : Int) ^ (9 : Int).toNat = 1000000000 := by decide
          have hd0 : 0 ≤ (10 : Int) ^ (9 : Int).toNat / mx := Int.ediv_nonneg (by rw [t9]; decide) (by omega)
          have hd1 : (10 : Int) ^ (9 : Int).toNat / mx ≤ 1000000000 := by
            rw [t9]
            exact Int.ediv_le_self _ (by decide)
          refine ⟨_, mx, rfl, rfl, ⟨by omega, by omega⟩, _, 1, rfl, rfl, g1, _, rfl, rfl, by omega, (by show 4 ≤ sizeLine; decide), fun u nu => ?_⟩
          generalize hG : (10 : Int) ^ (9 : Int).toNat / mx = dv at hd0 hd1 nu ⊢
          have r0 := Int.emod_nonneg g1 (show dv + 1 ≠ 0 by omega)
          have r1 := Int.emod_lt_of_pos g1 (show 0 < dv + 1 by omega)
          have s29 := same_new (o := .lst ([0, 1, 2, g1 % (dv + 1)].map V.int)) nu
          have s2529 := ((s26.trans s27).trans s28).trans s29
          obtain ⟨cf, ec, cf0, cf1⟩ := menu_in (ms := [0, 1, 2, g1 % (dv + 1)]) (d := g0) (R := fun c => 0 ≤ c ∧ c ≤ 1000000000) (fun m hm => by
            simp only [List.mem_cons, List.not_mem_nil, or_false] at hm
            omega) g00 (by show g0 < 4; exact h4)
          refine ⟨_, rfl, q3, _, 0, _, rfl, rfl, SqL.of (s2529 _ _ eD), atI_nat (j := 0) rfl, u, _, g0, .int cf, rfl, rfl, SqL.of upd_same, ec, ?_⟩
          exact hk _ _ ⟨cf, rfl, s2529, cf0, cf1⟩
      · exact hk _ _ ⟨g1, rfl, Same.refl _, g10, by omega⟩
    rintro _ H30 ⟨cf, rfl, s30, cf0, cf1⟩
    have e30 := e25.trans s30
    have eD30 := s30 _ _ eD
    clear s30 eD e23 e24 e25 s25 pd3 nl3
    obtain ⟨zr1, zr2⟩ := tabOf_rows ys1 np
    -- the product
    refine ⟨_, rfl, _, rfl, _, y1, _, cf, rfl, rfl, e30 _ _ a1, _, cf, p, ys1, rfl, L1.same e30, gh, cf0, cf1, fun H31 v12 xs3 s31 L12 g12 w12 => ?_⟩
    have e31 := e30.trans s31
    have h12 := tab_scale (max p 1) w12
    obtain ⟨x12, y12, c12, r12, rfl, a12, b12, d12⟩ := id L12
    refine ⟨_, rfl, _, y12, _, rfl, a12, _, p, xs3, rfl, L12, g12, by omega, fun H32 v13 s32 T13 => ?_⟩
    have e32 := e31.trans s32
    obtain ⟨zs1, zs2⟩ := tabOf_rows xs3 np
    refine ⟨_, rfl, _, rfl, _, cf, max p 1, ys1, rfl, T1.same e32, np, cf0, cf1, fun H33 v14 s33 T14 => ?_⟩
    have e33 := e32.trans s33
    rw [h12] at T14
    refine ⟨v13, v14, rfl, alike_tab (T13.same s33) T14 zs1 zs2, true, rfl, iteF ?_⟩
    dsimp only
    refine nxt_merge (fun σ' H' => σ' = [some (.ref a), some (.int (p : Int)), some (.ref c), some (.ref d), some (.ref x1), some (.ref x2), some (.ref a3), some v4, some v5, some (.ref x3), some (.ref q3), some (.int cf), some (.ref x12), none, none, none] ∧ Same H9 H') (fun k hk => ?_) ?_
    · have f33 := (s31.trans s32).trans s33
      refine ⟨_, rfl, q3, _, 0, _, rfl, rfl, SqL.of (f33 _ _ eD30), atI_nat (j := 0) rfl, g0, 4, rfl, rfl, _, rfl, ite2 (fun _ => ?_) (fun _ => ?_)⟩
      · refine ⟨_, rfl, _, p, xs3, rfl, L12.same (s32.trans s33), g12, by omega, fun H34 v15 s34 T15 => ?_⟩
        have e34 := e33.trans s34
        refine ⟨_, rfl, _, rfl, _, cf, max p 1, ys1, rfl, T1.same e34, np, cf0, cf1, fun H35 v16 s35 T16 => ?_⟩
        rw [h12] at T16
        exact ⟨v15, v16, rfl, alike_tab (T15.same s35) T16 zs1 zs2, true, rfl, iteF (hk _ _ ⟨rfl, e34.trans s35⟩)⟩
      · exact iteF (hk _ _ ⟨rfl, e33⟩)
    rintro _ H40 ⟨rfl, e40⟩
    clear s31 s32 s33 T13 T14 L12 g12 w12 h12 a12 d12 e30 e31 e32 e33 eD30
    -- a wider rim
    refine seq_merge (fun σ' H' => ∃ y13, σ' = [some (.ref a), some (.int (p : Int)), some (.ref c), some (.ref d), some (.ref x1), some (.ref x2), some (.ref a3), some v4, some v5, some (.ref x3), some (.ref q3), some (.int cf), some (.ref x12), y13, none, none] ∧ Same H9 H') (fun k hk => ?_) ?_
    · refine ⟨_, rfl, (p : Int), 40, rfl, rfl, _, rfl, ite2 (fun h => ?_) (fun _ => ?_)⟩
      · have h40 := of_decide_eq_true h
        refine ⟨_, rfl, (p : Int), 1, rfl, rfl, _, rfl, a, ns, 36, rfl, e40.seq hS9, by decide, by decide, fun z4 => .inl ⟨z4, rfl, ?_⟩⟩
        refine ⟨_, rfl, 40, (p : Int), rfl, rfl, z4, 40 - (p : Int), rfl, rfl, by omega, (p : Int) + 1, z4 % (40 - (p : Int)), rfl, rfl, ?_⟩
        obtain ⟨q4, h4, lq, q40⟩ : ∃ q4 : Nat, (p : Int) + 1 + z4 % (40 - (p : Int)) = (q4 : Int) ∧ p ≤ q4 ∧ q4 ≤ 40 := by
          have r0 := Int.emod_nonneg z4 (show 40 - (p : Int) ≠ 0 by omega)
          have r1 := Int.emod_lt_of_pos z4 (show 0 < 40 - (p : Int) by omega)
          exact ⟨((p : Int) + 1 + z4 % (40 - (p : Int))).toNat, by omega, by omega, by omega⟩
        dsimp only
        rw [h4]
        have hc40 := e40 _ _ hc9
        have hR40 := hR9.same e40
        refine ⟨_, rfl, _, rfl, fun x5 dx5 nx5 ndx5 ne5 => ?_⟩
        refine ⟨x5, dx5, c, q4, rs, ys1, rfl, upd_same, SqA.same (same_mk nx5 ndx5) (.inr (SqT.of hc40)), hR40.same (same_mk nx5 ndx5), gh.fit.wide lq, by omega, fun H41 ys3 keep5 n5 lot5 => ⟨rfl, ?_⟩⟩
        have s41 := made_same nx5 ndx5 keep5
        obtain rfl := n5.self gh.nrm
        refine ⟨_, rfl, _, rfl, q4, _, ys3, rfl, ⟨c, rs, rfl, s41 _ _ hc40, hR40.same s41⟩, gh.wide lq, by omega, fun H42 v17 s42 T17 => ?_⟩
        exact ⟨_, v17, q4, ys3, rfl, lot5.same s42, gh.wide lq, by omega, T17, fun H43 s43 => ⟨true, rfl, iteF (hk _ _ ⟨_, rfl, ((e40.trans s41).trans s42).trans s43⟩)⟩⟩
      · exact hk _ _ ⟨_, rfl, e40⟩
    rintro _ H50 ⟨y13, rfl, e50⟩
    -- no cords
    refine ⟨_, rfl, fun x6 dx6 nx6 ndx6 ne6 => ?_⟩
    refine ⟨x6, dx6, e0, p, [], [], rfl, upd_same, .inr (L.e0 _), .nil, fun t ht => (by cases ht), Nat.zero_le _, fun H51 xs6 keep6 n6 lot6 => ⟨rfl, ?_⟩⟩
    have e51 := e50.trans (made_same nx6 ndx6 keep6)
    obtain rfl := n6.self RC.Nrm.nil
    refine ⟨_, rfl, _, 0, max p 1, ys1, rfl, T1.same e51, np, by decide, by decide, fun H52 v18 s52 T18 => ?_⟩
    rw [tab_zero] at T18
    refine ⟨_, v18, p, [], rfl, lot6.same s52, nil_good p, by omega, T18, fun H53 s53 => ⟨true, rfl, iteF ?_⟩⟩
    have e53 := (e51.trans s52).trans s53
    -- nothing has changed
    refine ⟨_, rfl, _, rfl, _, rfl, _, _, p, ys1, rfl, L1.same e53, ⟨c, rs, rfl, e53 _ _ hc9, hR9.same e53⟩, by omega, true, rfl, iteF ?_⟩
    refine ⟨_, rfl, _, rfl, _, v4, p, ys2, rfl, L2.same e53, gw, by omega, T2.same e53, fun H54 s54 => ⟨true, rfl, iteF ?_⟩⟩
    have e54 := e53.trans s54
    refine ⟨_, rfl, _, rfl, _, _, p, ys1, rfl, L1.same e54, gh, by omega, T1.same e54, fun H55 s55 => ⟨true, rfl, iteF ?_⟩⟩
    have e55 := e54.trans s55
    refine ⟨_, rfl, rfl, _, p, ys1, rfl, L1.same e55, gh, by omega, fun H56 v19 s56 T19 => ?_⟩
    exact ⟨_, rfl, v19, _, rfl, alike_tab T19 (T1.same (e55.trans s56)) zr1 zr2, q _⟩
end
end Rc
namespace Rc
open PySem L2

section
variable {P : Program} {w : World} {K : PySem.W.Frag} {mg : Str → Option Value} {base : Heap}
/-- a def of the top as it stands -/
structure Td (K : PySem.W.Frag) (mg : Str → Option Value) (x : Str) (st : Stmt) (f : Addr) (fd : FuncData) (ps : List Str) : Prop where
  F : Fun K x x st f fd
  b : Binds K fd ps []
  g : mg x = some (.ref f)
/-- an operator of the class as it stands -/
structure Md (K : PySem.W.Frag) (C : Addr) (op : Operator) (x q : Str) (st : Stmt) (f : Addr) (fd : FuncData) (ps : List Str) : Prop where
  F : Fun K x q st f fd
  b : Binds K fd ps []
  hs : PySem.W.findIn K (.ref C) (PySem.dunder op.info.2) = some (some (.ref f))
  hf : PySem.W.isFn K (.ref f) = true
theorem Td.df {x : Str} {st : Stmt} {f : Addr} {fd : FuncData} {ps : List Str} {k : Nat} {sp : Sp} (T : Td K mg x st f fd ps) (G : FnOk P w K mg base CX0 k f fd ps sp) : Df P w K mg base x k f fd ps sp := ⟨G, T.F.kp, T.b, T.g⟩
theorem tk_of {f : Addr} {fd : FuncData} (F : Fun K "table_of" "table_of" sTableOf f fd) : KBn K fd ["lot"] 0 ["lot"] (fun us ws => us ++ ws) (fun vs zs => vs ++ zs) := by
  obtain ⟨oc, od, kV, doc, pm, an, cdv, ct, osl, rfl, lk, hcd⟩ := F.ex
  refine ⟨fun s us ws X h1 h2 => ?_, fun a b => Vals.append a b⟩
  match us, ws, h1, h2 with
  | [], [u], _, _ => exact .of_eq rfl
theorem all_of {C pA e0 fI fL : Addr} {fdI fdL : FuncData} {u0 fo ro : Option Value} {g : Fin 26 → Addr} {d : Fin 26 → FuncData} (B : Bt mg) (T : Tx K mg C) (sf : PySem.W.selfFirst K C = true) (M : Mk K C fI) (FI : FunD K "__init__" "Lot.__init__" (defArgs sInit) (defBody sInit) (defScope sInit) [.ref e0] [] fI fdI) (he : ∀ H : Hp, SqT K H e0 [])
    (x0 : Td K mg "gaps" sGaps (g 0) (d 0) ["pins"]) (x1 : Td K mg "is_whole" sWhole (g 1) (d 1) ["value"]) (x2 : Td K mg "combined" sCombined (g 2) (d 2) ["triples"]) (x3 : Td K mg "raw_passing" sPassing (g 3) (d 3) ["cords", "i", "j"]) (x4 : Td K mg "raw_table" sTable (g 4) (d 4) ["pins", "cords"])
    (x5 : Td K mg "is_pin" sPin (g 5) (d 5) ["pins", "value"]) (x6 : Td K mg "is_entry" sEntry (g 6) (d 6) ["pins", "entry"]) (x7 : Td K mg "table_of" sTableOf (g 7) (d 7) ["lot"]) (x8 : Td K mg "_law_whole" sLWhole (g 8) (d 8) ["_law_value"]) (x9 : Td K mg "_law_cell" sLCell (g 9) (d 9) ["_law_script", "_law_k"])
    (x10 : Td K mg "_law_digits" sLDigits (g 10) (d 10) ["_law_cell_here", "_law_sizes"]) (x11 : Td K mg "_law_same" sLSame (g 11) (d 11) ["_law_value", "_law_due"]) (x12 : Td K mg "_law_norm" sLNorm (g 12) (d 12) ["_law_triples"]) (x13 : Td K mg "_law_pins" sLPins (g 13) (d 13) ["_law_cell_here"])
    (x14 : Td K mg "_law_table" sLTable (g 14) (d 14) ["_law_pins_here", "_law_bunch"]) (x15 : Td K mg "_law_lot_is" sLLotIs (g 15) (d 15) ["_law_thing", "_law_pins_here", "_law_bunch"]) (x16 : Td K mg "_law_lot" sLLot (g 16) (d 16) ["_law_script", "_law_start", "_law_count", "_law_pins_here"])
    (x17 : Td K mg "_law_told" sLTold (g 17) (d 17) ["_law_thing", "_law_table_here"]) (x18 : Td K mg "_law_sum" sLSum (g 18) (d 18) ["_law_one", "_law_two"]) (x19 : Td K mg "_law_times" sLTimes (g 19) (d 19) ["_law_one", "_law_factor"]) (x20 : Td K mg "_law_mirror" sLMirror (g 20) (d 20) ["_law_table_here"])
    (x21 : Fun K "table" "Lot.table" sProp (g 21) (d 21)) (b21 : Binds K (d 21) ["self"] []) (ph : PropOf K C "table" pA (g 21))
    (x22 : Md K C .Add "__add__" "Lot.__add__" sAdd (g 22) (d 22) ["self", "other"]) (x23 : Md K C .Sub "__sub__" "Lot.__sub__" sSub (g 23) (d 23) ["self", "other"]) (x24 : Md K C .Mult "__mul__" "Lot.__mul__" sMul (g 24) (d 24) ["self", "number"])
    (mR : PySem.W.findIn K (.ref C) (dunderR (Operator.info .Mult).2) = some none) (m1 : PySem.W.findIn K (.type "int") (PySem.dunder (Operator.info .Mult).2) = some fo) (m2 : PySem.W.findIn K (.type "int") (dunderR (Operator.info .Mult).2) = some ro) (mS : PySem.W.subIn K (.type "int") (.ref C) = some false)
    (law : Fun K "law" "law" sLaw fL fdL) : FnOk P w K mg base CX0 7 fL fdL ["_law_script"] (spLaw K) := by
  have L : Lo K mg (g 1) (g 5) (g 6) (g 2) (d 1) (d 5) (d 6) (d 2) := ⟨x1.F, x1.b, x1.g, x5.F, x5.b, x5.g, x6.F, x6.b, x6.g, x2.F, x2.b, x2.g⟩
  have A : Ta K mg (g 0) (g 3) (g 4) (d 0) (d 3) (d 4) := ⟨x0.F, x0.b, x0.g, x3.F, x3.b, x3.g, x4.F, x4.b, x4.g⟩
  have LD : Ld K mg (g 9) (g 10) (g 12) (d 9) (d 10) (d 12) := ⟨x9.F, x9.b, x9.g, x10.F, x10.b, x10.g, x12.F, x12.b, x12.g⟩
  obtain ⟨ds, r1, b3⟩ := FI.binds1 (ps := ["self", "pins", "cords"]) 3 1 (by simp) rfl fun T kV doc pm an cdv ct us its h1 h2 => match us, its, h1, h2 with
    | [_, _, _], [_], _, _ => ⟨_, rfl, rfl⟩
  obtain ⟨ds2, r2, b2⟩ := FI.binds1 (ps := ["self", "pins", "cords"]) 2 0 (by simp) rfl fun T kV doc pm an cdv ct us its h1 h2 => match us, its, h1, h2 with
    | [_, _], [_], _, _ => ⟨_, rfl, rfl⟩
  cases r1
  obtain ⟨u, rfl⟩ : ∃ u, ds2 = [u] := match ds2, r2 with
    | [u], _ => ⟨u, rfl⟩
  have MI : Mi P w K mg base C fI fdI := ⟨M, ok_init FI T L B, b3⟩
  have GP : FnOk P w K mg base CX0 3 (g 21) (d 21) ["self"] (spTab C) := ok_prop x21 T A B
  have GO : FnOk P w K mg base CX0 3 (g 7) (d 7) ["lot"] (spTab C) := ok_tableOf x7.F T A B
  have GS : FnOk P w K mg base CX0 4 (g 11) (d 11) ["_law_value", "_law_due"] (spSame 2) := ok_same x11.F x11.b x11.g x8.F x8.b x8.g B 2
  have E : Te P w K mg base C (g 11) (g 7) pA (g 21) (d 11) (d 7) (d 21) := ⟨GS, x11.F.kp, x11.b, x11.g, GO, x7.F.kp, x7.b, x7.g, GP, b21, ph⟩
  exact ok_law (u0 := u0) (fs := fun i => ([g 9, g 10, g 11, g 12, g 13, g 14, g 15, g 16, g 17, g 18, g 19, g 20, g 7, g 21, fI, g 22, g 23, g 24] : List Addr).getD i.val fI) (fds := fun i => ([d 9, d 10, d 11, d 12, d 13, d 14, d 15, d 16, d 17, d 18, d 19, d 20, d 7, d 21, fdI, d 22, d 23, d 24] : List FuncData).getD i.val fdI) law
    ⟨B, T, sf, x9.df (ok_cell x9.F B), x10.df (ok_digits x10.F B), x11.df GS, x12.df (ok_norm x12.F B), x13.df (ok_pins x13.F x10.F x10.b x10.g B), x14.df (ok_ltable x14.F B), x15.df (ok_lotIs x15.F T E), x16.df (ok_lot x16.F LD B), x17.df (ok_told x17.F T E), x18.df (ok_sum x18.F B), x19.df (ok_times x19.F B), x20.df (ok_mirror x20.F B),
      x7.df GO, tk_of x7.F, GP, b21, ph, MI, ⟨u, r2, b2⟩, he, ⟨ok_add x22.F T MI B, x22.b, x22.hs, x22.hf⟩, ⟨ok_sub x23.F T MI L B, x23.b, x23.hs, x23.hf⟩, ⟨ok_mul x24.F T MI L B, x24.b, x24.hs, x24.hf⟩, mR, m1, m2, mS⟩
/-- an __init__ with one default, an empty tuple -/
theorem init_mk {f t e : Addr} {oc kV doc pm cd ct ocT : Value} {od an odT : Option Addr} {sl slT : Array (Option Value)} {n : Nat} (l : K.lookup f = some ⟨oc, od, .func (PySem.W.fnOf "__init__" "Lot.__init__" (defArgs sInit) (defBody sInit) (defScope sInit) (.ref t) kV doc pm an cd ct), sl⟩)
    (c : PySem.W.codeIn K cd "Lot.__init__" = true) (k : PySem.W.keepIn K (.ref f) = true) (z : K.lookup t = some ⟨ocT, odT, .seq #[.ref e] n, slT⟩) : FunD K "__init__" "Lot.__init__" (defArgs sInit) (defBody sInit) (defScope sInit) [.ref e] [] f (PySem.W.fnOf "__init__" "Lot.__init__" (defArgs sInit) (defBody sInit) (defScope sInit) (.ref t) kV doc pm an cd ct) :=
  ⟨⟨oc, od, .ref t, kV, doc, pm, an, cd, ct, sl, rfl, l, c, .inr ⟨by simp, t, _, [.ref e], n, rfl, z, rfl, .cons rfl .nil⟩, .inl rfl⟩, k⟩
theorem none_at {e : Addr} {od : Option Addr} {sl : Array (Option Value)} {n : Nat} (z : K.lookup e = some ⟨.type "tuple", od, .seq #[] n, sl⟩) (H : Hp) : SqT K H e [] := .inr ⟨_, #[], n, z, rfl, rfl, by decide, .nil⟩
end
theorem all_mk {l : PySem.W.OpenLaw} {w : World} {K : PySem.W.Frag} {h : Heap} {mg : Str → Option Value} {f0 f1 f2 f3 f4 f5 f6 f7 f8 f9 f10 f11 f12 f13 f14 f15 f16 f17 f18 f19 f20 f21 f22 f23 f24 fI fL C pA e0 fa : Addr} {d0 d1 d2 d3 d4 d5 d6 d7 d8 d9 d10 d11 d12 d13 d14 d15 d16 d17 d18 d19 d20 d21 d22 d23 d24 dI dL : FuncData} {rest : List Value} {fo ro : Option Value} {odE : Option Addr} {nE : Nat} {slE : Array (Option Value)}
    (X : K.In h) (G : h.Ns mainGlobals mg) (hfa : mg "law" = some (.ref fa))
    (aC : PySem.W.nsIn K mainGlobals "Lot" = some (some (.ref C)))
    (n0 : PySem.W.nsIn K mainGlobals "gaps" = some (some (.ref f0)))
    (F0 : Fun K "gaps" "gaps" sGaps f0 d0)
    (n1 : PySem.W.nsIn K mainGlobals "is_whole" = some (some (.ref f1)))
    (F1 : Fun K "is_whole" "is_whole" sWhole f1 d1)
    (n2 : PySem.W.nsIn K mainGlobals "combined" = some (some (.ref f2)))
    (F2 : Fun K "combined" "combined" sCombined f2 d2)
    (n3 : PySem.W.nsIn K mainGlobals "raw_passing" = some (some (.ref f3)))
    (F3 : Fun K "raw_passing" "raw_passing" sPassing f3 d3)
    (n4 : PySem.W.nsIn K mainGlobals "raw_table" = some (some (.ref f4)))
    (F4 : Fun K "raw_table" "raw_table" sTable f4 d4)
    (n5 : PySem.W.nsIn K mainGlobals "is_pin" = some (some (.ref f5)))
    (F5 : Fun K "is_pin" "is_pin" sPin f5 d5)
    (n6 : PySem.W.nsIn K mainGlobals "is_entry" = some (some (.ref f6)))
    (F6 : Fun K "is_entry" "is_entry" sEntry f6 d6)
    (n7 : PySem.W.nsIn K mainGlobals "table_of" = some (some (.ref f7)))
    (F7 : Fun K "table_of" "table_of" sTableOf f7 d7)
    (n8 : PySem.W.nsIn K mainGlobals "_law_whole" = some (some (.ref f8)))
    (F8 : Fun K "_law_whole" "_law_whole" sLWhole f8 d8)
    (n9 : PySem.W.nsIn K mainGlobals "_law_cell" = some (some (.ref f9)))
    (F9 : Fun K "_law_cell" "_law_cell" sLCell f9 d9)
    (n10 : PySem.W.nsIn K mainGlobals "_law_digits" = some (some (.ref f10)))
    (F10 : Fun K "_law_digits" "_law_digits" sLDigits f10 d10)
    (n11 : PySem.W.nsIn K mainGlobals "_law_same" = some (some (.ref f11)))
    (F11 : Fun K "_law_same" "_law_same" sLSame f11 d11)
    (n12 : PySem.W.nsIn K mainGlobals "_law_norm" = some (some (.ref f12)))
    (F12 : Fun K "_law_norm" "_law_norm" sLNorm f12 d12)
    (n13 : PySem.W.nsIn K mainGlobals "_law_pins" = some (some (.ref f13)))
    (F13 : Fun K "_law_pins" "_law_pins" sLPins f13 d13)
    (n14 : PySem.W.nsIn K mainGlobals "_law_table" = some (some (.ref f14)))
    (F14 : Fun K "_law_table" "_law_table" sLTable f14 d14)
    (n15 : PySem.W.nsIn K mainGlobals "_law_lot_is" = some (some (.ref f15)))
    (F15 : Fun K "_law_lot_is" "_law_lot_is" sLLotIs f15 d15)
    (n16 : PySem.W.nsIn K mainGlobals "_law_lot" = some (some (.ref f16)))
    (F16 : Fun K "_law_lot" "_law_lot" sLLot f16 d16)
    (n17 : PySem.W.nsIn K mainGlobals "_law_told" = some (some (.ref f17)))
    (F17 : Fun K "_law_told" "_law_told" sLTold f17 d17)
    (n18 : PySem.W.nsIn K mainGlobals "_law_sum" = some (some (.ref f18)))
    (F18 : Fun K "_law_sum" "_law_sum" sLSum f18 d18)
    (n19 : PySem.W.nsIn K mainGlobals "_law_times" = some (some (.ref f19)))
    (F19 : Fun K "_law_times" "_law_times" sLTimes f19 d19)
    (n20 : PySem.W.nsIn K mainGlobals "_law_mirror" = some (some (.ref f20)))
    (F20 : Fun K "_law_mirror" "_law_mirror" sLMirror f20 d20)
    (pa : PySem.W.findIn K (.ref C) "table" = some (some (.ref pA)))
    (pq : PySem.W.specialIn K (.ref pA) "__get__" = some (some (.builtin "property.__get__")))
    (pt : PySem.W.takesIn K (.ref pA) = some true)
    (pr : PySem.W.recIn K pA "property" = some (.ref f21 :: rest))
    (F21 : Fun K "table" "Lot.table" sProp f21 d21)
    (m22 : PySem.W.findIn K (.ref C) (PySem.dunder (Operator.info .Add).2) = some (some (.ref f22)))
    (i22 : PySem.W.isFn K (.ref f22) = true)
    (F22 : Fun K "__add__" "Lot.__add__" sAdd f22 d22)
    (m23 : PySem.W.findIn K (.ref C) (PySem.dunder (Operator.info .Sub).2) = some (some (.ref f23)))
    (i23 : PySem.W.isFn K (.ref f23) = true)
    (F23 : Fun K "__sub__" "Lot.__sub__" sSub f23 d23)
    (m24 : PySem.W.findIn K (.ref C) (PySem.dunder (Operator.info .Mult).2) = some (some (.ref f24)))
    (i24 : PySem.W.isFn K (.ref f24) = true)
    (F24 : Fun K "__mul__" "Lot.__mul__" sMul f24 d24)
    (mI : PySem.W.findIn K (.ref C) "__init__" = some (some (.ref fI)))
    (iI : PySem.W.isFn K (.ref fI) = true)
    (FI : FunD K "__init__" "Lot.__init__" (defArgs sInit) (defBody sInit) (defScope sInit) [.ref e0] [] fI dI)
    (zE : K.lookup e0 = some ⟨.type "tuple", odE, .seq #[] nE, slE⟩)
    (mR : PySem.W.findIn K (.ref C) (dunderR (Operator.info .Mult).2) = some none)
    (q1 : PySem.W.findIn K (.type "int") (PySem.dunder (Operator.info .Mult).2) = some fo)
    (q2 : PySem.W.findIn K (.type "int") (dunderR (Operator.info .Mult).2) = some ro)
    (mS : PySem.W.subIn K (.type "int") (.ref C) = some false)
    (pg : PySem.W.plainGet K C Str.empty = true)
    (hd : PySem.W.hasDictIn K C = true)
    (po : PySem.W.plainOver K C = true)
    (sa : PySem.W.findIn K (.ref C) "__setattr__" = some (some (.builtin "object.__setattr__")))
    (mk : PySem.W.makesIn K C = true)
    (kc : PySem.W.keepIn K (.ref C) = true)
    (sf : PySem.W.selfFirst K C = true)
    (nP : PySem.W.findIn K (.ref C) "pins" = some none)
    (nC : PySem.W.findIn K (.ref C) "cords" = some none)
    (z0 : PySem.W.nsIn K mainGlobals "isinstance" = some none)
    (z1 : PySem.W.nsIn K mainGlobals "int" = some none)
    (z2 : PySem.W.nsIn K mainGlobals "bool" = some none)
    (z3 : PySem.W.nsIn K mainGlobals "str" = some none)
    (z4 : PySem.W.nsIn K mainGlobals "list" = some none)
    (z5 : PySem.W.nsIn K mainGlobals "tuple" = some none)
    (z6 : PySem.W.nsIn K mainGlobals "max" = some none)
    (z7 : PySem.W.nsIn K mainGlobals "min" = some none)
    (z8 : PySem.W.nsIn K mainGlobals "sum" = some none)
    (z9 : PySem.W.nsIn K mainGlobals "range" = some none)
    (z10 : PySem.W.nsIn K mainGlobals "len" = some none)
    (z11 : PySem.W.nsIn K mainGlobals "sorted" = some none)
    (nL : PySem.W.nsIn K mainGlobals "law" = some (some (.ref fL)))
    (FL : Fun K "law" "law" sLaw fL dL) :
    ∃ fd : FuncData, (∀ (s : Shared) (v : Value), BindsTo s fd ⟨[v], []⟩ [("_law_script", v)]) ∧ ∀ base : Heap, K.In base → base.Ns mainGlobals mg → FnOk l.prog w K mg base CX0 7 fa fd ["_law_script"] (spLaw K) := by
  have e := hfa.symm.trans (PySem.W.mg_of X G nL)
  cases e
  have T : Tx K mg C := ⟨⟨pg, hd, po, sa⟩, nP, nC, PySem.W.mg_of X G aC⟩
  have B : Bt mg := ⟨PySem.W.mg_none_of X G z0, PySem.W.mg_none_of X G z1, PySem.W.mg_none_of X G z2, PySem.W.mg_none_of X G z3, PySem.W.mg_none_of X G z4, PySem.W.mg_none_of X G z5, PySem.W.mg_none_of X G z6, PySem.W.mg_none_of X G z7, PySem.W.mg_none_of X G z8, PySem.W.mg_none_of X G z9, PySem.W.mg_none_of X G z10, PySem.W.mg_none_of X G z11⟩
  have x0 : Td K mg "gaps" sGaps f0 d0 ["pins"] := ⟨F0, F0.binds (ps := ["pins"]) fun _ _ _ _ _ _ us hl => match us, hl with | [_], _ => rfl, PySem.W.mg_of X G n0⟩
  have x1 : Td K mg "is_whole" sWhole f1 d1 ["value"] := ⟨F1, F1.binds (ps := ["value"]) fun _ _ _ _ _ _ us hl => match us, hl with | [_], _ => rfl, PySem.W.mg_of X G n1⟩
  have x2 : Td K mg "combined" sCombined f2 d2 ["triples"] := ⟨F2, F2.binds (ps := ["triples"]) fun _ _ _ _ _ _ us hl => match us, hl with | [_], _ => rfl, PySem.W.mg_of X G n2⟩
  have x3 : Td K mg "raw_passing" sPassing f3 d3 ["cords", "i", "j"] := ⟨F3, F3.binds (ps := ["cords", "i", "j"]) fun _ _ _ _ _ _ us hl => match us, hl with | [_, _, _], _ => rfl, PySem.W.mg_of X G n3⟩
  have x4 : Td K mg "raw_table" sTable f4 d4 ["pins", "cords"] := ⟨F4, F4.binds (ps := ["pins", "cords"]) fun _ _ _ _ _ _ us hl => match us, hl with | [_, _], _ => rfl, PySem.W.mg_of X G n4⟩
  have x5 : Td K mg "is_pin" sPin f5 d5 ["pins", "value"] := ⟨F5, F5.binds (ps := ["pins", "value"]) fun _ _ _ _ _ _ us hl => match us, hl with | [_, _], _ => rfl, PySem.W.mg_of X G n5⟩
  have x6 : Td K mg "is_entry" sEntry f6 d6 ["pins", "entry"] := ⟨F6, F6.binds (ps := ["pins", "entry"]) fun _ _ _ _ _ _ us hl => match us, hl with | [_, _], _ => rfl, PySem.W.mg_of X G n6⟩
  have x7 : Td K mg "table_of" sTableOf f7 d7 ["lot"] := ⟨F7, F7.binds (ps := ["lot"]) fun _ _ _ _ _ _ us hl => match us, hl with | [_], _ => rfl, PySem.W.mg_of X G n7⟩
  have x8 : Td K mg "_law_whole" sLWhole f8 d8 ["_law_value"] := ⟨F8, F8.binds (ps := ["_law_value"]) fun _ _ _ _ _ _ us hl => match us, hl with | [_], _ => rfl, PySem.W.mg_of X G n8⟩
  have x9 : Td K mg "_law_cell" sLCell f9 d9 ["_law_script", "_law_k"] := ⟨F9, F9.binds (ps := ["_law_script", "_law_k"]) fun _ _ _ _ _ _ us hl => match us, hl with | [_, _], _ => rfl, PySem.W.mg_of X G n9⟩
  have x10 : Td K mg "_law_digits" sLDigits f10 d10 ["_law_cell_here", "_law_sizes"] := ⟨F10, F10.binds (ps := ["_law_cell_here", "_law_sizes"]) fun _ _ _ _ _ _ us hl => match us, hl with | [_, _], _ => rfl, PySem.W.mg_of X G n10⟩
  have x11 : Td K mg "_law_same" sLSame f11 d11 ["_law_value", "_law_due"] := ⟨F11, F11.binds (ps := ["_law_value", "_law_due"]) fun _ _ _ _ _ _ us hl => match us, hl with | [_, _], _ => rfl, PySem.W.mg_of X G n11⟩
  have x12 : Td K mg "_law_norm" sLNorm f12 d12 ["_law_triples"] := ⟨F12, F12.binds (ps := ["_law_triples"]) fun _ _ _ _ _ _ us hl => match us, hl with | [_], _ => rfl, PySem.W.mg_of X G n12⟩
  have x13 : Td K mg "_law_pins" sLPins f13 d13 ["_law_cell_here"] := ⟨F13, F13.binds (ps := ["_law_cell_here"]) fun _ _ _ _ _ _ us hl => match us, hl with | [_], _ => rfl, PySem.W.mg_of X G n13⟩
  have x14 : Td K mg "_law_table" sLTable f14 d14 ["_law_pins_here", "_law_bunch"] := ⟨F14, F14.binds (ps := ["_law_pins_here", "_law_bunch"]) fun _ _ _ _ _ _ us hl => match us, hl with | [_, _], _ => rfl, PySem.W.mg_of X G n14⟩
  have x15 : Td K mg "_law_lot_is" sLLotIs f15 d15 ["_law_thing", "_law_pins_here", "_law_bunch"] := ⟨F15, F15.binds (ps := ["_law_thing", "_law_pins_here", "_law_bunch"]) fun _ _ _ _ _ _ us hl => match us, hl with | [_, _, _], _ => rfl, PySem.W.mg_of X G n15⟩
  have x16 : Td K mg "_law_lot" sLLot f16 d16 ["_law_script", "_law_start", "_law_count", "_law_pins_here"] := ⟨F16, F16.binds (ps := ["_law_script", "_law_start", "_law_count", "_law_pins_here"]) fun _ _ _ _ _ _ us hl => match us, hl with | [_, _, _, _], _ => rfl, PySem.W.mg_of X G n16⟩
  have x17 : Td K mg "_law_told" sLTold f17 d17 ["_law_thing", "_law_table_here"] := ⟨F17, F17.binds (ps := ["_law_thing", "_law_table_here"]) fun _ _ _ _ _ _ us hl => match us, hl with | [_, _], _ => rfl, PySem.W.mg_of X G n17⟩
  have x18 : Td K mg "_law_sum" sLSum f18 d18 ["_law_one", "_law_two"] := ⟨F18, F18.binds (ps := ["_law_one", "_law_two"]) fun _ _ _ _ _ _ us hl => match us, hl with | [_, _], _ => rfl, PySem.W.mg_of X G n18⟩
  have x19 : Td K mg "_law_times" sLTimes f19 d19 ["_law_one", "_law_factor"] := ⟨F19, F19.binds (ps := ["_law_one", "_law_factor"]) fun _ _ _ _ _ _ us hl => match us, hl with | [_, _], _ => rfl, PySem.W.mg_of X G n19⟩
  have x20 : Td K mg "_law_mirror" sLMirror f20 d20 ["_law_table_here"] := ⟨F20, F20.binds (ps := ["_law_table_here"]) fun _ _ _ _ _ _ us hl => match us, hl with | [_], _ => rfl, PySem.W.mg_of X G n20⟩
  have b21 := F21.binds (ps := ["self"]) fun _ _ _ _ _ _ us hl => match us, hl with | [_], _ => rfl
  have x22 : Md K C .Add "__add__" "Lot.__add__" sAdd f22 d22 ["self", "other"] := ⟨F22, F22.binds (ps := ["self", "other"]) fun _ _ _ _ _ _ us hl => match us, hl with | [_, _], _ => rfl, m22, i22⟩
  have x23 : Md K C .Sub "__sub__" "Lot.__sub__" sSub f23 d23 ["self", "other"] := ⟨F23, F23.binds (ps := ["self", "other"]) fun _ _ _ _ _ _ us hl => match us, hl with | [_, _], _ => rfl, m23, i23⟩
  have x24 : Md K C .Mult "__mul__" "Lot.__mul__" sMul f24 d24 ["self", "number"] := ⟨F24, F24.binds (ps := ["self", "number"]) fun _ _ _ _ _ _ us hl => match us, hl with | [_, _], _ => rfl, m24, i24⟩
  refine ⟨dL, fun s v => ?_, fun base _ _ => all_of (u0 := none) (g := fun i => ([f0, f1, f2, f3, f4, f5, f6, f7, f8, f9, f10, f11, f12, f13, f14, f15, f16, f17, f18, f19, f20, f21, f22, f23, f24] : List Addr).getD i.val f0) (d := fun i => ([d0, d1, d2, d3, d4, d5, d6, d7, d8, d9, d10, d11, d12, d13, d14, d15, d16, d17, d18, d19, d20, d21, d22, d23, d24] : List FuncData).getD i.val d0) B T sf ⟨mk, mI, iI, kc⟩ FI (none_at zE) x0 x1 x2 x3 x4 x5 x6 x7 x8 x9 x10 x11 x12 x13 x14 x15 x16 x17 x18 x19 x20 F21 b21 ⟨pa, pq, pt, ⟨_, pr⟩⟩ x22 x23 x24 mR q1 q2 mS FL⟩
  obtain ⟨oc, od, kV, doc, pm, an, cdv, ct, osl, rfl, lk, hcd⟩ := FL.ex
  exact .of_eq rfl
theorem walk {l : PySem.W.OpenLaw} {q : Program} {loose : List Str} {XP : (Str → Option Value) → Heap → Prop} {YP : World → Heap → Prop} {d : DefRec} {K : Params → PySem.W.Frag} (hn : l.most = some 63) (hdf : d.params.defaults = [])
    (hY : ∀ (w : World) (h : Heap), YP w h → (K w.params).In h)
    (F : ∀ (w : World) (mg : Str → Option Value) (fa : Addr) (h : Heap), (K w.params).In h → h.Ns mainGlobals mg → mg d.name = some (.ref fa) →
      ∃ fd : FuncData, (∀ (s : Shared) (u : Value), BindsTo s fd ⟨[u], []⟩ [("_law_script", u)]) ∧ ∀ base : Heap, (K w.params).In base → base.Ns mainGlobals mg → FnOk l.prog w (K w.params) mg base CX0 7 fa fd ["_law_script"] (spLaw (K w.params))) :
    PySem.W.WalkO q loose XP YP l.row.toRowW d [] (fun f vs => PySem.call f vs) :=
  L2.walk_of (n := 63) (k := 7) (x := "_law_script") (CX := fun _ => CX0) (sp := fun w => spLaw (K w.params)) hn (by decide) hdf ⟨rfl, by decide, by decide⟩ hY F (fun _ _ a ns hl _ hS => ⟨a, ns, rfl, hS, hl, fun _ => rfl⟩) fun _ _ _ _ _ z => z
end Rc
open PySem PySem.W PyProof.Rows in
set_option maxRecDepth 100000 in
set_option maxHeartbeats 0 in
theorem PySem.Challenge.cw_rimcords_k04_tables_whole_holds : PySem.Challenge.rw_rimcords_k04_tables_whole.Holds := by
  w_on; o_law; k_head; (case hw => w_witness2)
  k_fill
  refine Rc.walk (l := PySem.Challenge.rw_rimcords_k04_tables_whole) rfl rfl (fun w h Y => PySem.W.kIn_of Y) ?F
  case F =>
    intro w mg fa h KX G hmg
    refine' Rc.all_mk KX G hmg ?aC ?n0 ?F0 ?n1 ?F1 ?n2 ?F2 ?n3 ?F3 ?n4 ?F4 ?n5 ?F5 ?n6 ?F6 ?n7 ?F7 ?n8 ?F8 ?n9 ?F9 ?n10 ?F10 ?n11 ?F11 ?n12 ?F12 ?n13 ?F13 ?n14 ?F14 ?n15 ?F15 ?n16 ?F16 ?n17 ?F17 ?n18 ?F18 ?n19 ?F19 ?n20 ?F20 ?pa ?pq ?pt ?pr ?F21 ?m22 ?i22 ?F22 ?m23 ?i23 ?F23 ?m24 ?i24 ?F24 ?mI ?iI ?FI ?zE ?mR ?q1 ?q2 ?mS ?pg ?hd ?po ?sa ?mk ?kc ?sf ?nP ?nC ?z0 ?z1 ?z2 ?z3 ?z4 ?z5 ?z6 ?z7 ?z8 ?z9 ?z10 ?z11 ?nL ?FL
    (case aC => k_is)
    (case n0 => k_is)
    (case F0 => refine' L2.fun_mk ?l ?c ?k; (case l => k_is); (case c => k_is); (case k => k_is))
    (case n1 => k_is)
    (case F1 => refine' L2.fun_mk ?l ?c ?k; (case l => k_is); (case c => k_is); (case k => k_is))
    (case n2 => k_is)
    (case F2 => refine' L2.fun_mk ?l ?c ?k; (case l => k_is); (case c => k_is); (case k => k_is))
    (case n3 => k_is)
    (case F3 => refine' L2.fun_mk ?l ?c ?k; (case l => k_is); (case c => k_is); (case k => k_is))
    (case n4 => k_is)
    (case F4 => refine' L2.fun_mk ?l ?c ?k; (case l => k_is); (case c => k_is); (case k => k_is))
    (case n5 => k_is)
    (case F5 => refine' L2.fun_mk ?l ?c ?k; (case l => k_is); (case c => k_is); (case k => k_is))
    (case n6 => k_is)
    (case F6 => refine' L2.fun_mk ?l ?c ?k; (case l => k_is); (case c => k_is); (case k => k_is))
    (case n7 => k_is)
    (case F7 => refine' L2.fun_mk ?l ?c ?k; (case l => k_is); (case c => k_is); (case k => k_is))
    (case n8 => k_is)
    (case F8 => refine' L2.fun_mk ?l ?c ?k; (case l => k_is); (case c => k_is); (case k => k_is))
    (case n9 => k_is)
    (case F9 => refine' L2.fun_mk ?l ?c ?k; (case l => k_is); (case c => k_is); (case k => k_is))
    (case n10 => k_is)
    (case F10 => refine' L2.fun_mk ?l ?c ?k; (case l => k_is); (case c => k_is); (case k => k_is))
    (case n11 => k_is)
    (case F11 => refine' L2.fun_mk ?l ?c ?k; (case l => k_is); (case c => k_is); (case k => k_is))
    (case n12 => k_is)
    (case F12 => refine' L2.fun_mk ?l ?c ?k; (case l => k_is); (case c => k_is); (case k => k_is))
    (case n13 => k_is)
    (case F13 => refine' L2.fun_mk ?l ?c ?k; (case l => k_is); (case c => k_is); (case k => k_is))
    (case n14 => k_is)
    (case F14 => refine' L2.fun_mk ?l ?c ?k; (case l => k_is); (case c => k_is); (case k => k_is))
    (case n15 => k_is)
    (case F15 => refine' L2.fun_mk ?l ?c ?k; (case l => k_is); (case c => k_is); (case k => k_is))
    (case n16 => k_is)
    (case F16 => refine' L2.fun_mk ?l ?c ?k; (case l => k_is); (case c => k_is); (case k => k_is))
    (case n17 => k_is)
    (case F17 => refine' L2.fun_mk ?l ?c ?k; (case l => k_is); (case c => k_is); (case k => k_is))
    (case n18 => k_is)
    (case F18 => refine' L2.fun_mk ?l ?c ?k; (case l => k_is); (case c => k_is); (case k => k_is))
    (case n19 => k_is)
    (case F19 => refine' L2.fun_mk ?l ?c ?k; (case l => k_is); (case c => k_is); (case k => k_is))
    (case n20 => k_is)
    (case F20 => refine' L2.fun_mk ?l ?c ?k; (case l => k_is); (case c => k_is); (case k => k_is))
    (case pa => k_is)
    (case pq => k_is)
    (case pt => k_is)
    (case pr => k_is)
    (case F21 => refine' L2.fun_mk ?l ?c ?k; (case l => k_is); (case c => k_is); (case k => k_is))
    (case m22 => k_is)
    (case i22 => k_is)
    (case F22 => refine' L2.fun_mk ?l ?c ?k; (case l => k_is); (case c => k_is); (case k => k_is))
    (case m23 => k_is)
    (case i23 => k_is)
    (case F23 => refine' L2.fun_mk ?l ?c ?k; (case l => k_is); (case c => k_is); (case k => k_is))
    (case m24 => k_is)
    (case i24 => k_is)
    (case F24 => refine' L2.fun_mk ?l ?c ?k; (case l => k_is); (case c => k_is); (case k => k_is))
    (case mI => k_is)
    (case iI => k_is)
    (case FI => refine' Rc.init_mk ?l ?c ?k ?z; (case l => k_is); (case c => k_is); (case k => k_is); (case z => k_is))
    (case zE => k_is)
    (case mR => k_is)
    (case q1 => k_is)
    (case q2 => k_is)
    (case mS => k_is)
    (case pg => k_is)
    (case hd => k_is)
    (case po => k_is)
    (case sa => k_is)
    (case mk => k_is)
    (case kc => k_is)
    (case sf => k_is)
    (case nP => k_is)
    (case nC => k_is)
    (case z0 => k_is)
    (case z1 => k_is)
    (case z2 => k_is)
    (case z3 => k_is)
    (case z4 => k_is)
    (case z5 => k_is)
    (case z6 => k_is)
    (case z7 => k_is)
    (case z8 => k_is)
    (case z9 => k_is)
    (case z10 => k_is)
    (case z11 => k_is)
    (case nL => k_is)
    (case FL => refine' L2.fun_mk ?l ?c ?k; (case l => k_is); (case c => k_is); (case k => k_is))
#print axioms PySem.Challenge.cw_rimcords_k04_tables_whole_holds
