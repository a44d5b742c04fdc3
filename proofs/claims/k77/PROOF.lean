import PyProof.Rows.All
import Wide.All
import OpenK.AllK
import Wide.FinOn
import HandS.ForMost
import HandS.ForExc
import HandS.Lambda
import HandS.Dict
import HandS.CallSlots
import HandS.TupAny
import HandS.TupMul
import HandS.TupLe
import HandS.Style
import HandS.Deep
import HandS.IsInst
import HandS.TupLen
import HandS.WordsDict
import HandS.List
import PyProof.Rows.SumAny
import PyProof.WalksMore
import HandS.Small
import KE.GoesMore
import KE.GoesEnum
import HandS.Base
import HandS.Call
import HandS.Iter
import HandS.Zip
import KE.KDictZip
import KE.KDictList
import HandS.DictTup
import HandS.SetFor
import KE.KExcSuper
import KE.KSuper
import HandS.ExcOwn
import HandS.ExcIs
import HandS.CallLocal
import PyProof.DictMoreH
import KE.KDictPairs
import PyProof.ReprRoads
import HandS.WordsExc
import HandS.EndTab
import KE.KNestM
import KE.KLam
import HandS.DictComp
import PySem.Challenge.RW_pairblocks_k77_whole_rows_by_rules
section
set_option Elab.async false
set_option linter.all false
set_option autoImplicit false
namespace L2.Pv.Lf
/-! ### rows by a rule -/
/-- the next bit behind the row v -/
def nb (r : List Nat) (v : List Int) : Int := ((r.map fun k => v.getD (v.length - k) 0).sum) % 2
def ext (r : List Nat) (v : List Int) : Nat → List Int
  | 0 => v
  | n + 1 => ext r (v ++ [nb r v]) n
def stp (r : List Nat) (v : List Int) : List Int := v.drop 1 ++ [nb r v]
def its (r : List Nat) (v : List Int) : Nat → List Int
  | 0 => v
  | n + 1 => stp r (its r v n)
def Bits (v : List Int) : Prop := ∀ x ∈ v, x = 0 ∨ x = 1
structure RL (r : List Nat) (L : Nat) : Prop where
  pos : 1 ≤ L
  le : ∀ k ∈ r, 1 ≤ k ∧ k ≤ L
theorem nb_bit (r : List Nat) (v : List Int) : nb r v = 0 ∨ nb r v = 1 := by unfold nb; omega
/-- nb looks at the last L places alone -/
theorem nb_last {r : List Nat} {L : Nat} (h : RL r L) (a v : List Int) (hv : L ≤ v.length) : nb r (a ++ v) = nb r v := by
  unfold nb
  congr 2
  refine List.map_congr_left fun k hk => ?_
  obtain ⟨h1, h2⟩ := h.le k hk
  rw [List.getD_eq_getElem?_getD, List.getD_eq_getElem?_getD, List.getElem?_append_right (by rw [List.length_append]; omega), List.length_append]
  congr 2
  omega
theorem ext_len (r : List Nat) : ∀ (n : Nat) (v : List Int), (ext r v n).length = v.length + n
  | 0, v => rfl
  | n + 1, v => by rw [ext, ext_len r n]; simp; omega
theorem ext_pre (r : List Nat) : ∀ (n : Nat) (v : List Int), ∃ w, ext r v n = v ++ w ∧ w.length = n
  | 0, v => ⟨[], by simp [ext], rfl⟩
  | n + 1, v => by
    obtain ⟨w, e, hl⟩ := ext_pre r n (v ++ [nb r v])
    exact ⟨nb r v :: w, by rw [ext, e]; simp, by simp [hl]⟩
theorem ext_add (r : List Nat) (v : List Int) : ∀ (m n : Nat), ext r v (m + n) = ext r (ext r v m) n := by
  intro m
  induction m generalizing v with
  | zero => intro n; rw [Nat.zero_add]; rfl
  | succ m ih => intro n; rw [show m + 1 + n = (m + n) + 1 by omega, ext, ext, ih]
theorem ext_take (r : List Nat) (v : List Int) {m n k : Nat} (h1 : k ≤ v.length + m) (h2 : k ≤ v.length + n) : (ext r v m).take k = (ext r v n).take k := by
  have go : ∀ {m n : Nat}, m ≤ n → k ≤ v.length + m → (ext r v m).take k = (ext r v n).take k := fun {m n} hmn hk => by
    obtain ⟨d, rfl⟩ : ∃ d, n = m + d := ⟨n - m, by omega⟩
    rw [ext_add]
    obtain ⟨w, e, _⟩ := ext_pre r d (ext r v m)
    rw [e, List.take_append_of_le_length (by rw [ext_len]; exact hk)]
  by_cases h : m ≤ n
  · exact go h h1
  · exact (go (by omega) h2).symm
theorem ext_front {r : List Nat} {L : Nat} (h : RL r L) : ∀ (n : Nat) (a v : List Int), L ≤ v.length → ext r (a ++ v) n = a ++ ext r v n
  | 0, a, v, _ => rfl
  | n + 1, a, v, hv => by
    rw [ext, ext, nb_last h a v hv, List.append_assoc, ext_front h n a (v ++ [nb r v]) (by simp; omega)]
theorem its_len {r : List Nat} (v : List Int) (hv : 1 ≤ v.length) : ∀ n, (its r v n).length = v.length
  | 0 => rfl
  | n + 1 => by rw [its, stp, List.length_append, List.length_drop, its_len v hv n]; simp; omega
theorem its_bits {r : List Nat} {v : List Int} (hv : Bits v) : ∀ n, Bits (its r v n)
  | 0 => hv
  | n + 1 => fun x hx => by
    rw [its, stp] at hx
    rcases List.mem_append.mp hx with hx | hx
    · exact its_bits hv n x (List.mem_of_mem_drop hx)
    · rw [List.mem_singleton] at hx; subst hx; exact nb_bit _ _
/-- the row, and the state behind n steps -/
theorem ext_its {r : List Nat} {L : Nat} (h : RL r L) {v : List Int} (hv : v.length = L) : ∀ n, (ext r v n).drop n = its r v n
  | 0 => rfl
  | n + 1 => by
    have ih := ext_its h hv n
    have hl := its_len (r := r) v (by have := h.pos; omega) n
    have e : ext r v (n + 1) = ext r v n ++ [nb r (ext r v n)] := ext_add r v n 1
    have e2 : ext r v n = (ext r v n).take n ++ its r v n := by rw [← ih, List.take_append_drop]
    have e3 : nb r (ext r v n) = nb r (its r v n) := (congrArg (nb r) e2).trans (nb_last h _ _ (by rw [hl, hv]; exact Nat.le_refl _))
    rw [e, e3, its, stp, List.drop_append_of_le_length (by rw [ext_len, hv]; have := h.pos; omega), ← ih, List.drop_drop]
theorem its_add (r : List Nat) (v : List Int) : ∀ (m n : Nat), its r v (m + n) = its r (its r v m) n := by
  intro m n
  induction n with
  | zero => rfl
  | succ n ih => rw [← Nat.add_assoc, its, its, ih]
/-- a window of the row -/
theorem ext_window {r : List Nat} {L : Nat} (h : RL r L) {v : List Int} (hv : v.length = L) {n k : Nat} (hk : k ≤ n) : ((ext r v n).drop k).take L = its r v k := by
  obtain ⟨d, rfl⟩ : ∃ d, n = k + d := ⟨n - k, by omega⟩
  rw [ext_add]
  obtain ⟨w, e, _⟩ := ext_pre r d (ext r v k)
  rw [e, List.drop_append_of_le_length (by rw [ext_len]; omega), ext_its h hv, List.take_append_of_le_length (by rw [its_len v (by have := h.pos; omega)]; omega), List.take_of_length_le (by rw [its_len v (by have := h.pos; omega)]; omega)]
/-! ### there and back -/
theorem stp_inj {r : List Nat} {L : Nat} (h : RL r L) (hL : L ∈ r) (hu : ∀ r1 r2, r = r1 ++ L :: r2 → L ∉ r1 ∧ L ∉ r2) {u v : List Int} (lu : u.length = L) (lv : v.length = L) (bu : Bits u) (bv : Bits v) (e : stp r u = stp r v) : u = v := by
  have h1 := h.pos
  unfold stp at e
  have e1 : u.drop 1 = v.drop 1 := (List.append_inj e (by rw [List.length_drop, List.length_drop, lu, lv])).1
  have e2 : nb r u = nb r v := by
    have := (List.append_inj e (by rw [List.length_drop, List.length_drop, lu, lv])).2
    simpa using this
  obtain ⟨r1, r2, er⟩ := List.append_of_mem hL
  obtain ⟨n1, n2⟩ := hu r1 r2 er
  cases u with
  | nil => simp at lu; omega
  | cons x u =>
    cases v with
    | nil => simp at lv; omega
    | cons y v =>
      have e1 : u = v := by simpa using e1
      subst e1
      have same : ∀ l : List Nat, (∀ k ∈ l, k ∈ r ∧ k ≠ L) → (l.map fun k => (x :: u).getD ((x :: u).length - k) 0) = l.map fun k => (y :: u).getD ((y :: u).length - k) 0 := fun l hl => List.map_congr_left fun k hk => by
        obtain ⟨hr, hne⟩ := hl k hk
        have := h.le k hr
        have lu' : u.length + 1 = L := by simpa using lu
        rw [show (x :: u).length - k = (L - k - 1) + 1 by simp; omega, show (y :: u).length - k = (L - k - 1) + 1 by simp; omega]
        rfl
      have s1 := same r1 fun k hk => ⟨by rw [er]; exact List.mem_append_left _ hk, fun z => n1 (z ▸ hk)⟩
      have s2 := same r2 fun k hk => ⟨by rw [er]; exact List.mem_append_right _ (List.mem_cons_of_mem _ hk), fun z => n2 (z ▸ hk)⟩
      unfold nb at e2
      rw [er, List.map_append, List.map_cons, List.map_append, List.map_cons, s1, s2] at e2
      simp only [List.sum_append, List.sum_cons] at e2
      have g1 : (x :: u).getD ((x :: u).length - L) 0 = x := by rw [lu, Nat.sub_self]; rfl
      have g2 : (y :: u).getD ((y :: u).length - L) 0 = y := by rw [lv, Nat.sub_self]; rfl
      rw [g1, g2] at e2
      have bx := bu x List.mem_cons_self
      have bY := bv y List.mem_cons_self
      have : x = y := by omega
      rw [this]
/-- a rule: its greatest step is L, once -/
structure RW (r : List Nat) (L : Nat) : Prop extends RL r L where
  mem : L ∈ r
  one : ∀ r1 r2, r = r1 ++ L :: r2 → L ∉ r1 ∧ L ∉ r2
structure St (v : List Int) (L : Nat) : Prop where
  len : v.length = L
  bit : Bits v
theorem St.its {r : List Nat} {L : Nat} (h : RW r L) {v : List Int} (hv : St v L) (n : Nat) : St (its r v n) L :=
  ⟨by rw [its_len v (by have := h.pos; have := hv.len; omega)]; exact hv.len, its_bits hv.bit n⟩
theorem its_back {r : List Nat} {L : Nat} (h : RW r L) {v : List Int} (hv : St v L) : ∀ (i d : Nat), its r v (i + d) = its r v i → its r v d = v
  | 0, d, e => by rw [Nat.zero_add] at e; exact e
  | i + 1, d, e => by
    rw [show i + 1 + d = (i + d) + 1 by omega, Lf.its, Lf.its] at e
    exact its_back h hv i d (stp_inj h.toRL h.mem h.one (hv.its h _).len (hv.its h _).len (hv.its h _).bit (hv.its h _).bit e)
theorem its_same {r : List Nat} {L : Nat} (h : RW r L) {v : List Int} (hv : St v L) (s d : Nat) : its r (its r v s) d = its r v s ↔ its r v d = v := by
  rw [← its_add]
  constructor
  · exact its_back h hv s d
  · intro e
    rw [Nat.add_comm, its_add, e]
/-! ### how many states there are -/
def code : List Int → Nat
  | [] => 0
  | x :: v => x.toNat + 2 * code v
theorem code_lt : ∀ {v : List Int}, Bits v → code v < 2 ^ v.length
  | [], _ => by decide
  | x :: v, h => by
    have := code_lt (v := v) fun y hy => h y (List.mem_cons_of_mem _ hy)
    have hx := h x List.mem_cons_self
    rw [code, List.length_cons, Nat.pow_succ]
    rcases hx with rfl | rfl
    · show 0 + _ < _; omega
    · show 1 + _ < _; omega
theorem code_inj : ∀ {u v : List Int}, Bits u → Bits v → u.length = v.length → code u = code v → u = v
  | [], [], _, _, _, _ => rfl
  | [], _ :: _, _, _, h, _ => by simp at h
  | _ :: _, [], _, _, h, _ => by simp at h
  | x :: u, y :: v, hu, hv, hl, e => by
    rw [code, code] at e
    have hx := hu x List.mem_cons_self
    have hy := hv y List.mem_cons_self
    have hxy : x = y ∧ code u = code v := by
      rcases hx with rfl | rfl <;> rcases hy with rfl | rfl <;> simp at e ⊢ <;> omega
    rw [hxy.1, code_inj (fun z hz => hu z (List.mem_cons_of_mem _ hz)) (fun z hz => hv z (List.mem_cons_of_mem _ hz)) (by simpa using hl) hxy.2]
theorem pigeon : ∀ (N : Nat) (f : Nat → Nat), (∀ i, i ≤ N → f i < N) → ∃ i j, i < j ∧ j ≤ N ∧ f i = f j
  | 0, f, h => absurd (h 0 (Nat.le_refl _)) (by omega)
  | N + 1, f, h => by
    -- move the value N away
    by_cases hN : ∃ i, i < N + 1 ∧ f i = f (N + 1)
    · obtain ⟨i, hi, e⟩ := hN
      exact ⟨i, N + 1, hi, Nat.le_refl _, e⟩
    · have hN : ∀ i, i < N + 1 → f i ≠ f (N + 1) := fun i hi e => hN ⟨i, hi, e⟩
      have hlast := h (N + 1) (Nat.le_refl _)
      obtain ⟨i, j, h1, h2, e⟩ := pigeon N (fun i => if f i = N then f (N + 1) else f i) fun i hi => by
        have := h i (by omega)
        have := hN i (by omega)
        show (if f i = N then f (N + 1) else f i) < N
        split
        · omega
        · omega
      refine ⟨i, j, h1, by omega, ?_⟩
      have n1 := hN i (by omega)
      have n2 := hN j (by omega)
      have e : (if f i = N then f (N + 1) else f i) = (if f j = N then f (N + 1) else f j) := e
      split at e <;> split at e <;> omega
/-- the state comes again -/
theorem its_again {r : List Nat} {L : Nat} (h : RW r L) {v : List Int} (hv : St v L) : ∃ d, 1 ≤ d ∧ d ≤ 2 ^ L ∧ its r v d = v := by
  obtain ⟨i, j, h1, h2, e⟩ := pigeon (2 ^ L) (fun i => code (its r v i)) fun i _ => by
    have := code_lt (hv.its h i).bit
    rw [(hv.its h i).len] at this
    exact this
  have e2 : its r v (i + (j - i)) = its r v i := by
    rw [show i + (j - i) = j by omega]
    exact (code_inj (hv.its h i).bit (hv.its h j).bit (by rw [(hv.its h i).len, (hv.its h j).len]) e).symm
  exact ⟨j - i, by omega, by omega, its_back h hv i _ e2⟩
/-- the first return -/
structure Per (r : List Nat) (v : List Int) (p : Nat) : Prop where
  pos : 1 ≤ p
  back : its r v p = v
  least : ∀ d, 1 ≤ d → d < p → its r v d ≠ v
theorem per_ex {r : List Nat} {L : Nat} (h : RW r L) {v : List Int} (hv : St v L) : ∃ p, Per r v p ∧ p ≤ 2 ^ L := by
  obtain ⟨d, h1, h2, e⟩ := its_again h hv
  have go : ∀ n d, d ≤ n → 1 ≤ d → its r v d = v → ∃ p, Per r v p ∧ p ≤ d := fun n => by
    induction n with
    | zero => intro d hd h1 _; omega
    | succ n ih =>
      intro d hd h1 e
      by_cases hl : ∃ c, 1 ≤ c ∧ c < d ∧ its r v c = v
      · obtain ⟨c, c1, c2, ce⟩ := hl
        obtain ⟨p, hp, hle⟩ := ih c (by omega) c1 ce
        exact ⟨p, hp, by omega⟩
      · exact ⟨d, ⟨h1, e, fun c c1 c2 ce => hl ⟨c, c1, c2, ce⟩⟩, Nat.le_refl _⟩
  obtain ⟨p, hp, hle⟩ := go d d (Nat.le_refl _) h1 e
  exact ⟨p, hp, by omega⟩
theorem Per.uniq {r : List Nat} {v : List Int} {p q : Nat} (a : Per r v p) (b : Per r v q) : p = q := by
  by_cases h : p < q
  · exact absurd a.back (b.least p a.pos h)
  · by_cases h2 : q < p
    · exact absurd b.back (a.least q b.pos h2)
    · omega
theorem Per.shift {r : List Nat} {L : Nat} (h : RW r L) {v : List Int} (hv : St v L) {p : Nat} (a : Per r v p) (s : Nat) : Per r (its r v s) p :=
  ⟨a.pos, (its_same h hv s p).mpr a.back, fun d h1 h2 e => a.least d h1 h2 ((its_same h hv s d).mp e)⟩
theorem Per.inj {r : List Nat} {L : Nat} (h : RW r L) {v : List Int} (hv : St v L) {p : Nat} (a : Per r v p) {i j : Nat} (hi : i < j) (hj : j < p) : its r v i ≠ its r v j := fun e =>
  a.least (j - i) (by omega) (by omega) (its_back h hv i (j - i) (by rw [show i + (j - i) = j by omega]; exact e.symm))
/-! ### noughts -/
def zer (L : Nat) : List Int := List.replicate L 0
theorem nb_zer (r : List Nat) (L : Nat) : nb r (zer L) = 0 := by
  unfold nb zer
  have : (r.map fun k => (List.replicate L (0 : Int)).getD ((List.replicate L (0 : Int)).length - k) 0) = r.map fun _ => 0 := List.map_congr_left fun k _ => by
    rw [List.getD_eq_getElem?_getD, List.getElem?_replicate]
    split <;> rfl
  rw [this]
  have : ∀ l : List Nat, (l.map fun _ => (0 : Int)).sum = 0 := fun l => by
    induction l with
    | nil => rfl
    | cons a l ih => rw [List.map_cons, List.sum_cons, ih]; rfl
  rw [this]; rfl
theorem stp_zer {L : Nat} (hL : 1 ≤ L) (r : List Nat) : stp r (zer L) = zer L := by
  unfold stp
  rw [nb_zer]
  unfold zer
  rw [List.drop_replicate, ← List.replicate_succ', show L - 1 + 1 = L by omega]
theorem its_zer {L : Nat} (hL : 1 ≤ L) (r : List Nat) : ∀ n, its r (zer L) n = zer L
  | 0 => rfl
  | n + 1 => by rw [its, its_zer hL r n, stp_zer hL]
theorem per_zer {L : Nat} (hL : 1 ≤ L) (r : List Nat) : Per r (zer L) 1 := ⟨Nat.le_refl _, its_zer hL r 1, fun d h1 h2 => by omega⟩
/-! ### sums of rows -/
def xo (u v : List Int) : List Int := List.zipWith (fun a b => (a + b) % 2) u v
theorem xo_len (u v : List Int) : (xo u v).length = min u.length v.length := by simp [xo]
theorem xo_get {u v : List Int} (hl : u.length = v.length) (i : Nat) : (xo u v).getD i 0 = (u.getD i 0 + v.getD i 0) % 2 := by
  unfold xo
  rw [List.getD_eq_getElem?_getD, List.getD_eq_getElem?_getD, List.getD_eq_getElem?_getD, List.getElem?_zipWith]
  by_cases h : i < u.length
  · rw [List.getElem?_eq_getElem h, List.getElem?_eq_getElem (hl ▸ h)]; rfl
  · rw [List.getElem?_eq_none (by omega), List.getElem?_eq_none (by omega)]; rfl
theorem nb_xo {r : List Nat} {u v : List Int} (hl : u.length = v.length) : nb r (xo u v) = (nb r u + nb r v) % 2 := by
  unfold nb
  have hx : (xo u v).length = v.length := by rw [xo_len]; omega
  rw [hx, hl]
  induction r with
  | nil => rfl
  | cons k r ih =>
    simp only [List.map_cons, List.sum_cons]
    rw [xo_get hl]
    omega
theorem xo_snoc {u v : List Int} (hl : u.length = v.length) (a b : Int) : xo (u ++ [a]) (v ++ [b]) = xo u v ++ [(a + b) % 2] := by
  unfold xo
  rw [List.zipWith_append hl]
  rfl
theorem ext_xo {r : List Nat} : ∀ (n : Nat) {u v : List Int}, u.length = v.length → ext r (xo u v) n = xo (ext r u n) (ext r v n)
  | 0, _, _, _ => rfl
  | n + 1, u, v, hl => by
    rw [ext, ext, ext, nb_xo hl, ← xo_snoc hl, ext_xo n (by simp [hl])]
end L2.Pv.Lf
end
section
set_option Elab.async false
set_option linter.all false
set_option autoImplicit false
set_option maxRecDepth 100000
namespace L2.Pv
open PySem PySem.Spec PyProof.Rows

/-! ### plain data -/
/-- a dict's keys: numbers and texts, or tuples of these -/
inductive DKs where
  | k (ks : List Key)
  | t (ks : List (List Key))
deriving DecidableEq
def DKs.len : DKs → Nat
  | .k ks => ks.length
  | .t ks => ks.length
def DKs.nd : DKs → Prop
  | .k ks => ks.Nodup
  | .t ks => ks.Nodup
def DKs.fit (ks : DKs) (n : Nat) : Prop := ks.len = n ∧ ks.nd
def dicHO (ks : DKs) (vs : List V) : HO :=
  match ks with
  | .k ks => .dK (ks.zip vs)
  | .t ks => .dT (ks.zip vs)
inductive D where
  | non
  | bl (b : Bool)
  | int (i : Int)
  | str (x : Str)
  | tup (xs : List D)
  | lst (o : Bool) (xs : List D)
  | scr (xs : List Int)
  | fn (f : Nat)
  | rf (a : Addr)
  | lam (a c : Addr) (q : Str)
  | ldc (ks : DKs) (xs : List D)
  | dic (o : Bool) (ks : DKs) (xs : List D)
  | obj (o : Bool) (c : Nat) (xs : List D)

mutual
/-- all flags off -/
def D.frz : D → D
  | .lst _ xs => .lst false (D.frzs xs)
  | .non => .non
  | .bl b => .bl b
  | .int i => .int i
  | .str x => .str x
  | .tup xs => .tup xs
  | .scr ns => .scr ns
  | .fn f => .fn f
  | .rf a => .rf a
  | .lam a c q => .lam a c q
  | .ldc ks xs => .ldc ks (D.frzs xs)
  | .dic _ ks xs => .dic false ks (D.frzs xs)
  | .obj _ c xs => .obj false c (D.frzs xs)
def D.frzs : List D → List D
  | [] => []
  | x :: xs => D.frz x :: D.frzs xs
end
/-- a list that its holder owns alone -/
def D.own : D → Bool
  | .lst o _ => o
  | .dic o _ _ => o
  | .obj o _ _ => o
  | _ => false

/-- what a program's numbers stand for -/
structure Gm where
  K : PySem.W.Frag
  fa : Nat → Addr
  ca : Nat → Addr
  fl : Nat → List Str
  tb : List (Addr × Str)
  gb : Hp

mutual
/-- v stands for the data d, by the frozen part G alone -/
def Rep (Γ : Gm) (G : Hp) (v : V) : D → Prop
  | .non => v = .non
  | .bl b => v = .bl b
  | .int i => v = .int i
  | .str x => v = .str x
  | .tup ds => ds.length ≤ sizeLine ∧ ∃ a vs, v = .ref a ∧ G a = some (.tup vs) ∧ Reps Γ G vs ds
  | .lst o ds => (o = false ∧ ds.length ≤ sizeLine) ∧ ∃ a vs, v = .ref a ∧ G a = some (.lst vs) ∧ Reps Γ G vs ds
  | .scr ns => ns.length ≤ sizeLine ∧ ∃ a, v = .ref a ∧ SqL Γ.K G a (ns.map V.int)
  | .fn f => v = .ref (Γ.fa f)
  | .rf a => v = .ref a
  | .lam a c q => v = .ref a ∧ G c = some (LamX.CodeO c q)
  | .ldc ks ds => (ds.length ≤ sizeLine ∧ ks.fit ds.length) ∧ ∃ a vs o, v = .ref a ∧ G a = some (.frz o (dicHO ks vs)) ∧ Reps Γ G vs ds
  | .dic o ks ds => (o = false ∧ ds.length ≤ sizeLine ∧ ks.fit ds.length) ∧ ∃ a vs, v = .ref a ∧ G a = some (dicHO ks vs) ∧ Reps Γ G vs ds
  | .obj o c ds => (o = false ∧ ds.length ≤ 900) ∧ ∃ a dx vs, v = .ref a ∧ G a = some (.ins (Γ.ca c) dx ((Γ.fl c).zip vs)) ∧ G dx = some (.own a) ∧ Reps Γ G vs ds
def Reps (Γ : Gm) (G : Hp) (vs : List V) : List D → Prop
  | [] => vs = []
  | d :: ds => ∃ v r, vs = v :: r ∧ Rep Γ G v d ∧ Reps Γ G r ds
end

/-- trees of lists that are owned, with their addresses -/
inductive T where
  | leaf (v : V) (d : D)
  | lst (a : Addr) (xs : List T)
  | dic (a : Addr) (ks : DKs) (xs : List T)
  | obj (a dx : Addr) (c : Nat) (xs : List T)
def T.v : T → V
  | .leaf v _ => v
  | .lst a _ => .ref a
  | .dic a _ _ => .ref a
  | .obj a _ _ _ => .ref a
mutual
def T.d : T → D
  | .leaf _ d => d
  | .lst _ xs => .lst true (T.ds xs)
  | .dic _ ks xs => .dic true ks (T.ds xs)
  | .obj _ _ c xs => .obj true c (T.ds xs)
def T.ds : List T → List D
  | [] => []
  | x :: xs => T.d x :: T.ds xs
end
mutual
/-- how often an address is owned -/
def T.cnt (b : Addr) : T → Nat
  | .leaf _ _ => 0
  | .lst a xs => (if a = b then 1 else 0) + T.cnts b xs
  | .dic a _ xs => (if a = b then 1 else 0) + T.cnts b xs
  | .obj a dx _ xs => (if a = b then 1 else 0) + ((if dx = b then 1 else 0) + T.cnts b xs)
def T.cnts (b : Addr) : List T → Nat
  | [] => 0
  | x :: xs => T.cnt b x + T.cnts b xs
end
mutual
def Good (Γ : Gm) (G H : Hp) : T → Prop
  | .leaf v d => Rep Γ G v d
  | .lst a xs => (H a = some (.lst (xs.map T.v)) ∧ xs.length ≤ sizeLine) ∧ Goods Γ G H xs
  | .dic a ks xs => (H a = some (dicHO ks (xs.map T.v)) ∧ xs.length ≤ sizeLine ∧ ks.fit xs.length) ∧ Goods Γ G H xs
  | .obj a dx c xs => (H a = some (.ins (Γ.ca c) dx ((Γ.fl c).zip (xs.map T.v))) ∧ H dx = some (.own a) ∧ xs.length ≤ 900) ∧ Goods Γ G H xs
def Goods (Γ : Gm) (G H : Hp) : List T → Prop
  | [] => True
  | x :: xs => Good Γ G H x ∧ Goods Γ G H xs
end
theorem T.ds_map : ∀ xs : List T, T.ds xs = xs.map T.d
  | [] => rfl
  | x :: xs => by rw [T.ds, T.ds_map xs]; rfl
theorem Goods_iff {Γ : Gm} {G H : Hp} : ∀ {xs : List T}, Goods Γ G H xs ↔ ∀ t ∈ xs, Good Γ G H t
  | [] => by simp [Goods]
  | x :: xs => by rw [Goods, Goods_iff (xs := xs)]; simp

abbrev Sub (G G' : Hp) : Prop := ∀ a o, G a = some o → G' a = some o
theorem Sub.refl (G : Hp) : Sub G G := fun _ _ h => h
theorem Sub.trans {G G1 G2 : Hp} (a : Sub G G1) (b : Sub G1 G2) : Sub G G2 := fun c o h => b c o (a c o h)
theorem sqT_mono {K : PySem.W.Frag} {G G' : Hp} (s : Sub G G') {a : Addr} {vs : List V} (h : SqT K G a vs) : SqT K G' a vs := by
  rcases h with (h | ⟨o, h⟩) | h
  · exact .inl (.inl (s _ _ h))
  · exact .inl (.inr ⟨o, s _ _ h⟩)
  · exact .inr h
theorem sqT_of {K : PySem.W.Frag} {G G' : Hp} (s : Sub G G') {a : Addr} {vs : List V} (h : G a = some (.tup vs)) : SqT K G' a vs := .inl (.inl (s _ _ h))
theorem sqL_mono {K : PySem.W.Frag} {G G' : Hp} (s : Sub G G') {a : Addr} {vs : List V} (h : SqL K G a vs) : SqL K G' a vs := by
  rcases h with (h | ⟨o, h⟩) | h
  · exact .inl (.inl (s _ _ h))
  · exact .inl (.inr ⟨o, s _ _ h⟩)
  · exact .inr h
mutual
theorem Rep.mono {Γ : Gm} {G G' : Hp} (s : Sub G G') : ∀ {v : V} (d : D), Rep Γ G v d → Rep Γ G' v d
  | _, .non, h => h
  | _, .bl _, h => h
  | _, .int _, h => h
  | _, .str _, h => h
  | _, .tup ds, h => by
    obtain ⟨hz, a, vs, e, q, r⟩ := h
    exact ⟨hz, a, vs, e, s _ _ q, Reps.mono s ds r⟩
  | _, .lst o ds, h => by
    obtain ⟨eo, a, vs, e, q, r⟩ := h
    exact ⟨eo, a, vs, e, s _ _ q, Reps.mono s ds r⟩
  | _, .scr ns, h => by
    obtain ⟨z, a, e, q⟩ := h
    exact ⟨z, a, e, sqL_mono s q⟩
  | _, .fn _, h => h
  | _, .rf _, h => h
  | _, .lam _ _ _, h => ⟨h.1, s _ _ h.2⟩
  | _, .ldc ks ds, h => by
    obtain ⟨eo, a, vs, o, e, q, r⟩ := h
    exact ⟨eo, a, vs, o, e, s _ _ q, Reps.mono s ds r⟩
  | _, .dic o ks ds, h => by
    obtain ⟨eo, a, vs, e, q, r⟩ := h
    exact ⟨eo, a, vs, e, s _ _ q, Reps.mono s ds r⟩
  | _, .obj o c ds, h => by
    obtain ⟨eo, a, dx, vs, e, q, q2, r⟩ := h
    exact ⟨eo, a, dx, vs, e, s _ _ q, s _ _ q2, Reps.mono s ds r⟩
theorem Reps.mono {Γ : Gm} {G G' : Hp} (s : Sub G G') : ∀ {vs : List V} (ds : List D), Reps Γ G vs ds → Reps Γ G' vs ds
  | _, [], h => h
  | _, d :: ds, h => by
    obtain ⟨v, r, e, h1, h2⟩ := h
    exact ⟨v, r, e, Rep.mono s d h1, Reps.mono s ds h2⟩
end
mutual
theorem Good.mono {Γ : Gm} {G G' H H' : Hp} (s : Sub G G') : ∀ (t : T), (∀ a, 0 < t.cnt a → H' a = H a) → Good Γ G H t → Good Γ G' H' t
  | .leaf v d, _, h => Rep.mono s d h
  | .lst a xs, k, h => by
    refine ⟨⟨?_, h.1.2⟩, Goods.mono s xs (fun b hb => k b ?_) h.2⟩
    · rw [k a (by rw [T.cnt, if_pos rfl]; omega)]; exact h.1.1
    · rw [T.cnt]; omega
  | .dic a ks xs, k, h => by
    refine ⟨⟨?_, h.1.2⟩, Goods.mono s xs (fun b hb => k b ?_) h.2⟩
    · rw [k a (by rw [T.cnt, if_pos rfl]; omega)]; exact h.1.1
    · rw [T.cnt]; omega
  | .obj a dx c xs, k, h => by
    refine ⟨⟨?_, ?_, h.1.2.2⟩, Goods.mono s xs (fun b hb => k b ?_) h.2⟩
    · rw [k a (by rw [T.cnt, if_pos rfl]; omega)]; exact h.1.1
    · rw [k dx (by rw [T.cnt, if_pos (rfl : dx = dx)]; omega)]; exact h.1.2.1
    · rw [T.cnt]; omega
theorem Goods.mono {Γ : Gm} {G G' H H' : Hp} (s : Sub G G') : ∀ (ts : List T), (∀ a, 0 < T.cnts a ts → H' a = H a) → Goods Γ G H ts → Goods Γ G' H' ts
  | [], _, _ => trivial
  | t :: ts, k, h => ⟨Good.mono s t (fun b hb => k b (by rw [T.cnts]; omega)) h.1, Goods.mono s ts (fun b hb => k b (by rw [T.cnts]; omega)) h.2⟩
end
theorem Reps.len {Γ : Gm} {G : Hp} : ∀ {vs : List V} {ds : List D}, Reps Γ G vs ds → vs.length = ds.length
  | vs, [], h => by rw [show vs = [] from h]; rfl
  | _, d :: ds, h => by
    obtain ⟨v, r, e, _, h2⟩ := h
    subst e
    simp [Reps.len h2]
theorem Reps.get {Γ : Gm} {G : Hp} : ∀ {vs : List V} {ds : List D} {i : Nat} {d : D}, Reps Γ G vs ds → ds[i]? = some d → ∃ v, vs[i]? = some v ∧ Rep Γ G v d
  | _, [], _, _, _, h => by simp at h
  | _, d :: ds, i, x, h, g => by
    obtain ⟨v, r, e, h1, h2⟩ := h
    subst e
    cases i with
    | zero => simp at g; subst g; exact ⟨v, by simp, h1⟩
    | succ i => simpa using Reps.get h2 (by simpa using g)
theorem Reps.append {Γ : Gm} {G : Hp} : ∀ {vs ws : List V} {ds es : List D}, Reps Γ G vs ds → Reps Γ G ws es → Reps Γ G (vs ++ ws) (ds ++ es)
  | _, _, [], _, h, g => by rw [show _ = [] from h]; exact g
  | _, _, d :: ds, _, h, g => by
    obtain ⟨v, r, e, h1, h2⟩ := h
    subst e
    exact ⟨v, r ++ _, rfl, h1, Reps.append h2 g⟩
theorem Reps.take {Γ : Gm} {G : Hp} : ∀ {vs : List V} {ds : List D} (n : Nat), Reps Γ G vs ds → Reps Γ G (vs.take n) (ds.take n)
  | _, _, 0, _ => by simp [Reps]
  | _, [], n + 1, h => by rw [show _ = [] from h]; simp [Reps]
  | _, d :: ds, n + 1, h => by
    obtain ⟨v, r, e, h1, h2⟩ := h
    subst e
    exact ⟨v, r.take n, rfl, h1, Reps.take n h2⟩
theorem Reps.drop {Γ : Gm} {G : Hp} : ∀ {vs : List V} {ds : List D} (n : Nat), Reps Γ G vs ds → Reps Γ G (vs.drop n) (ds.drop n)
  | _, _, 0, h => h
  | _, [], n + 1, h => by rw [show _ = [] from h]; simp [Reps]
  | _, d :: ds, n + 1, h => by
    obtain ⟨v, r, e, h1, h2⟩ := h
    subst e
    exact Reps.drop n h2

/-! ### the slots' trees -/
abbrev DS := List (Option D)
abbrev TS' := List (Option T)
def dsl (sl : TS') : DS := sl.map (Option.map T.d)
def cO (a : Addr) : Option T → Nat
  | some t => t.cnt a
  | none => 0
def cS (a : Addr) (sl : TS') : Nat := (sl.map (cO a)).sum
theorem cS_set (a : Addr) (x : Option T) : ∀ (sl : TS') (i : Nat), i < sl.length → cS a (sl.set i x) + cO a (sl[i]?.join) = cS a sl + cO a x
  | [], i, h => by simp at h
  | y :: sl, 0, _ => by simp [cS]; omega
  | y :: sl, i + 1, h => by
    have ih := cS_set a x sl i (by simpa using h)
    simp only [cS, List.set_cons_succ, List.map_cons, List.sum_cons, List.getElem?_cons_succ] at ih ⊢
    omega
theorem cS_get {a : Addr} {t : T} : ∀ {sl : TS'} {i : Nat}, sl[i]? = some (some t) → t.cnt a ≤ cS a sl
  | [], i, h => by simp at h
  | y :: sl, 0, h => by
    simp at h; subst h
    simp [cS, cO]
  | y :: sl, i + 1, h => by
    have ih := cS_get (a := a) (t := t) (sl := sl) (i := i) (by simpa using h)
    simp only [cS, List.map_cons, List.sum_cons] at ih ⊢
    omega
theorem cnts_mem {a : Addr} {t : T} : ∀ {ts : List T}, t ∈ ts → t.cnt a ≤ T.cnts a ts
  | [], h => by simp at h
  | x :: ts, h => by
    rw [T.cnts]
    rcases List.mem_cons.mp h with rfl | h
    · omega
    · have := cnts_mem (a := a) h; omega
theorem cnts_append (a : Addr) : ∀ (xs ys : List T), T.cnts a (xs ++ ys) = T.cnts a xs + T.cnts a ys
  | [], ys => by simp [T.cnts]
  | x :: xs, ys => by rw [List.cons_append, T.cnts, T.cnts, cnts_append a xs ys]; omega

/-- a def's run: the heap at its entry, what was frozen there, the addresses handed in to be changed -/
structure Fr where
  H0 : Hp
  G0 : Hp
  B : Addr → Prop
def NTbl (o : HO) : Prop := ∀ ps, o ≠ .tbl ps

theorem tabs_upd {T : List (Addr × Str)} {H : Hp} {p : Addr} {o o' : HO} (t : LamX.Tabs T H) (hp : H p = some o) (n1 : NTbl o) (n2 : ∀ c q, o ≠ LamX.CodeO c q) : LamX.Tabs T (upd H p o') := fun x hx => by
  obtain ⟨ps, a1, a2, a3⟩ := t x hx
  refine ⟨ps, ?_, a2, fun pos cv hc => ?_⟩
  · rw [upd_ne (fun z => n1 ps (by rw [z, hp] at a1; exact Option.some.inj a1))]; exact a1
  · obtain ⟨c, e1, e2⟩ := a3 pos cv hc
    refine ⟨c, e1, ?_⟩
    rw [upd_ne (fun z => n2 c x.2 (by rw [z, hp] at e2; exact (Option.some.inj e2).trans (by rw [z])))]; exact e2
theorem nTbl_lst (xs : List V) : NTbl (.lst xs) := fun _ z => nomatch z
theorem nCod_lst (xs : List V) (c : Addr) (q : Str) : HO.lst xs ≠ LamX.CodeO c q := fun z => nomatch (show HO.lst xs = HO.ext _ from z)
/-- what was frozen at the entry, and the ground -/
def NT (G : Hp) : Prop := ∀ a o, G a = some o → NTbl o
def Gnd (Γ : Gm) (F : Fr) (G : Hp) : Prop := Sub F.G0 G ∧ Sub Γ.gb G ∧ NT G
theorem Gnd.trans {Γ : Gm} {F : Fr} {G G' : Hp} (h : Gnd Γ F G) (s : Sub G G') (n : NT G') : Gnd Γ F G' := ⟨fun a o q => s a o (h.1 a o q), fun a o q => s a o (h.2.1 a o q), n⟩
theorem NT.upd {G : Hp} (n : NT G) {p : Addr} {o : HO} (h : NTbl o) : NT (upd G p o) := fun a u q => by
  by_cases e : a = p
  · rw [e, upd_same] at q; cases q; exact h
  · rw [upd_ne e] at q; exact n a u q
/-- all but the tables -/
def noT (H : Hp) : Hp := fun a => match H a with
  | some (.tbl _) => none
  | x => x
theorem noT_of {H : Hp} {a : Addr} {o : HO} (h : H a = some o) (n : NTbl o) : noT H a = some o := by
  unfold noT
  rw [h]
  split
  · rename_i ps e; cases e; exact absurd rfl (n _)
  · rfl
theorem noT_sub {H : Hp} {a : Addr} {o : HO} (h : noT H a = some o) : H a = some o ∧ NTbl o := by
  unfold noT at h
  split at h
  · cases h
  · rename_i hx
    exact ⟨h, fun ps z => hx ps (by rw [h, z])⟩
/-- objects that nobody owns -/
def Quiet : HO → Prop
  | .tup _ => True
  | .ext _ => True
  | _ => False
structure Abs (Γ : Gm) (F : Fr) (σ : St) (H G : Hp) (sl : TS') (tm : List T) : Prop where
  len : sl.length = σ.length
  val : ∀ (i : Nat) (t : T), sl[i]? = some (some t) → σ[i]? = some (some t.v)
  sub : Sub G H
  keep : ∀ a o, F.H0 a = some o → NTbl o → ¬ F.B a → H a = some o
  dom : ∀ a, F.H0 a ≠ none → ∃ o, H a = some o ∧ NTbl o
  g0 : Gnd Γ F G
  goodS : ∀ (i : Nat) (t : T), sl[i]? = some (some t) → Good Γ G H t
  goodT : ∀ t ∈ tm, Good Γ G H t
  one : ∀ a, cS a sl + T.cnts a tm ≤ 1
  sep : ∀ a, 0 < cS a sl + T.cnts a tm → G a = none ∧ H a ≠ none ∧ (F.H0 a = none ∨ F.B a)
  fresh : ∀ a, G a ≠ none → F.G0 a ≠ none ∨ F.H0 a = none ∨ F.B a ∨ ∃ o, G a = some o ∧ Quiet o
  tabs : LamX.Tabs Γ.tb H

mutual
theorem Good.noTbl {Γ : Gm} {G H : Hp} : ∀ (t : T), Good Γ G H t → ∀ {a : Addr} {ps : Array Value}, 0 < t.cnt a → H a = some (.tbl ps) → False
  | .leaf v d, _, a, ps, h, _ => by rw [T.cnt] at h; omega
  | .lst p xs, g, a, ps, h, e => by
    by_cases q : p = a
    · subst q
      rw [g.1.1] at e
      cases e
    · rw [T.cnt, if_neg q] at h
      exact Goods.noTbl xs g.2 (by omega) e
  | .dic p ks xs, g, a, ps, h, e => by
    by_cases q : p = a
    · subst q
      rw [g.1.1] at e
      cases ks <;> cases e
    · rw [T.cnt, if_neg q] at h
      exact Goods.noTbl xs g.2 (by omega) e
  | .obj p dx c xs, g, a, ps, h, e => by
    by_cases q : p = a
    · subst q
      rw [g.1.1] at e
      cases e
    · by_cases q2 : dx = a
      · subst q2
        rw [g.1.2.1] at e
        cases e
      · rw [T.cnt, if_neg q, if_neg q2] at h
        exact Goods.noTbl xs g.2 (by omega) e
theorem Goods.noTbl {Γ : Gm} {G H : Hp} : ∀ (ts : List T), Goods Γ G H ts → ∀ {a : Addr} {ps : Array Value}, 0 < T.cnts a ts → H a = some (.tbl ps) → False
  | [], _, a, ps, h, _ => by rw [T.cnts] at h; omega
  | t :: ts, g, a, ps, h, e => by
    rw [T.cnts] at h
    by_cases q : 0 < t.cnt a
    · exact Good.noTbl t g.1 q e
    · exact Goods.noTbl ts g.2 (by omega) e
end
section
variable {Γ : Gm} {F : Fr} {σ : St} {H G : Hp} {sl : TS'} {tm : List T} {t : T}
theorem Abs.drop (A : Abs Γ F σ H G sl (t :: tm)) : Abs Γ F σ H G sl tm where
  len := A.len
  val := A.val
  sub := A.sub
  keep := A.keep
  dom := A.dom
  g0 := A.g0
  goodS := A.goodS
  goodT := fun u hu => A.goodT u (List.mem_cons_of_mem _ hu)
  one := fun a => by have := A.one a; rw [T.cnts] at this; omega
  sep := fun a ha => A.sep a (by rw [T.cnts]; omega)
  fresh := A.fresh
  tabs := A.tabs
theorem Abs.dropN {ts : List T} (A : Abs Γ F σ H G sl (ts ++ tm)) : Abs Γ F σ H G sl tm := by
  induction ts with
  | nil => exact A
  | cons x xs ih => exact ih A.drop
/-- a leaf more -/
theorem Abs.leaf (A : Abs Γ F σ H G sl tm) {v : V} {d : D} (r : Rep Γ G v d) : Abs Γ F σ H G sl (.leaf v d :: tm) where
  len := A.len
  val := A.val
  sub := A.sub
  keep := A.keep
  dom := A.dom
  g0 := A.g0
  goodS := A.goodS
  goodT := fun u hu => by
    rcases List.mem_cons.mp hu with rfl | hu
    · exact r
    · exact A.goodT u hu
  one := fun a => by have := A.one a; rw [T.cnts, T.cnt]; omega
  sep := fun a ha => A.sep a (by rw [T.cnts, T.cnt] at ha; omega)
  fresh := A.fresh
  tabs := A.tabs
/-- the slots may be forgotten, another state of names that says the same -/
theorem Abs.store (A : Abs Γ F σ H G sl (t :: tm)) {i : Nat} (hi : i < sl.length) : Abs Γ F (σ.set i (some t.v)) H G (sl.set i (some t)) tm where
  len := by simp [A.len]
  val := fun j u h => by
    by_cases e : i = j
    · subst e
      rw [List.getElem?_set_self hi] at h
      cases h
      rw [List.getElem?_set_self (by rw [← A.len]; exact hi)]
    · rw [List.getElem?_set_ne e] at h ⊢
      exact A.val j u h
  sub := A.sub
  keep := A.keep
  dom := A.dom
  g0 := A.g0
  goodS := fun j u h => by
    by_cases e : i = j
    · subst e
      rw [List.getElem?_set_self hi] at h
      cases h
      exact A.goodT _ List.mem_cons_self
    · rw [List.getElem?_set_ne e] at h
      exact A.goodS j u h
  goodT := fun u hu => A.goodT u (List.mem_cons_of_mem _ hu)
  one := fun a => by
    have h1 := A.one a
    have h2 := cS_set a (some t) sl i hi
    rw [T.cnts] at h1
    simp only [cO] at h2
    omega
  sep := fun a ha => A.sep a (by
    have h2 := cS_set a (some t) sl i hi
    rw [T.cnts]
    simp only [cO] at h2
    omega)
  fresh := A.fresh
  tabs := A.tabs
/-- a slot is forgotten -/
theorem Abs.forget (A : Abs Γ F σ H G sl tm) {i : Nat} (hi : i < sl.length) : Abs Γ F σ H G (sl.set i none) tm where
  len := by simp [A.len]
  val := fun j u h => by
    by_cases e : i = j
    · subst e
      rw [List.getElem?_set_self hi] at h
      cases h
    · rw [List.getElem?_set_ne e] at h
      exact A.val j u h
  sub := A.sub
  keep := A.keep
  dom := A.dom
  g0 := A.g0
  goodS := fun j u h => by
    by_cases e : i = j
    · subst e
      rw [List.getElem?_set_self hi] at h
      cases h
    · rw [List.getElem?_set_ne e] at h
      exact A.goodS j u h
  goodT := A.goodT
  one := fun a => by
    have h1 := A.one a
    have h2 := cS_set a none sl i hi
    simp only [cO] at h2
    omega
  sep := fun a ha => A.sep a (by
    have h2 := cS_set a none sl i hi
    simp only [cO] at h2
    omega)
  fresh := A.fresh
  tabs := A.tabs
/-- a slot's tree is taken -/
theorem Abs.take (A : Abs Γ F σ H G sl tm) {i : Nat} (hi : sl[i]? = some (some t)) : Abs Γ F σ H G (sl.set i none) (t :: tm) where
  len := by simp [A.len]
  val := fun j u h => by
    by_cases e : i = j
    · subst e
      rw [List.getElem?_set_self (List.getElem?_eq_some_iff.mp hi).1] at h
      cases h
    · rw [List.getElem?_set_ne e] at h
      exact A.val j u h
  sub := A.sub
  keep := A.keep
  dom := A.dom
  g0 := A.g0
  goodS := fun j u h => by
    by_cases e : i = j
    · subst e
      rw [List.getElem?_set_self (List.getElem?_eq_some_iff.mp hi).1] at h
      cases h
    · rw [List.getElem?_set_ne e] at h
      exact A.goodS j u h
  goodT := fun u hu => by
    rcases List.mem_cons.mp hu with rfl | hu
    · exact A.goodS i _ hi
    · exact A.goodT u hu
  one := fun a => by
    have h1 := A.one a
    have h2 : cS a (sl.set i none) + t.cnt a = cS a sl + 0 := by
      have h2 := cS_set a none sl i (List.getElem?_eq_some_iff.mp hi).1
      rw [hi] at h2
      exact h2
    rw [T.cnts]
    omega
  sep := fun a ha => A.sep a (by
    have h2 : cS a (sl.set i none) + t.cnt a = cS a sl + 0 := by
      have h2 := cS_set a none sl i (List.getElem?_eq_some_iff.mp hi).1
      rw [hi] at h2
      exact h2
    rw [T.cnts] at ha
    omega)
  fresh := A.fresh
  tabs := A.tabs

/-! ### freezing -/
end
theorem D.frzs_map : ∀ ds : List D, D.frzs ds = ds.map D.frz
  | [] => rfl
  | d :: ds => by rw [D.frzs, D.frzs_map ds]; rfl
mutual
theorem Rep.frz_id {Γ : Gm} {G : Hp} : ∀ {v : V} (d : D), Rep Γ G v d → d.frz = d
  | _, .non, _ => rfl
  | _, .bl _, _ => rfl
  | _, .int _, _ => rfl
  | _, .str _, _ => rfl
  | _, .tup ds, _ => rfl
  | _, .lst o ds, h => by
    obtain ⟨eo, a, vs, e, q, r⟩ := h
    rw [D.frz, Reps.frz_id ds r, eo.1]
  | _, .scr ns, _ => rfl
  | _, .fn _, _ => rfl
  | _, .rf _, _ => rfl
  | _, .lam _ _ _, _ => rfl
  | _, .ldc ks ds, h => by
    obtain ⟨eo, a, vs, o, e, q, r⟩ := h
    rw [D.frz, Reps.frz_id ds r]
  | _, .dic o ks ds, h => by
    obtain ⟨eo, a, vs, e, q, r⟩ := h
    rw [D.frz, Reps.frz_id ds r, eo.1]
  | _, .obj o c ds, h => by
    obtain ⟨eo, a, dx, vs, e, q, q2, r⟩ := h
    rw [D.frz, Reps.frz_id ds r, eo.1]
theorem Reps.frz_id {Γ : Gm} {G : Hp} : ∀ {vs : List V} (ds : List D), Reps Γ G vs ds → D.frzs ds = ds
  | _, [], _ => rfl
  | _, d :: ds, h => by
    obtain ⟨v, r, e, h1, h2⟩ := h
    rw [D.frzs, Rep.frz_id d h1, Reps.frz_id ds h2]
end
mutual
theorem Good.frz {Γ : Gm} {G G' H : Hp} (s : Sub G G') : ∀ (t : T), Good Γ G H t → (∀ a, 0 < t.cnt a → G' a = H a) → Rep Γ G' t.v t.d.frz
  | .leaf v d, h, _ => by
    show Rep Γ G' v d.frz
    rw [Rep.frz_id d h]
    exact Rep.mono s d h
  | .lst a xs, h, k => by
    refine ⟨⟨rfl, ?_⟩, a, xs.map T.v, rfl, ?_, Goods.frz s xs h.2 fun b hb => k b (by rw [T.cnt]; omega)⟩
    · rw [D.frzs_map, T.ds_map, List.length_map, List.length_map]
      exact h.1.2
    · rw [k a (by rw [T.cnt, if_pos rfl]; omega)]
      exact h.1.1
  | .dic a ks xs, h, k => by
    refine ⟨⟨rfl, ?_, ?_⟩, a, xs.map T.v, rfl, ?_, Goods.frz s xs h.2 fun b hb => k b (by rw [T.cnt]; omega)⟩
    · rw [D.frzs_map, T.ds_map, List.length_map, List.length_map]
      exact h.1.2.1
    · rw [D.frzs_map, T.ds_map, List.length_map, List.length_map]
      exact h.1.2.2
    · rw [k a (by rw [T.cnt, if_pos rfl]; omega)]
      exact h.1.1
  | .obj a dx c xs, h, k => by
    refine ⟨⟨rfl, ?_⟩, a, dx, xs.map T.v, rfl, ?_, ?_, Goods.frz s xs h.2 fun b hb => k b (by rw [T.cnt]; omega)⟩
    · rw [D.frzs_map, T.ds_map, List.length_map, List.length_map]
      exact h.1.2.2
    · rw [k a (by rw [T.cnt, if_pos rfl]; omega)]
      exact h.1.1
    · rw [k dx (by rw [T.cnt, if_pos (rfl : dx = dx)]; omega)]
      exact h.1.2.1
theorem Goods.frz {Γ : Gm} {G G' H : Hp} (s : Sub G G') : ∀ (ts : List T), Goods Γ G H ts → (∀ a, 0 < T.cnts a ts → G' a = H a) → Reps Γ G' (ts.map T.v) (D.frzs (T.ds ts))
  | [], _, _ => rfl
  | t :: ts, h, k => ⟨t.v, ts.map T.v, rfl, Good.frz s t h.1 (fun b hb => k b (by rw [T.cnts]; omega)), Goods.frz s ts h.2 fun b hb => k b (by rw [T.cnts]; omega)⟩
end
/-- what is owned by ts is frozen -/
def frzH (G H : Hp) (ts : List T) : Hp := fun b => if 0 < T.cnts b ts then H b else G b

section
variable {Γ : Gm} {F : Fr} {σ : St} {H G : Hp} {sl : TS'} {tm ts : List T} {t : T}
theorem frzH_sub (k : ∀ a, 0 < T.cnts a ts → G a = none) : Sub G (frzH G H ts) := fun a o h => by
  unfold frzH
  split
  · rename_i q
    rw [k a q] at h
    cases h
  · exact h
theorem frzH_le (s : Sub G H) : Sub (frzH G H ts) H := fun a o h => by
  unfold frzH at h
  split at h
  · exact h
  · exact s a o h
/-- the temps ts are frozen -/
theorem Abs.freeze (A : Abs Γ F σ H G sl (ts ++ tm)) : Abs Γ F σ H (frzH G H ts) sl tm ∧ Reps Γ (frzH G H ts) (ts.map T.v) (D.frzs (T.ds ts)) := by
  have kn : ∀ a, 0 < T.cnts a ts → G a = none := fun a ha => (A.sep a (by rw [cnts_append]; omega)).1
  have s1 : Sub G (frzH G H ts) := frzH_sub kn
  have one : ∀ a, cS a sl + T.cnts a tm + T.cnts a ts ≤ 1 := fun a => by have := A.one a; rw [cnts_append] at this; omega
  have nT : NT (frzH G H ts) := fun b o h ps e => by
    unfold frzH at h
    split at h
    · rename_i q
      rw [e] at h
      exact Goods.noTbl ts (Goods_iff.mpr fun u hu => A.goodT u (List.mem_append_left _ hu)) q h
    · exact A.g0.2.2 b o h ps e
  refine ⟨⟨A.len, A.val, frzH_le A.sub, A.keep, A.dom, A.g0.trans s1 nT, fun i u h => (A.goodS i u h).mono s1 u fun _ _ => rfl, fun u hu => (A.goodT u (List.mem_append_right _ hu)).mono s1 u fun _ _ => rfl, fun a => by have := one a; omega, fun a ha => ?_, fun a ha => ?_, A.tabs⟩, ?_⟩
  · obtain ⟨h1, h2, h3⟩ := A.sep a (by rw [cnts_append]; omega)
    refine ⟨?_, h2, h3⟩
    unfold frzH
    rw [if_neg (by have := one a; omega)]
    exact h1
  · have e : (¬ 0 < T.cnts a ts) → frzH G H ts a = G a := fun z => by unfold frzH; rw [if_neg z]
    by_cases q : 0 < T.cnts a ts
    · rcases (A.sep a (by rw [cnts_append]; omega)).2.2 with z | z
      · exact .inr (.inl z)
      · exact .inr (.inr (.inl z))
    · rw [e q] at ha ⊢
      exact A.fresh a ha
  · exact Goods.frz s1 ts (Goods_iff.mpr fun u hu => A.goodT u (List.mem_append_left _ hu)) fun a ha => by unfold frzH; rw [if_pos ha]
theorem Abs.freeze1 (A : Abs Γ F σ H G sl (t :: tm)) : ∃ G', Abs Γ F σ H G' sl (.leaf t.v t.d.frz :: tm) ∧ Sub G G' := by
  obtain ⟨B, v, r, e, h1, h2⟩ := Abs.freeze (ts := [t]) (tm := tm) A
  cases e
  exact ⟨_, B.leaf h1, frzH_sub fun a ha => (A.sep a (by rw [T.cnts] at ha ⊢; have : T.cnts a [] = 0 := rfl; omega)).1⟩
/-- the heap grew by an object that is not ours -/
theorem Abs.grow (A : Abs Γ F σ H G sl tm) {p : Addr} {o : HO} (hp : H p = none) : Abs Γ F σ (upd H p o) G sl tm := by
  have ne : ∀ a u, H a = some u → upd H p o a = some u := fun a u h => by rw [upd_ne (ne_of_none h hp)]; exact h
  have gd : ∀ u, (∀ a, 0 < u.cnt a → H a ≠ none) → Good Γ G H u → Good Γ G (upd H p o) u := fun u k h => h.mono (Sub.refl G) u fun a ha => upd_ne (show a ≠ p from fun z => k a ha (by rw [z]; exact hp))
  refine ⟨A.len, A.val, fun a u h => ne a u (A.sub a u h), fun a u h1 h2 h3 => ne a u (A.keep a u h1 h2 h3), fun a h => ?_, A.g0, fun i u h => gd u (fun a ha => (A.sep a (by have := cS_get (a := a) h; omega)).2.1) (A.goodS i u h),
    fun u h => gd u (fun a ha => (A.sep a (by have := cnts_mem (a := a) h; omega)).2.1) (A.goodT u h), A.one, fun a ha => ?_, A.fresh, A.tabs.ext ne⟩
  · obtain ⟨u, q, n⟩ := A.dom a h
    exact ⟨u, ne a u q, n⟩
  · obtain ⟨h1, h2, h3⟩ := A.sep a ha
    refine ⟨h1, ?_, h3⟩
    rw [upd_ne (show a ≠ p from fun z => h2 (by rw [z]; exact hp))]
    exact h2
theorem Abs.new0 (A : Abs Γ F σ H G sl tm) {p : Addr} (hp : H p = none) : G p = none ∧ F.H0 p = none := by
  constructor
  · cases q : G p with
    | none => rfl
    | some u => rw [A.sub p u q] at hp; cases hp
  · cases q : F.H0 p with
    | none => rfl
    | some u =>
      obtain ⟨o, z, _⟩ := A.dom p (by rw [q]; exact fun z => nomatch z)
      rw [hp] at z; cases z
/-- a new list of the temps ts -/
theorem Abs.newLst (A : Abs Γ F σ H G sl (ts ++ tm)) {p : Addr} (hp : H p = none) (hz : ts.length ≤ sizeLine) : Abs Γ F σ (upd H p (.lst (ts.map T.v))) G sl (.lst p ts :: tm) := by
  have A1 := A.grow (o := .lst (ts.map T.v)) hp
  obtain ⟨n1, n2⟩ := A.new0 hp
  have c0 : cS p sl + T.cnts p (ts ++ tm) = 0 := by
    have h := A.sep p
    by_cases e : 0 < cS p sl + T.cnts p (ts ++ tm)
    · exact absurd hp (h e).2.1
    · omega
  have ec : ∀ a, T.cnts a (.lst p ts :: tm) = (if p = a then 1 else 0) + T.cnts a (ts ++ tm) := fun a => by rw [T.cnts, T.cnt, cnts_append]; omega
  refine ⟨A1.len, A1.val, A1.sub, A1.keep, A1.dom, A1.g0, A1.goodS, fun u hu => ?_, fun a => ?_, fun a ha => ?_, A1.fresh, A1.tabs⟩
  · rcases List.mem_cons.mp hu with rfl | hu
    · exact ⟨⟨upd_same, hz⟩, Goods_iff.mpr fun u hu => A1.goodT u (List.mem_append_left _ hu)⟩
    · exact A1.goodT u (List.mem_append_right _ hu)
  · rw [ec]
    by_cases e : p = a
    · subst e; rw [if_pos rfl]; omega
    · rw [if_neg e]; have := A.one a; omega
  · rw [ec] at ha
    by_cases e : p = a
    · subst e
      refine ⟨n1, ?_, .inl n2⟩
      rw [upd_same]
      exact fun z => nomatch z
    · rw [if_neg e] at ha
      exact A1.sep a (by omega)
/-- a new frozen thing at p -/
theorem Abs.newFrz (A : Abs Γ F σ H G sl tm) {p : Addr} {o : HO} (hp : H p = none) (ho : NTbl o) : Abs Γ F σ (upd H p o) (upd G p o) sl tm := by
  have A1 := A.grow (o := o) hp
  obtain ⟨n1, n2⟩ := A.new0 hp
  have c0 : ¬ 0 < cS p sl + T.cnts p tm := fun z => absurd hp (A.sep p z).2.1
  have s1 : Sub G (upd G p o) := fun a u h => by rw [upd_ne (ne_of_none h n1)]; exact h
  refine ⟨A1.len, A1.val, fun a u h => ?_, A1.keep, A1.dom, A1.g0.trans s1 (A.g0.2.2.upd ho), fun i u h => (A1.goodS i u h).mono s1 u fun _ _ => rfl, fun u h => (A1.goodT u h).mono s1 u fun _ _ => rfl, A1.one, fun a ha => ?_, fun a ha => ?_, A1.tabs⟩
  · by_cases e : a = p
    · rw [e, upd_same] at h ⊢; exact h
    · rw [upd_ne e] at h ⊢; exact A.sub a u h
  · obtain ⟨h1, h2, h3⟩ := A1.sep a ha
    refine ⟨?_, h2, h3⟩
    rw [upd_ne (show a ≠ p from fun z => c0 (by rw [← z]; exact ha))]
    exact h1
  · by_cases e : a = p
    · exact .inr (.inl (e ▸ n2))
    · rw [upd_ne e] at ha ⊢; exact A.fresh a ha
/-- a new tuple of the temps ts -/
theorem Abs.newTup (A : Abs Γ F σ H G sl (ts ++ tm)) {p : Addr} (hp : H p = none) (hz : ts.length ≤ sizeLine) : ∃ G', Abs Γ F σ (upd H p (.tup (ts.map T.v))) G' sl (.leaf (.ref p) (.tup (D.frzs (T.ds ts))) :: tm) ∧ Sub G G' := by
  obtain ⟨B, r⟩ := A.freeze
  have C := B.newFrz (o := .tup (ts.map T.v)) hp (fun _ z => nomatch z)
  obtain ⟨n1, _⟩ := B.new0 hp
  have s1 : Sub (frzH G H ts) (upd (frzH G H ts) p (.tup (ts.map T.v))) := fun a u h => by rw [upd_ne (ne_of_none h n1)]; exact h
  exact ⟨_, C.leaf ⟨by rw [D.frzs_map, T.ds_map, List.length_map, List.length_map]; exact hz, p, ts.map T.v, rfl, upd_same, Reps.mono s1 _ r⟩, (frzH_sub fun a ha => (A.sep a (by rw [cnts_append]; omega)).1).trans s1⟩
end
end L2.Pv
end
section
set_option Elab.async false
set_option linter.all false
set_option autoImplicit false
set_option maxRecDepth 100000
namespace L2.Pv
open PySem PySem.Spec PyProof.Rows

/-! ### what a run over slots comes to -/
inductive Out (α : Type) where
  | ok (a : α) (δ : DS)
  | exc (c : Nat) (fs : List D) (δ : DS)
  | stuck
def Out.bd {α β : Type} (o : Out α) (f : α → DS → Out β) : Out β :=
  match o with
  | .ok a δ => f a δ
  | .exc c fs δ => .exc c fs δ
  | .stuck => .stuck
@[simp] theorem bd_ok {α β : Type} (a : α) (δ : DS) (f : α → DS → Out β) : (Out.ok a δ).bd f = f a δ := rfl
@[simp] theorem bd_exc {α β : Type} (c : Nat) (fs : List D) (δ : DS) (f : α → DS → Out β) : (Out.exc c fs δ).bd f = .exc c fs δ := rfl
@[simp] theorem bd_stuck {α β : Type} (f : α → DS → Out β) : (Out.stuck : Out α).bd f = .stuck := rfl
/-- a step that may be stuck -/
def lft {α : Type} (o : Option α) (δ : DS) : Out α :=
  match o with
  | some a => .ok a δ
  | none => .stuck
@[simp] theorem lft_some {α : Type} (a : α) (δ : DS) : lft (some a) δ = .ok a δ := rfl
@[simp] theorem lft_none {α : Type} (δ : DS) : lft (none : Option α) δ = .stuck := rfl
abbrev Ev := DS → Out D
abbrev EvT := DS → Out Bool
abbrev EvA := DS → Out (List D)

/-- an exception's own dict -/
def ExR (Γ : Gm) (H G : Hp) (c : Nat) (fs : List D) (dx : Option Addr) : Prop :=
  match Γ.fl c with
  | [] => dx = none ∧ fs = []
  | ns => ∃ d vs, dx = some d ∧ H d = some (.xd (ns.zip vs)) ∧ vs.length = ns.length ∧ Reps Γ G vs fs
def PX (Γ : Gm) (E : WX) (F : Fr) (σ : St) (tm : List T) (c : Nat) (fs : List D) (δ : DS) : Prop :=
  ∀ H' G' sl' dx, Abs Γ F σ H' G' sl' tm → dsl sl' = δ → ExR Γ H' G' c fs dx → E (.ref (Γ.ca c)) dx σ H'
theorem PX.more {Γ : Gm} {E : WX} {F : Fr} {σ : St} {tm ex : List T} {c : Nat} {fs : List D} {δ : DS} (h : PX Γ E F σ tm c fs δ) : PX Γ E F σ (ex ++ tm) c fs δ :=
  fun H' G' sl' dx A e x => h H' G' sl' dx A.dropN e x
def Keep (W : List Nat) (sl sl' : TS') : Prop := ∀ i, i ∉ W → sl'[i]? = sl[i]?
theorem Keep.refl (W : List Nat) (sl : TS') : Keep W sl sl := fun _ _ => rfl
theorem Keep.trans {W W' : List Nat} {sl sl1 sl2 : TS'} (a : Keep W sl sl1) (b : Keep W' sl1 sl2) : Keep (W ++ W') sl sl2 := fun i h =>
  (b i fun z => h (List.mem_append_right _ z)).trans (a i fun z => h (List.mem_append_left _ z))
/-- an expression whose value is owned by nobody else -/
def tE (Γ : Gm) (E : WX) (W : List Nat) (f : Ev) : TE := fun σ H Q => ∃ F G sl tm, Abs Γ F σ H G sl tm ∧
  match f (dsl sl) with
  | .ok d δ => ∀ H' G' sl' t, Abs Γ F σ H' G' sl' (t :: tm) → Sub G G' → t.d = d → dsl sl' = δ → Keep W sl sl' → Q t.v H'
  | .exc c fs δ => PX Γ E F σ tm c fs δ
  | .stuck => False
/-- what is looked at: a temp, or a part of the slot r -/
def Vw (Γ : Gm) (H G : Hp) (sl : TS') (r : Option Nat) (ex : List T) (t : T) : Prop :=
  match r with
  | none => ex = [t]
  | some i => ex = [] ∧ Good Γ G H t ∧ ∃ w, sl[i]? = some (some w) ∧ ∀ b, t.cnt b ≤ w.cnt b
/-- an expression whose value is looked at -/
def tV (Γ : Gm) (E : WX) (W : List Nat) (r : Option Nat) (f : Ev) : TE := fun σ H Q => ∃ F G sl tm, Abs Γ F σ H G sl tm ∧
  match f (dsl sl) with
  | .ok d δ => ∀ H' G' sl' ex t, Abs Γ F σ H' G' sl' (ex ++ tm) → Vw Γ H' G' sl' r ex t → Sub G G' → t.d = d → dsl sl' = δ → Keep W sl sl' → Q t.v H'
  | .exc c fs δ => PX Γ E F σ tm c fs δ
  | .stuck => False
/-- a test -/
def tT (Γ : Gm) (E : WX) (W : List Nat) (f : EvT) : TT := fun σ H Q => ∃ F G sl tm, Abs Γ F σ H G sl tm ∧
  match f (dsl sl) with
  | .ok b δ => ∀ H' G' sl', Abs Γ F σ H' G' sl' tm → Sub G G' → dsl sl' = δ → Keep W sl sl' → Q b H'
  | .exc c fs δ => PX Γ E F σ tm c fs δ
  | .stuck => False
/-- arguments, from the left; the temps lie the last one ahead -/
def tA (Γ : Gm) (E : WX) (W : List Nat) (n : Nat) (f : EvA) : TA := fun σ H Q => ∃ F G sl tm, Abs Γ F σ H G sl tm ∧
  match f (dsl sl) with
  | .ok ds δ => ∀ H' G' sl' ts, Abs Γ F σ H' G' sl' (ts ++ tm) → Sub G G' → ts.length = n → ts.map T.d = ds → dsl sl' = δ → Keep W sl sl' → Q (ts.map T.v) H'
  | .exc c fs δ => PX Γ E F σ tm c fs δ
  | .stuck => False
def SE (X : Cx) (Γ : Gm) (E : WX) (W : List Nat) (e : Expr) (f : Ev) : Prop := X.K = Γ.K → PE X e (tE Γ E W f)
def SV (X : Cx) (Γ : Gm) (E : WX) (W : List Nat) (r : Option Nat) (e : Expr) (f : Ev) : Prop := X.K = Γ.K → PE X e (tV Γ E W r f)
def SC (X : Cx) (Γ : Gm) (E : WX) (W : List Nat) (e : Expr) (f : EvT) : Prop := X.K = Γ.K → PT X e (tT Γ E W f)
def SA (X : Cx) (Γ : Gm) (E : WX) (W : List Nat) (n : Nat) (es : List Expr) (f : EvA) : Prop := X.K = Γ.K → PA X es (tA Γ E W n f)

/-! ### the readings are monotone in what is wanted -/
theorem _root_.L2.PE.imp {X : Cx} {e : Expr} {t t' : TE} (h : PE X e t) (k : ∀ σ H Q, t' σ H Q → t σ H Q) : PE X e t' := ⟨fun pins s σ H Q I q => h.run pins s σ H Q I (k σ H Q q)⟩
theorem _root_.L2.PT.imp {X : Cx} {e : Expr} {t t' : TT} (h : PT X e t) (k : ∀ σ H Q, t' σ H Q → t σ H Q) : PT X e t' := ⟨fun pins s σ H Q I q => h.run pins s σ H Q I (k σ H Q q)⟩
theorem _root_.L2.PA.imp {X : Cx} {e : List Expr} {t t' : TA} (h : PA X e t) (k : ∀ σ H Q, t' σ H Q → t σ H Q) : PA X e t' := ⟨fun p pins s σ H Q I q => h.run p pins s σ H Q I (k σ H Q q)⟩
theorem _root_.L2.PS.imp {X : Cx} {e : Stmt} {t t' : TS} (h : PS X e t) (k : ∀ D σ H, t' D σ H → t D σ H) : PS X e t' := ⟨fun pins s σ H D I q => h.run pins s σ H D I (k D σ H q)⟩
theorem _root_.L2.PSs.imp {X : Cx} {e : List Stmt} {t t' : TS} (h : PSs X e t) (k : ∀ D σ H, t' D σ H → t D σ H) : PSs X e t' := ⟨fun pins s σ H D I q => h.run pins s σ H D I (k D σ H q)⟩

/-! ### looked-at values stay -/
section
variable {Γ : Gm} {F : Fr} {σ σ' : St} {H H' G G' : Hp} {sl sl' : TS'} {tm tm' ex : List T} {t : T} {r : Option Nat}
mutual
theorem Good.same : ∀ (t : T), Good Γ G H t → Good Γ G' H' t → ∀ a, 0 < t.cnt a → H' a = H a
  | .leaf v d, _, _, a, h => by rw [T.cnt] at h; omega
  | .lst p xs, h1, h2, a, h => by
    by_cases e : p = a
    · subst e
      rw [h1.1.1, h2.1.1]
    · rw [T.cnt, if_neg e] at h
      exact Goods.same xs h1.2 h2.2 a (by omega)
  | .dic p ks xs, h1, h2, a, h => by
    by_cases e : p = a
    · subst e
      rw [h1.1.1, h2.1.1]
    · rw [T.cnt, if_neg e] at h
      exact Goods.same xs h1.2 h2.2 a (by omega)
  | .obj p dx c xs, h1, h2, a, h => by
    by_cases e : p = a
    · subst e
      rw [h1.1.1, h2.1.1]
    · by_cases e2 : dx = a
      · subst e2
        rw [h1.1.2.1, h2.1.2.1]
      · rw [T.cnt, if_neg e, if_neg e2] at h
        exact Goods.same xs h1.2 h2.2 a (by omega)
theorem Goods.same : ∀ (ts : List T), Goods Γ G H ts → Goods Γ G' H' ts → ∀ a, 0 < T.cnts a ts → H' a = H a
  | [], _, _, a, h => by rw [T.cnts] at h; omega
  | t :: ts, h1, h2, a, h => by
    rw [T.cnts] at h
    by_cases e : 0 < t.cnt a
    · exact Good.same t h1.1 h2.1 a e
    · exact Goods.same ts h1.2 h2.2 a (by omega)
end
theorem Vw.good (A : Abs Γ F σ H G sl (ex ++ tm)) (w : Vw Γ H G sl r ex t) : Good Γ G H t := by
  cases r with
  | none =>
    have e : ex = [t] := w
    subst e
    exact A.goodT _ List.mem_cons_self
  | some i => exact w.2.1
/-- later: the temps ex are there still, or the slot is as it was -/
theorem Vw.later (A : Abs Γ F σ H G sl (ex ++ tm)) (w : Vw Γ H G sl r ex t) (A' : Abs Γ F σ' H' G' sl' tm') (hs : Sub G G') (ht : ∀ u ∈ ex, u ∈ tm') (hk : ∀ i, r = some i → sl'[i]? = sl[i]?) : Good Γ G' H' t := by
  cases r with
  | none =>
    have e : ex = [t] := w
    subst e
    exact A'.goodT _ (ht _ List.mem_cons_self)
  | some i =>
    obtain ⟨_, g, u, hu, le⟩ := w
    have g1 := A.goodS i u hu
    have g2 := A'.goodS i u ((hk i rfl).trans hu)
    exact g.mono hs t fun a ha => Good.same u g1 g2 a (Nat.lt_of_lt_of_le ha (le a))
end

/-! ### slots -/
theorem dsl_get {sl : TS'} {i : Nat} {d : D} (h : (dsl sl)[i]? = some (some d)) : ∃ t, sl[i]? = some (some t) ∧ t.d = d := by
  unfold dsl at h
  rw [List.getElem?_map] at h
  cases e : sl[i]? with
  | none => rw [e] at h; cases h
  | some o =>
    rw [e] at h
    cases o with
    | none => cases h
    | some t =>
      refine ⟨t, rfl, ?_⟩
      simpa using h
theorem dsl_set (sl : TS') (i : Nat) (o : Option T) : dsl (sl.set i o) = (dsl sl).set i (o.map T.d) := by
  unfold dsl
  rw [List.map_set]
theorem own_of_leaf {Γ : Gm} {G H : Hp} {v : V} {d : D} (h : Good Γ G H (.leaf v d)) : d.own = false := by
  cases d with
  | lst o xs => exact h.1.1
  | dic o ks xs => exact h.1.1
  | obj o c xs => exact h.1.1
  | _ => rfl
theorem leaf_of_own {Γ : Gm} {G H : Hp} {t : T} (g : Good Γ G H t) (h : t.d.own = false) : t = .leaf t.v t.d := by
  cases t with
  | leaf v d => rfl
  | lst a xs => exact nomatch h
  | dic a ks xs => exact nomatch h
  | obj a dx c xs => exact nomatch h
/-- a name's value; what it owned is frozen -/
def eNm (i : Nat) : Ev := fun δ =>
  match δ[i]? with
  | some (some d) => if d.own then .ok d.frz (δ.set i (some d.frz)) else .ok d δ
  | _ => .stuck
/-- a name's value, looked at -/
def eLk (i : Nat) : Ev := fun δ =>
  match δ[i]? with
  | some (some d) => .ok d δ
  | _ => .stuck
theorem eNm_get {δ : DS} {i : Nat} {d : D} (h : δ[i]? = some (some d)) : eNm i δ = if d.own then .ok d.frz (δ.set i (some d.frz)) else .ok d δ := by
  unfold eNm; rw [h]
theorem eLk_get {δ : DS} {i : Nat} {d : D} (h : δ[i]? = some (some d)) : eLk i δ = .ok d δ := by
  unfold eLk; rw [h]
theorem eNm_inv {δ : DS} {i : Nat} (h : ∀ d, δ[i]? ≠ some (some d)) : eNm i δ = .stuck := by
  unfold eNm
  split
  · rename_i d e; exact absurd e (h d)
  · rfl
theorem eLk_inv {δ : DS} {i : Nat} (h : ∀ d, δ[i]? ≠ some (some d)) : eLk i δ = .stuck := by
  unfold eLk
  split
  · rename_i d e; exact absurd e (h d)
  · rfl
section
variable {X : Cx} {Γ : Gm} {E : WX} {W : List Nat} {e : Expr} {f : Ev}
theorem sv_of (h : SE X Γ E W e f) : SV X Γ E W none e f := fun hK => (h hK).imp fun σ H Q ⟨F, G, sl, tm, A, q⟩ => by
  refine ⟨F, G, sl, tm, A, ?_⟩
  cases hf : f (dsl sl) with
  | ok d δ =>
    rw [hf] at q
    intro H' G' sl' t A' hs hd hδ hk
    exact q H' G' sl' [t] t A' rfl hs hd hδ hk
  | exc c fs δ => rw [hf] at q; exact q
  | stuck => rw [hf] at q; exact q
theorem sv_nm {i : Nat} {x : Str} {pos : Pos} (h : PE X (.Name x pos) (tVar i)) : SV X Γ E [] (some i) (.Name x pos) (eLk i) := fun hK => h.imp fun σ H Q ⟨F, G, sl, tm, A, q⟩ => by
  cases hg : (dsl sl)[i]? with
  | none => rw [eLk_inv (by rw [hg]; exact fun d z => nomatch z)] at q; exact q.elim
  | some o =>
    cases o with
    | none => rw [eLk_inv (by rw [hg]; intro d z; cases z)] at q; exact q.elim
    | some d =>
      rw [eLk_get hg] at q
      obtain ⟨t, ht, hd⟩ := dsl_get hg
      exact ⟨t.v, A.val i t ht, q H G sl [] t A ⟨rfl, A.goodS i t ht, t, ht, fun _ => Nat.le_refl _⟩ (Sub.refl G) hd rfl (Keep.refl _ _)⟩
theorem se_nm {i : Nat} {x : Str} {pos : Pos} (h : PE X (.Name x pos) (tVar i)) : SE X Γ E [i] (.Name x pos) (eNm i) := fun hK => h.imp fun σ H Q ⟨F, G, sl, tm, A, q⟩ => by
  cases hg : (dsl sl)[i]? with
  | none => rw [eNm_inv (by rw [hg]; exact fun d z => nomatch z)] at q; exact q.elim
  | some o =>
    cases o with
    | none => rw [eNm_inv (by rw [hg]; intro d z; cases z)] at q; exact q.elim
    | some d =>
      obtain ⟨t, ht, hd⟩ := dsl_get hg
      have hv := A.val i t ht
      have hi : i < sl.length := (List.getElem?_eq_some_iff.mp ht).1
      refine ⟨t.v, hv, ?_⟩
      cases ho : d.own with
      | false =>
        rw [eNm_get hg, ho, if_neg Bool.false_ne_true] at q
        have g := A.goodS i t ht
        have el := leaf_of_own g (by rw [hd]; exact ho)
        rw [el] at g
        exact q H G sl (.leaf t.v t.d) (A.leaf g) (Sub.refl G) hd rfl (Keep.refl _ _)
      | true =>
        rw [eNm_get hg, ho, if_pos rfl] at q
        obtain ⟨G', B, hs⟩ := (A.take ht).freeze1
        have hr : Rep Γ G' t.v t.d.frz := B.goodT _ List.mem_cons_self
        have C := (B.store (i := i) (by simpa using hi)).leaf hr
        have eσ : σ.set i (some (T.leaf t.v t.d.frz).v) = σ := by
          show σ.set i (some t.v) = σ
          apply List.ext_getElem?
          intro j
          by_cases e : i = j
          · subst e
            rw [List.getElem?_set_self (List.getElem?_eq_some_iff.mp hv).1, hv]
          · rw [List.getElem?_set_ne e]
        rw [eσ] at C
        refine q H G' _ (.leaf t.v t.d.frz) C hs (by rw [← hd]; rfl) ?_ fun j hj => ?_
        · rw [dsl_set, dsl_set, List.set_set, ← hd]; rfl
        · have : i ≠ j := fun z => hj (by simp [z])
          rw [List.getElem?_set_ne this, List.getElem?_set_ne this]
/-- constants -/
def eC (d : D) : Ev := fun δ => .ok d δ
theorem se_const {v : V} {d : D} (h : PE X e (tC v)) (r : ∀ G, Rep Γ G v d) : SE X Γ E [] e (eC d) := fun hK => h.imp fun σ H Q ⟨F, G, sl, tm, A, q⟩ =>
  q H G sl (.leaf v d) (A.leaf (r G)) (Sub.refl G) rfl rfl (Keep.refl _ _)
theorem se_int {i : Int} {j : Nat} {pos : Pos} : SE X Γ E [] (.Constant (.int i) j pos) (eC (.int i)) := se_const pe_int fun _ => rfl
theorem se_bl {b : Bool} {j : Nat} {pos : Pos} : SE X Γ E [] (.Constant (.bool b) j pos) (eC (.bl b)) := se_const pe_bl fun _ => rfl
theorem se_non {j : Nat} {pos : Pos} : SE X Γ E [] (.Constant .none j pos) (eC .non) := se_const pe_non fun _ => rfl
theorem se_str {x : Str} {j : Nat} {pos : Pos} : SE X Γ E [] (.Constant (.str x) j pos) (eC (.str x)) := se_const pe_str fun _ => rfl
end

/-! ### operators -/
def ev2 (g : D → D → Option D) (fa fb : Ev) : Ev := fun δ => (fa δ).bd fun a δ1 => (fb δ1).bd fun b δ2 => lft (g a b) δ2
def ev1 (g : D → Option D) (fa : Ev) : Ev := fun δ => (fa δ).bd fun a δ1 => lft (g a) δ1
/-- what a step by values hands on -/
def Hands (Γ : Gm) (F : Fr) (σ : St) (G : Hp) (sl : TS') (tm : List T) (d : D) (Q : VK) : Prop :=
  ∀ H' G' t, Abs Γ F σ H' G' sl (t :: tm) → Sub G G' → t.d = d → Q t.v H'
theorem Hands.here {Γ : Gm} {F : Fr} {σ : St} {H G : Hp} {sl : TS'} {tm : List T} {d : D} {Q : VK} (h : Hands Γ F σ G sl tm d Q) (A : Abs Γ F σ H G sl tm) {v : V} (r : Rep Γ G v d) : Q v H :=
  h H G (.leaf v d) (A.leaf r) (Sub.refl G) rfl
/-- an operation on two looked-at values -/
def Op2 (X : Cx) (Γ : Gm) (f : Value → Value → Sem Value) (g : D → D → Option D) : Prop := X.K = Γ.K → ∃ r : R2, OpR X f r ∧
  ∀ F σ H G sl tm ta tb d Q, Abs Γ F σ H G sl tm → Good Γ G H ta → Good Γ G H tb → g ta.d tb.d = some d → Hands Γ F σ G sl tm d Q → r ta.v tb.v H Q
def Op1 (X : Cx) (Γ : Gm) (f : Value → Sem Value) (g : D → Option D) : Prop := X.K = Γ.K → ∃ r : V → Hp → VK → Prop, UnR X f r ∧
  ∀ F σ H G sl tm ta d Q, Abs Γ F σ H G sl tm → Good Γ G H ta → g ta.d = some d → Hands Γ F σ G sl tm d Q → r ta.v H Q
section
variable {X : Cx} {Γ : Gm} {E : WX} {W Wa Wb : List Nat} {ra rb : Option Nat} {a b : Expr} {fa fb : Ev} {g : D → D → Option D}
/-- the reading of two values, one behind the other -/
theorem two_run {σ : St} {H : Hp} {Q : VK} {R : V → V → Hp → Prop} (hr : ∀ i, ra = some i → i ∉ Wb) {F : Fr} {G : Hp} {sl : TS'} {tm : List T} (A : Abs Γ F σ H G sl tm)
    (q : match ev2 g fa fb (dsl sl) with
      | .ok d δ => ∀ H' G' sl' t, Abs Γ F σ H' G' sl' (t :: tm) → Sub G G' → t.d = d → dsl sl' = δ → Keep (Wa ++ Wb) sl sl' → Q t.v H'
      | .exc c fs δ => PX Γ E F σ tm c fs δ
      | .stuck => False)
    (hR : ∀ H2 G2 sl2 ta tb d, Abs Γ F σ H2 G2 sl2 tm → Good Γ G2 H2 ta → Good Γ G2 H2 tb → g ta.d tb.d = some d → Hands Γ F σ G2 sl2 tm d Q → R ta.v tb.v H2) :
    tV Γ E Wa ra fa σ H fun x H1 => tV Γ E Wb rb fb σ H1 fun y H2 => R x y H2 := by
  refine ⟨F, G, sl, tm, A, ?_⟩
  unfold ev2 at q
  cases h1 : fa (dsl sl) with
  | stuck => rw [h1] at q; exact q
  | exc c fs δ => rw [h1] at q; exact q
  | ok da δ1 =>
    rw [h1, bd_ok] at q
    intro H1 G1 sl1 ex ta A1 w1 s1 e1 e1' k1
    refine ⟨F, G1, sl1, ex ++ tm, A1, ?_⟩
    rw [e1']
    cases h2 : fb δ1 with
    | stuck => rw [h2] at q; exact q
    | exc c fs δ => rw [h2] at q; exact PX.more q
    | ok db δ2 =>
      rw [h2, bd_ok] at q
      intro H2 G2 sl2 ex2 tb A2 w2 s2 e2 e2' k2
      have g1 := w1.later A1 A2 s2 (fun u hu => List.mem_append_right _ (List.mem_append_left _ hu)) fun i hi => k2 i (hr i hi)
      have g2 := w2.good A2
      cases h3 : g da db with
      | none => rw [h3] at q; exact q.elim
      | some d =>
        rw [h3, lft_some] at q
        refine hR H2 G2 sl2 ta tb d (A2.dropN.dropN) g1 g2 (by rw [e1, e2]; exact h3) fun H' G' t A' s' e' => ?_
        exact q H' G' sl2 t A' (s1.trans (s2.trans s')) e' e2' (k1.trans k2)
theorem se_op {op : Operator} {pos : Pos} (O : Op2 X Γ (binaryOp op) g) (ha : SV X Γ E Wa ra a fa) (hb : SV X Γ E Wb rb b fb) (hr : ∀ i, ra = some i → i ∉ Wb) : SE X Γ E (Wa ++ Wb) (.BinOp a op b pos) (ev2 g fa fb) := fun hK => by
  obtain ⟨r, ho, hs⟩ := O hK
  refine (pe_op ho (ha hK) (hb hK)).imp fun σ H Q ⟨F, G, sl, tm, A, q⟩ => ?_
  exact two_run (R := fun x y H2 => r x y H2 Q) hr A q fun H2 G2 sl2 ta tb d A2 g1 g2 e h => hs F σ H2 G2 sl2 tm ta tb d Q A2 g1 g2 e h
theorem se_cmp {op : CmpOp} {pos : Pos} (O : Op2 X Γ (compareOp op) g) (ha : SV X Γ E Wa ra a fa) (hb : SV X Γ E Wb rb b fb) (hr : ∀ i, ra = some i → i ∉ Wb) (hm : behindInMarks op b = false) :
    SE X Γ E (Wa ++ Wb) (.Compare a [op] [b] pos) (ev2 g fa fb) := fun hK => by
  obtain ⟨r, ho, hs⟩ := O hK
  refine (pe_cmpR ho (ha hK) (hb hK) hm).imp fun σ H Q ⟨F, G, sl, tm, A, q⟩ => ?_
  exact two_run (R := fun x y H2 => r x y H2 Q) hr A q fun H2 G2 sl2 ta tb d A2 g1 g2 e h => hs F σ H2 G2 sl2 tm ta tb d Q A2 g1 g2 e h
end
end L2.Pv
end
section
set_option Elab.async false
set_option linter.all false
set_option autoImplicit false
set_option maxRecDepth 100000
namespace L2.Pv
open PySem PySem.Spec PyProof.Rows

inductive SOut where
  | nx (δ : DS) | rt (d : D) (δ : DS) | bk (δ : DS) | ct (δ : DS)
  | exc (c : Nat) (fs : List D) (δ : DS)
  | stuck
abbrev Es := DS → SOut
/-- an expression's outcome, then a statement's -/
def Out.st {α : Type} (o : Out α) (k : α → DS → SOut) : SOut :=
  match o with
  | .ok a δ => k a δ
  | .exc c fs δ => .exc c fs δ
  | .stuck => .stuck
@[simp] theorem st_ok {α : Type} (a : α) (δ : DS) (k : α → DS → SOut) : (Out.ok a δ).st k = k a δ := rfl
@[simp] theorem st_exc {α : Type} (c : Nat) (fs : List D) (δ : DS) (k : α → DS → SOut) : (Out.exc c fs δ).st k = .exc c fs δ := rfl
@[simp] theorem st_stuck {α : Type} (k : α → DS → SOut) : (Out.stuck : Out α).st k = .stuck := rfl
/-- what goes on behind a statement -/
def SOut.th (o : SOut) (k : DS → SOut) : SOut :=
  match o with
  | .nx δ => k δ
  | o => o
@[simp] theorem th_nx (δ : DS) (k : DS → SOut) : (SOut.nx δ).th k = k δ := rfl
@[simp] theorem th_rt (d : D) (δ : DS) (k : DS → SOut) : (SOut.rt d δ).th k = .rt d δ := rfl
@[simp] theorem th_bk (δ : DS) (k : DS → SOut) : (SOut.bk δ).th k = .bk δ := rfl
@[simp] theorem th_ct (δ : DS) (k : DS → SOut) : (SOut.ct δ).th k = .ct δ := rfl
@[simp] theorem th_exc (c : Nat) (fs : List D) (δ : DS) (k : DS → SOut) : (SOut.exc c fs δ).th k = .exc c fs δ := rfl
@[simp] theorem th_stuck (k : DS → SOut) : (SOut.stuck).th k = .stuck := rfl

/-- a loop's turn -/
def SOut.lp (o : SOut) (k : DS → SOut) : SOut :=
  match o with
  | .nx δ => k δ
  | .ct δ => k δ
  | .bk δ => .nx δ
  | o => o
@[simp] theorem lp_nx (δ : DS) (k : DS → SOut) : (SOut.nx δ).lp k = k δ := rfl
@[simp] theorem lp_rt (d : D) (δ : DS) (k : DS → SOut) : (SOut.rt d δ).lp k = .rt d δ := rfl
@[simp] theorem lp_bk (δ : DS) (k : DS → SOut) : (SOut.bk δ).lp k = .nx δ := rfl
@[simp] theorem lp_ct (δ : DS) (k : DS → SOut) : (SOut.ct δ).lp k = k δ := rfl
@[simp] theorem lp_exc (c : Nat) (fs : List D) (δ : DS) (k : DS → SOut) : (SOut.exc c fs δ).lp k = .exc c fs δ := rfl
@[simp] theorem lp_stuck (k : DS → SOut) : (SOut.stuck).lp k = .stuck := rfl
def og (o : Option DS) (k : DS → SOut) : SOut :=
  match o with
  | some δ => k δ
  | none => .stuck
@[simp] theorem og_some (δ : DS) (k : DS → SOut) : og (some δ) k = k δ := rfl
@[simp] theorem og_none (k : DS → SOut) : og none k = .stuck := rfl

/-- slots that keep their value -/
def Prot (P : List Nat) (σ σ' : St) : Prop := ∀ i, i ∈ P → σ'[i]? = σ[i]?
theorem Prot.refl (P : List Nat) (σ : St) : Prot P σ σ := fun _ _ => rfl
theorem Prot.trans {P : List Nat} {σ σ1 σ2 : St} (a : Prot P σ σ1) (b : Prot P σ1 σ2) : Prot P σ σ2 := fun i h => (b i h).trans (a i h)
/-- what is shown of a statement's outcome -/
def PostS (Γ : Gm) (E : WX) (P : List Nat) (F : Fr) (σ : St) (G : Hp) (tm : List T) (Z : Ends) : SOut → Prop
  | .nx δ => ∀ σ' H' G' sl', Abs Γ F σ' H' G' sl' tm → Sub G G' → Prot P σ σ' → dsl sl' = δ → Z.nx σ' H'
  | .rt d δ => ∀ σ' H' G' sl' t, Abs Γ F σ' H' G' sl' (t :: tm) → Sub G G' → Prot P σ σ' → t.d = d → dsl sl' = δ → Z.rt t.v H'
  | .bk δ => ∀ σ' H' G' sl', Abs Γ F σ' H' G' sl' tm → Sub G G' → Prot P σ σ' → dsl sl' = δ → Z.bk σ' H'
  | .ct δ => ∀ σ' H' G' sl', Abs Γ F σ' H' G' sl' tm → Sub G G' → Prot P σ σ' → dsl sl' = δ → Z.ct σ' H'
  | .exc c fs δ => ∀ σ', Prot P σ σ' → PX Γ E F σ' tm c fs δ
  | .stuck => False
def tS (Γ : Gm) (E : WX) (P : List Nat) (f : Es) : TS := fun Z σ H => ∃ F G sl tm, Abs Γ F σ H G sl tm ∧ PostS Γ E P F σ G tm Z (f (dsl sl))
def SS (X : Cx) (Γ : Gm) (E : WX) (P : List Nat) (s : Stmt) (f : Es) : Prop := X.K = Γ.K → PS X s (tS Γ E P f)
def SB (X : Cx) (Γ : Gm) (E : WX) (P : List Nat) (s : List Stmt) (f : Es) : Prop := X.K = Γ.K → PSs X s (tS Γ E P f)
section
variable {Γ : Gm} {E : WX} {P : List Nat} {F : Fr} {σ σ1 : St} {G G1 : Hp} {tm ex : List T} {Z : Ends} {o : SOut}
/-- later in the same run -/
theorem PostS.later (h : PostS Γ E P F σ G tm Z o) (hs : Sub G G1) (hp : Prot P σ σ1) : PostS Γ E P F σ1 G1 tm Z o := by
  cases o with
  | nx δ => exact fun σ' H' G' sl' A s p e => h σ' H' G' sl' A (hs.trans s) (hp.trans p) e
  | rt d δ => exact fun σ' H' G' sl' t A s p ed e => h σ' H' G' sl' t A (hs.trans s) (hp.trans p) ed e
  | bk δ => exact fun σ' H' G' sl' A s p e => h σ' H' G' sl' A (hs.trans s) (hp.trans p) e
  | ct δ => exact fun σ' H' G' sl' A s p e => h σ' H' G' sl' A (hs.trans s) (hp.trans p) e
  | exc c fs δ => exact fun σ' p => h σ' (hp.trans p)
  | stuck => exact h
end
section
variable {X : Cx} {Γ : Gm} {E : WX} {W P : List Nat} {e : Expr} {f : Ev} {st : Stmt} {sts rest : List Stmt} {g g' : Es} {pos : Pos}
def sNil : Es := fun δ => .nx δ
def sSeq (g g' : Es) : Es := fun δ => (g δ).th g'
theorem sb_nil : SB X Γ E P [] sNil := fun _ => pss_nil.imp fun Z σ H ⟨F, G, sl, tm, A, q⟩ => q σ H G sl A (Sub.refl G) (Prot.refl _ _) rfl
theorem sb_cons (h : SS X Γ E P st g) (h' : SB X Γ E P rest g') : SB X Γ E P (st :: rest) (sSeq g g') := fun hK => (pss_cons (h hK) (h' hK)).imp fun Z σ H ⟨F, G, sl, tm, A, q⟩ => by
  refine ⟨F, G, sl, tm, A, ?_⟩
  unfold sSeq at q
  cases hg : g (dsl sl) with
  | nx δ =>
    rw [hg, th_nx] at q
    intro σ' H' G' sl' A' s p e
    refine ⟨F, G', sl', tm, A', ?_⟩
    rw [e]
    exact q.later s p
  | rt d δ => rw [hg] at q; exact q
  | bk δ => rw [hg] at q; exact q
  | ct δ => rw [hg] at q; exact q
  | exc c fs δ => rw [hg] at q; exact q
  | stuck => rw [hg] at q; exact q
theorem sb_one (h : SS X Γ E P st g) : SB X Γ E P [st] g := fun hK => pss_one (h hK)
/-- from an expression's reading to a statement's -/
theorem e_run {σ : St} {H : Hp} {F : Fr} {G : Hp} {sl : TS'} {tm : List T} {Z : Ends} {k : D → DS → SOut} (A : Abs Γ F σ H G sl tm) (q : PostS Γ E P F σ G tm Z ((f (dsl sl)).st k)) {Q : VK}
    (h : ∀ d δ H' G' sl' t, Abs Γ F σ H' G' sl' (t :: tm) → Sub G G' → t.d = d → dsl sl' = δ → Keep W sl sl' → PostS Γ E P F σ G' tm Z (k d δ) → Q t.v H') : tE Γ E W f σ H Q := by
  refine ⟨F, G, sl, tm, A, ?_⟩
  cases hf : f (dsl sl) with
  | ok d δ =>
    rw [hf, st_ok] at q
    exact fun H' G' sl' t A' s e e' k' => h d δ H' G' sl' t A' s e e' k' (q.later s (Prot.refl _ _))
  | exc c fs δ => rw [hf, st_exc] at q; exact q σ (Prot.refl _ _)
  | stuck => rw [hf] at q; exact q
def sPass : Es := fun δ => .nx δ
def sBreak : Es := fun δ => .bk δ
def sCont : Es := fun δ => .ct δ
def sExpr (f : Ev) : Es := fun δ => (f δ).st fun _ δ' => .nx δ'
def sRet (f : Ev) : Es := fun δ => (f δ).st fun d δ' => .rt d δ'
def sRetN : Es := fun δ => .rt .non δ
def dput (i : Nat) (d : D) (δ : DS) : SOut := if i < δ.length then .nx (δ.set i (some d)) else .stuck
def sSet (i : Nat) (f : Ev) : Es := fun δ => (f δ).st fun d δ' => dput i d δ'
theorem ss_pass : SS X Γ E P (.Pass pos) sPass := fun _ => ps_pass.imp fun Z σ H ⟨F, G, sl, tm, A, q⟩ => q σ H G sl A (Sub.refl G) (Prot.refl _ _) rfl
theorem ss_break : SS X Γ E P (.Break pos) sBreak := fun _ => ps_break.imp fun Z σ H ⟨F, G, sl, tm, A, q⟩ => q σ H G sl A (Sub.refl G) (Prot.refl _ _) rfl
theorem ss_cont : SS X Γ E P (.Continue pos) sCont := fun _ => ps_continue.imp fun Z σ H ⟨F, G, sl, tm, A, q⟩ => q σ H G sl A (Sub.refl G) (Prot.refl _ _) rfl
theorem ss_expr (h : SE X Γ E W e f) (hs : swapsWith e none pos.line X.env = pure false) : SS X Γ E P (.Expr e pos) (sExpr f) := fun hK => (ps_expr (h hK) hs).imp fun Z σ H ⟨F, G, sl, tm, A, q⟩ =>
  e_run A q fun d δ H' G' sl' t A' s _ e _ q' => q' σ H' G' sl' A'.drop (Sub.refl _) (Prot.refl _ _) e
theorem ss_ret (h : SE X Γ E W e f) : SS X Γ E P (.Return (some e) pos) (sRet f) := fun hK => (ps_ret (h hK)).imp fun Z σ H ⟨F, G, sl, tm, A, q⟩ =>
  e_run A q fun d δ H' G' sl' t A' s ed e _ q' => q' σ H' G' sl' t A' (Sub.refl _) (Prot.refl _ _) ed e
theorem ss_retN : SS X Γ E P (.Return none pos) sRetN := fun _ => ps_retN.imp fun Z σ H ⟨F, G, sl, tm, A, q⟩ => q σ H G sl (.leaf .non .non) (A.leaf rfl) (Sub.refl G) (Prot.refl _ _) rfl rfl
theorem dsl_len (sl : TS') : (dsl sl).length = sl.length := by unfold dsl; simp
/-- a value goes to slot i -/
theorem PostS.put {F : Fr} {σ : St} {H G : Hp} {sl : TS'} {tm : List T} {Z : Ends} {i : Nat} {t : T} (A : Abs Γ F σ H G sl (t :: tm)) (hp : i ∉ P)
    (q : PostS Γ E P F σ G tm Z (dput i t.d (dsl sl))) : Z.nx (σ.set i (some t.v)) H := by
  unfold dput at q
  split at q
  · rename_i hs
    rw [dsl_len] at hs
    refine q _ H G _ (A.store hs) (Sub.refl G) (fun j hj => ?_) (by rw [dsl_set]; rfl)
    have : i ≠ j := fun z => hp (z ▸ hj)
    rw [List.getElem?_set_ne this]
  · exact q.elim
theorem ss_set {i : Nat} {x : Str} {pos' : Pos} (hN : X.N.Nodup) (hi : X.N[i]? = some x) (hx : Loc X.env.scope x) (h : SE X Γ E W e f) (hp : i ∉ P) (hs : swapsWith e (some (.Name x pos')) pos.line X.env = pure false)
    (hf : X.fn x = true ∨ X.env.scope.names.lookup x = some .local) : SS X Γ E P (.Assign [.Name x pos'] e pos) (sSet i f) := fun hK => (ps_set hN hi hx (h hK) hs hf).imp fun Z σ H ⟨F, G, sl, tm, A, q⟩ =>
  e_run A q fun d δ H' G' sl' t A' s ed e _ q' => PostS.put A' hp (by rw [ed, e]; exact q')

/-! ### tests -/
theorem t_run {fc : EvT} {σ : St} {H : Hp} {F : Fr} {G : Hp} {sl : TS'} {tm : List T} {Z : Ends} {k : Bool → DS → SOut} (A : Abs Γ F σ H G sl tm) (q : PostS Γ E P F σ G tm Z ((fc (dsl sl)).st k)) {Q : Bool → Hp → Prop}
    (h : ∀ b δ H' G' sl', Abs Γ F σ H' G' sl' tm → Sub G G' → dsl sl' = δ → Keep W sl sl' → PostS Γ E P F σ G' tm Z (k b δ) → Q b H') : tT Γ E W fc σ H Q := by
  refine ⟨F, G, sl, tm, A, ?_⟩
  cases hf : fc (dsl sl) with
  | ok d δ =>
    rw [hf, st_ok] at q
    exact fun H' G' sl' A' s e' k' => h d δ H' G' sl' A' s e' k' (q.later s (Prot.refl _ _))
  | exc c fs δ => rw [hf, st_exc] at q; exact q σ (Prot.refl _ _)
  | stuck => rw [hf] at q; exact q
def sIf (fc : EvT) (g g' : Es) : Es := fun δ => (fc δ).st fun b δ' => if b then g δ' else g' δ'
theorem ss_if {c : Expr} {a b : List Stmt} {fc : EvT} (hc : SC X Γ E W c fc) (ha : SB X Γ E P a g) (hb : SB X Γ E P b g') : SS X Γ E P (.If c a b pos) (sIf fc g g') := fun hK => (ps_if (hc hK) (ha hK) (hb hK)).imp fun Z σ H ⟨F, G, sl, tm, A, q⟩ =>
  t_run A q fun b δ H' G' sl' A' s e _ q' => by
    cases b with
    | true => exact ⟨F, G', sl', tm, A', by rw [e]; exact q'⟩
    | false => exact ⟨F, G', sl', tm, A', by rw [e]; exact q'⟩

/-! ### while -/
def sWhile (fc : EvT) (g : Es) : Nat → Es
  | 0 => fun _ => .stuck
  | n + 1 => fun δ => (fc δ).st fun b δ' => if b then (g δ').lp (sWhile fc g n) else .nx δ'
theorem ss_while {c : Expr} {body : List Stmt} {fc : EvT} (n : Nat) (hp : PassesOwn (model X.prog X.w) X.A X.env X.xe) (hc : SC X Γ E W c fc) (hb : SB X Γ E P body g) : SS X Γ E P (.While c body [] pos) (sWhile fc g n) := fun hK => (ps_while hp (hc hK) (hb hK)).imp fun Z σ H ⟨F, G, sl, tm, A, q⟩ => by
  refine ⟨fun m σ' H' => ∃ G' sl', Abs Γ F σ' H' G' sl' tm ∧ Sub G G' ∧ Prot P σ σ' ∧ PostS Γ E P F σ' G' tm Z (sWhile fc g m (dsl sl')), ⟨n, G, sl, A, Sub.refl G, Prot.refl _ _, q⟩, ?_⟩
  rintro m σ1 H1 ⟨G1, sl1, A1, s1, p1, q1⟩
  cases m with
  | zero => exact q1.elim
  | succ m =>
    refine t_run A1 q1 fun b δ H2 G2 sl2 A2 s2 e2 _ q2 => ?_
    cases b with
    | false => exact q2 σ1 H2 G2 sl2 A2 (Sub.refl _) (Prot.refl _ _) e2
    | true =>
      rw [if_pos rfl] at q2 ⊢
      refine ⟨fun σ' H' => ∃ G' sl', Abs Γ F σ' H' G' sl' tm ∧ Sub G G' ∧ Prot P σ σ' ∧ PostS Γ E P F σ' G' tm Z (sWhile fc g m (dsl sl')), fun σ' H' w => ⟨m, Nat.lt_succ_self m, w⟩, F, G2, sl2, tm, A2, ?_⟩
      rw [e2]
      cases hg : g δ with
      | nx δ2 => rw [hg] at q2; exact fun σ' H' G' sl' A' s p e => ⟨G', sl', A', s1.trans (s2.trans s), p1.trans p, by rw [e]; exact q2.later s p⟩
      | ct δ2 => rw [hg] at q2; exact fun σ' H' G' sl' A' s p e => ⟨G', sl', A', s1.trans (s2.trans s), p1.trans p, by rw [e]; exact q2.later s p⟩
      | bk δ2 => rw [hg] at q2; exact fun σ' H' G' sl' A' s p e => q2 σ' H' G' sl' A' s p e
      | rt d δ2 => rw [hg] at q2; exact q2
      | exc c fs δ2 => rw [hg] at q2; exact q2
      | stuck => rw [hg] at q2; exact q2

/-! ### targets -/
abbrev Eg := D → DS → Option DS
/-- none but the slots S change -/
def Only (S : List Nat) (σ σ' : St) : Prop := σ'.length = σ.length ∧ ∀ i, i ∉ S → σ'[i]? = σ[i]?
theorem Only.refl (S : List Nat) (σ : St) : Only S σ σ := ⟨rfl, fun _ _ => rfl⟩
theorem Only.trans {S S' : List Nat} {σ σ1 σ2 : St} (a : Only S σ σ1) (b : Only S' σ1 σ2) : Only (S ++ S') σ σ2 :=
  ⟨b.1.trans a.1, fun i h => (b.2 i fun z => h (List.mem_append_right _ z)).trans (a.2 i fun z => h (List.mem_append_left _ z))⟩
theorem Only.set (σ : St) (i : Nat) (v : Option V) : Only [i] σ (σ.set i v) := ⟨by simp, fun j h => by
  have : i ≠ j := fun z => h (by simp [z])
  rw [List.getElem?_set_ne this]⟩
theorem Only.prot {S P : List Nat} {σ σ' : St} (a : Only S σ σ') (h : ∀ i, i ∈ P → i ∉ S) : Prot P σ σ' := fun i hi => a.2 i (h i hi)
def tG (Γ : Gm) (S : List Nat) (f : Eg) : TG := fun v σ H Q => ∃ F G sl tm t, Abs Γ F σ H G sl (t :: tm) ∧ t.v = v ∧
  match f t.d (dsl sl) with
  | some δ => ∀ σ' H' G' sl', Abs Γ F σ' H' G' sl' tm → Sub G G' → Only S σ σ' → Keep S sl sl' → dsl sl' = δ → Q σ' H'
  | none => False
def SG (X : Cx) (Γ : Gm) (S : List Nat) (tg : Expr) (f : Eg) : Prop := X.K = Γ.K → PG X tg (tG Γ S f)
theorem _root_.L2.PG.imp {X : Cx} {e : Expr} {t t' : TG} (h : PG X e t) (k : ∀ v σ H Q, t' v σ H Q → t v σ H Q) : PG X e t' := ⟨fun pins s σ H v u Q I r q => h.run pins s σ H v u Q I r (k v σ H Q q)⟩
theorem _root_.L2.PGs.imp {X : Cx} {e : List Expr} {t t' : TGs} (h : PGs X e t) (k : ∀ v σ H Q, t' v σ H Q → t v σ H Q) : PGs X e t' := ⟨fun pins s σ H v u Q I r q => h.run pins s σ H v u Q I r (k v σ H Q q)⟩
def gSet (i : Nat) : Eg := fun d δ => if i < δ.length then some (δ.set i (some d)) else none
theorem sg_nm {i : Nat} {x : Str} {pos : Pos} (hN : X.N.Nodup) (hi : X.N[i]? = some x) (hx : Loc X.env.scope x) (hf : X.fn x = true ∨ X.env.scope.names.lookup x = some .local) : SG X Γ [i] (.Name x pos) (gSet i) := fun hK => (pg_name hN hi hx hf).imp fun v σ H Q ⟨F, G, sl, tm, t, A, ev, q⟩ => by
  unfold gSet at q
  by_cases hs : i < (dsl sl).length
  · rw [if_pos hs] at q
    rw [dsl_len] at hs
    rw [← ev]
    exact q _ H G _ (A.store hs) (Sub.refl G) (Only.set _ _ _) (fun j hj => by rw [List.getElem?_set_ne (show i ≠ j from fun z => hj (by simp [z]))]) (by rw [dsl_set]; rfl)
  · rw [if_neg hs] at q; exact q.elim
/-- several targets -/
abbrev Egs := List D → DS → Option DS
def tGs (Γ : Gm) (S : List Nat) (f : Egs) : TGs := fun vs σ H Q => ∃ F G sl tm ts, Abs Γ F σ H G sl (ts ++ tm) ∧ ts.map T.v = vs ∧
  match f (ts.map T.d) (dsl sl) with
  | some δ => ∀ σ' H' G' sl', Abs Γ F σ' H' G' sl' tm → Sub G G' → Only S σ σ' → Keep S sl sl' → dsl sl' = δ → Q σ' H'
  | none => False
def SGs (X : Cx) (Γ : Gm) (S : List Nat) (tg : List Expr) (f : Egs) : Prop := X.K = Γ.K → PGs X tg (tGs Γ S f)
def gNil' : Egs := fun ds δ => match ds with
  | [] => some δ
  | _ => none
def gCons' (f : Eg) (g : Egs) : Egs := fun ds δ => match ds with
  | d :: ds => (f d δ).bind (g ds)
  | [] => none
theorem sgs_nil : SGs X Γ [] [] gNil' := fun hK => pgs_nil.imp fun vs σ H Q ⟨F, G, sl, tm, ts, A, ev, q⟩ => by
  cases ts with
  | nil => exact ⟨ev.symm, q σ H G sl A (Sub.refl G) (Only.refl _ _) (Keep.refl _ _) rfl⟩
  | cons t ts => exact q.elim
theorem sgs_cons {S S' : List Nat} {e : Expr} {es : List Expr} {f : Eg} {g : Egs} (h1 : SG X Γ S e f) (h2 : SGs X Γ S' es g) (hs : (assignEach (e :: es) X.env).map (·.2) = assign e X.env :: (assignEach es X.env).map (·.2)) : SGs X Γ (S ++ S') (e :: es) (gCons' f g) := fun hK =>
  (pgs_cons (h1 hK) (h2 hK) hs).imp fun vs σ H Q ⟨F, G, sl, tm, ts, A, ev, q⟩ => by
  cases ts with
  | nil => exact q.elim
  | cons t ts =>
    refine ⟨t.v, ts.map T.v, ev.symm, F, G, sl, ts ++ tm, t, A, rfl, ?_⟩
    have q : match (f t.d (dsl sl)).bind (g (ts.map T.d)) with
      | some δ => ∀ σ' H' G' sl', Abs Γ F σ' H' G' sl' tm → Sub G G' → Only (S ++ S') σ σ' → Keep (S ++ S') sl sl' → dsl sl' = δ → Q σ' H'
      | none => False := q
    cases hf : f t.d (dsl sl) with
    | none => rw [hf] at q; exact q
    | some δ =>
      rw [hf] at q
      intro σ1 H1 G1 sl1 A1 s1 o1 kk1 e1
      refine ⟨F, G1, sl1, tm, ts, A1, rfl, ?_⟩
      rw [e1]
      have q : match g (ts.map T.d) δ with
        | some δ => ∀ σ' H' G' sl', Abs Γ F σ' H' G' sl' tm → Sub G G' → Only (S ++ S') σ σ' → Keep (S ++ S') sl sl' → dsl sl' = δ → Q σ' H'
        | none => False := q
      cases hg : g (ts.map T.d) δ with
      | none => rw [hg] at q; exact q
      | some δ2 =>
        rw [hg] at q
        exact fun σ2 H2 G2 sl2 A2 s2 o2 kk2 e2 => q σ2 H2 G2 sl2 A2 (s1.trans s2) (o1.trans o2) (kk1.trans kk2) e2
/-- leaves of a frozen sequence -/
theorem Abs.leaves {Γ : Gm} {F : Fr} {σ : St} {H G : Hp} {sl : TS'} : ∀ {tm : List T} {vs : List V} {ds : List D}, Abs Γ F σ H G sl tm → Reps Γ G vs ds → ∃ ts, Abs Γ F σ H G sl (ts ++ tm) ∧ ts.map T.v = vs ∧ ts.map T.d = ds
  | tm, vs, [], A, r => ⟨[], A, (show vs = [] from r).symm, rfl⟩
  | tm, vs, d :: ds, A, r => by
    obtain ⟨v, r', e, h1, h2⟩ := r
    obtain ⟨ts, B, e1, e2⟩ := Abs.leaves A h2
    exact ⟨.leaf v d :: ts, B.leaf h1, by rw [List.map_cons, e1, e]; rfl, by rw [List.map_cons, e2]; rfl⟩
/-- (a, b, ..) = a tuple -/
def gTup' (n : Nat) (g : Egs) : Eg := fun d δ => match d with
  | .tup ds => if ds.length = n then g ds δ else none
  | _ => none
theorem sg_tup {S : List Nat} {es : List Expr} {k n : Nat} {g : Egs} (hc : X.calm = true) (h : SGs X Γ S es g) (hn : (assignEach es X.env).length = n) (hst : (assignEach es X.env).findIdx? (·.1) = none) : SG X Γ S (.Tuple es k pos) (gTup' n g) := fun hK =>
  (pg_tup hc (h hK) hn hst).imp fun v σ H Q ⟨F, G, sl, tm, t, A, ev, q⟩ => by
  have g0 := A.goodT t List.mem_cons_self
  unfold gTup' at q
  cases hd : t.d with
  | tup ds =>
    rw [hd] at q
    dsimp only at q
    have el := leaf_of_own g0 (by rw [hd]; rfl)
    rw [el, hd] at g0
    obtain ⟨hz, a, vs, e1, hq, r⟩ := g0
    by_cases hl : ds.length = n
    · rw [if_pos hl] at q
      obtain ⟨ts, B, e2, e3⟩ := A.drop.leaves r
      refine ⟨a, vs, by rw [← ev, e1], by rw [hK]; exact sqT_of A.sub hq, by rw [r.len, hl], F, G, sl, tm, ts, B, e2, ?_⟩
      rw [e3]
      exact q
    · rw [if_neg hl] at q; exact q.elim
  | _ => rw [hd] at q; exact q.elim
/-! ### for -/
/-- what an iterator gives: the data ds, one behind the other -/
def Gives (Γ : Gm) (G : Hp) (J : It) (ds : List D) : Prop :=
  ∀ F σ2 H2 G2 sl2 tm2, Abs Γ F σ2 H2 G2 sl2 tm2 → Sub G G2 → ∀ i,
    (∀ d, ds[i]? = some d → J.go i H2 ∧ ∀ x H3, J.yld i H2 x H3 → ∃ G3 t, Abs Γ F σ2 H3 G3 sl2 (t :: tm2) ∧ Sub G2 G3 ∧ t.v = x ∧ t.d = d) ∧ (ds[i]? = none → J.stop i H2)
def tI (Γ : Gm) (E : WX) (W : List Nat) (f : EvA) : TI := fun σ H R => ∃ F G sl tm, Abs Γ F σ H G sl tm ∧
  match f (dsl sl) with
  | .ok ds δ => ∀ J H' G' sl', Abs Γ F σ H' G' sl' tm → Sub G G' → dsl sl' = δ → Keep W sl sl' → Gives Γ G' J ds → ds.length ≤ sizeLine → R J H'
  | .exc c fs δ => PX Γ E F σ tm c fs δ
  | .stuck => False
def SI (X : Cx) (Γ : Gm) (E : WX) (W : List Nat) (tg iter : Expr) (f : EvA) : Prop := X.K = Γ.K → PI X tg iter (tI Γ E W f)
theorem _root_.L2.PI.imp {X : Cx} {tg e : Expr} {t t' : TI} (h : PI X tg e t) (k : ∀ σ H R, t' σ H R → t σ H R) : PI X tg e t' := ⟨fun pins s σ H R I q => h.run pins s σ H R I (k σ H R q)⟩
def forL (ft : Eg) (g : Es) : List D → Es
  | [] => fun δ => .nx δ
  | d :: ds => fun δ => og (ft d δ) fun δ1 => (g δ1).lp (forL ft g ds)
def sFor (fi : EvA) (ft : Eg) (g : Es) : Es := fun δ => (fi δ).st fun ds δ' => forL ft g ds δ'
theorem drop_cons {α : Type} : ∀ {l : List α} {i : Nat} {d : α}, l[i]? = some d → l.drop i = d :: l.drop (i + 1)
  | [], i, d, h => by simp at h
  | x :: l, 0, d, h => by simp at h; simp [h]
  | x :: l, i + 1, d, h => by simpa using drop_cons (l := l) (i := i) (by simpa using h)
theorem ss_for {S : List Nat} {tg iter : Expr} {body : List Stmt} {fi : EvA} {ft : Eg} (hp : PassesOwn (model X.prog X.w) X.A X.env X.xe) (hc : X.calm = true) (hi : SI X Γ E W tg iter fi) (hg : SG X Γ S tg ft) (hb : SB X Γ E P body g) (hPS : ∀ i, i ∈ P → i ∉ S)
    (hs : ∀ x, foldedSetIterable iter X.env x = pure x) : SS X Γ E P (.For tg iter body [] pos) (sFor fi ft g) := fun hK => (ps_for hp hc (hi hK) (hg hK) (hb hK) hs).imp fun Z σ H ⟨F, G, sl, tm, A, q⟩ => by
  refine ⟨F, G, sl, tm, A, ?_⟩
  unfold sFor at q
  cases hf : fi (dsl sl) with
  | stuck => rw [hf] at q; exact q
  | exc c fs δ => rw [hf, st_exc] at q; exact q σ (Prot.refl _ _)
  | ok ds δ =>
    rw [hf, st_ok] at q
    intro J H0 G0 sl0 A0 s0 e0 _ gv _
    refine ⟨fun i m σ' H' => m = ds.length - i ∧ ∃ G' sl', Abs Γ F σ' H' G' sl' tm ∧ Sub G0 G' ∧ Prot P σ σ' ∧ PostS Γ E P F σ' G' tm Z (forL ft g (ds.drop i) (dsl sl')), ⟨_, rfl, G0, sl0, A0, Sub.refl _, Prot.refl _ _, by rw [e0]; exact q.later s0 (Prot.refl _ _)⟩, ?_⟩
    rintro i m σ1 H1 ⟨rfl, G1, sl1, A1, s1, p1, q1⟩
    obtain ⟨hgo, hst⟩ := gv F σ1 H1 G1 sl1 tm A1 s1 i
    cases hd : ds[i]? with
    | none =>
      have : ds.drop i = [] := List.drop_eq_nil_iff.mpr (List.getElem?_eq_none_iff.mp hd)
      rw [this] at q1
      exact .inl ⟨hst hd, q1 σ1 H1 G1 sl1 A1 (Sub.refl _) (Prot.refl _ _) rfl⟩
    | some d =>
      obtain ⟨h1, h2⟩ := hgo d hd
      have hlt : i < ds.length := (List.getElem?_eq_some_iff.mp hd).1
      rw [drop_cons hd] at q1
      refine .inr ⟨h1, fun σ' H' => ∃ G' sl', Abs Γ F σ' H' G' sl' tm ∧ Sub G0 G' ∧ Prot P σ σ' ∧ PostS Γ E P F σ' G' tm Z (forL ft g (ds.drop (i + 1)) (dsl sl')), fun σ' H' w => ⟨ds.length - (i + 1), by omega, rfl, w⟩, fun x H' y => ?_⟩
      obtain ⟨G3, t, A3, s3, ev, ed⟩ := h2 x H' y
      refine ⟨F, G3, sl1, tm, t, A3, ev, ?_⟩
      rw [ed]
      show match ft d (dsl sl1) with | some δ => _ | none => False
      unfold forL at q1
      cases ht : ft d (dsl sl1) with
      | none => rw [ht] at q1; exact q1
      | some δ1 =>
        rw [ht, og_some] at q1
        intro σ4 H4 G4 sl4 A4 s4 o4 _ e4
        have p4 := o4.prot hPS
        refine ⟨F, G4, sl4, tm, A4, ?_⟩
        rw [e4]
        have q2 := q1.later (s3.trans s4) p4
        cases hg : g δ1 with
        | nx δ2 => rw [hg] at q2; exact fun σ' H' G' sl' A' s p e => ⟨G', sl', A', s1.trans (s3.trans (s4.trans s)), p1.trans (p4.trans p), by rw [e]; exact q2.later s p⟩
        | ct δ2 => rw [hg] at q2; exact fun σ' H' G' sl' A' s p e => ⟨G', sl', A', s1.trans (s3.trans (s4.trans s)), p1.trans (p4.trans p), by rw [e]; exact q2.later s p⟩
        | bk δ2 => rw [hg] at q2; exact fun σ' H' G' sl' A' s p e => q2 σ' H' G' sl' A' s p e
        | rt d δ2 => rw [hg] at q2; exact q2
        | exc c fs δ2 => rw [hg] at q2; exact q2
        | stuck => rw [hg] at q2; exact q2
end
end L2.Pv
end
section
set_option Elab.async false
set_option linter.all false
set_option autoImplicit false
set_option maxRecDepth 100000
namespace L2.Pv
open PySem PySem.Spec PyProof.Rows

section
variable {Γ : Gm} {F : Fr} {σ : St} {H G : Hp} {sl : TS'} {tm tm' ts : List T} {t : T}
theorem Abs.temps (A : Abs Γ F σ H G sl tm) (h1 : ∀ u ∈ tm', u ∈ tm) (h2 : ∀ a, T.cnts a tm' ≤ T.cnts a tm) : Abs Γ F σ H G sl tm' :=
  ⟨A.len, A.val, A.sub, A.keep, A.dom, A.g0, A.goodS, fun u hu => A.goodT u (h1 u hu), fun a => by have := A.one a; have := h2 a; omega, fun a ha => A.sep a (by have := h2 a; omega), A.fresh, A.tabs⟩
theorem Abs.swap (A : Abs Γ F σ H G sl (ts ++ t :: tm)) : Abs Γ F σ H G sl (t :: (ts ++ tm)) := A.temps (fun u hu => by
  simp only [List.mem_cons, List.mem_append] at hu ⊢
  rcases hu with h | h | h
  · exact .inr (.inl h)
  · exact .inl h
  · exact .inr (.inr h)) fun a => by rw [T.cnts, cnts_append, cnts_append, T.cnts]; omega
theorem Abs.swap' (A : Abs Γ F σ H G sl (t :: (ts ++ tm))) : Abs Γ F σ H G sl (ts ++ t :: tm) := A.temps (fun u hu => by
  simp only [List.mem_cons, List.mem_append] at hu ⊢
  rcases hu with h | h | h
  · exact .inr (.inl h)
  · exact .inl h
  · exact .inr (.inr h)) fun a => by rw [T.cnts, cnts_append, cnts_append, T.cnts]; omega
end

/-! ### arguments and displays -/
def aNil : EvA := fun δ => .ok [] δ
def aCons (f : Ev) (g : EvA) : EvA := fun δ => (f δ).bd fun d δ1 => (g δ1).bd fun ds δ2 => .ok (d :: ds) δ2
def eTup (f : EvA) : Ev := fun δ => (f δ).bd fun ds δ' => .ok (.tup (D.frzs ds)) δ'
def eLst (f : EvA) : Ev := fun δ => (f δ).bd fun ds δ' => .ok (.lst true ds) δ'
section
variable {X : Cx} {Γ : Gm} {E : WX} {W W' Wa Wb : List Nat} {e : Expr} {es : List Expr} {f fa fb : Ev} {g : EvA} {n : Nat} {pos : Pos}
theorem sa_nil : SA X Γ E [] 0 [] aNil := fun _ => pa_nil.imp fun σ H Q ⟨F, G, sl, tm, A, q⟩ => q H G sl [] A (Sub.refl G) rfl rfl rfl (Keep.refl _ _)
theorem sa_cons (h : SE X Γ E W e f) (h' : SA X Γ E W' n es g) (hs : starEach (e :: es) X.env = (false, eval e X.env) :: starEach es X.env) : SA X Γ E (W ++ W') (n + 1) (e :: es) (aCons f g) := fun hK =>
  (pa_cons (h hK) (h' hK) hs).imp fun σ H Q ⟨F, G, sl, tm, A, q⟩ => by
  refine ⟨F, G, sl, tm, A, ?_⟩
  unfold aCons at q
  cases hf : f (dsl sl) with
  | stuck => rw [hf] at q; exact q
  | exc c fs δ => rw [hf] at q; exact q
  | ok d δ1 =>
    rw [hf, bd_ok] at q
    intro H1 G1 sl1 t A1 s1 ed e1 k1
    refine ⟨F, G1, sl1, t :: tm, A1, ?_⟩
    rw [e1]
    cases hg : g δ1 with
    | stuck => rw [hg] at q; exact q
    | exc c fs δ => rw [hg] at q; exact PX.more (ex := [t]) q
    | ok ds δ2 =>
      rw [hg, bd_ok] at q
      intro H2 G2 sl2 ts A2 s2 hl eds e2 k2
      exact q H2 G2 sl2 (t :: ts) A2.swap (s1.trans s2) (by simp [hl]) (by rw [List.map_cons, ed, eds]) e2 (k1.trans k2)
theorem se_tup {x1 : Nat} (h : SA X Γ E W n es g) (hn : n ≤ sizeLine) : SE X Γ E W (.Tuple es x1 pos) (eTup g) := fun hK => (pe_tup (h hK)).imp fun σ H Q ⟨F, G, sl, tm, A, q⟩ => by
  refine ⟨F, G, sl, tm, A, ?_⟩
  unfold eTup at q
  cases hg : g (dsl sl) with
  | stuck => rw [hg] at q; exact q
  | exc c fs δ => rw [hg] at q; exact q
  | ok ds δ2 =>
    rw [hg, bd_ok] at q
    intro H2 G2 sl2 ts A2 s2 hl eds e2 k2
    refine ⟨by rw [List.length_map, hl]; exact hn, fun p hp => ?_⟩
    obtain ⟨G3, A3, s3⟩ := A2.newTup hp (by rw [hl]; exact hn)
    rw [T.ds_map, eds] at A3
    exact q _ G3 sl2 _ A3 (s2.trans s3) rfl e2 k2
theorem se_lst (h : SA X Γ E W n es g) (hn : n ≤ sizeLine) : SE X Γ E W (.List es pos) (eLst g) := fun hK => (pe_lst (h hK)).imp fun σ H Q ⟨F, G, sl, tm, A, q⟩ => by
  refine ⟨F, G, sl, tm, A, ?_⟩
  unfold eLst at q
  cases hg : g (dsl sl) with
  | stuck => rw [hg] at q; exact q
  | exc c fs δ => rw [hg] at q; exact q
  | ok ds δ2 =>
    rw [hg, bd_ok] at q
    intro H2 G2 sl2 ts A2 s2 hl eds e2 k2
    refine ⟨by rw [List.length_map, hl]; exact hn, fun p hp => ?_⟩
    have A3 := A2.newLst hp (by rw [hl]; exact hn)
    exact q _ G2 sl2 (.lst p ts) A3 s2 (by rw [T.d, T.ds_map, eds]) e2 k2
end
end L2.Pv
end
section
set_option Elab.async false
set_option linter.all false
set_option autoImplicit false
set_option maxRecDepth 100000
namespace L2.Pv
open PySem PySem.Spec PyProof.Rows

/-! ### a def: from its arguments' data to its answer's; io: the parameters that it may change -/
inductive FOut where
  | ok (d : D) (outs : List D)
  | exc (c : Nat) (fs : List D) (outs : List D)
  | stuck
def outsOf : List Nat → DS → Option (List D)
  | [], _ => some []
  | i :: io, δ => match δ[i]? with
    | some (some d) => (outsOf io δ).map (d :: ·)
    | _ => none
def finF (io : List Nat) (o : SOut) : FOut :=
  match o with
  | .rt d δ => match outsOf io δ with
    | some os => .ok d os
    | none => .stuck
  | .nx δ => match outsOf io δ with
    | some os => .ok .non os
    | none => .stuck
  | .exc c fs δ => match outsOf io δ with
    | some os => .exc c fs os
    | none => .stuck
  | _ => .stuck
def argD (n : Nat) (ds : List D) : DS := ds.map some ++ List.replicate (n - ds.length) none
def runF (io : List Nat) (n np : Nat) (f : Es) (ds : List D) : FOut := if ds.length = np then finF io (f (argD n ds)) else .stuck
/-- us stand where vs stood at io -/
def AtIo (io : List Nat) (us : List T) (vs : List V) : Prop := us.length = io.length ∧ ∀ (k i : Nat) (u : T), io[k]? = some i → us[k]? = some u → vs[i]? = some u.v
def FrOf (H G : Hp) (ts : List T) : Fr := ⟨noT H, G, fun a => 0 < T.cnts a ts⟩
def spF (Γ : Gm) (io : List Nat) (m : List D → FOut) : Sp := fun vs H Q E => ∃ G ts, vs = ts.map T.v ∧ Abs Γ (FrOf H G ts) [] H G [] ts ∧
  match m (ts.map T.d) with
  | .ok d os => ∀ H' G' t us, Abs Γ (FrOf H G ts) [] H' G' [] (t :: us) → t.d = d → us.map T.d = os → AtIo io us vs → Q t.v H'
  | .exc c fs os => ∀ H' G' us dx, Abs Γ (FrOf H G ts) [] H' G' [] us → us.map T.d = os → AtIo io us vs → ExR Γ H' G' c fs dx → E (.ref (Γ.ca c)) dx H'
  | .stuck => False

theorem cnts_pos {a : Addr} : ∀ {ts : List T}, 0 < T.cnts a ts → ∃ u ∈ ts, 0 < u.cnt a
  | [], h => by rw [T.cnts] at h; omega
  | t :: ts, h => by
    rw [T.cnts] at h
    by_cases q : 0 < t.cnt a
    · exact ⟨t, List.mem_cons_self, q⟩
    · obtain ⟨u, hu, c⟩ := cnts_pos (a := a) (ts := ts) (by omega)
      exact ⟨u, List.mem_cons_of_mem _ hu, c⟩
theorem cS_pos {a : Addr} : ∀ {sl : TS'}, 0 < cS a sl → ∃ (i : Nat) (u : T), sl[i]? = some (some u) ∧ 0 < u.cnt a
  | [], h => by simp [cS] at h
  | x :: sl, h => by
    by_cases q : 0 < cO a x
    · cases x with
      | none => simp [cO] at q
      | some u => exact ⟨0, u, by simp, q⟩
    · obtain ⟨i, u, hu, c⟩ := cS_pos (a := a) (sl := sl) (by simp only [cS, List.map_cons, List.sum_cons] at h ⊢; omega)
      exact ⟨i + 1, u, by simpa using hu, c⟩
mutual
theorem Good.noQuiet {Γ : Gm} {G H : Hp} : ∀ (t : T), Good Γ G H t → ∀ {a : Addr} {o : HO}, 0 < t.cnt a → H a = some o → Quiet o → False
  | .leaf v d, _, a, o, h, _, _ => by rw [T.cnt] at h; omega
  | .lst p xs, g, a, o, h, e, z => by
    by_cases q : p = a
    · subst q
      rw [g.1.1] at e
      cases e
      exact z
    · rw [T.cnt, if_neg q] at h
      exact Goods.noQuiet xs g.2 (by omega) e z
  | .dic p ks xs, g, a, o, h, e, z => by
    by_cases q : p = a
    · subst q
      rw [g.1.1] at e
      cases ks <;> cases e <;> exact z
    · rw [T.cnt, if_neg q] at h
      exact Goods.noQuiet xs g.2 (by omega) e z
  | .obj p dx c xs, g, a, o, h, e, z => by
    by_cases q : p = a
    · subst q
      rw [g.1.1] at e
      cases e
      exact z
    · by_cases q2 : dx = a
      · subst q2
        rw [g.1.2.1] at e
        cases e
        exact z
      · rw [T.cnt, if_neg q, if_neg q2] at h
        exact Goods.noQuiet xs g.2 (by omega) e z
theorem Goods.noQuiet {Γ : Gm} {G H : Hp} : ∀ (ts : List T), Goods Γ G H ts → ∀ {a : Addr} {o : HO}, 0 < T.cnts a ts → H a = some o → Quiet o → False
  | [], _, a, o, h, _, _ => by rw [T.cnts] at h; omega
  | t :: ts, g, a, o, h, e, z => by
    rw [T.cnts] at h
    by_cases q : 0 < t.cnt a
    · exact Good.noQuiet t g.1 q e z
    · exact Goods.noQuiet ts g.2 (by omega) e z
end
section
variable {Γ : Gm} {F : Fr} {σ : St} {H G : Hp} {sl : TS'} {tm ts us : List T} {t : T}
theorem Abs.noSlots (A : Abs Γ F σ H G sl tm) : Abs Γ F [] H G [] tm :=
  ⟨rfl, fun i t h => by simp at h, A.sub, A.keep, A.dom, A.g0, fun i t h => by simp at h, A.goodT, fun a => by have := A.one a; have : cS a [] = 0 := rfl; omega, fun a ha => A.sep a (by have : cS a [] = 0 := rfl; omega), A.fresh, A.tabs⟩
theorem Abs.temps' {us : List T} (A : Abs Γ F σ H G sl (us ++ [])) : Abs Γ F σ H G sl us := by rw [List.append_nil] at A; exact A
theorem outs_take : ∀ {io : List Nat} {sl : TS'} {tm : List T} {os : List D}, io.Nodup → Abs Γ F σ H G sl tm → outsOf io (dsl sl) = some os →
    ∃ us sl', Abs Γ F σ H G sl' (us ++ tm) ∧ us.map T.d = os ∧ us.length = io.length ∧ ∀ (k i : Nat) (u : T), io[k]? = some i → us[k]? = some u → σ[i]? = some (some u.v)
  | [], sl, tm, os, _, A, h => by
    cases h
    exact ⟨[], sl, A, rfl, rfl, fun k i u h => by simp at h⟩
  | i :: io, sl, tm, os, hn, A, h => by
    unfold outsOf at h
    split at h
    · rename_i d hd
      obtain ⟨t, ht, et⟩ := dsl_get hd
      have B := A.take ht
      have hi := (List.nodup_cons.mp hn).1
      have same : ∀ (l : List Nat), (∀ j ∈ l, j ≠ i) → outsOf l (dsl (sl.set i none)) = outsOf l (dsl sl) := by
        intro l
        induction l with
        | nil => intro _; rfl
        | cons j l ih =>
          intro hj
          have e : (dsl (sl.set i none))[j]? = (dsl sl)[j]? := by
            rw [dsl_set, List.getElem?_set_ne (fun z => hj j List.mem_cons_self z.symm)]
          unfold outsOf
          rw [e, ih fun k hk => hj k (List.mem_cons_of_mem _ hk)]
      cases ho : outsOf io (dsl sl) with
      | none => rw [ho] at h; cases h
      | some os' =>
        rw [ho] at h
        have h : some (d :: os') = some os := h
        cases h
        obtain ⟨us, sl', C, e1, e2, e3⟩ := outs_take (io := io) (List.nodup_cons.mp hn).2 B (by rw [same io fun j hj z => hi (z ▸ hj)]; exact ho)
        refine ⟨t :: us, sl', C.swap, by rw [List.map_cons, e1, et], by simp [e2], fun k j u h1 h2 => ?_⟩
        cases k with
        | zero =>
          simp at h1 h2
          subst h1 h2
          exact A.val i t ht
        | succ k => exact e3 k j u (by simpa using h1) (by simpa using h2)
    · cases h

theorem cS_args (a : Addr) (n : Nat) : ∀ ts : List T, cS a (ts.map some ++ List.replicate n none) = T.cnts a ts
  | [] => by
    induction n with
    | zero => rfl
    | succ n ih => simp only [List.map_nil, List.nil_append, List.replicate_succ, cS, List.map_cons, List.sum_cons, cO, Nat.zero_add] at ih ⊢; exact ih
  | t :: ts => by
    have ih := cS_args a n ts
    simp only [cS, List.map_cons, List.cons_append, List.sum_cons, cO, T.cnts] at ih ⊢
    omega
theorem get_args {n : Nat} {ts : List T} {i : Nat} {t : T} (h : (ts.map some ++ List.replicate n none)[i]? = some (some t)) : ts[i]? = some t := by
  by_cases hi : i < ts.length
  · rw [List.getElem?_append_left (by simpa using hi)] at h
    simpa using h
  · rw [List.getElem?_append_right (by simpa using hi)] at h
    have := List.mem_of_getElem? h
    simp [List.mem_replicate] at this
theorem Abs.enter {N : List Str} (A : Abs Γ F [] H G [] ts) : Abs Γ F (L2.start N (ts.map T.v)) H G (ts.map some ++ List.replicate (N.length - ts.length) none) [] := by
  refine ⟨by unfold L2.start; simp, fun i t h => ?_, A.sub, A.keep, A.dom, A.g0, fun i t h => A.goodT t (List.mem_of_getElem? (get_args h)), fun u hu => absurd hu (by simp), fun a => ?_, fun a ha => A.sep a ?_, A.fresh, A.tabs⟩
  · have e := get_args h
    have hi : i < ts.length := (List.getElem?_eq_some_iff.mp e).1
    unfold L2.start
    rw [List.getElem?_append_left (by simpa using hi)]
    simp [e]
  · rw [cS_args]
    have := A.one a
    have e1 : T.cnts a [] = 0 := rfl
    have e2 : cS a [] = 0 := rfl
    omega
  · rw [cS_args] at ha
    have e1 : T.cnts a [] = 0 := rfl
    have e2 : cS a [] = 0 := rfl
    omega
theorem dsl_args (n : Nat) (ts : List T) : dsl (ts.map some ++ List.replicate (n - ts.length) none) = argD n (ts.map T.d) := by
  unfold dsl argD
  simp [List.map_append, List.map_map]

/-- from the caller's state to the callee's -/
theorem Abs.toCall (A : Abs Γ F σ H G sl (ts ++ tm)) : Abs Γ (FrOf H G ts) [] H G [] ts := by
  have e0 : ∀ a, cS a [] = 0 := fun _ => rfl
  refine ⟨rfl, fun i t h => by simp at h, A.sub, fun a o h _ _ => (noT_sub h).1, fun a h => by
    cases q : noT H a with
    | none => exact absurd q h
    | some o => exact ⟨o, noT_sub q⟩, ⟨Sub.refl G, A.g0.2⟩, fun i t h => by simp at h, fun u hu => A.goodT u (List.mem_append_left _ hu), fun a => ?_, fun a ha => ?_, fun a h => .inl h, A.tabs⟩
  · have := A.one a; rw [cnts_append] at this; rw [e0]; omega
  · rw [e0] at ha
    obtain ⟨h1, h2, _⟩ := A.sep a (by rw [cnts_append]; omega)
    exact ⟨h1, h2, .inr (by show 0 < T.cnts a ts; omega)⟩
/-- and back -/
theorem Abs.back {H' G' : Hp} (A : Abs Γ F σ H G sl (ts ++ tm)) (B : Abs Γ (FrOf H G ts) [] H' G' [] us) : Abs Γ F σ H' G' sl (us ++ tm) ∧ Sub G G' := by
  have e0 : ∀ a, cS a [] = 0 := fun _ => rfl
  have hG : Sub G G' := B.g0.1
  -- what is ours stands
  have ours : ∀ a, 0 < cS a sl + T.cnts a tm → T.cnts a ts = 0 ∧ G a = none ∧ ∃ o, H a = some o ∧ NTbl o := fun a ha => by
    have h1 := A.one a
    rw [cnts_append] at h1
    obtain ⟨h2, h3, _⟩ := A.sep a (by rw [cnts_append]; omega)
    have hu : ∃ u : T, 0 < u.cnt a ∧ Good Γ G H u := by
      rcases Nat.lt_or_ge 0 (T.cnts a tm) with q2 | q2
      · obtain ⟨u, hu, c⟩ := cnts_pos q2
        exact ⟨u, c, A.goodT u (List.mem_append_right _ hu)⟩
      · obtain ⟨i, u, hu, c⟩ := cS_pos (a := a) (sl := sl) (by omega)
        exact ⟨u, c, A.goodS i u hu⟩
    obtain ⟨u, c, gu⟩ := hu
    cases q : H a with
    | none => exact absurd q h3
    | some o => exact ⟨by omega, h2, o, rfl, fun ps z => by subst z; exact Good.noTbl u gu c q⟩
  have nn : ∀ {a : Addr} {o : HO}, H a = some o → NTbl o → (FrOf H G ts).H0 a = some o := fun h n => noT_of h n
  have keepT : ∀ u : T, (∀ a, 0 < u.cnt a → 0 < cS a sl + T.cnts a tm) → Good Γ G H u → Good Γ G' H' u := fun u hu g => g.mono hG u fun a ha => by
    obtain ⟨h1, _, o, hH, hn⟩ := ours a (hu a ha)
    rw [hH]
    exact B.keep a o (nn hH hn) hn (show ¬ 0 < T.cnts a ts by omega)
  have old : ∀ {a : Addr}, F.H0 a ≠ none → (FrOf H G ts).H0 a ≠ none := fun {a} h => by
    obtain ⟨o, q, n⟩ := A.dom a h
    rw [nn q n]
    exact fun z => nomatch z
  refine ⟨⟨A.len, A.val, B.sub, fun a o h1 h2 h3 => ?_, fun a h => B.dom a (old h), A.g0.trans hG B.g0.2.2, fun i u h => keepT u (fun a ha => ?_) (A.goodS i u h), fun u hu => ?_, fun a => ?_, fun a ha => ?_, fun a ha => ?_, B.tabs⟩, hG⟩
  · refine B.keep a o (nn (A.keep a o h1 h2 h3) h2) h2 fun z => ?_
    have z : 0 < T.cnts a ts := z
    rcases (A.sep a (by rw [cnts_append]; omega)).2.2 with q | q
    · rw [h1] at q; cases q
    · exact h3 q
  · have := cS_get (a := a) h; omega
  · rcases List.mem_append.mp hu with hu | hu
    · exact B.goodT u hu
    · exact keepT u (fun a ha => by have := cnts_mem (a := a) hu; omega) (A.goodT u (List.mem_append_right _ hu))
  · rw [cnts_append]
    have h1 := A.one a
    rw [cnts_append] at h1
    have h2 := B.one a
    rw [e0] at h2
    by_cases q : 0 < cS a sl + T.cnts a tm
    · by_cases q2 : 0 < T.cnts a us
      · obtain ⟨h3, _, o5, h5, n5⟩ := ours a q
        rcases (B.sep a (by rw [e0]; omega)).2.2 with z | z
        · rw [nn h5 n5] at z; cases z
        · have z : 0 < T.cnts a ts := z
          omega
      · omega
    · omega
  · rw [cnts_append] at ha
    by_cases q : 0 < cS a sl + T.cnts a tm
    · obtain ⟨h1, h2, o3, h3, n3⟩ := ours a q
      have d3 := B.dom a (by rw [nn h3 n3]; exact fun z => nomatch z)
      refine ⟨?_, fun z => (by obtain ⟨o, q, _⟩ := d3; rw [z] at q; cases q), (A.sep a (by rw [cnts_append]; omega)).2.2⟩
      cases hg : G' a with
      | none => rfl
      | some o =>
        rcases B.fresh a (by rw [hg]; exact fun z => nomatch z) with z | z | z | ⟨o', z, zq⟩
        · exact absurd h2 z
        · rw [nn h3 n3] at z; cases z
        · have z : 0 < T.cnts a ts := z
          omega
        · exfalso
          have hT := B.sub _ _ z
          have hu : ∃ u : T, 0 < u.cnt a ∧ Good Γ G H u := by
            rcases Nat.lt_or_ge 0 (T.cnts a tm) with q2 | q2
            · obtain ⟨u, hu, c⟩ := cnts_pos q2
              exact ⟨u, c, A.goodT u (List.mem_append_right _ hu)⟩
            · obtain ⟨i, u, hu, c⟩ := cS_pos (a := a) (sl := sl) (by omega)
              exact ⟨u, c, A.goodS i u hu⟩
          obtain ⟨u, c, gu⟩ := hu
          have k := B.keep a o3 (nn h3 n3) n3 (show ¬ 0 < T.cnts a ts by omega)
          rw [hT] at k
          cases k
          exact Good.noQuiet u gu c h3 zq
    · obtain ⟨h1, h2, h3⟩ := B.sep a (by rw [e0]; omega)
      refine ⟨h1, h2, ?_⟩
      rcases h3 with z | z
      · left
        cases hF : F.H0 a with
        | none => rfl
        | some o => exact absurd z (old (by rw [hF]; exact fun z => nomatch z))
      · have z : 0 < T.cnts a ts := z
        exact (A.sep a (by rw [cnts_append]; omega)).2.2
  · rcases B.fresh a ha with z | z | z | z
    · rcases A.fresh a z with z | z | z | ⟨o', z, zq⟩
      · exact .inl z
      · exact .inr (.inl z)
      · exact .inr (.inr (.inl z))
      · exact .inr (.inr (.inr ⟨o', hG _ _ z, zq⟩))
    · right; left
      cases hF : F.H0 a with
      | none => rfl
      | some o => exact absurd z (old (by rw [hF]; exact fun z => nomatch z))
    · have z : 0 < T.cnts a ts := z
      rcases (A.sep a (by rw [cnts_append]; omega)).2.2 with q | q
      · exact .inr (.inl q)
      · exact .inr (.inr (.inl q))
    · exact .inr (.inr (.inr z))
end

/-! ### a def keeps its promise -/
section
variable {P : Program} {w : World} {K : PySem.W.Frag} {mg : Str → Option Value} {base : Heap} {Γ : Gm}
theorem start_get {N : List Str} {vs : List V} {i : Nat} {v : V} (hi : i < vs.length) (h : (L2.start N vs)[i]? = some (some v)) : vs[i]? = some v := by
  unfold L2.start at h
  rw [List.getElem?_append_left (by simpa using hi)] at h
  simpa using h
theorem spF_len {N ps : List Str} {io : List Nat} {m : List D → FOut} {g : Es} (hm : ∀ ds, m ds = runF io N.length ps.length g ds) : ∀ vs H Q E, spF Γ io m vs H Q E → vs.length = ps.length := fun vs H Q E h => by
  obtain ⟨G, ts, rfl, A, q⟩ := h
  rw [hm] at q
  unfold runF at q
  by_cases e : (ts.map T.d).length = ps.length
  · rw [List.length_map] at e ⊢
    exact e
  · rw [if_neg e] at q
    exact q.elim
theorem spF_start {N ps : List Str} {io : List Nat} {m : List D → FOut} {g : Es} (hn : io.Nodup) (hio : ∀ i ∈ io, i < ps.length) (hm : ∀ ds, m ds = runF io N.length ps.length g ds) {vs : List V} {H : Hp} {Q : VK} {E : XK} (hsp : spF Γ io m vs H Q E) :
    tS Γ (fun cls d _ H' => E cls d H') io g { nx := fun _ H' => Q .non H', rt := Q } (L2.start N vs) H := by
  have hlen := spF_len hm vs H Q E hsp
  obtain ⟨G, ts, rfl, Ab, q⟩ := hsp
  rw [List.length_map] at hlen
  rw [hm] at q
  unfold runF at q
  rw [if_pos (by rw [List.length_map]; exact hlen)] at q
  refine ⟨_, G, _, [], Ab.enter, ?_⟩
  rw [dsl_args]
  have at_io : ∀ {σ' : St} {us : List T}, Prot io (L2.start N (ts.map T.v)) σ' → us.length = io.length → (∀ (k i : Nat) (u : T), io[k]? = some i → us[k]? = some u → σ'[i]? = some (some u.v)) → AtIo io us (ts.map T.v) := fun {σ' us} p h1 h2 => ⟨h1, fun k i u e1 e2 => by
    have hi := hio i (List.mem_of_getElem? e1)
    refine start_get (N := N) (by rw [List.length_map, hlen]; exact hi) ?_
    rw [← p i (List.mem_of_getElem? e1)]
    exact h2 k i u e1 e2⟩
  cases hg : g (argD N.length (ts.map T.d)) with
  | stuck => rw [hg] at q; exact q
  | bk δ => rw [hg] at q; exact q.elim
  | ct δ => rw [hg] at q; exact q.elim
  | rt d δ =>
    rw [hg] at q
    unfold finF at q
    dsimp only at q
    intro σ' H' G' sl' t A' s' p ed e
    cases ho : outsOf io δ with
    | none => rw [ho] at q; exact q.elim
    | some os =>
      rw [ho] at q
      obtain ⟨us, sl2, B, e1, e2, e3⟩ := outs_take hn A' (by rw [e]; exact ho)
      exact q H' G' t us B.swap.noSlots.temps' ed e1 (at_io p e2 e3)
  | nx δ =>
    rw [hg] at q
    unfold finF at q
    dsimp only at q
    intro σ' H' G' sl' A' s' p e
    cases ho : outsOf io δ with
    | none => rw [ho] at q; exact q.elim
    | some os =>
      rw [ho] at q
      obtain ⟨us, sl2, B, e1, e2, e3⟩ := outs_take hn A' (by rw [e]; exact ho)
      exact q H' G' (.leaf .non .non) us (B.noSlots.temps'.leaf (v := .non) (d := .non) rfl) rfl e1 (at_io p e2 e3)
  | exc c fs δ =>
    rw [hg] at q
    unfold finF at q
    dsimp only at q
    intro σ' p H' G' sl' dx A' e x
    cases ho : outsOf io δ with
    | none => rw [ho] at q; exact q.elim
    | some os =>
      rw [ho] at q
      obtain ⟨us, sl2, B, e1, e2, e3⟩ := outs_take hn A' (by rw [e]; exact ho)
      exact q H' G' us dx B.noSlots.temps' e1 (at_io p e2 e3) x
theorem fn_ok {x qual : Str} {st : Stmt} {f : Addr} {fd : FuncData} {N ps : List Str} {k : Nat} {io : List Nat} {m : List D → FOut} {g : Es} (F : Fun K x qual st f fd) (S : FnScope N ps (defScope st)) (hK : K = Γ.K) (hn : io.Nodup) (hio : ∀ i ∈ io, i < ps.length)
    (hm : ∀ ds, m ds = runF io N.length ps.length g ds)
    (body : ∀ (cdv : Value) (A : Around) (outer : List Env) (s : Shared) (H : Hp) (E : XK), Room k (A.deeper (envOfC qual (defScope st) s.heap.objs.size f cdv)) →
      SB (cxOf (L2.CX P w) P w K mg base N qual (defScope st) f cdv A outer s H E) Γ (fun cls d _ H' => E cls d H') io (defBody st) g) : FnOk P w K mg base (L2.CX P w) (k + 1) f fd ps (spF Γ io m) := by
  exact F.okX S (spF_len hm) fun cdv A outer s H vs Q E hr hsp => ⟨_, body cdv A outer s H E hr hK, spF_start hn hio hm hsp⟩
end

/-! ### calls of defs -/
/-- the answer of a def without changed parameters -/
def calF (m : List D → FOut) (g : EvA) : Ev := fun δ => (g δ).bd fun ds δ' => match m ds with
  | .ok d _ => .ok d δ'
  | .exc c fs _ => .exc c fs δ'
  | .stuck => .stuck
/-- .. of a def that may change its first parameter, the name j here -/
def calH (m : List D → FOut) (j : Nat) (g : EvA) : Ev := fun δ => match δ[j]? with
  | some (some _) => (g δ).bd fun ds δ' => match δ'[j]? with
    | some (some h) => match m (h :: ds) with
      | .ok d [h'] => .ok d (δ'.set j (some h'))
      | .exc c fs [h'] => .exc c fs (δ'.set j (some h'))
      | _ => .stuck
    | _ => .stuck
  | _ => .stuck
section
variable {X : Cx} {Γ : Gm} {E : WX} {W : List Nat} {k n : Nat} {f : Addr} {fd : FuncData} {ps : List Str} {m : List D → FOut} {x : Str} {p pos : Pos} {e : Expr} {es : List Expr} {g : EvA}
theorem nil_of_len {α : Type} {l : List α} (h : l.length = 0) : l = [] := List.eq_nil_of_length_eq_zero h
theorem calF_run {σ : St} {H : Hp} {Q : VK} (h : tE Γ E W (calF m g) σ H Q) : tA Γ E W n g σ H fun vs H1 => spF Γ [] m (vs ++ []) H1 Q (fun cls d H' => E cls d σ H') := by
  obtain ⟨F, G, sl, tm, A, q⟩ := h
  refine ⟨F, G, sl, tm, A, ?_⟩
  unfold calF at q
  cases hg : g (dsl sl) with
  | stuck => rw [hg] at q; exact q
  | exc c fs δ => rw [hg] at q; exact q
  | ok ds δ =>
    rw [hg, bd_ok] at q
    intro H1 G1 sl1 ts A1 s1 hl eds e1 k1
    refine ⟨G1, ts, by rw [List.append_nil], A1.toCall, ?_⟩
    rw [eds]
    cases hm : m ds with
    | stuck => rw [hm] at q; exact q
    | ok d os =>
      rw [hm] at q
      intro H' G' t us B ed eos hio
      have : us = [] := nil_of_len hio.1
      subst this
      obtain ⟨C, s2⟩ := A1.back B
      exact q H' G' sl1 t C (s1.trans s2) ed e1 k1
    | exc c fs os =>
      rw [hm] at q
      intro H' G' us dx B eos hio hx
      have : us = [] := nil_of_len hio.1
      subst this
      obtain ⟨C, s2⟩ := A1.back B
      exact q H' G' sl1 dx C e1 hx
theorem se_cal (Fo : FnOk X.prog X.w X.K X.mg X.base (L2.CX X.prog X.w) k f fd ps (spF Γ [] m)) (hr : Room k X.A) (hg : Gl X x) (hm : X.mg x = some (.ref f)) (hk : PySem.W.keepIn X.K (.ref f) = true) (hb : Binds X.K fd ps []) (tk : Takes X E)
    (ha : SA X Γ E W n (e :: es) g) (hdb : (x == ("__debug__" : Str)) = false) (he : starEach (e :: es) X.env = (false, eval e X.env) :: starEach es X.env) (hpl : (backTo pos (starEach es X.env)).any (·.1) = false) :
    SE X Γ E W (.Call (.Name x p) (e :: es) [] pos) (calF m g) := fun hK =>
  (pe_callSD (E := fun σ cls d H => E cls d σ H) Fo hr hg hm hk hb .nil (fun σ => passAt tk σ) (ha hK) hdb he hpl).imp fun σ H Q h => calF_run h
theorem calH_run {j : Nat} {σ : St} {H : Hp} {Q : VK} (h : tE Γ E (W ++ [j]) (calH m j g) σ H Q) : ∃ v, σ[j]? = some (some v) ∧ tA Γ E W n g σ H fun vs H1 => spF Γ [0] m ((v :: vs) ++ []) H1 Q (fun cls d H' => E cls d σ H') := by
  obtain ⟨F, G, sl, tm, A, q⟩ := h
  unfold calH at q
  cases hd0 : (dsl sl)[j]? with
  | none => rw [hd0] at q; exact q.elim
  | some o0 =>
  cases o0 with
  | none => rw [hd0] at q; exact q.elim
  | some h0 =>
    rw [hd0] at q
    dsimp only at q
    obtain ⟨u0, hu0, eu0⟩ := dsl_get hd0
    have hv0 := A.val j u0 hu0
    refine ⟨u0.v, hv0, ?_⟩
    generalize u0.v = v at hv0
    have hv : ∀ w, σ[j]? = some (some w) → w = v := fun w hw => by
      rw [hv0] at hw
      cases hw
      rfl
    refine ⟨F, G, sl, tm, A, ?_⟩
    cases hg : g (dsl sl) with
    | stuck => rw [hg] at q; exact q
    | exc c fs δ => rw [hg] at q; exact q
    | ok ds δ =>
      rw [hg, bd_ok] at q
      intro H1 G1 sl1 ts A1 s1 hl eds e1 k1
      cases hd : δ[j]? with
      | none => rw [hd] at q; exact q.elim
      | some o =>
        cases o with
        | none => rw [hd] at q; exact q.elim
        | some h =>
          rw [hd] at q
          dsimp only at q
          obtain ⟨u, hu, eu⟩ := dsl_get (by rw [e1]; exact hd)
          have hσ := A1.val j u hu
          have hi : j < sl1.length := (List.getElem?_eq_some_iff.mp hu).1
          have B1 : Abs Γ F σ H1 G1 (sl1.set j none) ((u :: ts) ++ tm) := A1.take hu
          refine ⟨G1, u :: ts, by rw [List.append_nil, List.map_cons, hv _ hσ], B1.toCall, ?_⟩
          rw [List.map_cons, eds, eu]
          -- what comes back goes to its slot
          have bring : ∀ {H' G' : Hp} {u' : T} {tm' : List T}, Abs Γ F σ H' G' (sl1.set j none) (u' :: tm') → u'.v = u.v → Abs Γ F σ H' G' (sl1.set j (some u')) tm' := fun {H' G' u' tm'} C ev => by
            have C2 := C.store (i := j) (by simpa using hi)
            rw [List.set_set] at C2
            have : σ.set j (some u'.v) = σ := by
              apply List.ext_getElem?
              intro i
              by_cases e : j = i
              · subst e
                rw [List.getElem?_set_self (List.getElem?_eq_some_iff.mp hσ).1, hσ, ev]
              · rw [List.getElem?_set_ne e]
            rw [this] at C2
            exact C2
          have keepj : ∀ u' : T, Keep (W ++ [j]) sl (sl1.set j (some u')) := fun u' i hi' => by
            have : j ≠ i := fun z => hi' (by simp [z])
            rw [List.getElem?_set_ne this]
            exact k1 i fun z => hi' (List.mem_append_left _ z)
          cases hm : m (h :: ds) with
          | stuck => rw [hm] at q; exact q
          | ok d os =>
            rw [hm] at q
            intro H' G' t us B ed eos hio
            cases us with
            | nil => exact absurd hio.1 (by simp)
            | cons u' us =>
              have : us = [] := by
                have := hio.1
                simp at this
                exact this
              subst this
              have eos : [u'.d] = os := eos
              subst eos
              obtain ⟨C, s2⟩ := B1.back B
              have ev : u'.v = u.v := by
                have := hio.2 0 0 u' rfl rfl
                simp at this
                rw [← this]
                exact (hv _ hσ).symm
              have C1 : Abs Γ F σ H' G' (sl1.set j none) (u' :: t :: tm) := C.temps (fun z hz => by simp at hz ⊢; rcases hz with h | h | h <;> simp [h]) fun a => by simp only [List.cons_append, List.nil_append, T.cnts]; omega
              exact q H' G' _ t (bring C1 ev) (s1.trans s2) ed (by rw [dsl_set, e1]; rfl) (keepj u')
          | exc c fs os =>
            rw [hm] at q
            intro H' G' us dx B eos hio hx
            cases us with
            | nil => exact absurd hio.1 (by simp)
            | cons u' us =>
              have : us = [] := by
                have := hio.1
                simp at this
                exact this
              subst this
              have eos : [u'.d] = os := eos
              subst eos
              obtain ⟨C, s2⟩ := B1.back B
              have ev : u'.v = u.v := by
                have := hio.2 0 0 u' rfl rfl
                simp at this
                rw [← this]
                exact (hv _ hσ).symm
              exact q H' G' _ dx (bring C ev) (by rw [dsl_set, e1]; rfl) hx
theorem se_calH {j : Nat} {y : Str} {py : Pos} (hj : PE X (.Name y py) (tVar j)) (Fo : FnOk X.prog X.w X.K X.mg X.base (L2.CX X.prog X.w) k f fd ps (spF Γ [0] m)) (hr : Room k X.A) (hg : Gl X x) (hm : X.mg x = some (.ref f)) (hk : PySem.W.keepIn X.K (.ref f) = true) (hb : Binds X.K fd ps []) (tk : Takes X E)
    (ha : SA X Γ E W n es g) (hdb : (x == ("__debug__" : Str)) = false) (he : starEach (.Name y py :: es) X.env = (false, eval (.Name y py) X.env) :: starEach es X.env) (hpl : (backTo pos (starEach es X.env)).any (·.1) = false) :
    SE X Γ E (W ++ [j]) (.Call (.Name x p) (.Name y py :: es) [] pos) (calH m j g) := fun hK =>
  (pe_callSD (E := fun σ cls d H => E cls d σ H) Fo hr hg hm hk hb .nil (fun σ => passAt tk σ) (pa_cons hj (ha hK) he) hdb he hpl).imp fun σ H Q h => calH_run h
end
end L2.Pv
end
section
set_option Elab.async false
set_option linter.all false
set_option autoImplicit false
set_option maxRecDepth 100000
namespace L2.Pv
open PySem PySem.Spec PyProof.Rows

/-! ### what is walked -/
theorem _root_.L2.PI.or {X : Cx} {tg e : Expr} {t t' : TI} (h : PI X tg e t) (h' : PI X tg e t') : PI X tg e (fun σ H R => t σ H R ∨ t' σ H R) :=
  ⟨fun pins s σ H R I q => q.elim (h.run pins s σ H R I) (h'.run pins s σ H R I)⟩
def iSeq (f : Ev) : EvA := fun δ => (f δ).bd fun d δ' => match d with
  | .lst _ ds => .ok (D.frzs ds) δ'
  | .tup ds => .ok ds δ'
  | _ => .stuck
theorem gives_list {Γ : Gm} {G : Hp} {a : Addr} {vs : List V} {ds : List D} (h : G a = some (.lst vs)) (r : Reps Γ G vs ds) : Gives Γ G (Itl Γ.K a) ds := fun F σ2 H2 G2 sl2 tm2 A2 s i => by
  have hq : SqL Γ.K H2 a vs := SqL.of (A2.sub _ _ (s _ _ h))
  refine ⟨fun d hd => ?_, fun hd => ⟨vs, hq, by rw [r.len]; exact List.getElem?_eq_none_iff.mp hd⟩⟩
  obtain ⟨v, hv, rv⟩ := r.get hd
  refine ⟨⟨vs, v, hq, hv⟩, fun x H3 ⟨e, y⟩ => ?_⟩
  subst e
  have ex := (y vs hq).symm.trans hv
  cases ex
  exact ⟨G2, .leaf v d, A2.leaf (rv.mono s d), Sub.refl _, rfl, rfl⟩
theorem gives_tup {Γ : Gm} {G : Hp} {a : Addr} {vs : List V} {ds : List D} (h : SqT Γ.K G a vs) (r : Reps Γ G vs ds) : Gives Γ G (Itt Γ.K a) ds := fun F σ2 H2 G2 sl2 tm2 A2 s i => by
  have hq : SqT Γ.K H2 a vs := sqT_mono (s.trans A2.sub) h
  refine ⟨fun d hd => ?_, fun hd => ⟨vs, hq, by rw [r.len]; exact List.getElem?_eq_none_iff.mp hd⟩⟩
  obtain ⟨v, hv, rv⟩ := r.get hd
  refine ⟨⟨vs, v, hq, hv⟩, fun x H3 ⟨e, y⟩ => ?_⟩
  subst e
  have ex := (y vs hq).symm.trans hv
  cases ex
  exact ⟨G2, .leaf v d, A2.leaf (rv.mono s d), Sub.refl _, rfl, rfl⟩
section
variable {X : Cx} {Γ : Gm} {E : WX} {W : List Nat} {tg e : Expr} {f : Ev}
theorem si_seq (h : SE X Γ E W e f) : SI X Γ E W tg e (iSeq f) := fun hK => ((pi_list (h hK)).or (pi_tup (h hK))).imp fun σ H R ⟨F, G, sl, tm, A, q⟩ => by
  unfold iSeq at q
  cases hf : f (dsl sl) with
  | stuck => rw [hf] at q; exact q.elim
  | exc c fs δ =>
    left
    refine ⟨F, G, sl, tm, A, ?_⟩
    rw [hf] at q ⊢
    exact q
  | ok d δ =>
    rw [hf, bd_ok] at q
    cases d with
    | lst o ds =>
      left
      refine ⟨F, G, sl, tm, A, ?_⟩
      rw [hf]
      intro H1 G1 sl1 t A1 s1 ed e1 k1
      obtain ⟨G2, B, s2⟩ := A1.freeze1
      have r : Rep Γ G2 t.v t.d.frz := B.goodT _ List.mem_cons_self
      rw [ed] at r
      obtain ⟨⟨_, hz⟩, a, vs, ev, hq, rs⟩ := r
      refine ⟨a, ev, ⟨vs, SqL.of (B.sub _ _ hq)⟩, ?_⟩
      rw [hK]
      exact q (Itl Γ.K a) H1 G2 sl1 B.drop (s1.trans s2) e1 k1 (gives_list hq rs) hz
    | tup ds =>
      right
      refine ⟨F, G, sl, tm, A, ?_⟩
      rw [hf]
      intro H1 G1 sl1 t A1 s1 ed e1 k1
      have g := A1.goodT t List.mem_cons_self
      have el := leaf_of_own g (by rw [ed]; rfl)
      rw [el, ed] at g
      obtain ⟨hz, a, vs, ev, hq, rs⟩ := g
      refine ⟨a, ev, ⟨vs, by rw [hK]; exact sqT_of A1.sub hq⟩, ?_⟩
      rw [hK]
      exact q (Itt Γ.K a) H1 G1 sl1 A1.drop s1 e1 k1 (gives_tup (.inl (.inl hq)) rs) hz
    | _ => exact q.elim
/-- ints lo, lo + 1, .. -/
def rangeD (lo : Int) (n : Nat) : List D := (List.range n).map fun (i : Nat) => D.int (lo + i)
theorem gives_range {Γ : Gm} {G : Hp} {lo : Int} {n : Nat} : Gives Γ G (Itr lo n) (rangeD lo n) := fun F σ2 H2 G2 sl2 tm2 A2 s i => by
  unfold rangeD
  refine ⟨fun d hd => ?_, fun hd => ?_⟩
  · rw [List.getElem?_map] at hd
    cases hr : (List.range n)[i]? with
    | none => rw [hr] at hd; cases hd
    | some j =>
      rw [hr] at hd
      have hd : some (D.int (lo + j)) = some d := hd
      cases hd
      obtain ⟨hi, ej⟩ := List.getElem?_eq_some_iff.mp hr
      rw [List.length_range] at hi
      rw [List.getElem_range] at ej
      subst ej
      refine ⟨hi, fun x H3 ⟨e, y⟩ => ?_⟩
      subst e y
      exact ⟨G2, .leaf (.int (lo + i)) (.int (lo + i)), A2.leaf (show Rep Γ G2 (.int (lo + i)) (.int (lo + i)) from rfl), Sub.refl _, rfl, rfl⟩
  · have := List.getElem?_eq_none_iff.mp hd
    simp at this
    exact this
theorem rangeD_len (lo : Int) (n : Nat) : (rangeD lo n).length = n := by unfold rangeD; simp
def iRng (g : EvA) : EvA := fun δ => (g δ).bd fun ds δ' => match ds with
  | [.int j] => if j.natAbs ≤ sizeLine then .ok (rangeD 0 j.toNat) δ' else .stuck
  | [.int i, .int j] => if i.natAbs ≤ sizeLine ∧ j.natAbs ≤ sizeLine ∧ (j - i).toNat ≤ sizeLine then .ok (rangeD i (j - i).toNat) δ' else .stuck
  | _ => .stuck
theorem int_of {Γ : Gm} {G H : Hp} {t : T} {i : Int} (g : Good Γ G H t) (e : t.d = .int i) : t.v = .int i := by
  have el := leaf_of_own g (by rw [e]; rfl)
  rw [el, e] at g
  exact g
theorem bl_of {Γ : Gm} {G H : Hp} {t : T} {i : Bool} (g : Good Γ G H t) (e : t.d = .bl i) : t.v = .bl i := by
  have el := leaf_of_own g (by rw [e]; rfl)
  rw [el, e] at g
  exact g
theorem non_of {Γ : Gm} {G H : Hp} {t : T} (g : Good Γ G H t) (e : t.d = .non) : t.v = .non := by
  have el := leaf_of_own g (by rw [e]; rfl)
  rw [el, e] at g
  exact g
theorem str_of {Γ : Gm} {G H : Hp} {t : T} {x : Str} (g : Good Γ G H t) (e : t.d = .str x) : t.v = .str x := by
  have el := leaf_of_own g (by rw [e]; rfl)
  rw [el, e] at g
  exact g
theorem sz62 {j : Int} (h : j.natAbs ≤ sizeLine) : -(2 ^ 62) ≤ j ∧ j < 2 ^ 62 := by
  rw [sizeLine_eq] at h
  omega
theorem si_rng1 {a : Expr} {g : EvA} {p pos : Pos} (hg : Gl X "range") (hm : X.mg "range" = none) (ha : SA X Γ E W 1 [a] g) (hs : starEach [a] X.env = [(false, eval a X.env)]) : SI X Γ E W tg (.Call (.Name "range" p) [a] [] pos) (iRng g) := fun hK =>
  (pi_range1 hg hm (ha hK) hs).imp fun σ H R ⟨F, G, sl, tm, A, q⟩ => by
  refine ⟨F, G, sl, tm, A, ?_⟩
  unfold iRng at q
  cases hf : g (dsl sl) with
  | stuck => rw [hf] at q; exact q
  | exc c fs δ => rw [hf] at q; exact q
  | ok ds δ =>
    rw [hf, bd_ok] at q
    intro H1 G1 sl1 ts A1 s1 hl eds e1 k1
    match ts, hl with
    | [t], _ =>
      have eds : [t.d] = ds := eds
      subst eds
      cases ed : t.d with
      | int j =>
        rw [ed] at q
        dsimp only at q
        by_cases hz : j.natAbs ≤ sizeLine
        · rw [if_pos hz] at q
          obtain ⟨z1, z2⟩ := sz62 hz
          refine ⟨j, by rw [List.map_cons, int_of (A1.goodT t List.mem_cons_self) ed]; rfl, z1, z2, ?_⟩
          exact q (Itr 0 j.toNat) H1 G1 sl1 A1.drop s1 e1 k1 gives_range (by rw [rangeD_len]; omega)
        · rw [if_neg hz] at q; exact q.elim
      | _ => rw [ed] at q; exact q.elim
theorem si_rng2 {a b : Expr} {g : EvA} {p pos : Pos} (hg : Gl X "range") (hm : X.mg "range" = none) (ha : SA X Γ E W 2 [a, b] g) (hs : starEach [a, b] X.env = [(false, eval a X.env), (false, eval b X.env)]) (hs2 : starEach [b] X.env = [(false, eval b X.env)]) :
    SI X Γ E W tg (.Call (.Name "range" p) [a, b] [] pos) (iRng g) := fun hK =>
  (pi_range2 hg hm (ha hK) hs hs2).imp fun σ H R ⟨F, G, sl, tm, A, q⟩ => by
  refine ⟨F, G, sl, tm, A, ?_⟩
  unfold iRng at q
  cases hf : g (dsl sl) with
  | stuck => rw [hf] at q; exact q
  | exc c fs δ => rw [hf] at q; exact q
  | ok ds δ =>
    rw [hf, bd_ok] at q
    intro H1 G1 sl1 ts A1 s1 hl eds e1 k1
    match ts, hl with
    | [t, u], _ =>
      have eds : [t.d, u.d] = ds := eds
      subst eds
      cases ed : t.d with
      | int i =>
        cases ed2 : u.d with
        | int j =>
          rw [ed, ed2] at q
          dsimp only at q
          by_cases hz : i.natAbs ≤ sizeLine ∧ j.natAbs ≤ sizeLine ∧ (j - i).toNat ≤ sizeLine
          · rw [if_pos hz] at q
            obtain ⟨z1, z2⟩ := sz62 hz.1
            obtain ⟨z3, z4⟩ := sz62 hz.2.1
            refine ⟨i, j, by rw [List.map_cons, List.map_cons, int_of (A1.goodT t (by simp)) ed, int_of (A1.goodT u (by simp)) ed2]; rfl, ⟨z1, z2, z3, z4⟩, ?_⟩
            exact q (Itr i (j - i).toNat) H1 G1 sl1 A1.drop.drop s1 e1 k1 gives_range (by rw [rangeD_len]; exact hz.2.2)
          · rw [if_neg hz] at q; exact q.elim
        | _ => rw [ed, ed2] at q; exact q.elim
      | _ => rw [ed] at q; exact q.elim
end

/-! ### comprehensions -/
def wipeG {α : Type} (l : List (Option α)) : List Nat → List (Option α)
  | [] => l
  | v :: vs => (wipeG l vs).set v none
def restG {α : Type} (l0 l : List (Option α)) : List Nat → List (Option α)
  | [] => l
  | v :: vs => restG l0 (l.set v ((wipeG l0 vs)[v]?.join)) vs
theorem wipe_eq (σ : St) : ∀ vs, wipe σ vs = wipeG σ vs
  | [] => rfl
  | v :: vs => by rw [wipe, wipeG, wipe_eq σ vs]
theorem wipeG_len {α : Type} (l : List (Option α)) : ∀ vs, (wipeG l vs).length = l.length
  | [] => rfl
  | v :: vs => by rw [wipeG, List.length_set, wipeG_len l vs]
theorem wipeG_get {α : Type} (l : List (Option α)) : ∀ (vs : List Nat) (i : Nat), (wipeG l vs)[i]? = if i ∈ vs ∧ i < l.length then some none else l[i]?
  | [], i => by simp [wipeG]
  | v :: vs, i => by
    rw [wipeG]
    by_cases e : v = i
    · subst e
      by_cases hl : v < l.length
      · rw [List.getElem?_set_self (by rw [wipeG_len]; exact hl)]; simp [hl]
      · rw [List.getElem?_eq_none (by rw [List.length_set, wipeG_len]; omega)]
        simp [hl]
    · rw [List.getElem?_set_ne e, wipeG_get l vs i]
      have : ¬ i = v := fun z => e z.symm
      simp [this]
theorem dsl_wipe (sl : TS') : ∀ vs, dsl (wipeG sl vs) = wipeG (dsl sl) vs
  | [] => rfl
  | v :: vs => by rw [wipeG, wipeG, dsl_set, dsl_wipe sl vs]; rfl
theorem dsl_join (sl : TS') (v : Nat) : (sl[v]?.join).map T.d = (dsl sl)[v]?.join := by
  unfold dsl
  rw [List.getElem?_map]
  cases sl[v]? with
  | none => rfl
  | some o => cases o <;> rfl
theorem dsl_rest (sl0 : TS') : ∀ (sl : TS') (vs : List Nat), dsl (restG sl0 sl vs) = restG (dsl sl0) (dsl sl) vs
  | sl, [] => rfl
  | sl, v :: vs => by rw [restG, restG, dsl_rest sl0 _ vs, dsl_set, dsl_join, dsl_wipe]
section
variable {Γ : Gm} {F : Fr} {σ σ' : St} {H G : Hp} {sl : TS'} {tm : List T} {t : T}
theorem Abs.sig (A : Abs Γ F σ H G sl tm) (hl : σ'.length = σ.length) (hs : ∀ (i : Nat) (t : T), sl[i]? = some (some t) → σ'[i]? = σ[i]?) : Abs Γ F σ' H G sl tm :=
  ⟨A.len.trans hl.symm, fun i t h => (hs i t h).trans (A.val i t h), A.sub, A.keep, A.dom, A.g0, A.goodS, A.goodT, A.one, A.sep, A.fresh, A.tabs⟩
/-- slots are put aside, and brought back -/
theorem Abs.hide (A : Abs Γ F σ H G sl tm) : ∀ vs : List Nat, ∃ hs : List T, Abs Γ F (wipe σ vs) H G (wipeG sl vs) (hs ++ tm) ∧
    ∀ H' G' sl' tm', Abs Γ F (wipe σ vs) H' G' sl' (hs ++ tm') → Abs Γ F σ H' G' (restG sl sl' vs) tm'
  | [] => ⟨[], A, fun H' G' sl' tm' B => B⟩
  | v :: vs => by
    obtain ⟨hs, B, R⟩ := A.hide vs
    have lenB := B.len
    cases ho : (wipeG sl vs)[v]?.join with
    | none =>
      have hno : ∀ t, (wipeG sl vs)[v]? ≠ some (some t) := fun t z => by rw [z] at ho; cases ho
      refine ⟨hs, ?_, fun H' G' sl' tm' C => ?_⟩
      · have same : (wipeG sl vs).set v none = wipeG sl vs := by
          apply List.ext_getElem?
          intro j
          by_cases e : v = j
          · subst e
            cases hg : (wipeG sl vs)[v]? with
            | none => exact List.getElem?_eq_none (by rw [List.length_set]; exact List.getElem?_eq_none_iff.mp hg)
            | some o =>
              cases o with
              | some t => exact absurd hg (hno t)
              | none => rw [List.getElem?_set_self (List.getElem?_eq_some_iff.mp hg).1]
          · rw [List.getElem?_set_ne e]
        rw [wipeG, same, wipe]
        refine B.sig (by simp) fun i t h => ?_
        have : v ≠ i := fun z => hno t (z ▸ h)
        rw [List.getElem?_set_ne this]
      · rw [restG, ho]
        refine R H' G' _ tm' ?_
        have lenC := C.len
        by_cases hv : v < sl'.length
        · refine (C.forget hv).sig ?_ fun i t h => ?_
          · rw [wipe]; simp
          · have : v ≠ i := fun z => by
              subst z
              rw [List.getElem?_set_self hv] at h
              cases h
            rw [wipe, List.getElem?_set_ne this]
        · have : sl'.set v none = sl' := by
            apply List.ext_getElem?
            intro j
            by_cases e : v = j
            · subst e
              rw [List.getElem?_eq_none (by simp; omega), List.getElem?_eq_none (by omega)]
            · rw [List.getElem?_set_ne e]
          rw [this]
          refine C.sig (by rw [wipe]; simp) fun i t h => ?_
          have : v ≠ i := fun z => hv (z ▸ (List.getElem?_eq_some_iff.mp h).1)
          rw [wipe, List.getElem?_set_ne this]
    | some t =>
      have hg : (wipeG sl vs)[v]? = some (some t) := by
        cases hg : (wipeG sl vs)[v]? with
        | none => rw [hg] at ho; cases ho
        | some o => rw [hg] at ho; cases o with
          | none => cases ho
          | some u => cases ho; rfl
      have hσ := B.val v t hg
      have hv : v < (wipe σ vs).length := (List.getElem?_eq_some_iff.mp hσ).1
      refine ⟨t :: hs, ?_, fun H' G' sl' tm' C => ?_⟩
      · rw [wipeG, wipe]
        refine (B.take hg).sig (by simp) fun i u h => ?_
        have : v ≠ i := fun z => by
          subst z
          rw [List.getElem?_set_self (by rw [lenB]; exact hv)] at h
          cases h
        rw [List.getElem?_set_ne this]
      · rw [restG, ho]
        have hl : sl'.length = (wipe σ vs).length := by rw [C.len, wipe]; simp
        have C1 := C.store (i := v) (t := t) (by rw [hl]; exact hv)
        refine R H' G' _ tm' (C1.sig ?_ fun i u h => ?_)
        · rw [wipe]; simp
        · rw [wipe, List.set_set]
          by_cases e : v = i
          · subst e
            rw [List.getElem?_set_self hv, hσ]
          · rw [List.getElem?_set_ne e]
theorem Abs.wipeS (A : Abs Γ F σ H G sl tm) : ∀ vs : List Nat, Abs Γ F (wipe σ vs) H G (wipeG sl vs) tm := fun vs => by
  obtain ⟨hs, B, _⟩ := A.hide vs
  exact B.dropN
/-- a temp goes behind the temp list below it -/
theorem Abs.push {p : Addr} {ts : List T} (A : Abs Γ F σ H G sl (t :: .lst p ts :: tm)) (hz : ts.length < sizeLine) : H p = some (.lst (ts.map T.v)) ∧ Abs Γ F σ (upd H p (.lst (ts.map T.v ++ [t.v]))) G sl (.lst p (ts ++ [t]) :: tm) := by
  have g : Good Γ G H (.lst p ts) := A.goodT _ (by simp)
  have hp := g.1.1
  refine ⟨hp, ?_⟩
  have one := A.one
  have cz : ∀ a, T.cnts a (t :: .lst p ts :: tm) = t.cnt a + ((if p = a then 1 else 0) + T.cnts a ts) + T.cnts a tm := fun a => by rw [T.cnts, T.cnts, T.cnt]; omega
  have cn : ∀ a, T.cnts a (.lst p (ts ++ [t]) :: tm) = t.cnt a + ((if p = a then 1 else 0) + T.cnts a ts) + T.cnts a tm := fun a => by rw [T.cnts, T.cnt, cnts_append, T.cnts, T.cnts]; omega
  have np := one p
  rw [cz, if_pos rfl] at np
  obtain ⟨hG, _, _⟩ := A.sep p (by rw [cz, if_pos rfl]; omega)
  have gm : ∀ u : T, u.cnt p = 0 → Good Γ G H u → Good Γ G (upd H p (.lst (ts.map T.v ++ [t.v]))) u := fun u h0 gu => gu.mono (Sub.refl G) u fun a ha => upd_ne (show a ≠ p from fun z => by subst z; omega)
  refine ⟨A.len, A.val, fun a o h => ?_, fun a o h1 h2 h3 => ?_, fun a h => ?_, A.g0, fun i u h => gm u (by have := cS_get (a := p) h; omega) (A.goodS i u h), fun u hu => ?_, fun a => by rw [cn, ← cz]; exact one a, fun a ha => ?_, A.fresh, tabs_upd A.tabs hp (nTbl_lst _) (nCod_lst _)⟩
  · have : a ≠ p := fun z => by rw [z, hG] at h; cases h
    rw [upd_ne this]
    exact A.sub a o h
  · have : a ≠ p := fun z => by
      subst z
      rcases (A.sep a (by rw [cz, if_pos rfl]; omega)).2.2 with q | q
      · rw [h1] at q; cases q
      · exact h3 q
    rw [upd_ne this]
    exact A.keep a o h1 h2 h3
  · by_cases e : a = p
    · rw [e, upd_same]; exact ⟨_, rfl, nTbl_lst _⟩
    · rw [upd_ne e]; exact A.dom a h
  · rcases List.mem_cons.mp hu with rfl | hu
    · refine ⟨⟨by rw [upd_same, List.map_append]; rfl, by rw [List.length_append]; exact hz⟩, Goods_iff.mpr fun u hu => ?_⟩
      rcases List.mem_append.mp hu with hu | hu
      · exact gm u (by have := cnts_mem (a := p) hu; omega) (Goods_iff.mp g.2 u hu)
      · have : u = t := by simpa using hu
        subst this
        exact gm u (by omega) (A.goodT u List.mem_cons_self)
    · exact gm u (by have := cnts_mem (a := p) hu; omega) (A.goodT u (List.mem_cons_of_mem _ (List.mem_cons_of_mem _ hu)))
  · rw [cn, ← cz] at ha
    obtain ⟨h1, h2, h3⟩ := A.sep a ha
    refine ⟨h1, ?_, h3⟩
    by_cases e : a = p
    · rw [e, upd_same]; exact fun z => nomatch z
    · rw [upd_ne e]; exact h2
end
end L2.Pv
end
section
set_option Elab.async false
set_option linter.all false
set_option autoImplicit false
set_option maxRecDepth 100000
namespace L2.Pv
open PySem PySem.Spec PyProof.Rows

/-- a clause's tests -/
def STs (X : Cx) (Γ : Gm) (E : WX) (W : List Nat) (ifs : List Expr) (f : EvT) : Prop := X.K = Γ.K → PTs X ifs (tT Γ E W f)
theorem _root_.L2.PTs.imp {X : Cx} {e : List Expr} {t t' : TT} (h : PTs X e t) (k : ∀ σ H Q, t' σ H Q → t σ H Q) : PTs X e t' := ⟨fun pins s σ H Q I q => h.run pins s σ H Q I (k σ H Q q)⟩
def cYes : EvT := fun δ => .ok true δ
section
variable {X : Cx} {Γ : Gm} {E : WX} {W : List Nat} {e : Expr} {f : EvT}
theorem sts_nil : STs X Γ E [] [] cYes := fun _ => pts_nil.imp fun σ H Q ⟨F, G, sl, tm, A, q⟩ => q H G sl A (Sub.refl G) rfl (Keep.refl _ _)
theorem sts_one (h : SC X Γ E W e f) : STs X Γ E W [e] f := fun hK => pts_one (h hK)
end
/-- the turns of a list comprehension -/
def lcL (vs : List Nat) (ft : Eg) (fc : EvT) (fe : Ev) : List D → DS → Option (List D × DS)
  | [], δ => some ([], δ)
  | d :: ds, δ => (ft d δ).bind fun δ1 => match fc δ1 with
    | .ok true δ2 => match fe δ2 with
      | .ok y δ3 => (lcL vs ft fc fe ds (wipeG δ3 vs)).map fun p => (y :: p.1, p.2)
      | _ => none
    | .ok false δ2 => lcL vs ft fc fe ds (wipeG δ2 vs)
    | _ => none
def eLc (vs : List Nat) (fi : EvA) (ft : Eg) (fc : EvT) (fe : Ev) : Ev := fun δ => (fi δ).bd fun ds δ1 => match lcL vs ft fc fe ds (wipeG δ1 vs) with
  | some (ys, δ2) => .ok (.lst true ys) (restG δ1 δ2 vs)
  | none => .stuck
def E0' : WX := fun _ _ _ _ => False
theorem Keep.wipe {W : List Nat} (sl : TS') (vs : List Nat) (h : ∀ v ∈ vs, v ∈ W) : Keep W sl (wipeG sl vs) := fun i hi => by
  rw [wipeG_get, if_neg fun z => hi (h i z.1)]
theorem Keep.rest {W : List Nat} (sl0 : TS') : ∀ (sl : TS') (vs : List Nat), (∀ v ∈ vs, v ∈ W) → Keep W sl (restG sl0 sl vs)
  | sl, [], _ => Keep.refl _ _
  | sl, v :: vs, h => fun i hi => by
    rw [restG, Keep.rest sl0 _ vs (fun u hu => h u (List.mem_cons_of_mem _ hu)) i hi]
    rw [List.getElem?_set_ne (show v ≠ i from fun z => hi (z ▸ h v List.mem_cons_self))]
theorem Keep.mono {W W' : List Nat} {sl sl' : TS'} (k : Keep W sl sl') (h : ∀ i, i ∈ W → i ∈ W') : Keep W' sl sl' := fun i hi => k i fun z => hi (h i z)
theorem Keep.tr {W : List Nat} {sl sl1 sl2 : TS'} (a : Keep W sl sl1) (b : Keep W sl1 sl2) : Keep W sl sl2 := fun i hi => (b i hi).trans (a i hi)
theorem wipe_only {vs S : List Nat} {σ σ' : St} (o : Only S (wipe σ vs) σ') (h : ∀ i ∈ S, i ∈ vs) : wipe σ' vs = wipe σ vs := by
  apply List.ext_getElem?
  intro i
  rw [wipe_eq, wipe_eq, wipeG_get, wipeG_get]
  have hl : σ'.length = σ.length := by rw [o.1, wipe_length]
  rw [hl]
  by_cases hi : i ∈ vs
  · by_cases h2 : i < σ.length
    · rw [if_pos ⟨hi, h2⟩, if_pos ⟨hi, h2⟩]
    · rw [if_neg fun z => h2 z.2, if_neg fun z => h2 z.2, List.getElem?_eq_none (by omega), List.getElem?_eq_none (by omega)]
  · rw [if_neg fun z => hi z.1, if_neg fun z => hi z.1]
    have := o.2 i fun z => hi (h i z)
    rw [this, wipe_eq, wipeG_get, if_neg fun z => hi z.1]
section
variable {X : Cx} {Γ : Gm} {E : WX} {Wi Wc We S : List Nat} {elt tg iter : Expr} {ifs : List Expr} {scope : Scope} {own : List (Str × Nat)} {pos : Pos} {fi : EvA} {ft : Eg} {fc : EvT} {fe : Ev}
/-- the comprehension's reading -/
theorem lc_run {vs : List Nat} {σ : St} {H : Hp} {Q : VK} (hS : ∀ i ∈ S, i ∈ vs) (q : tE Γ E (Wi ++ (vs ++ (Wc ++ We))) (eLc vs fi ft fc fe) σ H Q) :
    tLc (tI Γ E Wi fi) (tG Γ S ft) (tT Γ E0' Wc fc) (tE Γ E0' We fe) vs σ H Q := by
  obtain ⟨F, G, sl, tm, A, q⟩ := q
  refine ⟨F, G, sl, tm, A, ?_⟩
  unfold eLc at q
  cases hf : fi (dsl sl) with
  | stuck => rw [hf] at q; exact q
  | exc c fs δ => rw [hf] at q; exact q
  | ok ds δ1 =>
    rw [hf, bd_ok] at q
    intro J H1 G1 sl1 A1 s1 e1 k1 gv hz D hD
    cases hl : lcL vs ft fc fe ds (wipeG δ1 vs) with
    | none => rw [hl] at q; exact q.elim
    | some r =>
      obtain ⟨ysT, δT⟩ := r
      rw [hl] at q
      dsimp only at q
      have A2 : Abs Γ F σ (upd H1 D (.lst [])) G1 sl1 (.lst D [] :: tm) := Abs.newLst (ts := []) A1 hD (Nat.zero_le _)
      obtain ⟨hsT, B, R⟩ := A1.hide vs
      have B2 : Abs Γ F (wipe σ vs) (upd H1 D (.lst [])) G1 (wipeG sl1 vs) (.lst D [] :: (hsT ++ tm)) := Abs.newLst (ts := []) B hD (Nat.zero_le _)
      refine ⟨fun i m H' => m = ds.length - i ∧ ∃ G' sl' ts ys, Abs Γ F (wipe σ vs) H' G' sl' (.lst D ts :: (hsT ++ tm)) ∧ Sub G1 G' ∧ Keep (vs ++ (Wc ++ We)) (wipeG sl1 vs) sl' ∧ ts.length ≤ i ∧
        lcL vs ft fc fe (ds.drop i) (dsl sl') = some (ys, δT) ∧ ts.map T.d ++ ys = ysT,
        ⟨_, rfl, G1, wipeG sl1 vs, [], ysT, B2, Sub.refl _, Keep.refl _ _, Nat.le_refl _, by rw [dsl_wipe, e1]; exact hl, rfl⟩, ?_⟩
      rintro i m H' ⟨rfl, G', sl', ts, ys, A', s', k', hlen, hL, hys⟩
      obtain ⟨hgo, hst⟩ := gv F _ H' G' sl' _ A' s' i
      cases hd : ds[i]? with
      | none =>
        refine .inl ⟨hst hd, ?_⟩
        rw [show ds.drop i = [] from List.drop_eq_nil_iff.mpr (List.getElem?_eq_none_iff.mp hd)] at hL
        have hL : some ([], dsl sl') = some (ys, δT) := hL
        cases hL
        rw [List.append_nil] at hys
        have C := R H' G' sl' (.lst D ts :: tm) A'.swap'
        refine q H' G' _ (.lst D ts) C (s1.trans s') (by rw [T.d, T.ds_map, hys]) (by rw [dsl_rest, e1]) (k1.trans ?_)
        -- slots outside: as they were
        intro j hj
        have hjv : j ∉ vs := fun z => hj (List.mem_append_left _ z)
        rw [Keep.rest (W := vs) sl1 sl' vs (fun _ h => h) j hjv, k' j hj, wipeG_get, if_neg fun z => hjv z.1]
      | some d =>
        obtain ⟨h1, h2⟩ := hgo d hd
        have hlt : i < ds.length := (List.getElem?_eq_some_iff.mp hd).1
        rw [drop_cons hd] at hL
        refine .inr ⟨h1, fun H'' => ∃ G' sl' ts ys, Abs Γ F (wipe σ vs) H'' G' sl' (.lst D ts :: (hsT ++ tm)) ∧ Sub G1 G' ∧ Keep (vs ++ (Wc ++ We)) (wipeG sl1 vs) sl' ∧ ts.length ≤ i + 1 ∧
          lcL vs ft fc fe (ds.drop (i + 1)) (dsl sl') = some (ys, δT) ∧ ts.map T.d ++ ys = ysT, fun H'' w => ⟨ds.length - (i + 1), by omega, rfl, w⟩, fun x H3 y => ?_⟩
        obtain ⟨G3, t, A3, s3, ev, ed⟩ := h2 x H3 y
        refine ⟨F, G3, sl', _, t, A3, ev, ?_⟩
        rw [ed]
        unfold lcL at hL
        cases hft : ft d (dsl sl') with
        | none => rw [hft] at hL; cases hL
        | some δ2 =>
          rw [hft] at hL
          intro σ4 H4 G4 sl4 A4 s4 o4 k4 e4
          refine ⟨wipe_only o4 hS, F, G4, sl4, _, A4, ?_⟩
          rw [e4]
          have hL : (match fc δ2 with
            | .ok true δ2 => match fe δ2 with
              | .ok y δ3 => (lcL vs ft fc fe (ds.drop (i + 1)) (wipeG δ3 vs)).map fun p => (y :: p.1, p.2)
              | _ => none
            | .ok false δ2 => lcL vs ft fc fe (ds.drop (i + 1)) (wipeG δ2 vs)
            | _ => none) = some (ys, δT) := hL
          -- the turn's end
          have fin : ∀ {H6 G6 : Hp} {sl6 : TS'} {ts' : List T}, Abs Γ F σ4 H6 G6 sl6 (.lst D ts' :: (hsT ++ tm)) → Abs Γ F (wipe σ vs) H6 G6 (wipeG sl6 vs) (.lst D ts' :: (hsT ++ tm)) := fun {H6 G6 sl6 ts'} A6 => by
            have := A6.wipeS vs
            rw [wipe_only o4 hS] at this
            exact this
          have inW : ∀ v ∈ vs, v ∈ vs ++ (Wc ++ We) := fun v h => List.mem_append_left _ h
          have k4' : Keep (vs ++ (Wc ++ We)) sl' sl4 := k4.mono fun i h => inW i (hS i h)
          cases hfc : fc δ2 with
          | stuck => rw [hfc] at hL; cases hL
          | exc c fs δ => rw [hfc] at hL; cases hL
          | ok b δ3 =>
            rw [hfc] at hL
            intro H5 G5 sl5 A5 s5 e5 k5
            have k5' : Keep (vs ++ (Wc ++ We)) sl4 sl5 := k5.mono fun i h => List.mem_append_right _ (List.mem_append_left _ h)
            cases b with
            | false =>
              rw [if_neg Bool.false_ne_true]
              exact ⟨G5, wipeG sl5 vs, ts, ys, fin A5, s'.trans (s3.trans (s4.trans s5)), ((k'.tr k4').tr k5').tr (Keep.wipe _ _ inW), by omega, by rw [dsl_wipe, e5]; exact hL, hys⟩
            | true =>
              rw [if_pos rfl]
              refine ⟨F, G5, sl5, _, A5, ?_⟩
              rw [e5]
              have hL : (match fe δ3 with
                | .ok y δ3 => (lcL vs ft fc fe (ds.drop (i + 1)) (wipeG δ3 vs)).map fun p => (y :: p.1, p.2)
                | _ => none) = some (ys, δT) := hL
              cases hfe : fe δ3 with
              | stuck => rw [hfe] at hL; cases hL
              | exc c fs δ => rw [hfe] at hL; cases hL
              | ok y' δ4 =>
                rw [hfe] at hL
                intro H6 G6 sl6 t6 A6 s6 e6 e6' k6
                have hlt2 : ts.length < sizeLine := by omega
                obtain ⟨hp, A7⟩ := A6.push hlt2
                refine ⟨ts.map T.v, hp, by rw [List.length_map]; exact hlt2, ?_⟩
                have k6' : Keep (vs ++ (Wc ++ We)) sl5 sl6 := k6.mono fun i h => List.mem_append_right _ (List.mem_append_right _ h)
                have hL : (lcL vs ft fc fe (ds.drop (i + 1)) (wipeG δ4 vs)).map (fun p => (y' :: p.1, p.2)) = some (ys, δT) := hL
                cases hr : lcL vs ft fc fe (ds.drop (i + 1)) (wipeG δ4 vs) with
                | none => rw [hr] at hL; cases hL
                | some pr =>
                  rw [hr] at hL
                  have hL : some (y' :: pr.1, pr.2) = some (ys, δT) := hL
                  cases hL
                  refine ⟨G6, wipeG sl6 vs, ts ++ [t6], pr.1, fin A7, s'.trans (s3.trans (s4.trans (s5.trans s6))), (((k'.tr k4').tr k5').tr k6').tr (Keep.wipe _ _ inW), by simp; omega, by rw [dsl_wipe, e6', hr], ?_⟩
                  rw [← hys, List.map_append, List.append_assoc]
                  rw [show List.map T.d [t6] = [y'] by rw [← e6]; rfl]
                  rfl
theorem se_lc (hc : X.calm = true) (hN : X.N.Nodup) (hi : SI X Γ E Wi tg iter fi) (ok : BlkOk X.N X.env.scope scope own)
    (hg : ∀ (s : Shared) (H : Hp) (C : Addr) (cl : List (Str × Addr)) (fp : List Addr), SG (X.blk s H scope (compEnvC scope cl C X.env) fp) Γ S tg ft)
    (ht : ∀ (s : Shared) (H : Hp) (C : Addr) (cl : List (Str × Addr)) (fp : List Addr), STs (X.blk s H scope (compEnvC scope cl C X.env) fp) Γ E0' Wc ifs fc)
    (he : ∀ (s : Shared) (H : Hp) (C : Addr) (cl : List (Str × Addr)) (fp : List Addr), SE (X.blk s H scope (compEnvC scope cl C X.env) fp) Γ E0' We elt fe) (hs : ∀ x, foldedSetIterable iter X.env x = pure x)
    (hS : ∀ i ∈ S, i ∈ own.map (·.2)) :
    SE X Γ E (Wi ++ (own.map (·.2) ++ (Wc ++ We))) (.ListComp elt [⟨tg, iter, ifs, 0⟩] scope pos) (eLc (own.map (·.2)) fi ft fc fe) := fun hK =>
  (pe_lc hc hN (hi hK) ok (fun s H C cl fp => hg s H C cl fp hK) (fun s H C cl fp => ht s H C cl fp hK) (fun s H C cl fp => he s H C cl fp hK) hs).imp fun σ H Q q => lc_run hS q
/-- y = [..], y a local name -/
theorem ss_setLc {P : List Nat} {i : Nat} {y : Str} {py spos : Pos} (hc : X.calm = true) (hN : X.N.Nodup) (hy : X.N[i]? = some y) (hyl : X.env.scope.names.lookup y = some .local)
    (hsw : swapsWith (.ListComp elt [⟨tg, iter, ifs, 0⟩] scope pos) (some (.Name y py)) spos.line X.env = pure true) (hi : SI X Γ E Wi tg iter fi) (ok : BlkOk X.N X.env.scope scope own)
    (hg : ∀ (s : Shared) (H : Hp) (C : Addr) (cl : List (Str × Addr)) (fp : List Addr), SG (X.blk s H scope (compEnvC scope cl C X.env) fp) Γ S tg ft)
    (ht : ∀ (s : Shared) (H : Hp) (C : Addr) (cl : List (Str × Addr)) (fp : List Addr), STs (X.blk s H scope (compEnvC scope cl C X.env) fp) Γ E0' Wc ifs fc)
    (he : ∀ (s : Shared) (H : Hp) (C : Addr) (cl : List (Str × Addr)) (fp : List Addr), SE (X.blk s H scope (compEnvC scope cl C X.env) fp) Γ E0' We elt fe) (hs : ∀ x, foldedSetIterable iter X.env x = pure x)
    (hS : ∀ i ∈ S, i ∈ own.map (·.2)) (hp : i ∉ P) :
    SS X Γ E P (.Assign [.Name y py] (.ListComp elt [⟨tg, iter, ifs, 0⟩] scope pos) spos) (sSet i (eLc (own.map (·.2)) fi ft fc fe)) := fun hK =>
  (ps_setLc hc hN hy hyl hsw (hi hK) ok (fun s H C cl fp => hg s H C cl fp hK) (fun s H C cl fp => ht s H C cl fp hK) (fun s H C cl fp => he s H C cl fp hK) hs).imp fun Z σ H ⟨F, G, sl, tm, A, q⟩ =>
  lc_run (E := E) hS (e_run A q fun d δ H' G' sl' t A' s ed e _ q' => PostS.put A' hp (by rw [ed, e]; exact q'))
end
end L2.Pv
end
section
set_option Elab.async false
set_option linter.all false
set_option maxRecDepth 100000
set_option maxHeartbeats 4000000
namespace L2
open PySem PySem.Spec PyProof.Rows
/-! ### t * 1, t * 0 -/
theorem tuple_mul_one (l : Addr) (items : Array Value) (n : Nat) (dd : Option Addr) (sl : Array (Option Value)) (u : Tok) :
    Meets (Builtin.«tuple.__mul__» ⟨[.ref l, .int 1 u], []⟩) (fun _ R s => s.heap.get? l = some { cls := .type "tuple", dict := dd, data := .seq items n, slots := sl } ∧ R (.ok (.ret (Value.ref l))) s) :=
  .of_wp fun prog w A R s h => by
    obtain ⟨hp, g, d, tk, os⟩ := s
    obtain ⟨hl, h⟩ := h
    have f1 := AutoSeq1.idx_int
    have c1 : (items.isEmpty || (1 : Int) == 1) = true := by simp
    wp_walk using wpAny_loadPart' hl
    repeat (first
      | (refine wpAny_ite_false (decide_eq_false (by decide)) ?_; wp_walk using wpAny_loadPart' hl)
      | (refine wpAny_ite_true (decide_eq_true (by rw [c1])) ?_; wp_walk using wpAny_loadPart' hl))
    exact ⟨_, rfl, h⟩
theorem tuple_mul_nought (l : Addr) (items : Array Value) (n : Nat) (dd : Option Addr) (sl : Array (Option Value)) (x : Int) (u : Tok) (c0 : (decide (x < -(2 ^ 63)) || decide (x ≥ 2 ^ 63)) = false) (c1 : (items.isEmpty || x == 1) = false) (c2 : (decide (x ≤ 0) || items.isEmpty) = true) :
    Meets (Builtin.«tuple.__mul__» ⟨[.ref l, .int x u], []⟩) (fun _ R s => s.heap.get? l = some { cls := .type "tuple", dict := dd, data := .seq items n, slots := sl } ∧
      R (.ok (.ret (Value.ref s.heap.objs.size))) { s with heap := s.heap.push { cls := Value.type "tuple", data := Data.seq #[] }, toks := s.toks }) :=
  .of_wp fun prog w A R s h => by
    obtain ⟨hp, g, d, tk, os⟩ := s
    obtain ⟨hl, h⟩ := h
    have f1 := AutoSeq1.idx_int
    wp_walk using wpAny_loadPart' hl
    repeat (first
      | (refine wpAny_ite_false (decide_eq_false (by rw [c0]; exact Bool.false_ne_true)) ?_; wp_walk using wpAny_loadPart' hl)
      | (refine wpAny_ite_false (decide_eq_false (by rw [c1]; exact Bool.false_ne_true)) ?_; wp_walk using wpAny_loadPart' hl)
      | (refine wpAny_ite_true (decide_eq_true c2) ?_; wp_walk using wpAny_loadPart' hl))
    exact ⟨_, rfl, h⟩
def rRepA (K : PySem.W.Frag) : R2 := fun x y H Q => ∃ l k xs, x = .ref l ∧ y = .int k ∧ SqT K H l xs ∧ xs ≠ [] ∧ -1000 ≤ k ∧ k ≤ 1000 ∧ xs.length ≤ 1000 ∧ (k = 1 → Q (.ref l) H) ∧ (k ≠ 1 → ∀ p, H p = none → Q (.ref p) (upd H p (.tup (List.replicate k.toNat xs).flatten)))
theorem op_repA {X : Cx} : OpR X (binaryOp .Mult) (rRepA X.K) := by
  intro pins s σ H x y v u Q I rx ry h
  obtain ⟨l, k, xs, ex, ey, hT, hne, h1, h2, hz, q1, q2⟩ := h
  by_cases k2 : 2 ≤ k
  · exact op_repT pins s σ H x y v u Q I rx ry ⟨l, k, xs, ex, ey, hT, hne, k2, h2, hz, q2 (by omega)⟩
  · subst ex; subst ey
    cases rx
    obtain ⟨t, rfl⟩ := ry
    obtain ⟨its, r, ⟨⟨cls, dd, data, sl⟩, ho, hc, n, hd⟩, hs⟩ := I.tuple hT
    simp only at hc hd
    subst hc hd
    have hle : its.length = xs.length := r.length.symm
    have hn : its ≠ [] := fun e => hne (by
      rw [e] at hle
      exact List.eq_nil_of_length_eq_zero hle.symm)
    have hi : its.toArray.isEmpty = false := by
      cases its with
      | nil => exact absurd rfl hn
      | cons a b => rfl
    by_cases k1 : k = 1
    · subst k1
      refine wpAny_binaryOp_repeat_ref (T := "tuple") (U := "int") (by decide) ⟨_, ho, rfl⟩ (fun s' => typeIs_int s' 1 t) noFill_tuple_mul F.fills_int_mul F.slot_int_rmul repeat_tuple F.slot_int_index.lookup
        (call_meets F.slot_int_rmul (typeIs_int s 1 t) F.entry_int_rmul (F.args_int_rmul_2 _ _) (int_rmul_tuple 1 t l its.toArray n dd sl)
          ⟨ho, rfl, ⟨_, ho, rfl⟩, call_meets F.slot_tuple_mul ⟨_, ho, rfl⟩ F.entry_tuple_mul (F.args_tuple_mul_2 _ _) (tuple_mul_one l its.toArray n dd sl t) ⟨ho, ?_⟩⟩)
      exact ⟨.ref l, H, I, rfl, q1 rfl⟩
    · have k0 : k ≤ 0 := by omega
      have c0 : (decide (k < -(2 ^ 63)) || decide (k ≥ 2 ^ 63)) = false := by
        rw [decide_eq_false (by omega), decide_eq_false (by omega)] <;> rfl
      have c1 : (its.toArray.isEmpty || k == 1) = false := by
        rw [hi, Bool.false_or]
        exact beq_eq_false_iff_ne.mpr k1
      have c2 : (decide (k ≤ 0) || its.toArray.isEmpty) = true := by
        rw [decide_eq_true k0]; rfl
      refine wpAny_binaryOp_repeat_ref (T := "tuple") (U := "int") (by decide) ⟨_, ho, rfl⟩ (fun s' => typeIs_int s' k t) noFill_tuple_mul F.fills_int_mul F.slot_int_rmul repeat_tuple F.slot_int_index.lookup
        (call_meets F.slot_int_rmul (typeIs_int s k t) F.entry_int_rmul (F.args_int_rmul_2 _ _) (int_rmul_tuple k t l its.toArray n dd sl)
          ⟨ho, rfl, ⟨_, ho, rfl⟩, call_meets F.slot_tuple_mul ⟨_, ho, rfl⟩ F.entry_tuple_mul (F.args_tuple_mul_2 _ _) (tuple_mul_nought l its.toArray n dd sl k t c0 c1 c2) ⟨ho, ?_⟩⟩)
      have kz : k.toNat = 0 := by omega
      have q2 := q2 k1
      rw [kz] at q2
      exact ⟨.ref s.heap.objs.size, _, I.laid (t' := s.toks) (o := .tup []) (fun b ob q => Heap.get?_push_of_some _ q) (Nat.le_refl _) ⟨Nat.zero_le _, [], .nil, IsTup.new _ _⟩, rfl, q2 _ (I.hok.fresh (Nat.le_refl _))⟩
end L2
end
section
set_option Elab.async false
set_option linter.all false
set_option autoImplicit false
set_option maxRecDepth 100000
namespace L2.Pv
open PySem PySem.Spec PyProof.Rows

/-! ### sequences, read -/
def nOwn (d : D) : Bool := !d.own
mutual
/-- by the whole heap, flags aside -/
def View (Γ : Gm) (H : Hp) (v : V) : D → Prop
  | .non => v = .non
  | .bl b => v = .bl b
  | .int i => v = .int i
  | .str x => v = .str x
  | .tup ds => ds.length ≤ sizeLine ∧ ∃ a vs, v = .ref a ∧ SqT Γ.K H a vs ∧ Views Γ H vs ds
  | .lst _ ds => ds.length ≤ sizeLine ∧ ∃ a vs, v = .ref a ∧ H a = some (.lst vs) ∧ Views Γ H vs ds
  | .scr ns => ns.length ≤ sizeLine ∧ ∃ a, v = .ref a ∧ SqL Γ.K H a (ns.map V.int)
  | .fn f => v = .ref (Γ.fa f)
  | .rf a => v = .ref a
  | .lam a _ _ => v = .ref a
  | .ldc ks ds => (ds.length ≤ sizeLine ∧ ks.fit ds.length) ∧ ∃ a vs o, v = .ref a ∧ H a = some (.frz o (dicHO ks vs)) ∧ Views Γ H vs ds
  | .dic _ ks ds => (ds.length ≤ sizeLine ∧ ks.fit ds.length) ∧ ∃ a vs, v = .ref a ∧ H a = some (dicHO ks vs) ∧ Views Γ H vs ds
  | .obj _ c ds => ds.length ≤ 900 ∧ ∃ a dx vs, v = .ref a ∧ H a = some (.ins (Γ.ca c) dx ((Γ.fl c).zip vs)) ∧ H dx = some (.own a) ∧ Views Γ H vs ds
def Views (Γ : Gm) (H : Hp) (vs : List V) : List D → Prop
  | [] => vs = []
  | d :: ds => ∃ v r, vs = v :: r ∧ View Γ H v d ∧ Views Γ H r ds
end
mutual
theorem Rep.view {Γ : Gm} {G H : Hp} (s : Sub G H) : ∀ {v : V} (d : D), Rep Γ G v d → View Γ H v d
  | _, .non, h => h
  | _, .bl _, h => h
  | _, .int _, h => h
  | _, .str _, h => h
  | _, .tup ds, ⟨z, a, vs, e, q, r⟩ => ⟨z, a, vs, e, sqT_of s q, Reps.view s ds r⟩
  | _, .lst o ds, ⟨z, a, vs, e, q, r⟩ => ⟨z.2, a, vs, e, s _ _ q, Reps.view s ds r⟩
  | _, .scr ns, ⟨z, a, e, q⟩ => ⟨z, a, e, sqL_mono s q⟩
  | _, .fn _, h => h
  | _, .rf _, h => h
  | _, .lam _ _ _, h => h.1
  | _, .ldc ks ds, ⟨z, a, vs, o, e, q, r⟩ => ⟨z, a, vs, o, e, s _ _ q, Reps.view s ds r⟩
  | _, .dic o ks ds, ⟨z, a, vs, e, q, r⟩ => ⟨z.2, a, vs, e, s _ _ q, Reps.view s ds r⟩
  | _, .obj o c ds, ⟨z, a, dx, vs, e, q, q2, r⟩ => ⟨z.2, a, dx, vs, e, s _ _ q, s _ _ q2, Reps.view s ds r⟩
theorem Reps.view {Γ : Gm} {G H : Hp} (s : Sub G H) : ∀ {vs : List V} (ds : List D), Reps Γ G vs ds → Views Γ H vs ds
  | _, [], h => h
  | _, d :: ds, ⟨v, r, e, h1, h2⟩ => ⟨v, r, e, Rep.view s d h1, Reps.view s ds h2⟩
end
mutual
theorem Good.view {Γ : Gm} {G H : Hp} (s : Sub G H) : ∀ (t : T), Good Γ G H t → View Γ H t.v t.d
  | .leaf v d, h => Rep.view s d h
  | .lst a xs, h => ⟨by rw [T.ds_map, List.length_map]; exact h.1.2, a, xs.map T.v, rfl, h.1.1, Goods.view s xs h.2⟩
  | .dic a ks xs, h => ⟨by rw [T.ds_map, List.length_map]; exact h.1.2, a, xs.map T.v, rfl, h.1.1, Goods.view s xs h.2⟩
  | .obj a dx c xs, h => ⟨by rw [T.ds_map, List.length_map]; exact h.1.2.2, a, dx, xs.map T.v, rfl, h.1.1, h.1.2.1, Goods.view s xs h.2⟩
theorem Goods.view {Γ : Gm} {G H : Hp} (s : Sub G H) : ∀ (ts : List T), Goods Γ G H ts → Views Γ H (ts.map T.v) (T.ds ts)
  | [], _ => rfl
  | t :: ts, h => ⟨t.v, ts.map T.v, rfl, Good.view s t h.1, Goods.view s ts h.2⟩
end
theorem Views.len {Γ : Gm} {H : Hp} : ∀ {vs : List V} {ds : List D}, Views Γ H vs ds → vs.length = ds.length
  | vs, [], h => by rw [show vs = [] from h]; rfl
  | _, d :: ds, h => by
    obtain ⟨v, r, e, _, h2⟩ := h
    subst e
    simp [Views.len h2]
theorem Views.get {Γ : Gm} {H : Hp} : ∀ {vs : List V} {ds : List D} {i : Nat} {d : D}, Views Γ H vs ds → ds[i]? = some d → ∃ v, vs[i]? = some v ∧ View Γ H v d
  | _, [], _, _, _, h => by simp at h
  | _, d :: ds, i, x, h, g => by
    obtain ⟨v, r, e, h1, h2⟩ := h
    subst e
    cases i with
    | zero => simp at g; subst g; exact ⟨v, by simp, h1⟩
    | succ i => simpa using Views.get h2 (by simpa using g)
theorem ints_views {Γ : Gm} {H : Hp} : ∀ {ns : List Int} {vs : List V}, Views Γ H vs (ns.map D.int) → vs = ns.map V.int
  | [], vs, h => h
  | n :: ns, vs, h => by
    obtain ⟨v, r, e, h1, h2⟩ := h
    subst e
    rw [show v = V.int n from h1, ints_views h2]
    rfl
/-- a list none of whose items is owned, a tuple: its items by the frozen part -/
theorem lst_of {Γ : Gm} {G H : Hp} (s : Sub G H) {t : T} {o : Bool} {ds : List D} (g : Good Γ G H t) (e : t.d = .lst o ds) (h : ds.all nOwn = true) : ds.length ≤ sizeLine ∧ ∃ a vs, t.v = .ref a ∧ H a = some (.lst vs) ∧ Reps Γ G vs ds := by
  cases t with
  | leaf v d =>
    have e : d = .lst o ds := e
    subst e
    obtain ⟨z, a, vs, ev, q, r⟩ := g
    exact ⟨z.2, a, vs, ev, s _ _ q, r⟩
  | lst a xs =>
    have e : D.lst true (T.ds xs) = .lst o ds := e
    cases e
    refine ⟨by rw [T.ds_map, List.length_map]; exact g.1.2, a, xs.map T.v, rfl, g.1.1, ?_⟩
    have go : ∀ xs : List T, Goods Γ G H xs → (T.ds xs).all nOwn = true → Reps Γ G (xs.map T.v) (T.ds xs) := by
      intro xs
      induction xs with
      | nil => intro _ _; rfl
      | cons x xs ih =>
        intro gx hx
        rw [T.ds, List.all_cons, Bool.and_eq_true] at hx
        refine ⟨x.v, xs.map T.v, rfl, ?_, ih gx.2 hx.2⟩
        have el := leaf_of_own gx.1 (by simpa [nOwn] using hx.1)
        have g1 := gx.1
        rw [el] at g1
        exact g1
    exact go xs g.2 h
  | dic a ks xs => exact nomatch e
  | obj a dx c xs => exact nomatch e
theorem tup_of {Γ : Gm} {G H : Hp} {t : T} {ds : List D} (g : Good Γ G H t) (e : t.d = .tup ds) : ds.length ≤ sizeLine ∧ ∃ a vs, t.v = .ref a ∧ G a = some (.tup vs) ∧ Reps Γ G vs ds := by
  have el := leaf_of_own g (by rw [e]; rfl)
  rw [el, e] at g
  exact g

/-! ### what is handed on -/
section
variable {Γ : Gm} {F : Fr} {σ : St} {H G : Hp} {sl : TS'} {tm : List T} {Q : VK}
theorem Hands.tup {ds : List D} (h : Hands Γ F σ G sl tm (.tup ds) Q) (A : Abs Γ F σ H G sl tm) {vs : List V} (r : Reps Γ G vs ds) (hz : ds.length ≤ sizeLine) {p : Addr} (hp : H p = none) : Q (.ref p) (upd H p (.tup vs)) := by
  have B := A.newFrz (o := .tup vs) hp (fun _ z => nomatch z)
  obtain ⟨n1, _⟩ := A.new0 hp
  have s1 : Sub G (upd G p (.tup vs)) := fun a u h => by rw [upd_ne (ne_of_none h n1)]; exact h
  exact h _ _ (.leaf (.ref p) (.tup ds)) (B.leaf ⟨hz, p, vs, rfl, upd_same, Reps.mono s1 ds r⟩) s1 rfl
theorem Hands.lst {ds : List D} (h : Hands Γ F σ G sl tm (.lst true ds) Q) (A : Abs Γ F σ H G sl tm) {vs : List V} (r : Reps Γ G vs ds) (hz : ds.length ≤ sizeLine) {p : Addr} (hp : H p = none) : Q (.ref p) (upd H p (.lst vs)) := by
  obtain ⟨ts, B, e1, e2⟩ := A.leaves r
  have C := B.newLst (p := p) hp (by rw [← List.length_map (f := T.d), e2]; exact hz)
  rw [e1] at C
  exact h _ _ (.lst p ts) C (Sub.refl G) (by rw [T.d, T.ds_map, e2])
end

/-! ### arithmetic -/
def dAdd (a b : D) : Option D := match a, b with
  | .int i, .int j => some (.int (i + j))
  | .tup xs, .tup ys => if xs.length + ys.length ≤ sizeLine then some (.tup (xs ++ ys)) else none
  | .lst _ xs, .lst _ ys => if xs.length + ys.length ≤ sizeLine ∧ xs.all nOwn = true ∧ ys.all nOwn = true then some (.lst true (xs ++ ys)) else none
  | .str x, .str y => if x.length + y.length ≤ sizeLine then some (.str (x ++ y)) else none
  | _, _ => none
def dSub (a b : D) : Option D := match a, b with
  | .int i, .int j => some (.int (i - j))
  | _, _ => none
def mulOk (i j : Int) : Bool := (decide (-(2 ^ 64) < i) && decide (i < 2 ^ 64)) || (decide (-(2 ^ 64) < j) && decide (j < 2 ^ 64))
def dMul (a b : D) : Option D := match a, b with
  | .int i, .int j => if mulOk i j then some (.int (i * j)) else none
  | .lst _ xs, .int k => if -1000 ≤ k ∧ k ≤ 1000 ∧ xs.length ≤ 1000 ∧ xs.all nOwn = true then some (.lst true (List.replicate k.toNat xs).flatten) else none
  | .tup xs, .int k => if xs ≠ [] ∧ -1000 ≤ k ∧ k ≤ 1000 ∧ xs.length ≤ 1000 then some (.tup (List.replicate k.toNat xs).flatten) else none
  | _, _ => none
def dFdiv (a b : D) : Option D := match a, b with
  | .int i, .int j => if 0 < j ∧ j < 1073741824 then some (.int (i / j)) else none
  | _, _ => none
def dMod (a b : D) : Option D := match a, b with
  | .int i, .int j => if 0 < j then some (.int (i % j)) else none
  | _, _ => none
def dPow (a b : D) : Option D := match a, b with
  | .int i, .int j => if 0 ≤ j ∧ j ≤ 1000000 ∧ i.natAbs < 2 ^ 64 then some (.int (i ^ j.toNat)) else none
  | _, _ => none
def dNeg (a : D) : Option D := match a with
  | .int i => some (.int (-i))
  | _ => none
theorem Reps.rep {Γ : Gm} {G : Hp} {vs : List V} {ds : List D} (r : Reps Γ G vs ds) : ∀ k : Nat, Reps Γ G (List.replicate k vs).flatten (List.replicate k ds).flatten
  | 0 => rfl
  | k + 1 => by
    rw [List.replicate_succ, List.replicate_succ, List.flatten_cons, List.flatten_cons]
    exact r.append (r.rep k)
theorem flat_len {α : Type} (xs : List α) (k : Nat) : (List.replicate k xs).flatten.length = k * xs.length := by simp
theorem sz1000 {a b : Nat} (ha : a ≤ 1000) (hb : b ≤ 1000) : a * b ≤ sizeLine := by
  rw [sizeLine_eq]
  have : a * b ≤ 1000 * 1000 := Nat.mul_le_mul ha hb
  omega
theorem sz_lt {n : Nat} (h : n ≤ 1000) : n < 2 ^ 62 := by omega
section
variable {X : Cx} {Γ : Gm}
theorem o_add : Op2 X Γ (binaryOp .Add) dAdd := fun hK => by
  refine ⟨_, ((op_add.or op_catA).or op_cat).or op_add_str, ?_⟩
  rintro F σ H G sl tm ta tb d Q A g1 g2 hg h
  unfold dAdd at hg
  split at hg
  · rename_i i j e1 e2
    cases hg
    exact .inl (.inl (.inl ⟨i, j, int_of g1 e1, int_of g2 e2, h.here A rfl⟩))
  · rename_i xs ys e1 e2
    split at hg
    · rename_i hz
      cases hg
      obtain ⟨z1, a, vs, ev1, q1, r1⟩ := tup_of g1 e1
      obtain ⟨z2, b, ws, ev2, q2, r2⟩ := tup_of g2 e2
      refine .inl (.inl (.inr ⟨a, b, vs, ws, ev1, ev2, by rw [hK]; exact sqT_of A.sub q1, by rw [hK]; exact sqT_of A.sub q2, by rw [r1.len, r2.len]; exact hz, fun hx => ?_, fun _ hy => ?_, fun _ _ p hp => ?_⟩))
      · have : xs = [] := List.eq_nil_of_length_eq_zero (by rw [← r1.len, hx]; rfl)
        subst this
        have g2' : Rep Γ G (.ref b) (.tup ys) := ⟨z2, b, ws, rfl, q2, r2⟩
        exact h.here A g2'
      · have : ys = [] := List.eq_nil_of_length_eq_zero (by rw [← r2.len, hy]; rfl)
        subst this
        rw [List.append_nil] at h
        have g1' : Rep Γ G (.ref a) (.tup xs) := ⟨z1, a, vs, rfl, q1, r1⟩
        exact h.here A g1'
      · exact h.tup A (r1.append r2) (by rw [List.length_append]; exact hz) hp
    · cases hg
  · rename_i o1 xs o2 ys e1 e2
    split at hg
    · rename_i hz
      cases hg
      obtain ⟨z1, a, vs, ev1, q1, r1⟩ := lst_of A.sub g1 e1 hz.2.1
      obtain ⟨z2, b, ws, ev2, q2, r2⟩ := lst_of A.sub g2 e2 hz.2.2
      exact .inl (.inr ⟨a, b, vs, ws, ev1, ev2, q1, q2, by rw [r1.len, r2.len]; exact hz.1, fun p hp => h.lst A (r1.append r2) (by rw [List.length_append]; exact hz.1) hp⟩)
    · cases hg
  · rename_i x y e1 e2
    split at hg
    · rename_i hz
      cases hg
      exact .inr ⟨x, y, str_of g1 e1, str_of g2 e2, hz, h.here A rfl⟩
    · cases hg
  · cases hg
theorem o_sub : Op2 X Γ (binaryOp .Sub) dSub := fun hK => by
  refine ⟨_, op_sub, ?_⟩
  rintro F σ H G sl tm ta tb d Q A g1 g2 hg h
  unfold dSub at hg
  split at hg
  · rename_i i j e1 e2
    cases hg
    exact ⟨i, j, int_of g1 e1, int_of g2 e2, h.here A rfl⟩
  · cases hg
theorem o_mul : Op2 X Γ (binaryOp .Mult) dMul := fun hK => by
  refine ⟨_, (op_mul.or op_rep).or op_repA, ?_⟩
  rintro F σ H G sl tm ta tb d Q A g1 g2 hg h
  unfold dMul at hg
  split at hg
  · rename_i i j e1 e2
    split at hg
    · rename_i hz
      cases hg
      unfold mulOk at hz
      rw [Bool.or_eq_true, Bool.and_eq_true, Bool.and_eq_true, decide_eq_true_eq, decide_eq_true_eq, decide_eq_true_eq, decide_eq_true_eq] at hz
      exact .inl (.inl ⟨i, j, int_of g1 e1, int_of g2 e2, hz, h.here A rfl⟩)
    · cases hg
  · rename_i o xs k e1 e2
    split at hg
    · rename_i hz
      cases hg
      obtain ⟨z1, a, vs, ev1, q1, r1⟩ := lst_of A.sub g1 e1 hz.2.2.2
      have hk : k.toNat ≤ 1000 := by omega
      refine .inl (.inr ⟨a, k, vs, ev1, int_of g2 e2, q1, by omega, by omega, ?_, fun p hp => h.lst A (r1.rep _) ?_ hp⟩)
      · rw [r1.len]; exact sz1000 hz.2.2.1 hk
      · rw [flat_len]; exact sz1000 hk hz.2.2.1
    · cases hg
  · rename_i xs k e1 e2
    split at hg
    · rename_i hz
      cases hg
      obtain ⟨z1, a, vs, ev1, q1, r1⟩ := tup_of g1 e1
      have hk : k.toNat ≤ 1000 := by omega
      refine .inr ⟨a, k, vs, ev1, int_of g2 e2, by rw [hK]; exact sqT_of A.sub q1, fun z => hz.1 (List.eq_nil_of_length_eq_zero (by rw [← r1.len, z]; rfl)), hz.2.1, hz.2.2.1, by rw [r1.len]; exact hz.2.2.2, fun k1 => ?_, fun _ p hp => h.tup A (r1.rep _) ?_ hp⟩
      · subst k1
        have e : (List.replicate (1 : Int).toNat xs).flatten = xs := by simp [List.replicate]
        rw [e] at h
        have g1' : Rep Γ G (.ref a) (.tup xs) := ⟨z1, a, vs, rfl, q1, r1⟩
        exact h.here A g1'
      · rw [flat_len]; exact sz1000 hk hz.2.2.2
    · cases hg
  · cases hg
theorem o_fdiv : Op2 X Γ (binaryOp .FloorDiv) dFdiv := fun hK => by
  refine ⟨_, op_fdiv, ?_⟩
  rintro F σ H G sl tm ta tb d Q A g1 g2 hg h
  unfold dFdiv at hg
  split at hg
  · rename_i i j e1 e2
    split at hg
    · rename_i hz
      cases hg
      exact ⟨i, j, int_of g1 e1, int_of g2 e2, hz, h.here A rfl⟩
    · cases hg
  · cases hg
theorem o_mod : Op2 X Γ (binaryOp .Mod) dMod := fun hK => by
  refine ⟨_, op_mod, ?_⟩
  rintro F σ H G sl tm ta tb d Q A g1 g2 hg h
  unfold dMod at hg
  split at hg
  · rename_i i j e1 e2
    split at hg
    · rename_i hz
      cases hg
      exact ⟨i, j, int_of g1 e1, int_of g2 e2, hz, h.here A rfl⟩
    · cases hg
  · cases hg
theorem o_pow : Op2 X Γ (binaryOp .Pow) dPow := fun hK => by
  refine ⟨_, op_pow, ?_⟩
  rintro F σ H G sl tm ta tb d Q A g1 g2 hg h
  unfold dPow at hg
  split at hg
  · rename_i i j e1 e2
    split at hg
    · rename_i hz
      cases hg
      exact ⟨i, j, int_of g1 e1, int_of g2 e2, hz, h.here A rfl⟩
    · cases hg
  · cases hg
theorem o_neg : Op1 X Γ (unaryOp .USub) dNeg := fun hK => by
  refine ⟨_, un_neg, ?_⟩
  rintro F σ H G sl tm ta d Q A g1 hg h
  unfold dNeg at hg
  split at hg
  · rename_i i e1
    cases hg
    exact ⟨i, int_of g1 e1, h.here A rfl⟩
  · cases hg
/-! ### order, is -/
def dLt (a b : D) : Option D := match a, b with
  | .int i, .int j => some (.bl (decide (i < j)))
  | _, _ => none
def dLe (a b : D) : Option D := match a, b with
  | .int i, .int j => some (.bl (decide (i ≤ j)))
  | _, _ => none
def dGt (a b : D) : Option D := match a, b with
  | .int i, .int j => some (.bl (decide (j < i)))
  | _, _ => none
def dGe (a b : D) : Option D := match a, b with
  | .int i, .int j => some (.bl (decide (j ≤ i)))
  | _, _ => none
theorem o_ints {op : CmpOp} {p : Int → Int → Bool} {g : D → D → Option D} (ho : OpR X (compareOp op) (rI0 fun i j => .bl (p i j))) (hg : ∀ a b d, g a b = some d → ∃ i j, a = .int i ∧ b = .int j ∧ d = .bl (p i j)) : Op2 X Γ (compareOp op) g := fun hK => by
  refine ⟨_, ho, ?_⟩
  rintro F σ H G sl tm ta tb d Q A g1 g2 e h
  obtain ⟨i, j, e1, e2, ed⟩ := hg _ _ _ e
  subst ed
  exact ⟨i, j, int_of g1 e1, int_of g2 e2, h.here A rfl⟩
theorem o_lt : Op2 X Γ (compareOp .Lt) dLt := o_ints op_lt fun a b d h => by
  unfold dLt at h
  split at h
  · cases h; exact ⟨_, _, rfl, rfl, rfl⟩
  · cases h
theorem o_le : Op2 X Γ (compareOp .LtE) dLe := o_ints op_le fun a b d h => by
  unfold dLe at h
  split at h
  · cases h; exact ⟨_, _, rfl, rfl, rfl⟩
  · cases h
theorem o_gt : Op2 X Γ (compareOp .Gt) dGt := o_ints op_gt fun a b d h => by
  unfold dGt at h
  split at h
  · cases h; exact ⟨_, _, rfl, rfl, rfl⟩
  · cases h
theorem o_ge : Op2 X Γ (compareOp .GtE) dGe := o_ints op_ge fun a b d h => by
  unfold dGe at h
  split at h
  · cases h; exact ⟨_, _, rfl, rfl, rfl⟩
  · cases h
def isNon : D → Bool
  | .non => true
  | _ => false
def dIs (a b : D) : Option D := match b with
  | .non => some (.bl (isNon a))
  | .bl y => match a with
    | .bl x => some (.bl (decide (x = y)))
    | _ => none
  | _ => none
def dIsN (a b : D) : Option D := match b with
  | .non => some (.bl (!isNon a))
  | .bl y => match a with
    | .bl x => some (.bl (!decide (x = y)))
    | _ => none
  | _ => none
theorem isNon_v {G H : Hp} {t : T} (g : Good Γ G H t) : decide (t.v = .non) = isNon t.d := by
  cases t with
  | lst a xs => rfl
  | dic a ks xs => rfl
  | obj a dx c xs => rfl
  | leaf v d =>
    have g : Rep Γ G v d := g
    show decide (v = .non) = isNon d
    cases d with
    | non => rw [show v = .non from g]; rfl
    | bl b => rw [show v = .bl b from g]; rfl
    | int b => rw [show v = .int b from g]; rfl
    | str b => rw [show v = .str b from g]; rfl
    | tup ds => obtain ⟨_, a, vs, e, _⟩ := g; rw [e]; rfl
    | lst o ds => obtain ⟨_, a, vs, e, _⟩ := g; rw [e]; rfl
    | scr ds => obtain ⟨_, a, e, _⟩ := g; rw [e]; rfl
    | fn f => rw [show v = .ref (Γ.fa f) from g]; rfl
    | rf f => rw [show v = .ref f from g]; rfl
    | lam f c q => rw [show v = .ref f from g.1]; rfl
    | ldc ks ds => obtain ⟨_, a, vs, o, e, _⟩ := g; rw [e]; rfl
    | dic o ks ds => obtain ⟨_, a, vs, e, _⟩ := g; rw [e]; rfl
    | obj o c ds => obtain ⟨_, a, dx, vs, e, _⟩ := g; rw [e]; rfl
theorem o_is : Op2 X Γ (compareOp .Is) dIs := fun hK => by
  refine ⟨_, op_isN.or op_isBl, ?_⟩
  rintro F σ H G sl tm ta tb d Q A g1 g2 hg h
  unfold dIs at hg
  split at hg
  · rename_i e2
    cases hg
    exact .inl ⟨non_of g2 e2, by rw [isNon_v g1]; exact h.here A rfl⟩
  · rename_i y e2
    split at hg
    · rename_i x e1
      cases hg
      exact .inr ⟨x, y, bl_of g1 e1, bl_of g2 e2, h.here A rfl⟩
    · cases hg
  · cases hg
theorem o_isN : Op2 X Γ (compareOp .IsNot) dIsN := fun hK => by
  refine ⟨_, op_notN.or op_notBl, ?_⟩
  rintro F σ H G sl tm ta tb d Q A g1 g2 hg h
  unfold dIsN at hg
  split at hg
  · rename_i e2
    cases hg
    exact .inl ⟨non_of g2 e2, by rw [isNon_v g1]; exact h.here A rfl⟩
  · rename_i y e2
    split at hg
    · rename_i x e1
      cases hg
      exact .inr ⟨x, y, bl_of g1 e1, bl_of g2 e2, h.here A rfl⟩
    · cases hg
  · cases hg
/-! ### equality of data -/
def b2n (b : Bool) : Int := if b then 1 else 0
mutual
def D.eqb : D → D → Bool
  | .non, .non => true
  | .bl a, .bl b => a == b
  | .bl a, .int j => b2n a == j
  | .int i, .bl b => i == b2n b
  | .int i, .int j => i == j
  | .str x, .str y => x == y
  | .tup xs, .tup ys => D.eqbs xs ys
  | .lst _ xs, .lst _ ys => D.eqbs xs ys
  | _, _ => false
def D.eqbs : List D → List D → Bool
  | [], [] => true
  | x :: xs, y :: ys => D.eqb x y && D.eqbs xs ys
  | _, _ => false
end
mutual
/-- what == serves here, nested at most n deep -/
def D.eqOk (n : Nat) : D → Bool
  | .non => true
  | .bl _ => true
  | .int _ => true
  | .str x => PyData.canLay0 (.str x)
  | .tup xs => match n with
    | 0 => false
    | n + 1 => D.eqOks n xs
  | .lst _ xs => match n with
    | 0 => false
    | n + 1 => D.eqOks n xs
  | _ => false
def D.eqOks (n : Nat) : List D → Bool
  | [] => true
  | x :: xs => D.eqOk n x && D.eqOks n xs
end
mutual
def D.py : D → PyData
  | .non => .none
  | .bl b => .bool b
  | .int i => .int i
  | .str x => .str x
  | .tup xs => .tuple (D.pys xs)
  | .lst _ xs => .list (D.pys xs)
  | _ => .none
def D.pys : List D → List PyData
  | [] => []
  | x :: xs => D.py x :: D.pys xs
end
mutual
theorem View.dp {Γ : Gm} {H : Hp} : ∀ {v : V} (d : D) (n : Nat), View Γ H v d → d.eqOk n = true → Dp Γ.K H v d.py
  | v, .non, _, h, _ => by rw [show v = .non from h]; exact .non
  | v, .bl b, _, h, _ => by rw [show v = .bl b from h]; exact .bl b
  | v, .int i, _, h, _ => by rw [show v = .int i from h]; exact .int i
  | v, .str x, _, h, _ => by rw [show v = .str x from h]; exact .str x
  | v, .tup ds, 0, _, k => nomatch k
  | v, .tup ds, n + 1, ⟨_, a, vs, e, q, r⟩, k => by
    subst e
    exact .tup q (Views.dp ds n r k)
  | v, .lst o ds, 0, _, k => nomatch k
  | v, .lst o ds, n + 1, ⟨_, a, vs, e, q, r⟩, k => by
    subst e
    exact .lst (SqL.of q) (Views.dp ds n r k)
  | v, .scr ns, _, _, k => nomatch k
  | v, .fn f, _, _, k => nomatch k
  | v, .rf f, _, _, k => nomatch k
  | v, .lam f _ _, _, _, k => nomatch k
  | v, .ldc _ _, _, _, k => nomatch k
  | v, .dic _ _ _, _, _, k => nomatch k
  | v, .obj _ _ _, _, _, k => nomatch k
theorem Views.dp {Γ : Gm} {H : Hp} : ∀ {vs : List V} (ds : List D) (n : Nat), Views Γ H vs ds → D.eqOks n ds = true → DpAll Γ.K H vs (D.pys ds)
  | vs, [], _, h, _ => by rw [show vs = [] from h]; exact .nil
  | vs, d :: ds, n, ⟨v, r, e, h1, h2⟩, k => by
    subst e
    rw [D.eqOks, Bool.and_eq_true] at k
    exact .cons (View.dp d n h1 k.1) (Views.dp ds n h2 k.2)
end
mutual
theorem D.py_lay : ∀ (d : D) (n : Nat), d.eqOk n = true → d.py.canLay0 = true ∧ d.py.depth ≤ n
  | .non, _, _ => ⟨rfl, Nat.zero_le _⟩
  | .bl _, _, _ => ⟨rfl, Nat.zero_le _⟩
  | .int _, _, _ => ⟨rfl, Nat.zero_le _⟩
  | .str x, _, h => ⟨h, Nat.zero_le _⟩
  | .tup ds, 0, h => nomatch h
  | .tup ds, n + 1, h => by
    obtain ⟨h1, h2⟩ := D.pys_lay ds n h
    exact ⟨by rw [D.py, PyData.canLay0]; exact h1, by rw [D.py, PyData.depth]; omega⟩
  | .lst o ds, 0, h => nomatch h
  | .lst o ds, n + 1, h => by
    obtain ⟨h1, h2⟩ := D.pys_lay ds n h
    exact ⟨by rw [D.py, PyData.canLay0]; exact h1, by rw [D.py, PyData.depth]; omega⟩
  | .scr ns, _, k => nomatch k
  | .fn f, _, k => nomatch k
  | .rf f, _, k => nomatch k
  | .lam _ _ _, _, k => nomatch k
  | .ldc _ _, _, k => nomatch k
  | .dic _ _ _, _, k => nomatch k
  | .obj _ _ _, _, k => nomatch k
theorem D.pys_lay : ∀ (ds : List D) (n : Nat), D.eqOks n ds = true → PyData.canLayAll0 (D.pys ds) = true ∧ PyData.depthAll (D.pys ds) ≤ n
  | [], _, _ => ⟨rfl, Nat.zero_le _⟩
  | d :: ds, n, h => by
    rw [D.eqOks, Bool.and_eq_true] at h
    obtain ⟨h1, h2⟩ := D.py_lay d n h.1
    obtain ⟨h3, h4⟩ := D.pys_lay ds n h.2
    exact ⟨by rw [D.pys, PyData.canLayAll0, h1, h3]; rfl, by rw [D.pys, PyData.depthAll]; omega⟩
end
theorem D.shaped {d : D} (h : d.eqOk 64 = true) : SeqAt.shaped d.py = true := by
  obtain ⟨h1, h2⟩ := D.py_lay d 64 h
  unfold SeqAt.shaped
  rw [h1, decide_eq_true h2]
  rfl
mutual
theorem D.eqv_eqb : ∀ (a b : D) (n m : Nat), a.eqOk n = true → b.eqOk m = true → PyData.eqv a.py b.py = D.eqb a b
  | .non, b, n, m, h1, h2 => by cases b <;> first | rfl | exact nomatch h2
  | .bl x, b, n, m, h1, h2 => by cases b <;> first | rfl | exact nomatch h2
  | .int x, b, n, m, h1, h2 => by cases b <;> first | rfl | exact nomatch h2
  | .str x, b, n, m, h1, h2 => by cases b <;> first | rfl | exact nomatch h2
  | .tup xs, .tup ys, n + 1, m + 1, h1, h2 => by
    rw [D.py, D.py, PyData.eqv, D.eqb]
    exact D.eqvs_eqbs xs ys n m h1 h2
  | .tup xs, b, 0, m, h1, h2 => nomatch h1
  | .tup xs, .tup ys, n + 1, 0, h1, h2 => nomatch h2
  | .tup xs, .non, n + 1, m, h1, h2 => rfl
  | .tup xs, .bl _, n + 1, m, h1, h2 => rfl
  | .tup xs, .int _, n + 1, m, h1, h2 => rfl
  | .tup xs, .str _, n + 1, m, h1, h2 => rfl
  | .tup xs, .lst _ _, n + 1, m, h1, h2 => rfl
  | .tup xs, .scr _, n + 1, m, h1, h2 => nomatch h2
  | .tup xs, .fn _, n + 1, m, h1, h2 => nomatch h2
  | .tup xs, .rf _, n + 1, m, h1, h2 => nomatch h2
  | .tup xs, .lam _ _ _, n + 1, m, h1, h2 => nomatch h2
  | .tup xs, .ldc _ _, n + 1, m, h1, h2 => nomatch h2
  | .tup xs, .dic _ _ _, n + 1, m, h1, h2 => nomatch h2
  | .tup xs, .obj _ _ _, n + 1, m, h1, h2 => nomatch h2
  | .lst o xs, .lst o' ys, n + 1, m + 1, h1, h2 => by
    rw [D.py, D.py, PyData.eqv, D.eqb]
    exact D.eqvs_eqbs xs ys n m h1 h2
  | .lst o xs, b, 0, m, h1, h2 => nomatch h1
  | .lst o xs, .lst o' ys, n + 1, 0, h1, h2 => nomatch h2
  | .lst o xs, .non, n + 1, m, h1, h2 => rfl
  | .lst o xs, .bl _, n + 1, m, h1, h2 => rfl
  | .lst o xs, .int _, n + 1, m, h1, h2 => rfl
  | .lst o xs, .str _, n + 1, m, h1, h2 => rfl
  | .lst o xs, .tup _, n + 1, m, h1, h2 => rfl
  | .lst o xs, .scr _, n + 1, m, h1, h2 => nomatch h2
  | .lst o xs, .fn _, n + 1, m, h1, h2 => nomatch h2
  | .lst o xs, .rf _, n + 1, m, h1, h2 => nomatch h2
  | .lst o xs, .lam _ _ _, n + 1, m, h1, h2 => nomatch h2
  | .lst o xs, .ldc _ _, n + 1, m, h1, h2 => nomatch h2
  | .lst o xs, .dic _ _ _, n + 1, m, h1, h2 => nomatch h2
  | .lst o xs, .obj _ _ _, n + 1, m, h1, h2 => nomatch h2
  | .scr _, _, _, _, h1, _ => nomatch h1
  | .fn _, _, _, _, h1, _ => nomatch h1
theorem D.eqvs_eqbs : ∀ (as bs : List D) (n m : Nat), D.eqOks n as = true → D.eqOks m bs = true → PyData.eqvAll (D.pys as) (D.pys bs) = D.eqbs as bs
  | [], [], _, _, _, _ => rfl
  | [], _ :: _, _, _, _, _ => rfl
  | _ :: _, [], _, _, _, _ => rfl
  | a :: as, b :: bs, n, m, h1, h2 => by
    rw [D.eqOks, Bool.and_eq_true] at h1 h2
    rw [D.pys, D.pys, PyData.eqvAll, D.eqbs, D.eqv_eqb a b n m h1.1 h2.1, D.eqvs_eqbs as bs n m h1.2 h2.2]
end
def dEq (a b : D) : Option D := if a.eqOk 64 = true ∧ b.eqOk 64 = true then some (.bl (D.eqb a b)) else none
def dNe (a b : D) : Option D := if a.eqOk 64 = true ∧ b.eqOk 64 = true then some (.bl (!D.eqb a b)) else none
theorem o_eq (hu : X.A.units + 64 < cLine) : Op2 X Γ (compareOp .Eq) dEq := fun hK => by
  refine ⟨_, op_eqD hu, ?_⟩
  rintro F σ H G sl tm ta tb d Q A g1 g2 hg h
  unfold dEq at hg
  split at hg
  · rename_i hz
    cases hg
    have v1 := View.dp _ 64 (g1.view A.sub) hz.1
    have v2 := View.dp _ 64 (g2.view A.sub) hz.2
    rw [← hK] at v1 v2
    exact ⟨_, _, v1, v2, D.shaped hz.1, D.shaped hz.2, by rw [D.eqv_eqb _ _ 64 64 hz.1 hz.2]; exact h.here A rfl⟩
  · cases hg
theorem o_ne (hu : X.A.units + 64 < cLine) : Op2 X Γ (compareOp .NotEq) dNe := fun hK => by
  refine ⟨_, op_neD hu, ?_⟩
  rintro F σ H G sl tm ta tb d Q A g1 g2 hg h
  unfold dNe at hg
  split at hg
  · rename_i hz
    cases hg
    have v1 := View.dp _ 64 (g1.view A.sub) hz.1
    have v2 := View.dp _ 64 (g2.view A.sub) hz.2
    rw [← hK] at v1 v2
    exact ⟨_, _, v1, v2, D.shaped hz.1, D.shaped hz.2, by rw [D.eqv_eqb _ _ 64 64 hz.1 hz.2]; exact h.here A rfl⟩
  · cases hg
/-! ### in -/
def D.isIn (x : D) (ys : List D) : Bool := ys.any fun y => D.eqb y x
theorem isIn_py (x : D) (hx : x.eqOk 64 = true) : ∀ (ys : List D), D.eqOks 63 ys = true → ((D.pys ys).any fun z => PyData.eqv z x.py) = D.isIn x ys
  | [], _ => rfl
  | y :: ys, h => by
    rw [D.eqOks, Bool.and_eq_true] at h
    rw [D.pys, List.any_cons, D.eqv_eqb y x 63 64 h.1 hx, isIn_py x hx ys h.2]
    rfl
def dIn (x s : D) : Option D := match s with
  | .lst _ ys => if x.eqOk 64 = true ∧ D.eqOks 63 ys = true then some (.bl (D.isIn x ys)) else none
  | .tup ys => if x.eqOk 64 = true ∧ D.eqOks 63 ys = true then some (.bl (D.isIn x ys)) else none
  | _ => none
def dNotIn (x s : D) : Option D := match s with
  | .lst _ ys => if x.eqOk 64 = true ∧ D.eqOks 63 ys = true then some (.bl (!D.isIn x ys)) else none
  | .tup ys => if x.eqOk 64 = true ∧ D.eqOks 63 ys = true then some (.bl (!D.isIn x ys)) else none
  | _ => none
def rInT (K : PySem.W.Frag) (neg : Bool) : R2 := fun x y H Q => ∃ d ds, Dp K H x d ∧ Dp K H y (.tuple ds) ∧ SeqAt.shaped d = true ∧ SeqAt.shaped (.tuple ds) = true ∧ Q (.bl (if neg then !(ds.any fun z => PyData.eqv z d) else (ds.any fun z => PyData.eqv z d))) H
theorem op_inT (hu : X.A.units + 65 < cLine) : OpR X (compareOp .In) (rInT X.K false) := by
  intro pins s σ H x y v u Q I rx ry h
  obtain ⟨d, ds, hd, he, sd, se, q⟩ := h
  obtain ⟨as, r1⟩ := Dp.reads I d x v hd rx
  obtain ⟨bs, r2⟩ := Dp.reads I (.tuple ds) y u he ry
  exact SeqAt.in_tuple_reads r2 r1 (SeqAt.canLay_of_shaped se) (SeqAt.canLay_of_shaped sd) (room_in_shaped sd hu) ⟨.bl _, H, I, rfl, q⟩
theorem op_notInT (hu : X.A.units + 65 < cLine) : OpR X (compareOp .NotIn) (rInT X.K true) := by
  intro pins s σ H x y v u Q I rx ry h
  obtain ⟨d, ds, hd, he, sd, se, q⟩ := h
  obtain ⟨as, r1⟩ := Dp.reads I d x v hd rx
  obtain ⟨bs, r2⟩ := Dp.reads I (.tuple ds) y u he ry
  exact SeqAt.notIn_tuple_reads r2 r1 (SeqAt.canLay_of_shaped se) (SeqAt.canLay_of_shaped sd) (room_in_shaped sd hu) ⟨.bl _, H, I, rfl, q⟩
theorem o_in (hu : X.A.units + 65 < cLine) : Op2 X Γ (compareOp .In) dIn := fun hK => by
  refine ⟨_, (op_inD hu).or (op_inT hu), ?_⟩
  rintro F σ H G sl tm ta tb d Q A g1 g2 hg h
  unfold dIn at hg
  split at hg
  · rename_i o ys e2
    split at hg
    · rename_i hz
      cases hg
      have v1 := View.dp _ 64 (g1.view A.sub) hz.1
      have v2 := View.dp _ 64 (g2.view A.sub) (by rw [e2]; exact hz.2)
      rw [← hK] at v1 v2
      rw [e2] at v2
      exact .inl ⟨_, _, v1, v2, D.shaped hz.1, D.shaped (d := .lst o ys) hz.2, by rw [isIn_py _ hz.1 _ hz.2]; exact h.here A rfl⟩
    · cases hg
  · rename_i ys e2
    split at hg
    · rename_i hz
      cases hg
      have v1 := View.dp _ 64 (g1.view A.sub) hz.1
      have v2 := View.dp _ 64 (g2.view A.sub) (by rw [e2]; exact hz.2)
      rw [← hK] at v1 v2
      rw [e2] at v2
      exact .inr ⟨_, _, v1, v2, D.shaped hz.1, D.shaped (d := .tup ys) hz.2, by rw [isIn_py _ hz.1 _ hz.2]; exact h.here A rfl⟩
    · cases hg
  · cases hg
theorem o_notIn (hu : X.A.units + 65 < cLine) : Op2 X Γ (compareOp .NotIn) dNotIn := fun hK => by
  refine ⟨_, (op_notInD hu).or (op_notInT hu), ?_⟩
  rintro F σ H G sl tm ta tb d Q A g1 g2 hg h
  unfold dNotIn at hg
  split at hg
  · rename_i o ys e2
    split at hg
    · rename_i hz
      cases hg
      have v1 := View.dp _ 64 (g1.view A.sub) hz.1
      have v2 := View.dp _ 64 (g2.view A.sub) (by rw [e2]; exact hz.2)
      rw [← hK] at v1 v2
      rw [e2] at v2
      exact .inl ⟨_, _, v1, v2, D.shaped hz.1, D.shaped (d := .lst o ys) hz.2, by rw [isIn_py _ hz.1 _ hz.2]; exact h.here A rfl⟩
    · cases hg
  · rename_i ys e2
    split at hg
    · rename_i hz
      cases hg
      have v1 := View.dp _ 64 (g1.view A.sub) hz.1
      have v2 := View.dp _ 64 (g2.view A.sub) (by rw [e2]; exact hz.2)
      rw [← hK] at v1 v2
      rw [e2] at v2
      exact .inr ⟨_, _, v1, v2, D.shaped hz.1, D.shaped (d := .tup ys) hz.2, by rw [isIn_py _ hz.1 _ hz.2]; exact h.here A rfl⟩
    · cases hg
  · cases hg
end
end L2.Pv
end
section
set_option Elab.async false
set_option linter.all false
set_option autoImplicit false
set_option maxRecDepth 100000
namespace L2.Pv
open PySem PySem.Spec PyProof.Rows

/-! ### keys of dicts -/
def posOf {α : Type} [DecidableEq α] : List α → α → Option Nat
  | [], _ => none
  | x :: xs, y => if x = y then some 0 else (posOf xs y).map (· + 1)
def D.key1 : D → Option Key
  | .int i => some (.inl i)
  | .str s => some (.inr s)
  | _ => none
def D.keys1 : List D → Option (List Key)
  | [] => some []
  | d :: ds => match d.key1 with
    | some k => (D.keys1 ds).map (k :: ·)
    | none => none
def D.keyT : D → Option (List Key)
  | .tup ds => D.keys1 ds
  | _ => none
/-- where the key d stands; none: it is no key of that kind -/
def DKs.ix (ks : DKs) (d : D) : Option (Option Nat) := match ks with
  | .k ks => d.key1.map (posOf ks)
  | .t ks => d.keyT.map (posOf ks)
theorem posOf_lt {α : Type} [DecidableEq α] : ∀ {xs : List α} {y : α} {j : Nat}, posOf xs y = some j → xs[j]? = some y
  | [], y, j, h => nomatch h
  | x :: xs, y, j, h => by
    unfold posOf at h
    by_cases e : x = y
    · rw [if_pos e] at h
      cases h
      simp [e]
    · rw [if_neg e] at h
      cases hp : posOf xs y with
      | none => rw [hp] at h; cases h
      | some k =>
        rw [hp] at h
        cases h
        simpa using posOf_lt hp
theorem posOf_none {α : Type} [DecidableEq α] : ∀ {xs : List α} {y : α}, posOf xs y = none → y ∉ xs
  | [], y, h => by simp
  | x :: xs, y, h => by
    unfold posOf at h
    by_cases e : x = y
    · rw [if_pos e] at h; cases h
    · rw [if_neg e] at h
      cases hp : posOf xs y with
      | some k => rw [hp] at h; cases h
      | none =>
        intro z
        rcases List.mem_cons.mp z with z | z
        · exact e z.symm
        · exact posOf_none hp z
theorem valV_zip {κ : Type} [DecidableEq κ] : ∀ {ks : List κ} {vs : List V} {k : κ}, ks.length = vs.length → valV (ks.zip vs) k = (posOf ks k).bind (vs[·]?)
  | [], vs, k, h => rfl
  | x :: ks, [], k, h => by simp at h
  | x :: ks, v :: vs, k, h => by
    rw [List.zip_cons_cons]
    unfold posOf
    by_cases e : x = k
    · rw [valV_pos (by exact e), if_pos e]; rfl
    · rw [valV_neg (by exact e), if_neg e, valV_zip (by simpa using h)]
      cases posOf ks k with
      | none => rfl
      | some j => simp
section
variable {Γ : Gm} {H G : Hp}
theorem key1_v {t : T} {k : Key} (g : Good Γ G H t) (h : t.d.key1 = some k) : t.v = kV k := by
  cases e : t.d with
  | int i => rw [e] at h; cases h; exact int_of g e
  | str i => rw [e] at h; cases h; exact str_of g e
  | _ => rw [e] at h; cases h
theorem rep_key1 {v : V} {d : D} {k : Key} (r : Rep Γ G v d) (h : d.key1 = some k) : v = kV k := by
  cases d with
  | int i => cases h; exact r
  | str i => cases h; exact r
  | _ => cases h
theorem reps_keys : ∀ {vs : List V} {ds : List D} {ks : List Key}, Reps Γ G vs ds → D.keys1 ds = some ks → vs = ks.map kV
  | vs, [], ks, r, h => by cases h; exact r
  | vs, d :: ds, ks, ⟨v, r, e, h1, h2⟩, h => by
    unfold D.keys1 at h
    cases hk : d.key1 with
    | none => rw [hk] at h; cases h
    | some k =>
      rw [hk] at h
      cases hs : D.keys1 ds with
      | none => rw [hs] at h; cases h
      | some ks' =>
        rw [hs] at h
        cases h
        rw [e, rep_key1 h1 hk, reps_keys h2 hs]
        rfl
theorem keyT_v (s : Sub G H) {t : T} {ks : List Key} (g : Good Γ G H t) (h : t.d.keyT = some ks) : ∃ b, t.v = .ref b ∧ G b = some (.tup (ks.map kV)) := by
  cases e : t.d with
  | tup ds =>
    rw [e] at h
    obtain ⟨z, a, vs, ev, q, r⟩ := tup_of g e
    have h : D.keys1 ds = some ks := h
    rw [reps_keys r h] at q
    exact ⟨a, ev, q⟩
  | _ => rw [e] at h; cases h
/-- a dict that is read -/
theorem dget_of (s : Sub G H) {a : Addr} {ks : DKs} {vs : List V} {t : T} {o : Option Nat} (hd : Rd H a (dicHO ks vs)) (hl : ks.len = vs.length) (g : Good Γ G H t) (h : ks.ix t.d = some o) : DGet H a t.v (o.bind (vs[·]?)) := by
  cases ks with
  | k ks =>
    unfold DKs.ix at h
    cases hk : t.d.key1 with
    | none => rw [hk] at h; cases h
    | some k =>
      rw [hk] at h
      cases h
      exact .inl ⟨_, k, hd, key1_v g hk, (valV_zip hl).symm⟩
  | t ks =>
    unfold DKs.ix at h
    cases hk : t.d.keyT with
    | none => rw [hk] at h; cases h
    | some k =>
      rw [hk] at h
      cases h
      obtain ⟨b, ev, eb⟩ := keyT_v s g hk
      exact .inr ⟨_, k, b, hd, ev, s _ _ eb, (valV_zip hl).symm⟩
end
/-! ### subscripts and in of dicts, by values -/
def rIxDic : R2 := fun x y H Q => ∃ a v, x = .ref a ∧ DGet H a y (some v) ∧ Q v H
theorem ix_dic {X : Cx} (hu : X.A.units + 1 < cLine) : IxR X rIxDic := by
  intro value slice pins s σ H x y v u Q I rx ry h hs
  obtain ⟨a, z, rfl, g, q⟩ := h
  obtain rfl : v = Value.ref a := rx
  exact tail_any (dict_typeIs I g) slot_dict_getitem.lookup (d_getItem hu I g ry fun w' s' I' rw' => ⟨z, H, I', rw', q⟩) hs
def rInDic : R2 := fun x y H Q => ∃ a o, y = .ref a ∧ DGet H a x o ∧ Q (.bl o.isSome) H
def rNotInDic : R2 := fun x y H Q => ∃ a o, y = .ref a ∧ DGet H a x o ∧ Q (.bl (!o.isSome)) H
theorem op_inDic {X : Cx} (hu : X.A.units + 1 < cLine) : OpR X (compareOp .In) rInDic := by
  intro pins s σ H x y v u Q I rx ry h
  obtain ⟨a, o, rfl, g, q⟩ := h
  obtain rfl : u = Value.ref a := ry
  exact d_in hu I g rx fun s' I' => ⟨.bl o.isSome, H, I', rfl, q⟩
theorem op_notInDic {X : Cx} (hu : X.A.units + 1 < cLine) : OpR X (compareOp .NotIn) rNotInDic := by
  intro pins s σ H x y v u Q I rx ry h
  obtain ⟨a, o, rfl, g, q⟩ := h
  obtain rfl : u = Value.ref a := ry
  exact d_notIn hu I g rx fun s' I' => ⟨.bl (!o.isSome), H, I', rfl, q⟩
section
variable {X : Cx} {Γ : Gm}
theorem dic_view {H G : Hp} (s : Sub G H) {t : T} {o : Bool} {ks : DKs} {ds : List D} (g : Good Γ G H t) (e : t.d = .dic o ks ds) : (ds.length ≤ sizeLine ∧ ks.len = ds.length) ∧ ∃ a vs, t.v = .ref a ∧ H a = some (dicHO ks vs) ∧ vs.length = ds.length := by
  have vw := g.view s
  rw [e] at vw
  obtain ⟨z, a, vs, ev, q, r⟩ := vw
  exact ⟨⟨z.1, z.2.1⟩, a, vs, ev, q, r.len⟩
theorem ldc_view {H G : Hp} (s : Sub G H) {t : T} {ks : DKs} {ds : List D} (g : Good Γ G H t) (e : t.d = .ldc ks ds) : (ds.length ≤ sizeLine ∧ ks.len = ds.length) ∧ ∃ a vs, t.v = .ref a ∧ Rd H a (dicHO ks vs) ∧ vs.length = ds.length := by
  have vw := g.view s
  rw [e] at vw
  obtain ⟨z, a, vs, o, ev, q, r⟩ := vw
  exact ⟨⟨z.1, z.2.1⟩, a, vs, ev, .inr ⟨o, q⟩, r.len⟩
def dInX (x s : D) : Option D := match s with
  | .ldc ks _ => (ks.ix x).map fun o => .bl (o.isSome)
  | .dic _ ks _ => (ks.ix x).map fun o => .bl o.isSome
  | _ => dIn x s
def dNotInX (x s : D) : Option D := match s with
  | .ldc ks _ => (ks.ix x).map fun o => .bl (!o.isSome)
  | .dic _ ks _ => (ks.ix x).map fun o => .bl (!o.isSome)
  | _ => dNotIn x s
theorem posOf_vs {ks : DKs} {d : D} {o : Option Nat} {vs : List V} (h : ks.ix d = some o) (hl : ks.len = vs.length) : (o.bind (vs[·]?)).isSome = o.isSome := by
  cases o with
  | none => rfl
  | some j =>
    have : j < vs.length := by
      rw [← hl]
      cases ks with
      | k ks =>
        unfold DKs.ix at h
        cases hk : d.key1 with
        | none => rw [hk] at h; cases h
        | some k =>
          rw [hk] at h
          have h : posOf ks k = some j := Option.some.inj h
          exact (List.getElem?_eq_some_iff.mp (posOf_lt h)).1
      | t ks =>
        unfold DKs.ix at h
        cases hk : d.keyT with
        | none => rw [hk] at h; cases h
        | some k =>
          rw [hk] at h
          have h : posOf ks k = some j := Option.some.inj h
          exact (List.getElem?_eq_some_iff.mp (posOf_lt h)).1
    simp [List.getElem?_eq_getElem this]
theorem o_inX (hu : X.A.units + 65 < cLine) : Op2 X Γ (compareOp .In) dInX := fun hK => by
  obtain ⟨r, ho, hs⟩ := o_in (Γ := Γ) hu hK
  refine ⟨_, ho.or (op_inDic (by omega)), ?_⟩
  rintro F σ H G sl tm ta tb d Q A g1 g2 hg h
  cases e : tb.d with
  | ldc ks ds =>
    rw [e] at hg
    unfold dInX at hg
    dsimp only at hg
    cases hx : ks.ix ta.d with
    | none => rw [hx] at hg; cases hg
    | some o =>
      rw [hx] at hg
      cases hg
      obtain ⟨z, a, vs, ev, q, hl⟩ := ldc_view A.sub g2 e
      have hl' : ks.len = vs.length := z.2.trans hl.symm
      exact .inr ⟨a, _, ev, dget_of A.sub q hl' g1 hx, by rw [posOf_vs hx hl']; exact h.here A rfl⟩
  | dic o ks ds =>
    rw [e] at hg
    unfold dInX at hg
    dsimp only at hg
    cases hx : ks.ix ta.d with
    | none => rw [hx] at hg; cases hg
    | some o =>
      rw [hx] at hg
      cases hg
      obtain ⟨z, a, vs, ev, q, hl⟩ := dic_view A.sub g2 e
      have hl' : ks.len = vs.length := z.2.trans hl.symm
      exact .inr ⟨a, _, ev, dget_of A.sub (.inl q) hl' g1 hx, by rw [posOf_vs hx hl']; exact h.here A rfl⟩
  | _ => exact .inl (hs F σ H G sl tm ta tb d Q A g1 g2 (by rw [e] at hg ⊢; exact hg) h)
theorem o_notInX (hu : X.A.units + 65 < cLine) : Op2 X Γ (compareOp .NotIn) dNotInX := fun hK => by
  obtain ⟨r, ho, hs⟩ := o_notIn (Γ := Γ) hu hK
  refine ⟨_, ho.or (op_notInDic (by omega)), ?_⟩
  rintro F σ H G sl tm ta tb d Q A g1 g2 hg h
  cases e : tb.d with
  | ldc ks ds =>
    rw [e] at hg
    unfold dNotInX at hg
    dsimp only at hg
    cases hx : ks.ix ta.d with
    | none => rw [hx] at hg; cases hg
    | some o =>
      rw [hx] at hg
      cases hg
      obtain ⟨z, a, vs, ev, q, hl⟩ := ldc_view A.sub g2 e
      have hl' : ks.len = vs.length := z.2.trans hl.symm
      exact .inr ⟨a, _, ev, dget_of A.sub q hl' g1 hx, by rw [posOf_vs hx hl']; exact h.here A rfl⟩
  | dic o ks ds =>
    rw [e] at hg
    unfold dNotInX at hg
    dsimp only at hg
    cases hx : ks.ix ta.d with
    | none => rw [hx] at hg; cases hg
    | some o =>
      rw [hx] at hg
      cases hg
      obtain ⟨z, a, vs, ev, q, hl⟩ := dic_view A.sub g2 e
      have hl' : ks.len = vs.length := z.2.trans hl.symm
      exact .inr ⟨a, _, ev, dget_of A.sub (.inl q) hl' g1 hx, by rw [posOf_vs hx hl']; exact h.here A rfl⟩
  | _ => exact .inl (hs F σ H G sl tm ta tb d Q A g1 g2 (by rw [e] at hg ⊢; exact hg) h)
end
end L2.Pv
end
section
set_option Elab.async false
set_option linter.all false
set_option autoImplicit false
set_option maxRecDepth 100000
namespace L2.Pv
open PySem PySem.Spec PyProof.Rows

/-! ### subscripts -/
def dIxA (a b : D) : Option D := match a, b with
  | .lst _ xs, .int i => atI xs i
  | .tup xs, .int i => atI xs i
  | .dic _ ks xs, k => (ks.ix k).bind fun o => o.bind (xs[·]?)
  | .ldc ks xs, k => (ks.ix k).bind fun o => o.bind (xs[·]?)
  | _, _ => none
def dIx (a b : D) : Option D := match dIxA a b with
  | some d => if nOwn d then some d else none
  | none => none
/-- the j-th part of a sequence -/
theorem part_of {Γ : Gm} {G H : Hp} (s : Sub G H) {t : T} {ds : List D} {j : Nat} {d : D} (g : Good Γ G H t) (e : t.d = .tup ds ∨ ∃ o, t.d = .lst o ds) (h : ds[j]? = some d) : ∃ a vs u, t.v = .ref a ∧ vs[j]? = some u.v ∧ u.d = d ∧ Good Γ G H u ∧ (∀ b, u.cnt b ≤ t.cnt b) ∧
    ((∃ hT : t.d = .tup ds, G a = some (.tup vs)) ∨ H a = some (.lst vs)) ∧ vs.length = ds.length := by
  cases t with
  | leaf v d' =>
    rcases e with e | ⟨o, e⟩
    · have e : d' = .tup ds := e
      subst e
      obtain ⟨z, a, vs, ev, q, r⟩ := g
      obtain ⟨w, hw, rw'⟩ := r.get h
      exact ⟨a, vs, .leaf w d, ev, hw, rfl, rw', fun b => by rw [T.cnt]; exact Nat.zero_le _, .inl ⟨rfl, q⟩, r.len⟩
    · have e : d' = .lst o ds := e
      subst e
      obtain ⟨z, a, vs, ev, q, r⟩ := g
      obtain ⟨w, hw, rw'⟩ := r.get h
      exact ⟨a, vs, .leaf w d, ev, hw, rfl, rw', fun b => by rw [T.cnt]; exact Nat.zero_le _, .inr (s _ _ q), r.len⟩
  | lst a xs =>
    rcases e with e | ⟨o, e⟩
    · exact nomatch e
    · have e : D.lst true (T.ds xs) = .lst o ds := e
      cases e
      rw [T.ds_map, List.getElem?_map] at h
      cases hx : xs[j]? with
      | none => rw [hx] at h; cases h
      | some u =>
        rw [hx] at h
        have h : some u.d = some d := h
        cases h
        refine ⟨a, xs.map T.v, u, rfl, by rw [List.getElem?_map, hx]; rfl, rfl, Goods_iff.mp g.2 u (List.mem_of_getElem? hx), fun b => ?_, .inr g.1.1, by rw [T.ds_map]; simp⟩
        have := cnts_mem (a := b) (List.mem_of_getElem? hx)
        rw [T.cnt]
        omega
  | dic a ks xs =>
    rcases e with e | ⟨o, e⟩
    · exact nomatch e
    · exact nomatch e
  | obj a dx c xs =>
    rcases e with e | ⟨o, e⟩
    · exact nomatch e
    · exact nomatch e
/-- .. of a dict -/
theorem ldpart_of {Γ : Gm} {G H : Hp} (s : Sub G H) {t : T} {ks : DKs} {ds : List D} {j : Nat} {d : D} (g : Good Γ G H t) (e : t.d = .ldc ks ds) (h : ds[j]? = some d) : ∃ a vs u, t.v = .ref a ∧ vs[j]? = some u.v ∧ u.d = d ∧ Good Γ G H u ∧ (∀ b, u.cnt b ≤ t.cnt b) ∧
    Rd H a (dicHO ks vs) ∧ ks.len = vs.length := by
  cases t with
  | leaf v d' =>
    have e : d' = .ldc ks ds := e
    subst e
    obtain ⟨z, a, vs, o, ev, q, r⟩ := g
    obtain ⟨w, hw, rw'⟩ := r.get h
    exact ⟨a, vs, .leaf w d, ev, hw, rfl, rw', fun b => by rw [T.cnt]; exact Nat.zero_le _, .inr ⟨o, s _ _ q⟩, z.2.1.trans r.len.symm⟩
  | dic a ks' xs => exact nomatch e
  | lst a xs => exact nomatch e
  | obj a dx c xs => exact nomatch e
theorem dpart_of {Γ : Gm} {G H : Hp} (s : Sub G H) {t : T} {o : Bool} {ks : DKs} {ds : List D} {j : Nat} {d : D} (g : Good Γ G H t) (e : t.d = .dic o ks ds) (h : ds[j]? = some d) : ∃ a vs u, t.v = .ref a ∧ vs[j]? = some u.v ∧ u.d = d ∧ Good Γ G H u ∧ (∀ b, u.cnt b ≤ t.cnt b) ∧
    H a = some (dicHO ks vs) ∧ ks.len = vs.length := by
  cases t with
  | leaf v d' =>
    have e : d' = .dic o ks ds := e
    subst e
    obtain ⟨z, a, vs, ev, q, r⟩ := g
    obtain ⟨w, hw, rw'⟩ := r.get h
    exact ⟨a, vs, .leaf w d, ev, hw, rfl, rw', fun b => by rw [T.cnt]; exact Nat.zero_le _, s _ _ q, z.2.2.1.trans r.len.symm⟩
  | dic a ks' xs =>
    have e : D.dic true ks' (T.ds xs) = .dic o ks ds := e
    cases e
    rw [T.ds_map, List.getElem?_map] at h
    cases hx : xs[j]? with
    | none => rw [hx] at h; cases h
    | some u =>
      rw [hx] at h
      have h : some u.d = some d := h
      cases h
      refine ⟨a, xs.map T.v, u, rfl, by rw [List.getElem?_map, hx]; rfl, rfl, Goods_iff.mp g.2 u (List.mem_of_getElem? hx), fun b => ?_, g.1.1, by rw [List.length_map]; exact g.1.2.2.1⟩
      have := cnts_mem (a := b) (List.mem_of_getElem? hx)
      rw [T.cnt]
      omega
  | lst a xs => exact nomatch e
  | obj a dx c xs => exact nomatch e
theorem atI_ix {α : Type} {xs : List α} {i : Int} {v : α} (h : atI xs i = some v) : ∃ j, ixN xs.length i = some j ∧ xs[j]? = some v := by
  unfold atI at h
  cases hx : ixN xs.length i with
  | none => rw [hx] at h; cases h
  | some j => rw [hx] at h; exact ⟨j, rfl, h⟩
theorem atI_of {α : Type} {xs : List α} {i : Int} {v : α} {j : Nat} (h1 : ixN xs.length i = some j) (h2 : xs[j]? = some v) : atI xs i = some v := by
  unfold atI
  rw [h1]
  exact h2
section
variable {X : Cx} {Γ : Gm} {E : WX} {W Wa Wb Wc : List Nat} {ra rb rc : Option Nat} {a b c : Expr} {fa fb fc : Ev} {pos : Pos}
/-- the part that a subscript reads -/
theorem ix_part (hK : X.K = Γ.K) {F : Fr} {σ : St} {H G : Hp} {sl : TS'} {tm : List T} (A : Abs Γ F σ H G sl tm) {ta tb : T} {d : D} (g1 : Good Γ G H ta) (g2 : Good Γ G H tb) (hd : dIxA ta.d tb.d = some d) {Q : VK}
    (q : ∀ u : T, Good Γ G H u → u.d = d → (∀ b, u.cnt b ≤ ta.cnt b) → Q u.v H) : (rIxL X.K ta.v tb.v H Q ∨ rIxT X.K ta.v tb.v H Q) ∨ rIxDic ta.v tb.v H Q := by
  unfold dIxA at hd
  split at hd
  · rename_i o xs i e1 e2
    obtain ⟨j, hj, hx⟩ := atI_ix hd
    obtain ⟨a, vs, u, ev, hv, eu, gu, le, hh, hl⟩ := part_of A.sub g1 (.inr ⟨o, e1⟩) hx
    rcases hh with ⟨hT, _⟩ | hh
    · rw [e1] at hT; cases hT
    · exact .inl (.inl ⟨a, vs, i, u.v, ev, int_of g2 e2, SqL.of hh, atI_of (by rw [hl]; exact hj) hv, q u gu eu le⟩)
  · rename_i xs i e1 e2
    obtain ⟨j, hj, hx⟩ := atI_ix hd
    obtain ⟨a, vs, u, ev, hv, eu, gu, le, hh, hl⟩ := part_of A.sub g1 (.inl e1) hx
    rcases hh with ⟨_, hT⟩ | hh
    · exact .inl (.inr ⟨a, vs, i, u.v, ev, int_of g2 e2, by rw [hK]; exact sqT_of A.sub hT, atI_of (by rw [hl]; exact hj) hv, q u gu eu le⟩)
    · obtain ⟨_, a', vs', ev', q', _⟩ := tup_of g1 e1
      rw [ev] at ev'
      cases ev'
      -- a tuple's address holds no list
      have := A.sub _ _ q'
      rw [hh] at this
      cases this
  · rename_i _ o ks xs e1
    cases hx : ks.ix tb.d with
    | none => rw [hx] at hd; cases hd
    | some oj =>
      rw [hx] at hd
      cases oj with
      | none => cases hd
      | some j =>
        have hd : xs[j]? = some d := hd
        obtain ⟨a, vs, u, ev, hv, eu, gu, le, hh, hl⟩ := dpart_of A.sub g1 e1 hd
        have hg := dget_of A.sub (.inl hh) hl g2 hx
        rw [show (some j).bind (vs[·]?) = some u.v from hv] at hg
        exact .inr ⟨a, u.v, ev, hg, q u gu eu le⟩
  · rename_i _ ks xs e1
    cases hx : ks.ix tb.d with
    | none => rw [hx] at hd; cases hd
    | some oj =>
      rw [hx] at hd
      cases oj with
      | none => cases hd
      | some j =>
        have hd : xs[j]? = some d := hd
        obtain ⟨a, vs, u, ev, hv, eu, gu, le, hh, hl⟩ := ldpart_of A.sub g1 e1 hd
        have hg := dget_of A.sub hh hl g2 hx
        rw [show (some j).bind (vs[·]?) = some u.v from hv] at hg
        exact .inr ⟨a, u.v, ev, hg, q u gu eu le⟩
  · cases hd
theorem se_ix (hu : X.A.units + 1 < cLine) (ha : SV X Γ E Wa ra a fa) (hb : SV X Γ E Wb rb b fb) (hr : ∀ i, ra = some i → i ∉ Wb) (hs : PlainIx b) : SE X Γ E (Wa ++ Wb) (.Subscript a b pos) (ev2 dIx fa fb) := fun hK =>
  (pe_ix ((ix_list.or ix_tup).or (ix_dic hu)) (ha hK) (hb hK) hs).imp fun σ H Q ⟨F, G, sl, tm, A, q⟩ => two_run (R := fun x y H2 => (rIxL X.K x y H2 Q ∨ rIxT X.K x y H2 Q) ∨ rIxDic x y H2 Q) hr A q fun H2 G2 sl2 ta tb d A2 g1 g2 e h => by
  unfold dIx at e
  cases hd : dIxA ta.d tb.d with
  | none => rw [hd] at e; cases e
  | some d' =>
    rw [hd] at e
    dsimp only at e
    split at e
    · rename_i ho
      cases e
      refine ix_part hK A2 g1 g2 hd fun u gu eu _ => ?_
      have el := leaf_of_own gu (by rw [eu]; simpa [nOwn] using ho)
      rw [el] at gu
      rw [← eu] at h
      exact h.here A2 gu
    · cases e
/-- .. of a part of an owned thing: looked at -/
theorem sv_ix {i : Nat} (hu : X.A.units + 1 < cLine) (ha : SV X Γ E Wa (some i) a fa) (hb : SV X Γ E Wb rb b fb) (hr : i ∉ Wb) (hs : PlainIx b) : SV X Γ E (Wa ++ Wb) (some i) (.Subscript a b pos) (ev2 dIxA fa fb) := fun hK =>
  (pe_ix ((ix_list.or ix_tup).or (ix_dic hu)) (ha hK) (hb hK) hs).imp fun σ H Q ⟨F, G, sl, tm, A, q⟩ => by
  show tV Γ E Wa (some i) fa σ H fun x H1 => tV Γ E Wb rb fb σ H1 fun y H2 => (rIxL X.K x y H2 Q ∨ rIxT X.K x y H2 Q) ∨ rIxDic x y H2 Q
  refine ⟨F, G, sl, tm, A, ?_⟩
  unfold ev2 at q
  cases h1 : fa (dsl sl) with
  | stuck => rw [h1] at q; exact q
  | exc c fs δ => rw [h1] at q; exact q
  | ok da δ1 =>
    rw [h1, bd_ok] at q
    intro H1 G1 sl1 ex ta A1 w1 s1 e1 e1' k1
    obtain ⟨ee, _, w, hw, le⟩ := id w1
    subst ee
    refine ⟨F, G1, sl1, tm, A1, ?_⟩
    rw [e1']
    cases h2 : fb δ1 with
    | stuck => rw [h2] at q; exact q
    | exc c fs δ => rw [h2] at q; exact q
    | ok db δ2 =>
      rw [h2, bd_ok] at q
      intro H2 G2 sl2 ex2 tb A2 w2 s2 e2 e2' k2
      have g1 := w1.later A1 A2 s2 (fun u hu => absurd hu (by simp)) fun j hj => k2 j (by cases hj; exact hr)
      have g2 := w2.good A2
      cases h3 : dIxA da db with
      | none => rw [h3] at q; exact q.elim
      | some d =>
        rw [h3, lft_some] at q
        refine ix_part hK A2.dropN g1 g2 (by rw [e1, e2]; exact h3) fun u gu eu le2 => ?_
        exact q H2 G2 sl2 [] u A2.dropN ⟨rfl, gu, w, (k2 i hr).trans hw, fun b => Nat.le_trans (le2 b) (le b)⟩ (s1.trans s2) eu e2' (k1.trans k2)

/-! ### slices -/
abbrev EvO := DS → Out (Option Int)
def tO' (Γ : Gm) (E : WX) (W : List Nat) (f : EvO) : TO := fun σ H Q => ∃ F G sl tm, Abs Γ F σ H G sl tm ∧
  match f (dsl sl) with
  | .ok o δ => ∀ H' G' sl', Abs Γ F σ H' G' sl' tm → Sub G G' → dsl sl' = δ → Keep W sl sl' → Q o H'
  | .exc c fs δ => PX Γ E F σ tm c fs δ
  | .stuck => False
def SO (X : Cx) (Γ : Gm) (E : WX) (W : List Nat) (e : Option Expr) (f : EvO) : Prop := X.K = Γ.K → PO X e (tO' Γ E W f)
theorem _root_.L2.PO.imp {X : Cx} {e : Option Expr} {t t' : TO} (h : PO X e t) (k : ∀ σ H Q, t' σ H Q → t σ H Q) : PO X e t' := ⟨fun pins s σ H Q I q => h.run pins s σ H Q I (k σ H Q q)⟩
def oNone : EvO := fun δ => .ok none δ
def oSome (f : Ev) : EvO := fun δ => (f δ).bd fun d δ' => match d with
  | .int i => .ok (some i) δ'
  | _ => .stuck
theorem so_none : SO X Γ E [] none oNone := fun _ => po_none.imp fun σ H Q ⟨F, G, sl, tm, A, q⟩ => q H G sl A (Sub.refl G) rfl (Keep.refl _ _)
theorem so_some (h : SV X Γ E Wa ra a fa) : SO X Γ E Wa (some a) (oSome fa) := fun hK => (po_some (h hK)).imp fun σ H Q ⟨F, G, sl, tm, A, q⟩ => by
  refine ⟨F, G, sl, tm, A, ?_⟩
  unfold oSome at q
  cases h1 : fa (dsl sl) with
  | stuck => rw [h1] at q; exact q
  | exc c fs δ => rw [h1] at q; exact q
  | ok d δ1 =>
    rw [h1, bd_ok] at q
    intro H1 G1 sl1 ex t A1 w1 s1 e1 e1' k1
    cases d with
    | int i => exact ⟨i, int_of (w1.good A1) e1, q H1 G1 sl1 A1.dropN s1 e1' k1⟩
    | _ => exact q.elim
def dCut (ds : List D) (lo hi : Option Int) : List D := (ds.drop (HT.sIx ds.length 0 lo)).take (HT.sIx ds.length ds.length hi - HT.sIx ds.length 0 lo)
theorem Reps.cut {Γ : Gm} {G : Hp} {vs : List V} {ds : List D} (r : Reps Γ G vs ds) (lo hi : Option Int) : Reps Γ G (cutV vs lo hi) (dCut ds lo hi) := by
  unfold cutV dCut
  rw [r.len]
  exact (r.drop _).take _
theorem dCut_len (ds : List D) (lo hi : Option Int) : (dCut ds lo hi).length ≤ ds.length := by
  unfold dCut
  rw [List.length_take, List.length_drop]
  omega
def dSl (a : D) (lo hi : Option Int) : Option D := match a with
  | .lst _ xs => if xs.all nOwn = true then some (.lst true (dCut xs lo hi)) else none
  | .tup xs => some (.tup (dCut xs lo hi))
  | .scr ns => some (.lst true ((ns.drop (HT.sIx ns.length 0 lo)).take (HT.sIx ns.length ns.length hi - HT.sIx ns.length 0 lo) |>.map D.int))
  | _ => none
def eSl (fa : Ev) (fl fh : EvO) : Ev := fun δ => (fa δ).bd fun a δ1 => (fl δ1).bd fun lo δ2 => (fh δ2).bd fun hi δ3 => lft (dSl a lo hi) δ3
theorem reps_ints {Γ : Gm} {G : Hp} : ∀ ns : List Int, Reps Γ G (ns.map V.int) (ns.map D.int)
  | [] => rfl
  | n :: ns => ⟨_, _, rfl, rfl, reps_ints ns⟩
theorem se_slice {Wl Wh : List Nat} {lo hi : Option Expr} {fl fh : EvO} {p2 : Pos} (ha : SV X Γ E Wa ra a fa) (hl : SO X Γ E Wl lo fl) (hh : SO X Γ E Wh hi fh) (hr : ∀ i, ra = some i → i ∉ Wl ∧ i ∉ Wh) :
    SE X Γ E (Wa ++ (Wl ++ Wh)) (.Subscript a (.Slice lo hi none p2) pos) (eSl fa fl fh) := fun hK =>
  (pe_slice (sl_list.or sl_tupA) (ha hK) (hl hK) (hh hK)).imp fun σ H Q ⟨F, G, sl, tm, A, q⟩ => by
  refine ⟨F, G, sl, tm, A, ?_⟩
  unfold eSl at q
  cases h1 : fa (dsl sl) with
  | stuck => rw [h1] at q; exact q
  | exc c fs δ => rw [h1] at q; exact q
  | ok da δ1 =>
    rw [h1, bd_ok] at q
    intro H1 G1 sl1 ex t A1 w1 s1 e1 e1' k1
    refine ⟨F, G1, sl1, ex ++ tm, A1, ?_⟩
    rw [e1']
    cases h2 : fl δ1 with
    | stuck => rw [h2] at q; exact q
    | exc c fs δ => rw [h2] at q; exact PX.more q
    | ok l δ2 =>
      rw [h2, bd_ok] at q
      intro H2 G2 sl2 A2 s2 e2 k2
      refine ⟨F, G2, sl2, ex ++ tm, A2, ?_⟩
      rw [e2]
      cases h3 : fh δ2 with
      | stuck => rw [h3] at q; exact q
      | exc c fs δ => rw [h3] at q; exact PX.more q
      | ok u δ3 =>
        rw [h3, bd_ok] at q
        intro H3 G3 sl3 A3 s3 e3 k3
        have g1 := w1.later A1 A3 (s2.trans s3) (fun u hu => List.mem_append_left _ hu) fun i hi => (k3 i (hr i hi).2).trans (k2 i (hr i hi).1)
        have A4 := A3.dropN
        cases hd : dSl da l u with
        | none => rw [hd] at q; exact q.elim
        | some d =>
          rw [hd, lft_some] at q
          have hands : Hands Γ F σ G3 sl3 tm d Q := fun H' G' t A' s' e' => q H' G' sl3 t A' (s1.trans (s2.trans (s3.trans s'))) e' e3 (k1.trans (k2.trans k3))
          unfold dSl at hd
          split at hd
          · rename_i o xs
            split at hd
            · rename_i ho
              cases hd
              obtain ⟨z, p, vs, ev, hq, r⟩ := lst_of A4.sub g1 e1 ho
              exact .inl ⟨p, vs, ev, SqL.of hq, fun p' hp' => hands.lst A4 (r.cut l u) (Nat.le_trans (dCut_len _ _ _) z) hp'⟩
            · cases hd
          · rename_i xs
            cases hd
            obtain ⟨z, p, vs, ev, hq, r⟩ := tup_of g1 e1
            refine .inr ⟨p, vs, ev, by rw [hK]; exact sqT_of A4.sub hq, fun hw => ?_, fun _ p' hp' => hands.tup A4 (r.cut l u) (Nat.le_trans (dCut_len _ _ _) z) hp'⟩
            rw [r.len] at hw
            have : dCut xs l u = xs := by
              unfold dCut
              rw [hw.1, hw.2]
              simp
            rw [this] at hands
            have g : Rep Γ G3 (.ref p) (.tup xs) := ⟨z, p, vs, rfl, hq, r⟩
            exact hands.here A4 g
          · rename_i ns
            cases hd
            have el := leaf_of_own g1 (by rw [e1]; rfl)
            rw [el, e1] at g1
            obtain ⟨z, p, ev, hq⟩ := g1
            refine .inl ⟨p, ns.map V.int, ev, by rw [hK]; exact sqL_mono A4.sub hq, fun p' hp' => ?_⟩
            have e : cutV (ns.map V.int) l u = ((ns.drop (HT.sIx ns.length 0 l)).take (HT.sIx ns.length ns.length u - HT.sIx ns.length 0 l)).map V.int := by
              unfold cutV
              rw [List.length_map, List.map_take, List.map_drop]
            rw [e]
            refine hands.lst A4 (reps_ints _) ?_ hp'
            rw [List.length_map, List.length_take, List.length_drop]
            omega
          · cases hd
end
end L2.Pv
end
section
set_option Elab.async false
set_option linter.all false
set_option maxRecDepth 100000
namespace PySem
section
variable {prog : Program} {w : World} {A : Around} {E : Value → Shared → Prop} {s : Shared} {l : Addr} {xs : Array (Int × Tok)}
theorem sum_intTupG {Q : Value → Shared → Prop} (hh : A.handled = none) (hl : s.heap.IsTuple l (intItems xs))
    (h : ∀ h' tk t', (∀ b o, s.heap.get? b = some o → h'.get? b = some o) → Q (.int (preSum (numAt xs) xs.size) t') { s with heap := h', toks := tk }) :
    wpAny (model prog w) A (call (.builtin "sum") [.ref l]) Q E s := by
  have hlt : l < s.heap.objs.size := by obtain ⟨_, e, _⟩ := id hl; exact Heap.lt_size e
  refine call_sum_walkG (wpAny_pyIter_tuple hl ?_)
  refine ⟨_, _, _, _, _, _, numAt xs, rfl, Walks.tuple (A := A.in1) hh s.heap.objs.size l (Nat.ne_of_lt hlt) (intItems xs), ⟨⟨_, Heap.get?_push_size _ rfl, rfl, rfl⟩, hl.push _⟩, ?_, (fun _ _ => intItems_at), fun h' tk t' hk => ?_⟩
  · intro b hb
    show b < (s.heap.push _).objs.size
    rw [Heap.size_push]
    rcases List.mem_cons.mp hb with rfl | hb
    · exact Nat.lt_succ_self _
    · rcases List.mem_cons.mp hb with rfl | hb
      · exact Nat.lt_succ_of_lt hlt
      · cases hb
  · have := h h' tk t' fun b o e => hk b o (fun hm => by
      rcases List.mem_cons.mp hm with e1 | hm
      · exact absurd (e1 ▸ Heap.lt_size e) (Nat.lt_irrefl _)
      · cases hm) (Heap.get?_push_of_some _ e)
    simpa [intItems] using this
end
end PySem
namespace L2
open PySem PySem.Spec PyProof.Rows
/-! ### sum of a tuple -/
theorem sum_rawT {prog : Program} {w : World} {A : Around} {E : Value → Shared → Prop} {s : Shared} {l : Addr} {its : List Value} {ns : List Int} {Q : Value → Shared → Prop} (hh : A.handled = none) (hl : s.heap.IsTuple l its.toArray) (hi : IntsAre its ns)
    (h : ∀ h' tk t', (∀ b o, s.heap.get? b = some o → h'.get? b = some o) → Q (.int ns.sum t') { s with heap := h', toks := tk }) : wpAny (model prog w) A (call (.builtin "sum") [.ref l]) Q E s := by
  obtain ⟨xs, e⟩ := hi.allInts.items
  have hn : numsOf (intItems xs).toList = ns := by rw [← e]; exact hi.numsOf
  rw [nums_intItems] at hn
  rw [e] at hl
  refine PySem.sum_intTupG hh hl fun h' tk t' hk => ?_
  have := h h' tk t' hk
  rw [preSum_eq, List.take_of_length_le (by simp), hn]; exact this
def rSumT (K : PySem.W.Frag) : List V → Hp → VK → Prop := fun vs H Q => ∃ (a : Addr) (ns : List Int), vs = [V.ref a] ∧ SqT K H a (ns.map V.int) ∧ Q (.int ns.sum) H
theorem cr_sumT {X : Cx} (hc : X.calm = true) : CallR X (.builtin "sum") (rSumT X.K) := by
  intro pins s σ H vs us Q I r h
  obtain ⟨a, ns, rfl, hs, q⟩ := h
  obtain ⟨its, rv, hl, _⟩ := I.tuple hs
  rw [Vals.ref1 r]
  exact sum_rawT (I.ok.hd hc) hl rv.ints fun h' tk t' hk => ⟨.int _, H, I.kept hk, ⟨_, rfl⟩, q⟩
end L2
end
section
set_option Elab.async false
set_option linter.all false
set_option autoImplicit false
set_option maxRecDepth 100000
namespace L2.Pv
open PySem PySem.Spec PyProof.Rows

/-! ### tests -/
def cVal (f : Ev) : EvT := fun δ => (f δ).bd fun d δ' => match d with
  | .bl b => .ok b δ'
  | _ => .stuck
def cAnd (f g : EvT) : EvT := fun δ => (f δ).bd fun b δ' => if b then g δ' else .ok false δ'
def cOr (f g : EvT) : EvT := fun δ => (f δ).bd fun b δ' => if b then .ok true δ' else g δ'
def cNot (f : EvT) : EvT := fun δ => (f δ).bd fun b δ' => .ok (!b) δ'
def eIf (c : EvT) (f g : Ev) : Ev := fun δ => (c δ).bd fun b δ' => if b then f δ' else g δ'
def eAnd (f g : Ev) : Ev := fun δ => (f δ).bd fun d δ' => match d with
  | .bl true => g δ'
  | .bl false => .ok (.bl false) δ'
  | _ => .stuck
def eOr (f g : Ev) : Ev := fun δ => (f δ).bd fun d δ' => match d with
  | .bl true => .ok (.bl true) δ'
  | .bl false => g δ'
  | _ => .stuck
def dNot (a : D) : Option D := match a with
  | .bl b => some (.bl (!b))
  | _ => none
def SW (X : Cx) (Γ : Gm) (E : WX) (W : List Nat) (e : Expr) (f : EvT) : Prop := X.K = Γ.K → PW X e (tT Γ E W f)
theorem _root_.L2.PW.imp {X : Cx} {e : Expr} {t t' : TT} (h : PW X e t) (k : ∀ σ H Q, t' σ H Q → t σ H Q) : PW X e t' := ⟨fun wh pins s σ H Q I q => h.run wh pins s σ H Q I (k σ H Q q)⟩
section
variable {X : Cx} {Γ : Gm} {E : WX} {W Wa Wb Wc : List Nat} {ra rb rc : Option Nat} {a b c e : Expr} {fa fb fc f : Ev} {ca cb cc : EvT} {pos : Pos} {rest : List Expr}
theorem val_run {σ : St} {H : Hp} {Q : Bool → Hp → Prop} (h : tT Γ E W (cVal f) σ H Q) : tE Γ E W f σ H fun x H1 => ∃ k, x = .bl k ∧ Q k H1 := by
  obtain ⟨F, G, sl, tm, A, q⟩ := h
  refine ⟨F, G, sl, tm, A, ?_⟩
  unfold cVal at q
  cases h1 : f (dsl sl) with
  | stuck => rw [h1] at q; exact q
  | exc c fs δ => rw [h1] at q; exact q
  | ok d δ1 =>
    rw [h1, bd_ok] at q
    intro H1 G1 sl1 t A1 s1 e1 e1' k1
    cases d with
    | bl b => exact ⟨b, bl_of (A1.goodT t List.mem_cons_self) e1, q H1 G1 sl1 A1.drop s1 e1' k1⟩
    | _ => exact q.elim
theorem sc_val (h : SE X Γ E W e f) (he : ∀ whole, isTrue e X.env whole = (do let v ← whole; standAt e.pos; holding [v] (truthy v))) : SC X Γ E W e (cVal f) := fun hK => (pt_val (h hK) he).imp fun σ H Q q => val_run q
theorem sc_cmp {op : CmpOp} {g : D → D → Option D} (O : Op2 X Γ (compareOp op) g) (ha : SV X Γ E Wa ra a fa) (hb : SV X Γ E Wb rb b fb) (hr : ∀ i, ra = some i → i ∉ Wb) (hm : behindInMarks op b = false) :
    SC X Γ E (Wa ++ Wb) (.Compare a [op] [b] pos) (cVal (ev2 g fa fb)) := fun hK => by
  obtain ⟨r, ho, hs⟩ := O hK
  refine (pt_cmpR ho (ha hK) (hb hK) hm).imp fun σ H Q q => ?_
  obtain ⟨F, G, sl, tm, A, q⟩ := val_run q
  exact two_run (R := fun x y H2 => r x y H2 fun z H3 => ∃ k, z = .bl k ∧ Q k H3) hr A q fun H2 G2 sl2 ta tb d A2 g1 g2 e h => hs F σ H2 G2 sl2 tm ta tb d _ A2 g1 g2 e h
theorem sc_and_run {σ : St} {H : Hp} {Q : Bool → Hp → Prop} (h : tT Γ E (Wa ++ Wb) (cAnd ca cb) σ H Q) : tAnd (tT Γ E Wa ca) (tT Γ E Wb cb) σ H Q := by
  obtain ⟨F, G, sl, tm, A, q⟩ := h
  refine ⟨F, G, sl, tm, A, ?_⟩
  unfold cAnd at q
  cases h1 : ca (dsl sl) with
  | stuck => rw [h1] at q; exact q
  | exc c fs δ => rw [h1] at q; exact q
  | ok b δ1 =>
    rw [h1, bd_ok] at q
    intro H1 G1 sl1 A1 s1 e1 k1
    cases b with
    | false =>
      rw [if_neg Bool.false_ne_true] at q ⊢
      exact q H1 G1 sl1 A1 s1 e1 (k1.mono fun i h => List.mem_append_left _ h)
    | true =>
      rw [if_pos rfl] at q ⊢
      refine ⟨F, G1, sl1, tm, A1, ?_⟩
      rw [e1]
      cases h2 : cb δ1 with
      | stuck => rw [h2] at q; exact q
      | exc c fs δ => rw [h2] at q; exact q
      | ok b2 δ2 =>
        rw [h2] at q
        exact fun H2 G2 sl2 A2 s2 e2 k2 => q H2 G2 sl2 A2 (s1.trans s2) e2 (k1.trans k2)
theorem sc_or_run {σ : St} {H : Hp} {Q : Bool → Hp → Prop} (h : tT Γ E (Wa ++ Wb) (cOr ca cb) σ H Q) : tOr (tT Γ E Wa ca) (tT Γ E Wb cb) σ H Q := by
  obtain ⟨F, G, sl, tm, A, q⟩ := h
  refine ⟨F, G, sl, tm, A, ?_⟩
  unfold cOr at q
  cases h1 : ca (dsl sl) with
  | stuck => rw [h1] at q; exact q
  | exc c fs δ => rw [h1] at q; exact q
  | ok b δ1 =>
    rw [h1, bd_ok] at q
    intro H1 G1 sl1 A1 s1 e1 k1
    cases b with
    | true =>
      rw [if_pos rfl] at q ⊢
      exact q H1 G1 sl1 A1 s1 e1 (k1.mono fun i h => List.mem_append_left _ h)
    | false =>
      rw [if_neg Bool.false_ne_true] at q ⊢
      refine ⟨F, G1, sl1, tm, A1, ?_⟩
      rw [e1]
      cases h2 : cb δ1 with
      | stuck => rw [h2] at q; exact q
      | exc c fs δ => rw [h2] at q; exact q
      | ok b2 δ2 =>
        rw [h2] at q
        exact fun H2 G2 sl2 A2 s2 e2 k2 => q H2 G2 sl2 A2 (s1.trans s2) e2 (k1.trans k2)
theorem sw_and1 (h : SC X Γ E Wa a ca) : SW X Γ E Wa (.BoolOp .And [a] pos) ca := fun hK => pw_and1 (h hK)
theorem sw_or1 (h : SC X Γ E Wa a ca) : SW X Γ E Wa (.BoolOp .Or [a] pos) ca := fun hK => pw_or1 (h hK)
theorem sw_and (h : SC X Γ E Wa a ca) (h' : SW X Γ E Wb (.BoolOp .And (b :: rest) pos) cb) : SW X Γ E (Wa ++ Wb) (.BoolOp .And (a :: b :: rest) pos) (cAnd ca cb) := fun hK => (pw_and (h hK) (h' hK)).imp fun σ H Q q => sc_and_run q
theorem sw_or (h : SC X Γ E Wa a ca) (h' : SW X Γ E Wb (.BoolOp .Or (b :: rest) pos) cb) : SW X Γ E (Wa ++ Wb) (.BoolOp .Or (a :: b :: rest) pos) (cOr ca cb) := fun hK => (pw_or (h hK) (h' hK)).imp fun σ H Q q => sc_or_run q
theorem sc_w (h : SW X Γ E W e ca) : SC X Γ E W e ca := fun hK => (h hK).pt
theorem sc_not (h : SC X Γ E W a ca) : SC X Γ E W (.UnaryOp .Not a pos) (cNot ca) := fun hK => (pt_not (h hK)).imp fun σ H Q ⟨F, G, sl, tm, A, q⟩ => by
  refine ⟨F, G, sl, tm, A, ?_⟩
  unfold cNot at q
  cases h1 : ca (dsl sl) with
  | stuck => rw [h1] at q; exact q
  | exc c fs δ => rw [h1] at q; exact q
  | ok b δ1 =>
    rw [h1, bd_ok] at q
    exact q
theorem se_if (hc : SC X Γ E Wc c cc) (ha : SE X Γ E Wa a fa) (hb : SE X Γ E Wb b fb) : SE X Γ E (Wc ++ (Wa ++ Wb)) (.IfExp c a b pos) (eIf cc fa fb) := fun hK => (pe_ifExp (hc hK) (ha hK) (hb hK)).imp fun σ H Q ⟨F, G, sl, tm, A, q⟩ => by
  refine ⟨F, G, sl, tm, A, ?_⟩
  unfold eIf at q
  cases h1 : cc (dsl sl) with
  | stuck => rw [h1] at q; exact q
  | exc c fs δ => rw [h1] at q; exact q
  | ok b δ1 =>
    rw [h1, bd_ok] at q
    intro H1 G1 sl1 A1 s1 e1 k1
    cases b with
    | true =>
      rw [if_pos rfl] at q ⊢
      refine ⟨F, G1, sl1, tm, A1, ?_⟩
      rw [e1]
      cases h2 : fa δ1 with
      | stuck => rw [h2] at q; exact q
      | exc c fs δ => rw [h2] at q; exact q
      | ok d δ2 =>
        rw [h2] at q
        exact fun H2 G2 sl2 t A2 s2 ed e2 k2 => q H2 G2 sl2 t A2 (s1.trans s2) ed e2 (k1.trans (k2.mono fun i h => List.mem_append_left _ h))
    | false =>
      rw [if_neg Bool.false_ne_true] at q ⊢
      refine ⟨F, G1, sl1, tm, A1, ?_⟩
      rw [e1]
      cases h2 : fb δ1 with
      | stuck => rw [h2] at q; exact q
      | exc c fs δ => rw [h2] at q; exact q
      | ok d δ2 =>
        rw [h2] at q
        exact fun H2 G2 sl2 t A2 s2 ed e2 k2 => q H2 G2 sl2 t A2 (s1.trans s2) ed e2 (k1.trans (k2.mono fun i h => List.mem_append_right _ h))
theorem se_one {op : BoolOp} (h : SE X Γ E W a fa) : SE X Γ E W (.BoolOp op [a] pos) fa := fun hK => pe_one (h hK)
theorem se_and (h : SE X Γ E Wa a fa) (h' : SE X Γ E Wb (.BoolOp .And (b :: rest) pos) fb) : SE X Γ E (Wa ++ Wb) (.BoolOp .And (a :: b :: rest) pos) (eAnd fa fb) := fun hK => (pe_and (h hK) (h' hK)).imp fun σ H Q ⟨F, G, sl, tm, A, q⟩ => by
  refine ⟨F, G, sl, tm, A, ?_⟩
  unfold eAnd at q
  cases h1 : fa (dsl sl) with
  | stuck => rw [h1] at q; exact q
  | exc c fs δ => rw [h1] at q; exact q
  | ok d δ1 =>
    rw [h1, bd_ok] at q
    intro H1 G1 sl1 t A1 s1 ed e1 k1
    cases d with
    | bl k =>
      refine ⟨k, bl_of (A1.goodT t List.mem_cons_self) ed, ?_⟩
      cases k with
      | false =>
        rw [if_neg Bool.false_ne_true]
        exact q H1 G1 sl1 (.leaf (.bl false) (.bl false)) (A1.drop.leaf rfl) s1 rfl e1 (k1.mono fun i h => List.mem_append_left _ h)
      | true =>
        rw [if_pos rfl]
        refine ⟨F, G1, sl1, tm, A1.drop, ?_⟩
        rw [e1]
        dsimp only at q
        cases h2 : fb δ1 with
        | stuck => rw [h2] at q; exact q
        | exc c fs δ => rw [h2] at q; exact q
        | ok d2 δ2 =>
          rw [h2] at q
          exact fun H2 G2 sl2 t A2 s2 ed e2 k2 => q H2 G2 sl2 t A2 (s1.trans s2) ed e2 (k1.trans k2)
    | _ => exact q.elim
theorem se_or (h : SE X Γ E Wa a fa) (h' : SE X Γ E Wb (.BoolOp .Or (b :: rest) pos) fb) : SE X Γ E (Wa ++ Wb) (.BoolOp .Or (a :: b :: rest) pos) (eOr fa fb) := fun hK => (pe_or (h hK) (h' hK)).imp fun σ H Q ⟨F, G, sl, tm, A, q⟩ => by
  refine ⟨F, G, sl, tm, A, ?_⟩
  unfold eOr at q
  cases h1 : fa (dsl sl) with
  | stuck => rw [h1] at q; exact q
  | exc c fs δ => rw [h1] at q; exact q
  | ok d δ1 =>
    rw [h1, bd_ok] at q
    intro H1 G1 sl1 t A1 s1 ed e1 k1
    cases d with
    | bl k =>
      refine ⟨k, bl_of (A1.goodT t List.mem_cons_self) ed, ?_⟩
      cases k with
      | true =>
        rw [if_pos rfl]
        exact q H1 G1 sl1 (.leaf (.bl true) (.bl true)) (A1.drop.leaf rfl) s1 rfl e1 (k1.mono fun i h => List.mem_append_left _ h)
      | false =>
        rw [if_neg Bool.false_ne_true]
        refine ⟨F, G1, sl1, tm, A1.drop, ?_⟩
        rw [e1]
        dsimp only at q
        cases h2 : fb δ1 with
        | stuck => rw [h2] at q; exact q
        | exc c fs δ => rw [h2] at q; exact q
        | ok d2 δ2 =>
          rw [h2] at q
          exact fun H2 G2 sl2 t A2 s2 ed e2 k2 => q H2 G2 sl2 t A2 (s1.trans s2) ed e2 (k1.trans k2)
    | _ => exact q.elim
theorem one_run {σ : St} {H : Hp} {Q : VK} {R : V → Hp → Prop} {g : D → Option D} (h : tE Γ E Wa (ev1 g fa) σ H Q)
    (hR : ∀ F G1 H1 sl1 tm t d, Abs Γ F σ H1 G1 sl1 tm → Good Γ G1 H1 t → g t.d = some d → Hands Γ F σ G1 sl1 tm d Q → R t.v H1) : tV Γ E Wa ra fa σ H R := by
  obtain ⟨F, G, sl, tm, A, q⟩ := h
  refine ⟨F, G, sl, tm, A, ?_⟩
  unfold ev1 at q
  cases h1 : fa (dsl sl) with
  | stuck => rw [h1] at q; exact q
  | exc c fs δ => rw [h1] at q; exact q
  | ok da δ1 =>
    rw [h1, bd_ok] at q
    intro H1 G1 sl1 ex ta A1 w1 s1 e1 e1' k1
    cases h3 : g da with
    | none => rw [h3] at q; exact q.elim
    | some d =>
      rw [h3, lft_some] at q
      exact hR F G1 H1 sl1 tm ta d A1.dropN (w1.good A1) (by rw [e1]; exact h3) fun H' G' t A' s' e' => q H' G' sl1 t A' (s1.trans s') e' e1' k1
theorem se_not (h : SV X Γ E W ra a fa) : SE X Γ E W (.UnaryOp .Not a pos) (ev1 dNot fa) := fun hK => (pe_not (h hK)).imp fun σ H Q q => one_run (R := fun x H1 => ∃ c, x = .bl c ∧ Q (.bl (!c)) H1) q fun F G1 H1 sl1 tm t d A1 g e h => by
  unfold dNot at e
  split at e
  · rename_i b eb
    cases e
    exact ⟨b, bl_of g eb, h.here A1 rfl⟩
  · cases e
theorem se_un {op : UnaryOp} {g : D → Option D} (O : Op1 X Γ (unaryOp op) g) (h : SV X Γ E W ra a fa) : SE X Γ E W (.UnaryOp op a pos) (ev1 g fa) := fun hK => by
  obtain ⟨r, ho, hs⟩ := O hK
  exact (pe_un ho (h hK)).imp fun σ H Q q => one_run (R := fun x H1 => r x H1 Q) q fun F G1 H1 sl1 tm t d A1 g e h => hs F σ H1 G1 sl1 tm t d Q A1 g e h
/-- a op b op' c -/
def eChain (g g' : D → D → Option D) (fa fb fc : Ev) : Ev := fun δ => (fa δ).bd fun a δ1 => (fb δ1).bd fun b δ2 => match g a b with
  | some (.bl true) => (fc δ2).bd fun c δ3 => lft (g' b c) δ3
  | some (.bl false) => .ok (.bl false) δ2
  | _ => .stuck
theorem chain_run {op op' : CmpOp} {g g' : D → D → Option D} {σ : St} {H : Hp} {Q : VK} {r r' : R2} (hr : ∀ i, ra = some i → i ∉ Wb) (hr2 : ∀ i, rb = some i → i ∉ Wc)
    (hs : ∀ F σ H G sl tm ta tb d Q, Abs Γ F σ H G sl tm → Good Γ G H ta → Good Γ G H tb → g ta.d tb.d = some d → Hands Γ F σ G sl tm d Q → r ta.v tb.v H Q)
    (hs' : ∀ F σ H G sl tm ta tb d Q, Abs Γ F σ H G sl tm → Good Γ G H ta → Good Γ G H tb → g' ta.d tb.d = some d → Hands Γ F σ G sl tm d Q → r' ta.v tb.v H Q)
    (mono : ∀ x y H Q, r x y H Q → r x y H Q)
    (h : tE Γ E (Wa ++ (Wb ++ Wc)) (eChain g g' fa fb fc) σ H Q) : tChain r r' (tV Γ E Wa ra fa) (tV Γ E Wb rb fb) (tV Γ E Wc rc fc) σ H Q := by
  obtain ⟨F, G, sl, tm, A, q⟩ := h
  refine ⟨F, G, sl, tm, A, ?_⟩
  unfold eChain at q
  cases h1 : fa (dsl sl) with
  | stuck => rw [h1] at q; exact q
  | exc c fs δ => rw [h1] at q; exact q
  | ok da δ1 =>
    rw [h1, bd_ok] at q
    intro H1 G1 sl1 ex ta A1 w1 s1 e1 e1' k1
    refine ⟨F, G1, sl1, ex ++ tm, A1, ?_⟩
    rw [e1']
    cases h2 : fb δ1 with
    | stuck => rw [h2] at q; exact q
    | exc c fs δ => rw [h2] at q; exact PX.more q
    | ok db δ2 =>
      rw [h2, bd_ok] at q
      intro H2 G2 sl2 ex2 tb A2 w2 s2 e2 e2' k2
      have g1 := w1.later A1 A2 s2 (fun u hu => List.mem_append_right _ (List.mem_append_left _ hu)) fun i hi => k2 i (hr i hi)
      have g2 := w2.good A2
      cases hg : g da db with
      | none => rw [hg] at q; exact q.elim
      | some d =>
        rw [hg] at q
        cases d with
        | bl k =>
          refine hs F σ H2 G2 sl2 (ex2 ++ (ex ++ tm)) ta tb (.bl k) _ A2 g1 g2 (by rw [e1, e2]; exact hg) fun H3 G3 t A3 s3 e3 => ?_
          refine ⟨k, bl_of (A3.goodT t List.mem_cons_self) e3, ?_⟩
          have A4 := A3.drop
          cases k with
          | false =>
            rw [if_neg Bool.false_ne_true]
            exact q H3 G3 sl2 (.leaf (.bl false) (.bl false)) (A4.dropN.dropN.leaf rfl) (s1.trans (s2.trans s3)) rfl e2' (k1.trans (k2.mono fun i h => List.mem_append_left _ h))
          | true =>
            rw [if_pos rfl]
            dsimp only at q
            refine ⟨F, G3, sl2, ex2 ++ (ex ++ tm), A4, ?_⟩
            rw [e2']
            cases h3 : fc δ2 with
            | stuck => rw [h3] at q; exact q
            | exc c fs δ => rw [h3] at q; exact PX.more (PX.more q)
            | ok dc δ3 =>
              rw [h3, bd_ok] at q
              intro H5 G5 sl5 ex5 tc A5 w5 s5 e5 e5' k5
              have g3 := w2.later A2 A5 (s3.trans s5) (fun u hu => List.mem_append_right _ (List.mem_append_left _ hu)) fun i hi => k5 i (hr2 i hi)
              have g4 := w5.good A5
              cases hg' : g' db dc with
              | none => rw [hg'] at q; exact q.elim
              | some d' =>
                rw [hg', lft_some] at q
                exact hs' F σ H5 G5 sl5 tm tb tc d' Q A5.dropN.dropN.dropN g3 g4 (by rw [e2, e5]; exact hg') fun H6 G6 t6 A6 s6 e6 => q H6 G6 sl5 t6 A6 (s1.trans (s2.trans (s3.trans (s5.trans s6)))) e6 e5' (k1.trans (k2.trans k5))
        | _ => exact q.elim
theorem se_chain {op op' : CmpOp} {g g' : D → D → Option D} (O : Op2 X Γ (compareOp op) g) (O' : Op2 X Γ (compareOp op') g') (ha : SV X Γ E Wa ra a fa) (hb : SV X Γ E Wb rb b fb) (hc : SV X Γ E Wc rc c fc)
    (hr : ∀ i, ra = some i → i ∉ Wb) (hr2 : ∀ i, rb = some i → i ∉ Wc) (hm : lastMarks [op, op'] [b, c] = false) : SE X Γ E (Wa ++ (Wb ++ Wc)) (.Compare a [op, op'] [b, c] pos) (eChain g g' fa fb fc) := fun hK => by
  obtain ⟨r, ho, hs⟩ := O hK
  obtain ⟨r', ho', hs'⟩ := O' hK
  exact (pe_chain ho ho' (ha hK) (hb hK) (hc hK) hm).imp fun σ H Q q => chain_run (op := op) (op' := op') hr hr2 hs hs' (fun _ _ _ _ h => h) q
theorem sc_chain {op op' : CmpOp} {g g' : D → D → Option D} (O : Op2 X Γ (compareOp op) g) (O' : Op2 X Γ (compareOp op') g') (ha : SV X Γ E Wa ra a fa) (hb : SV X Γ E Wb rb b fb) (hc : SV X Γ E Wc rc c fc)
    (hr : ∀ i, ra = some i → i ∉ Wb) (hr2 : ∀ i, rb = some i → i ∉ Wc) (hm : lastMarks [op, op'] [b, c] = false) : SC X Γ E (Wa ++ (Wb ++ Wc)) (.Compare a [op, op'] [b, c] pos) (cVal (eChain g g' fa fb fc)) := fun hK => by
  obtain ⟨r, ho, hs⟩ := O hK
  obtain ⟨r', ho', hs'⟩ := O' hK
  exact (pt_chain ho ho' (ha hK) (hb hK) (hc hK) hm).imp fun σ H Q q => chain_run (op := op) (op' := op') hr hr2 hs hs' (fun _ _ _ _ h => h) (val_run q)

/-! ### built-ins -/
/-- a call by values, looked at -/
def Cal1 (X : Cx) (Γ : Gm) (f : Value) (g : D → Option D) : Prop := X.K = Γ.K → ∃ r : List V → Hp → VK → Prop, CallR X f r ∧
  ∀ F σ H G sl tm t d Q, Abs Γ F σ H G sl tm → Good Γ G H t → g t.d = some d → Hands Γ F σ G sl tm d Q → r [t.v] H Q
theorem pa1 {te : TE} (h : PE X a te) (hs : starEach [a] X.env = (false, eval a X.env) :: starEach [] X.env) : PA X [a] (tCons te tNil) := pa_cons h pa_nil hs
theorem se_callB1 {id : String} {x : Str} {p : Pos} {g : D → Option D} (O : Cal1 X Γ (.builtin id) g) (hg : Gl X x) (hm : X.mg x = none) (hv : bootBuiltins x = some (.builtin id)) (ha : SV X Γ E W ra a fa) (hn : x ≠ "__name__") (hdb : (x == ("__debug__" : Str)) = false)
    (he : starEach [a] X.env = (false, eval a X.env) :: starEach [] X.env) (hpl : (backTo pos (starEach [] X.env)).any (·.1) = false) : SE X Γ E W (.Call (.Name x p) [a] [] pos) (ev1 g fa) := fun hK => by
  obtain ⟨r, ho, hs⟩ := O hK
  exact (pe_callB ho hg hm hv (pa1 (ha hK) he) hn hdb he hpl).imp fun σ H Q q => one_run (R := fun x H1 => r [x] H1 Q) q fun F G1 H1 sl1 tm t d A1 g e h => hs F σ H1 G1 sl1 tm t d Q A1 g e h
theorem se_callT1 {T : String} {x : Str} {p : Pos} {g : D → Option D} (O : Cal1 X Γ (.type T) g) (hg : Gl X x) (hm : X.mg x = none) (hv : bootBuiltins x = some (.type T)) (ha : SV X Γ E W ra a fa) (hn : x ≠ "__name__") (hdb : (x == ("__debug__" : Str)) = false)
    (he : starEach [a] X.env = (false, eval a X.env) :: starEach [] X.env) (hpl : (backTo pos (starEach [] X.env)).any (·.1) = false) : SE X Γ E W (.Call (.Name x p) [a] [] pos) (ev1 g fa) := fun hK => by
  obtain ⟨r, ho, hs⟩ := O hK
  exact (pe_callTy ho hg hm hv (pa1 (ha hK) he) hn hdb he hpl).imp fun σ H Q q => one_run (R := fun x H1 => r [x] H1 Q) q fun F G1 H1 sl1 tm t d A1 g e h => hs F σ H1 G1 sl1 tm t d Q A1 g e h
def dLen (a : D) : Option D := match a with
  | .lst _ xs => some (.int xs.length)
  | .tup xs => some (.int xs.length)
  | .scr ns => some (.int ns.length)
  | .str x => if x.length ≤ sizeLine then some (.int x.length) else none
  | .dic _ _ xs => some (.int xs.length)
  | _ => none
theorem k_len : Cal1 X Γ (.builtin "len") dLen := fun hK => by
  refine ⟨_, (call_len_seq.or call_len_str).or (call_lenD.or call_len_dT), ?_⟩
  rintro F σ H G sl tm t d Q A g hg h
  unfold dLen at hg
  have vw := g.view A.sub
  split at hg
  · rename_i o xs e
    cases hg
    rw [e] at vw
    obtain ⟨z, a, vs, ev, q, r⟩ := vw
    exact .inl (.inl ⟨a, vs, by rw [ev], .inl (SqL.of q), by rw [r.len]; exact h.here A rfl⟩)
  · rename_i xs e
    cases hg
    rw [e] at vw
    obtain ⟨z, a, vs, ev, q, r⟩ := vw
    exact .inl (.inl ⟨a, vs, by rw [ev], .inr (by rw [hK]; exact q), by rw [r.len]; exact h.here A rfl⟩)
  · rename_i ns e
    cases hg
    rw [e] at vw
    obtain ⟨z, a, ev, q⟩ := vw
    exact .inl (.inl ⟨a, _, by rw [ev], .inl (by rw [hK]; exact q), by rw [List.length_map]; exact h.here A rfl⟩)
  · rename_i x e
    split at hg
    · rename_i hz
      cases hg
      exact .inl (.inr ⟨x, by rw [str_of g e], hz, h.here A rfl⟩)
    · cases hg
  · rename_i o ks xs e
    cases hg
    rw [e] at vw
    obtain ⟨⟨z, hl, hn⟩, a, vs, ev, q, r⟩ := vw
    cases ks with
    | k ks =>
      have hl : ks.length = xs.length := hl
      refine .inr (.inl ⟨a, ks.zip vs, by rw [ev], q, ?_⟩)
      rw [List.length_zip, r.len, hl, Nat.min_self]
      exact h.here A rfl
    | t ks =>
      have hl : ks.length = xs.length := hl
      refine .inr (.inr ⟨a, ks.zip vs, by rw [ev], q, ?_⟩)
      rw [List.length_zip, r.len, hl, Nat.min_self]
      exact h.here A rfl
  · cases hg
def dInt (a : D) : Option D := match a with
  | .int i => some (.int i)
  | .bl b => some (.int (b2n b))
  | _ => none
theorem k_int : Cal1 X Γ (.type "int") dInt := fun hK => by
  refine ⟨_, call_int1, ?_⟩
  rintro F σ H G sl tm t d Q A g hg h
  unfold dInt at hg
  split at hg
  · rename_i i e
    cases hg
    exact .inl ⟨i, by rw [int_of g e], h.here A rfl⟩
  · rename_i b e
    cases hg
    exact .inr ⟨b, by rw [bl_of g e], h.here A rfl⟩
  · cases hg
def dAbs (a : D) : Option D := match a with
  | .int i => some (.int (if i < 0 then -i else i))
  | _ => none
theorem k_abs : Cal1 X Γ (.builtin "abs") dAbs := fun hK => by
  refine ⟨_, call_abs, ?_⟩
  rintro F σ H G sl tm t d Q A g hg h
  unfold dAbs at hg
  split at hg
  · rename_i i e
    cases hg
    exact ⟨i, by rw [int_of g e], h.here A rfl⟩
  · cases hg
def intsOf : List D → Option (List Int)
  | [] => some []
  | .int i :: ds => (intsOf ds).map (i :: ·)
  | _ => none
def blsOf : List D → Option (List Bool)
  | [] => some []
  | .bl i :: ds => (blsOf ds).map (i :: ·)
  | _ => none
theorem intsOf_eq : ∀ {ds : List D} {ns : List Int}, intsOf ds = some ns → ds = ns.map D.int
  | [], ns, h => by cases h; rfl
  | d :: ds, ns, h => by
    cases d with
    | int i =>
      unfold intsOf at h
      cases e : intsOf ds with
      | none => rw [e] at h; cases h
      | some ms => rw [e] at h; cases h; rw [intsOf_eq e]; rfl
    | _ => exact nomatch h
theorem blsOf_eq : ∀ {ds : List D} {ns : List Bool}, blsOf ds = some ns → ds = ns.map D.bl
  | [], ns, h => by cases h; rfl
  | d :: ds, ns, h => by
    cases d with
    | bl i =>
      unfold blsOf at h
      cases e : blsOf ds with
      | none => rw [e] at h; cases h
      | some ms => rw [e] at h; cases h; rw [blsOf_eq e]; rfl
    | _ => exact nomatch h
@[simp] theorem intsOf_map (ns : List Int) : intsOf (ns.map D.int) = some ns := by
  induction ns with
  | nil => rfl
  | cons n ns ih => rw [List.map_cons, intsOf, ih]; rfl
@[simp] theorem blsOf_map (ns : List Bool) : blsOf (ns.map D.bl) = some ns := by
  induction ns with
  | nil => rfl
  | cons n ns ih => rw [List.map_cons, blsOf, ih]; rfl
theorem bls_views {H : Hp} : ∀ {ns : List Bool} {vs : List V}, Views Γ H vs (ns.map D.bl) → vs = ns.map V.bl
  | [], vs, h => h
  | n :: ns, vs, h => by
    obtain ⟨v, r, e, h1, h2⟩ := h
    subst e
    rw [show v = V.bl n from h1, bls_views h2]
    rfl
def dSum (a : D) : Option D := match a with
  | .lst _ xs => (intsOf xs).map fun ns => .int ns.sum
  | .tup xs => (intsOf xs).map fun ns => .int ns.sum
  | _ => none
theorem k_sum (hc : X.calm = true) : Cal1 X Γ (.builtin "sum") dSum := fun hK => by
  refine ⟨_, (cr_sum hc).or (cr_sumT hc), ?_⟩
  rintro F σ H G sl tm t d Q A g hg h
  unfold dSum at hg
  have vw := g.view A.sub
  split at hg
  · rename_i o xs e
    cases hi : intsOf xs with
    | none => rw [hi] at hg; cases hg
    | some ns =>
      rw [hi] at hg
      cases hg
      rw [e] at vw
      obtain ⟨z, a, vs, ev, q, r⟩ := vw
      rw [intsOf_eq hi] at r
      exact .inl ⟨a, ns, by rw [ev], SqL.of (by rw [← ints_views r]; exact q), h.here A rfl⟩
  · rename_i xs e
    cases hi : intsOf xs with
    | none => rw [hi] at hg; cases hg
    | some ns =>
      rw [hi] at hg
      cases hg
      rw [e] at vw
      obtain ⟨z, a, vs, ev, q, r⟩ := vw
      rw [intsOf_eq hi] at r
      exact .inr ⟨a, ns, by rw [ev], by rw [← ints_views r, hK]; exact q, h.here A rfl⟩
  · cases hg
def dAll (a : D) : Option D := match a with
  | .lst _ xs => (blsOf xs).map fun ns => .bl (ns.all id)
  | _ => none
theorem k_all (hc : X.calm = true) : Cal1 X Γ (.builtin "all") dAll := fun hK => by
  refine ⟨_, cr_all hc, ?_⟩
  rintro F σ H G sl tm t d Q A g hg h
  unfold dAll at hg
  have vw := g.view A.sub
  split at hg
  · rename_i o xs e
    cases hi : blsOf xs with
    | none => rw [hi] at hg; cases hg
    | some ns =>
      rw [hi] at hg
      cases hg
      rw [e] at vw
      obtain ⟨z, a, vs, ev, q, r⟩ := vw
      rw [blsOf_eq hi] at r
      exact ⟨a, ns, by rw [ev], SqL.of (by rw [← bls_views r]; exact q), h.here A rfl⟩
  · cases hg
def dAny (a : D) : Option D := match a with
  | .lst _ xs => (blsOf xs).map fun ns => .bl (ns.any id)
  | _ => none
theorem k_any (hc : X.calm = true) : Cal1 X Γ (.builtin "any") dAny := fun hK => by
  refine ⟨_, cr_any hc, ?_⟩
  rintro F σ H G sl tm t d Q A g hg h
  unfold dAny at hg
  have vw := g.view A.sub
  split at hg
  · rename_i o xs e
    cases hi : blsOf xs with
    | none => rw [hi] at hg; cases hg
    | some ns =>
      rw [hi] at hg
      cases hg
      rw [e] at vw
      obtain ⟨z, a, vs, ev, q, r⟩ := vw
      rw [blsOf_eq hi] at r
      exact ⟨a, ns, by rw [ev], SqL.of (by rw [← bls_views r]; exact q), h.here A rfl⟩
  · cases hg
def dTup (a : D) : Option D := match a with
  | .lst _ xs => if xs.all nOwn = true then some (.tup xs) else none
  | .tup xs => some (.tup xs)
  | _ => none
theorem k_tup : Cal1 X Γ (.type "tuple") dTup := fun hK => by
  refine ⟨_, call_tuple_of, ?_⟩
  rintro F σ H G sl tm t d Q A g hg h
  unfold dTup at hg
  split at hg
  · rename_i o xs e
    split at hg
    · rename_i ho
      cases hg
      obtain ⟨z, a, vs, ev, q, r⟩ := lst_of A.sub g e ho
      exact ⟨a, vs, by rw [ev], .inl ⟨SqL.of q, fun p hp => h.tup A r z hp⟩⟩
    · cases hg
  · rename_i xs e
    cases hg
    obtain ⟨z, a, vs, ev, q, r⟩ := tup_of g e
    have g' : Rep Γ G (.ref a) (.tup xs) := ⟨z, a, vs, rfl, q, r⟩
    exact ⟨a, vs, by rw [ev], .inr ⟨by rw [hK]; exact sqT_of A.sub q, h.here A g'⟩⟩
  · cases hg
def dList (a : D) : Option D := match a with
  | .lst _ xs => if xs.all nOwn = true then some (.lst true xs) else none
  | .tup xs => some (.lst true xs)
  | _ => none
theorem k_list : Cal1 X Γ (.type "list") dList := fun hK => by
  refine ⟨_, call_list_of, ?_⟩
  rintro F σ H G sl tm t d Q A g hg h
  unfold dList at hg
  split at hg
  · rename_i o xs e
    split at hg
    · rename_i ho
      cases hg
      obtain ⟨z, a, vs, ev, q, r⟩ := lst_of A.sub g e ho
      exact ⟨a, vs, by rw [ev], .inl (SqL.of q), fun p hp => h.lst A r z hp⟩
    · cases hg
  · rename_i xs e
    cases hg
    obtain ⟨z, a, vs, ev, q, r⟩ := tup_of g e
    exact ⟨a, vs, by rw [ev], .inr (by rw [hK]; exact sqT_of A.sub q), fun p hp => h.lst A r z hp⟩
  · cases hg
/-! ### isinstance(x, T), T a built-in class -/
def D.tyn : D → Option String
  | .non => some "NoneType"
  | .bl _ => some "bool"
  | .int _ => some "int"
  | .str _ => some "str"
  | .tup _ => some "tuple"
  | .lst _ _ => some "list"
  | .scr _ => some "list"
  | .dic _ _ _ => some "dict"
  | .ldc (.k _) _ => some "dict"
  | _ => none
def dIsi (T : String) (a : D) : Option D := match a.tyn with
  | some n => (kitB n T).map .bl
  | none => none
theorem tyx_of {K : PySem.W.Frag} (hK : K = Γ.K) {F : Fr} {σ : St} {H G : Hp} {sl : TS'} {tm : List T} (A : Abs Γ F σ H G sl tm) {t : T} (g : Good Γ G H t) {n : String} (h : t.d.tyn = some n) : TyX K H t.v (.type n) := by
  have vw := g.view A.sub
  cases e : t.d with
  | non => rw [e] at h; cases h; rw [non_of g e]; exact .base .non
  | bl b => rw [e] at h; cases h; rw [bl_of g e]; exact .base (.bl b)
  | int b => rw [e] at h; cases h; rw [int_of g e]; exact .base (.int b)
  | str b => rw [e] at h; cases h; rw [str_of g e]; exact .base (.str b)
  | lst o xs =>
    rw [e] at h vw
    cases h
    obtain ⟨z, a, vs, ev, q, r⟩ := vw
    rw [ev]
    exact .base (.lst q)
  | tup xs =>
    rw [e] at h vw
    cases h
    obtain ⟨z, a, vs, ev, q, r⟩ := vw
    rw [ev]
    rcases q with (q | ⟨o, q⟩) | ⟨o, its, m, hk, hc, hs, hz, hr⟩
    · exact .base (.tup q)
    · exact .fTuple q
    · exact .kTuple (by rw [hK]; exact hk) hc
  | scr ns =>
    rw [e] at h vw
    cases h
    obtain ⟨z, a, ev, q⟩ := vw
    rw [ev]
    rcases q with (q | ⟨o, q⟩) | ⟨o, its, m, hk, hc, hd, hs, hz, hr⟩
    · exact .base (.lst q)
    · exact .base (.frz q)
    · exact .kList (by rw [hK]; exact hk) hc
  | fn f => rw [e] at h; cases h
  | rf f => rw [e] at h; cases h
  | lam f c q => rw [e] at h; cases h
  | obj o c f => rw [e] at h; cases h
  | dic o ks xs =>
    rw [e] at h vw
    cases h
    obtain ⟨z, a, vs, ev, q, r⟩ := vw
    rw [ev]
    cases ks with
    | k ks => exact .base (.dK q)
    | t ks => exact .base (.dT q)
  | ldc ks xs =>
    rw [e] at h vw
    cases ks with
    | t ks => cases h
    | k ks =>
      cases h
      obtain ⟨z, a, vs, o, ev, q, r⟩ := vw
      rw [ev]
      exact .fDict q
theorem se_isi {x y : Str} {p p2 : Pos} {T : String} (hg : Gl X x) (hm : X.mg x = none) (hv : bootBuiltins x = some (.builtin "isinstance")) (ha : SV X Γ E W ra a fa) (hn : x ≠ "__name__") (hdb : (x == ("__debug__" : Str)) = false)
    (hT : PE X (.Name y p2) (tC (.ty T))) (he : starEach [a, .Name y p2] X.env = (false, eval a X.env) :: starEach [.Name y p2] X.env) (he2 : starEach [.Name y p2] X.env = (false, eval (.Name y p2) X.env) :: starEach [] X.env)
    (hpl : (backTo pos (starEach [.Name y p2] X.env)).any (·.1) = false) : SE X Γ E W (.Call (.Name x p) [a, .Name y p2] [] pos) (ev1 (dIsi T) fa) := fun hK =>
  (pe_callB call_isi hg hm hv (pa_cons (ha hK) (pa_cons hT pa_nil he2) he) hn hdb he hpl).imp fun σ H Q q => one_run (R := fun x H1 => rIsi X.K [x, .ty T] H1 Q) q fun F G1 H1 sl1 tm t d A1 g e h => by
  unfold dIsi at e
  cases hn : t.d.tyn with
  | none => rw [hn] at e; cases e
  | some n =>
    rw [hn] at e
    dsimp only at e
    cases hk : kitB n T with
    | none => rw [hk] at e; cases e
    | some b =>
      rw [hk] at e
      cases e
      exact ⟨t.v, .ty T, .type n, .type T, b, rfl, .ty T, tyx_of hK A1 g hn, kit_ty hk, h.here A1 rfl⟩
end
end L2.Pv
end
section
set_option Elab.async false
set_option linter.all false
set_option autoImplicit false
set_option maxRecDepth 100000
namespace L2.Pv
open PySem PySem.Spec PyProof.Rows

/-! ### a tree's nodes -/
def T.kids : T → List T
  | .leaf _ _ => []
  | .lst _ xs => xs
  | .dic _ _ xs => xs
  | .obj _ _ _ xs => xs
def T.wk : T → List T → T
  | .leaf v d, _ => .leaf v d
  | .lst a _, xs => .lst a xs
  | .dic a ks _, xs => .dic a ks xs
  | .obj a dx c _, xs => .obj a dx c xs
def D.kids : D → List D
  | .lst true xs => xs
  | .dic true _ xs => xs
  | .obj true _ xs => xs
  | _ => []
def D.wk : D → List D → D
  | .lst true _, xs => .lst true xs
  | .dic true ks _, xs => .dic true ks xs
  | .obj true c _, xs => .obj true c xs
  | d, _ => d
def T.at : T → List Nat → Option T
  | t, [] => some t
  | t, k :: pi => match t.kids[k]? with
    | some x => T.at x pi
    | none => none
def T.upd : T → List Nat → T → T
  | _, [], n => n
  | t, k :: pi, n => match t.kids[k]? with
    | some x => t.wk (t.kids.set k (T.upd x pi n))
    | none => t
def D.at : D → List Nat → Option D
  | t, [] => some t
  | t, k :: pi => match t.kids[k]? with
    | some x => D.at x pi
    | none => none
def D.upd : D → List Nat → D → D
  | _, [], n => n
  | t, k :: pi, n => match t.kids[k]? with
    | some x => t.wk (t.kids.set k (D.upd x pi n))
    | none => t
theorem T.kids_d {Γ : Gm} {G H : Hp} {t : T} (g : Good Γ G H t) : t.d.kids = t.kids.map T.d := by
  cases t with
  | leaf v d =>
    have h := own_of_leaf g
    show d.kids = []
    cases d with
    | lst o xs => have h : o = false := h; subst h; rfl
    | dic o ks xs => have h : o = false := h; subst h; rfl
    | obj o c xs => have h : o = false := h; subst h; rfl
    | _ => rfl
  | lst a xs => exact T.ds_map xs
  | dic a ks xs => exact T.ds_map xs
  | obj a dx c xs => exact T.ds_map xs
theorem T.wk_d {Γ : Gm} {G H : Hp} {t : T} (g : Good Γ G H t) (xs : List T) : (t.wk xs).d = t.d.wk (xs.map T.d) := by
  cases t with
  | leaf v d =>
    have h := own_of_leaf g
    show d = d.wk _
    cases d with
    | lst o xs => have h : o = false := h; subst h; rfl
    | dic o ks xs => have h : o = false := h; subst h; rfl
    | obj o c xs => have h : o = false := h; subst h; rfl
    | _ => rfl
  | lst a ys => show D.lst true (T.ds xs) = D.lst true _; rw [T.ds_map]
  | dic a ks ys => show D.dic true ks (T.ds xs) = D.dic true ks _; rw [T.ds_map]
  | obj a dx c ys => show D.obj true c (T.ds xs) = D.obj true c _; rw [T.ds_map]
theorem T.kids_good {Γ : Gm} {G H : Hp} {t : T} (g : Good Γ G H t) {x : T} (h : x ∈ t.kids) : Good Γ G H x := by
  cases t with
  | leaf v d => exact absurd h (by simp [T.kids])
  | lst a xs => exact Goods_iff.mp g.2 x h
  | dic a ks xs => exact Goods_iff.mp g.2 x h
  | obj a dx c xs => exact Goods_iff.mp g.2 x h
theorem T.at_d {Γ : Gm} {G H : Hp} : ∀ {pi : List Nat} {t u : T}, Good Γ G H t → T.at t pi = some u → D.at t.d pi = some u.d ∧ Good Γ G H u
  | [], t, u, g, h => by cases h; exact ⟨rfl, g⟩
  | k :: pi, t, u, g, h => by
    unfold T.at at h
    unfold D.at
    rw [T.kids_d g, List.getElem?_map]
    cases hk : t.kids[k]? with
    | none => rw [hk] at h; cases h
    | some x =>
      rw [hk] at h
      exact T.at_d (T.kids_good g (List.mem_of_getElem? hk)) h
theorem T.at_of {Γ : Gm} {G H : Hp} : ∀ {pi : List Nat} {t : T} {d : D}, Good Γ G H t → D.at t.d pi = some d → ∃ u, T.at t pi = some u ∧ u.d = d
  | [], t, d, g, h => by cases h; exact ⟨t, rfl, rfl⟩
  | k :: pi, t, d, g, h => by
    unfold D.at at h
    rw [T.kids_d g, List.getElem?_map] at h
    unfold T.at
    cases hk : t.kids[k]? with
    | none => rw [hk] at h; cases h
    | some x =>
      rw [hk] at h
      exact T.at_of (T.kids_good g (List.mem_of_getElem? hk)) h
theorem T.upd_d {Γ : Gm} {G H : Hp} (n : T) : ∀ {pi : List Nat} {t : T}, Good Γ G H t → (T.upd t pi n).d = D.upd t.d pi n.d
  | [], t, g => rfl
  | k :: pi, t, g => by
    unfold T.upd D.upd
    rw [T.kids_d g, List.getElem?_map]
    cases hk : t.kids[k]? with
    | none => rfl
    | some x =>
      show (t.wk _).d = t.d.wk _
      rw [T.wk_d g, List.map_set, T.upd_d n (T.kids_good g (List.mem_of_getElem? hk))]
theorem T.wk_cnt (b : Addr) (t : T) (xs : List T) : (t.wk xs).cnt b + T.cnts b t.kids = t.cnt b + (match t with | .leaf _ _ => 0 | _ => T.cnts b xs) := by
  cases t with
  | leaf v d => rfl
  | lst a ys => simp only [T.wk, T.cnt, T.kids]; omega
  | dic a ks ys => simp only [T.wk, T.cnt, T.kids]; omega
  | obj a dx c ys => simp only [T.wk, T.cnt, T.kids]; omega
theorem cnts_set (b : Addr) (y : T) : ∀ {xs : List T} {k : Nat} {x : T}, xs[k]? = some x → T.cnts b (xs.set k y) + x.cnt b = T.cnts b xs + y.cnt b
  | [], k, x, h => by simp at h
  | z :: xs, 0, x, h => by
    simp at h
    subst h
    simp only [List.set_cons_zero, T.cnts]
    omega
  | z :: xs, k + 1, x, h => by
    have ih := cnts_set b y (xs := xs) (k := k) (x := x) (by simpa using h)
    simp only [List.set_cons_succ, T.cnts]
    omega
theorem T.kids_cnt (b : Addr) (t : T) : T.cnts b t.kids ≤ t.cnt b := by
  cases t with
  | leaf v d => exact Nat.le_refl _
  | lst a ys => simp only [T.cnt, T.kids]; omega
  | dic a ks ys => simp only [T.cnt, T.kids]; omega
  | obj a dx c ys => simp only [T.cnt, T.kids]; omega
theorem T.upd_cnt (b : Addr) (n : T) : ∀ {pi : List Nat} {t u : T}, T.at t pi = some u → (T.upd t pi n).cnt b + u.cnt b = t.cnt b + n.cnt b
  | [], t, u, h => by cases h; exact Nat.add_comm _ _
  | k :: pi, t, u, h => by
    unfold T.at at h
    unfold T.upd
    cases hk : t.kids[k]? with
    | none => rw [hk] at h; cases h
    | some x =>
      rw [hk] at h
      have ih := T.upd_cnt b n (pi := pi) (t := x) (u := u) h
      have h1 := T.wk_cnt b t (t.kids.set k (T.upd x pi n))
      have h2 := cnts_set b (T.upd x pi n) hk
      show (t.wk (t.kids.set k (T.upd x pi n))).cnt b + u.cnt b = t.cnt b + n.cnt b
      cases t with
      | leaf v d => simp [T.kids] at hk
      | _ => simp only [T.kids] at h1 h2 ⊢; omega
theorem T.at_cnt (b : Addr) : ∀ {pi : List Nat} {t u : T}, T.at t pi = some u → u.cnt b ≤ t.cnt b
  | [], t, u, h => by cases h; exact Nat.le_refl _
  | k :: pi, t, u, h => by
    unfold T.at at h
    cases hk : t.kids[k]? with
    | none => rw [hk] at h; cases h
    | some x =>
      rw [hk] at h
      have ih := T.at_cnt b (pi := pi) (t := x) (u := u) h
      have h1 := cnts_mem (a := b) (List.mem_of_getElem? hk)
      have h2 := T.kids_cnt b t
      omega
theorem T.wk_v (t : T) (xs : List T) : (t.wk xs).v = t.v := by cases t <;> rfl
theorem T.upd_v {n : T} : ∀ {pi : List Nat} {t u : T}, T.at t pi = some u → n.v = u.v → (T.upd t pi n).v = t.v
  | [], t, u, h, e => by cases h; exact e
  | k :: pi, t, u, h, e => by
    unfold T.at at h
    unfold T.upd
    cases hk : t.kids[k]? with
    | none => simp [hk] at h
    | some x => exact T.wk_v _ _
theorem map_set_same {α β : Type} (f : α → β) {xs : List α} {k : Nat} {x y : α} (h : xs[k]? = some x) (e : f y = f x) : (xs.set k y).map f = xs.map f := by
  rw [List.map_set, e]
  apply List.ext_getElem?
  intro j
  by_cases hj : k = j
  · subst hj
    rw [List.getElem?_set_self (by simpa using (List.getElem?_eq_some_iff.mp h).1), List.getElem?_map, h]
    rfl
  · rw [List.getElem?_set_ne hj]
/-- the parts beside the place stay -/
theorem T.upd_good {Γ : Gm} {G H H' : Hp} {p : Addr} {n : T} (hH : ∀ a, a ≠ p → H' a = H a) (hn : Good Γ G H' n) : ∀ {pi : List Nat} {t u : T}, T.at t pi = some u → Good Γ G H t → t.cnt p ≤ 1 → 1 ≤ u.cnt p → n.v = u.v → Good Γ G H' (T.upd t pi n)
  | [], t, u, h, g, c1, c2, e => hn
  | k :: pi, t, u, h, g, c1, c2, e => by
    unfold T.at at h
    unfold T.upd
    cases hk : t.kids[k]? with
    | none => rw [hk] at h; cases h
    | some x =>
      rw [hk] at h
      have hx1 := T.at_cnt p (pi := pi) h
      have hm := cnts_mem (a := p) (List.mem_of_getElem? hk)
      have hkc := T.kids_cnt p t
      have ih := T.upd_good hH hn (pi := pi) (t := x) (u := u) h (T.kids_good g (List.mem_of_getElem? hk)) (by omega) c2 e
      have ev := T.upd_v (n := n) h e
      have rest : ∀ xs : List T, Goods Γ G H xs → ∀ {k : Nat}, xs[k]? = some x → T.cnts p xs ≤ 1 → Goods Γ G H' (xs.set k (T.upd x pi n)) := by
        intro xs
        induction xs with
        | nil => intro _ k hk _; simp at hk
        | cons y ys ih2 =>
          intro gy k hk2 hc
          cases k with
          | zero =>
            simp at hk2
            subst hk2
            refine ⟨ih, gy.2.mono (Sub.refl G) ys fun a ha => hH a fun z => ?_⟩
            subst z
            rw [T.cnts] at hc
            omega
          | succ k =>
            have hk2 : ys[k]? = some x := by simpa using hk2
            have hm2 := cnts_mem (a := p) (List.mem_of_getElem? hk2)
            rw [T.cnts] at hc
            refine ⟨gy.1.mono (Sub.refl G) y fun a ha => hH a fun z => ?_, ih2 gy.2 hk2 (by omega)⟩
            subst z
            omega
      show Good Γ G H' (t.wk (t.kids.set k (T.upd x pi n)))
      cases t with
      | leaf v d => simp [T.kids] at hk
      | lst a xs =>
        simp only [T.kids] at hk hm hkc
        have na : a ≠ p := fun z => by
          subst z
          rw [T.cnt, if_pos rfl] at c1
          omega
        refine ⟨⟨?_, by simpa [T.wk, T.kids] using g.1.2⟩, rest xs g.2 hk (by omega)⟩
        rw [hH a na, g.1.1]
        show some (HO.lst (xs.map T.v)) = some (HO.lst ((xs.set k (T.upd x pi n)).map T.v))
        rw [map_set_same T.v hk ev]
      | dic a ks xs =>
        simp only [T.kids] at hk hm hkc
        have na : a ≠ p := fun z => by
          subst z
          rw [T.cnt, if_pos rfl] at c1
          omega
        refine ⟨⟨?_, by simpa [T.wk, T.kids] using g.1.2⟩, rest xs g.2 hk (by omega)⟩
        rw [hH a na, g.1.1]
        show some (dicHO ks (xs.map T.v)) = some (dicHO ks ((xs.set k (T.upd x pi n)).map T.v))
        rw [map_set_same T.v hk ev]
      | obj a dx c xs =>
        simp only [T.kids] at hk hm hkc
        have na : a ≠ p := fun z => by
          subst z
          rw [T.cnt, if_pos rfl] at c1
          omega
        have nd : dx ≠ p := fun z => by
          subst z
          rw [T.cnt, if_pos (rfl : dx = dx)] at c1
          omega
        refine ⟨⟨?_, by rw [hH dx nd]; exact g.1.2.1, by simpa [T.wk, T.kids] using g.1.2.2⟩, rest xs g.2 hk (by omega)⟩
        rw [hH a na, g.1.1]
        show some (HO.ins (Γ.ca c) dx ((Γ.fl c).zip (xs.map T.v))) = some (HO.ins (Γ.ca c) dx ((Γ.fl c).zip ((xs.set k (T.upd x pi n)).map T.v)))
        rw [map_set_same T.v hk ev]

theorem dsl_set' (sl : TS') (i : Nat) (t : T) : dsl (sl.set i (some t)) = (dsl sl).set i (some t.d) := dsl_set sl i (some t)
def T.adr : T → Option Addr
  | .leaf _ _ => none
  | .lst a _ => some a
  | .dic a _ _ => some a
  | .obj a _ _ _ => some a
theorem T.adr_cnt {t : T} {p : Addr} (h : t.adr = some p) : 1 ≤ t.cnt p := by
  cases t with
  | leaf v d => cases h
  | lst a xs => cases h; rw [T.cnt, if_pos rfl]; omega
  | dic a ks xs => cases h; rw [T.cnt, if_pos rfl]; omega
  | obj a dx c xs => cases h; rw [T.cnt, if_pos rfl]; omega
theorem T.adr_v {t : T} {p : Addr} (h : t.adr = some p) : t.v = .ref p := by
  cases t with
  | leaf v d => cases h
  | _ => cases h; rfl
section
variable {Γ : Gm} {F : Fr} {σ : St} {H G : Hp} {sl : TS'} {tm us rs : List T} {w u n : T} {pi : List Nat} {p : Addr} {j : Nat} {o o0 : HO}
/-- a node of slot j is written: us go in, rs come out -/
theorem Abs.write (A : Abs Γ F σ H G sl (us ++ tm)) (hj : sl[j]? = some (some w)) (hu : T.at w pi = some u) (hup : u.adr = some p) (hnp : n.adr = some p) (ho : H p = some o0) (n1 : NTbl o0) (n2 : ∀ c q, o0 ≠ LamX.CodeO c q)
    (hc : ∀ b, n.cnt b + T.cnts b rs ≤ u.cnt b + T.cnts b us) (hr : ∀ r ∈ rs, Good Γ G H r) (hn : (∀ x, x.cnt p = 0 → Good Γ G H x → Good Γ G (upd H p o) x) → Good Γ G (upd H p o) n) :
    Abs Γ F σ (upd H p o) G (sl.set j (some (T.upd w pi n))) (rs ++ tm) := by
  have hjl : j < sl.length := (List.getElem?_eq_some_iff.mp hj).1
  have cup := T.adr_cnt hup
  have cnp := T.adr_cnt hnp
  have cw : w.cnt p ≤ 1 ∧ cS p (sl.set j none) + T.cnts p (us ++ tm) + w.cnt p ≤ 1 := by
    have h1 := A.one p
    have h2 := cS_set p none sl j hjl
    rw [hj] at h2
    have h3 : cO p ((some (some w)).join) = w.cnt p := rfl
    have h4 : cO p none = 0 := rfl
    rw [h3, h4] at h2
    exact ⟨by omega, by omega⟩
  have cuw := T.at_cnt p hu
  have hG : G p = none := (A.sep p (by have := cS_get (a := p) hj; omega)).1
  have hF : F.H0 p = none ∨ F.B p := (A.sep p (by have := cS_get (a := p) hj; omega)).2.2
  have hH : ∀ a, a ≠ p → upd H p o a = H a := fun a ha => upd_ne ha
  have keepG : ∀ x, x.cnt p = 0 → Good Γ G H x → Good Γ G (upd H p o) x := fun x hx g => g.mono (Sub.refl G) x fun a ha => hH a fun z => by subst z; omega
  have gw := A.goodS j w hj
  have gW : Good Γ G (upd H p o) (T.upd w pi n) := T.upd_good hH (hn keepG) hu gw cw.1 cup (by rw [T.adr_v hnp, T.adr_v hup])
  have ec : ∀ b, (T.upd w pi n).cnt b + u.cnt b = w.cnt b + n.cnt b := fun b => T.upd_cnt b n hu
  have es : ∀ b, cS b (sl.set j (some (T.upd w pi n))) + w.cnt b = cS b sl + (T.upd w pi n).cnt b := fun b => by
    have h2 := cS_set b (some (T.upd w pi n)) sl j hjl
    rw [hj] at h2
    exact h2
  have tot : ∀ b, cS b (sl.set j (some (T.upd w pi n))) + T.cnts b (rs ++ tm) ≤ cS b sl + T.cnts b (us ++ tm) := fun b => by
    have h1 := ec b
    have h2 := es b
    have h3 := hc b
    have h4 := T.at_cnt b hu
    have h5 := cS_get (a := b) hj
    rw [cnts_append, cnts_append]
    omega
  refine ⟨by simp [A.len], fun i t h => ?_, fun a q h => ?_, fun a q h1 h2 h3 => ?_, fun a h => ?_, A.g0, fun i t h => ?_, fun t h => ?_, fun a => Nat.le_trans (tot a) (A.one a), fun a ha => ?_, A.fresh, tabs_upd A.tabs ho n1 n2⟩
  · by_cases e : j = i
    · subst e
      rw [List.getElem?_set_self hjl] at h
      cases h
      rw [T.upd_v hu (by rw [T.adr_v hnp, T.adr_v hup])]
      exact A.val j w hj
    · rw [List.getElem?_set_ne e] at h
      exact A.val i t h
  · have : a ≠ p := fun z => by rw [z, hG] at h; cases h
    rw [hH a this]
    exact A.sub a q h
  · have : a ≠ p := fun z => by
      subst z
      rcases hF with z | z
      · rw [h1] at z; cases z
      · exact h3 z
    rw [hH a this]
    exact A.keep a q h1 h2 h3
  · by_cases e : a = p
    · rw [e, upd_same]; exact ⟨o, rfl, fun ps z => by subst z; exact Good.noTbl n (hn keepG) cnp upd_same⟩
    · rw [hH a e]; exact A.dom a h
  · by_cases e : j = i
    · subst e
      rw [List.getElem?_set_self hjl] at h
      cases h
      exact gW
    · rw [List.getElem?_set_ne e] at h
      refine keepG t ?_ (A.goodS i t h)
      have h6 : (sl.set j none)[i]? = some (some t) := by rw [List.getElem?_set_ne e]; exact h
      have := cS_get (a := p) h6
      omega
  · rcases List.mem_append.mp h with h | h
    · refine keepG t ?_ (hr t h)
      have := cnts_mem (a := p) h
      have := hc p
      have := cw.2
      have h7 : T.cnts p us ≤ T.cnts p (us ++ tm) := by rw [cnts_append]; omega
      omega
    · refine keepG t ?_ (A.goodT t (List.mem_append_right _ h))
      have := cnts_mem (a := p) (List.mem_append_right us h)
      have := cw.2
      omega
  · have ha' : 0 < cS a sl + T.cnts a (us ++ tm) := Nat.lt_of_lt_of_le ha (tot a)
    obtain ⟨h1, h2, h3⟩ := A.sep a ha'
    refine ⟨h1, ?_, h3⟩
    by_cases e : a = p
    · rw [e, upd_same]; exact fun z => nomatch z
    · rw [hH a e]; exact h2
end
end L2.Pv
end
section
set_option Elab.async false
set_option linter.all false
set_option autoImplicit false
set_option maxRecDepth 100000
namespace L2.Pv
open PySem PySem.Spec PyProof.Rows

/-! ### places -/
abbrev Ep := DS → Out (List Nat)
def tP (Γ : Gm) (E : WX) (W : List Nat) (j : Nat) (f : Ep) : TE := fun σ H Q => ∃ F G sl tm, Abs Γ F σ H G sl tm ∧
  match f (dsl sl) with
  | .ok pi δ => ∀ H' G' sl' w u, Abs Γ F σ H' G' sl' tm → sl'[j]? = some (some w) → T.at w pi = some u → Sub G G' → dsl sl' = δ → Keep W sl sl' → Q u.v H'
  | .exc c fs δ => PX Γ E F σ tm c fs δ
  | .stuck => False
def SP (X : Cx) (Γ : Gm) (E : WX) (W : List Nat) (j : Nat) (e : Expr) (f : Ep) : Prop := X.K = Γ.K → PE X e (tP Γ E W j f)
def nodeAt (j : Nat) (pi : List Nat) (δ : DS) : Option D := match δ[j]? with
  | some (some d) => D.at d pi
  | _ => none
def pNm (j : Nat) : Ep := fun δ => match δ[j]? with
  | some (some _) => .ok [] δ
  | _ => .stuck
def kidIx (n d : D) : Option Nat := match n with
  | .lst true xs => match d with
    | .int i => ixN xs.length i
    | _ => none
  | .dic true ks xs => (ks.ix d).bind id
  | _ => none
def pIx (j : Nat) (fo : Ep) (fi : Ev) : Ep := fun δ => (fo δ).bd fun pi δ1 => (fi δ1).bd fun d δ2 => match nodeAt j pi δ2 with
  | some n => lft ((kidIx n d).map fun k => pi ++ [k]) δ2
  | none => .stuck
theorem T.at_app : ∀ {pi : List Nat} {t u x : T} {k : Nat}, T.at t pi = some u → u.kids[k]? = some x → T.at t (pi ++ [k]) = some x
  | [], t, u, x, k, h, hk => by
    cases h
    show (match t.kids[k]? with | some x => T.at x [] | none => none) = some x
    rw [hk]
    rfl
  | i :: pi, t, u, x, k, h, hk => by
    unfold T.at at h
    show (match t.kids[i]? with | some x => T.at x (pi ++ [k]) | none => none) = some x
    cases hi : t.kids[i]? with
    | none => rw [hi] at h; cases h
    | some y =>
      rw [hi] at h
      exact T.at_app h hk
theorem node_lst {Γ : Gm} {G H : Hp} {u : T} {ds : List D} (g : Good Γ G H u) (h : u.d = .lst true ds) : ∃ p xs, u = .lst p xs ∧ xs.map T.d = ds ∧ H p = some (.lst (xs.map T.v)) ∧ xs.length ≤ sizeLine := by
  cases u with
  | leaf v d =>
    have h : d = .lst true ds := h
    subst h
    exact absurd g.1.1 (by simp)
  | lst p xs =>
    have h : D.lst true (T.ds xs) = .lst true ds := h
    cases h
    exact ⟨p, xs, rfl, (T.ds_map xs).symm, g.1.1, g.1.2⟩
  | dic p ks xs => exact nomatch h
  | obj p dx c xs => exact nomatch h
theorem node_dic {Γ : Gm} {G H : Hp} {u : T} {ks : DKs} {ds : List D} (g : Good Γ G H u) (h : u.d = .dic true ks ds) : ∃ p xs, u = .dic p ks xs ∧ xs.map T.d = ds ∧ H p = some (dicHO ks (xs.map T.v)) ∧ xs.length ≤ sizeLine ∧ ks.fit xs.length := by
  cases u with
  | leaf v d =>
    have h : d = .dic true ks ds := h
    subst h
    exact absurd g.1.1 (by simp)
  | dic p ks' xs =>
    have h : D.dic true ks' (T.ds xs) = .dic true ks ds := h
    cases h
    exact ⟨p, xs, rfl, (T.ds_map xs).symm, g.1.1, g.1.2.1, g.1.2.2⟩
  | lst p xs => exact nomatch h
  | obj p dx c xs => exact nomatch h
theorem node_at {Γ : Gm} {F : Fr} {σ : St} {H G : Hp} {sl : TS'} {tm : List T} {j : Nat} {w u : T} {pi : List Nat} (A : Abs Γ F σ H G sl tm) (hj : sl[j]? = some (some w)) (hu : T.at w pi = some u) : nodeAt j pi (dsl sl) = some u.d ∧ Good Γ G H u := by
  have h := T.at_d (A.goodS j w hj) hu
  refine ⟨?_, h.2⟩
  unfold nodeAt dsl
  rw [List.getElem?_map, hj]
  exact h.1
theorem node_of {Γ : Gm} {F : Fr} {σ : St} {H G : Hp} {sl : TS'} {tm : List T} {j : Nat} {pi : List Nat} {n : D} (A : Abs Γ F σ H G sl tm) (h : nodeAt j pi (dsl sl) = some n) : ∃ w u, sl[j]? = some (some w) ∧ T.at w pi = some u ∧ u.d = n := by
  unfold nodeAt at h
  split at h
  · rename_i d hd
    obtain ⟨w, hw, ew⟩ := dsl_get hd
    subst ew
    obtain ⟨u, hu, eu⟩ := T.at_of (A.goodS j w hw) h
    exact ⟨w, u, hw, hu, eu⟩
  · cases h
section
variable {X : Cx} {Γ : Gm} {E : WX} {W Wo Wi Wa We : List Nat} {j : Nat} {fo : Ep} {fi fe : Ev} {o i e : Expr} {ri : Option Nat} {pos : Pos}
theorem sp_nm {x : Str} (h : PE X (.Name x pos) (tVar j)) : SP X Γ E [] j (.Name x pos) (pNm j) := fun hK => h.imp fun σ H Q ⟨F, G, sl, tm, A, q⟩ => by
  unfold pNm at q
  split at q
  · rename_i r pi δ hm
    split at hm
    · rename_i d hd
      cases hm
      obtain ⟨t, ht, _⟩ := dsl_get hd
      exact ⟨t.v, A.val j t ht, q H G sl t t A ht rfl (Sub.refl G) rfl (Keep.refl _ _)⟩
    · cases hm
  · rename_i hm
    split at hm <;> cases hm
  · exact q.elim
theorem sp_ix (hu : X.A.units + 1 < cLine) (ho : SP X Γ E Wo j o fo) (hi : SV X Γ E Wi ri i fi) (hj : j ∉ Wi) (hs : PlainIx i) : SP X Γ E (Wo ++ Wi) j (.Subscript o i pos) (pIx j fo fi) := fun hK =>
  (pe_ix (ix_list.or (ix_dic hu)) (ho hK) (hi hK) hs).imp fun σ H Q ⟨F, G, sl, tm, A, q⟩ => by
  show tP Γ E Wo j fo σ H fun x H1 => tV Γ E Wi ri fi σ H1 fun y H2 => rIxL X.K x y H2 Q ∨ rIxDic x y H2 Q
  refine ⟨F, G, sl, tm, A, ?_⟩
  unfold pIx at q
  cases h1 : fo (dsl sl) with
  | stuck => rw [h1] at q; exact q
  | exc c fs δ => rw [h1] at q; exact q
  | ok pi δ1 =>
    rw [h1, bd_ok] at q
    intro H1 G1 sl1 w u A1 hw hu' s1 e1 k1
    refine ⟨F, G1, sl1, tm, A1, ?_⟩
    rw [e1]
    cases h2 : fi δ1 with
    | stuck => rw [h2] at q; exact q
    | exc c fs δ => rw [h2] at q; exact q
    | ok d δ2 =>
      rw [h2, bd_ok] at q
      intro H2 G2 sl2 ex t A2 w2 s2 e2 e2' k2
      have hw2 : sl2[j]? = some (some w) := (k2 j hj).trans hw
      obtain ⟨hn, gu⟩ := node_at A2 hw2 hu'
      have gt := w2.good A2
      rw [e2'] at hn
      rw [hn] at q
      dsimp only at q
      cases hk : kidIx u.d d with
      | none => rw [hk] at q; exact q.elim
      | some k =>
        rw [hk] at q
        have q' : ∀ c, u.kids[k]? = some c → Q c.v H2 := fun c hc => q H2 G2 sl2 w c A2.dropN hw2 (T.at_app hu' hc) (s1.trans s2) e2' (k1.trans k2)
        unfold kidIx at hk
        split at hk
        · rename_i xs en
          split at hk
          · rename_i ii
            obtain ⟨p, ts, eu, ets, hH, hz⟩ := node_lst gu en
            subst eu
            subst ets
            rw [List.length_map] at hk
            have hlt := (ixN_seq hk).2.1
            have hc : ts[k]? = some ts[k] := List.getElem?_eq_getElem hlt
            exact .inl ⟨p, ts.map T.v, ii, (ts[k]).v, rfl, int_of gt e2, SqL.of hH, atI_of (by rw [List.length_map]; exact hk) (by rw [List.getElem?_map, hc]; rfl), q' _ hc⟩
          · cases hk
        · rename_i ks xs en
          obtain ⟨p, ts, eu, ets, hH, hz, hl⟩ := node_dic gu en
          subst eu
          cases hx : ks.ix d with
          | none => rw [hx] at hk; cases hk
          | some oj =>
            rw [hx] at hk
            have hk : oj = some k := hk
            subst hk
            have hg := dget_of A2.sub (.inl hH) (by rw [List.length_map]; exact hl.1) gt (by rw [e2]; exact hx)
            have hp := posOf_vs hx (vs := ts.map T.v) (by rw [List.length_map]; exact hl.1)
            have hlt : k < ts.length := by
              have hp : ((ts.map T.v)[k]?).isSome = true := hp
              rw [List.getElem?_map, Option.isSome_map] at hp
              cases hc : ts[k]? with
              | none => rw [hc] at hp; cases hp
              | some c => exact (List.getElem?_eq_some_iff.mp hc).1
            have hc : ts[k]? = some ts[k] := List.getElem?_eq_getElem hlt
            rw [show (some k).bind ((ts.map T.v)[·]?) = some (ts[k]).v from by show (ts.map T.v)[k]? = _; rw [List.getElem?_map, hc]; rfl] at hg
            exact .inr ⟨p, _, rfl, hg, q' _ hc⟩
        · cases hk
end
/-! ### a node is written -/
def updAt (j : Nat) (pi : List Nat) (g : D → Option D) (δ : DS) : Option DS := match δ[j]? with
  | some (some w) => match D.at w pi with
    | some n => (g n).map fun n' => δ.set j (some (D.upd w pi n'))
    | none => none
  | _ => none
def DKs.snoc (ks : DKs) (d : D) : Option DKs := match ks with
  | .k ks => d.key1.map fun k => .k (ks ++ [k])
  | .t ks => d.keyT.map fun k => .t (ks ++ [k])
def putD (n k v : D) : Option D := match n with
  | .lst true xs => match k with
    | .int i => (ixN xs.length i).map fun j => .lst true (xs.set j v)
    | _ => none
  | .dic true ks xs => match ks.ix k with
    | some (some j) => if xs.length < sizeLine then some (.dic true ks (xs.set j v)) else none
    | some none => if xs.length < sizeLine then (ks.snoc k).map fun ks' => .dic true ks' (xs ++ [v]) else none
    | none => none
  | _ => none
theorem nCod_dic (ks : DKs) (vs : List V) (c : Addr) (q : Str) : dicHO ks vs ≠ LamX.CodeO c q := fun z => by
  cases ks <;> exact nomatch z
theorem nTbl_dic (ks : DKs) (vs : List V) : NTbl (dicHO ks vs) := fun _ z => by
  cases ks <;> exact nomatch z
theorem goods_set {Γ : Gm} {G H : Hp} {t : T} (ht : Good Γ G H t) : ∀ {xs : List T} {k : Nat}, Goods Γ G H xs → Goods Γ G H (xs.set k t)
  | [], k, h => by simpa using h
  | x :: xs, 0, h => ⟨ht, h.2⟩
  | x :: xs, k + 1, h => ⟨h.1, goods_set ht h.2⟩
theorem cnts_set_le (b : Addr) (t : T) : ∀ (xs : List T) (k : Nat), T.cnts b (xs.set k t) ≤ T.cnts b xs + t.cnt b
  | [], k => by simp [T.cnts]
  | x :: xs, 0 => by simp only [List.set_cons_zero, T.cnts]; omega
  | x :: xs, k + 1 => by
    have := cnts_set_le b t xs k
    simp only [List.set_cons_succ, T.cnts]
    omega
theorem goods_app {Γ : Gm} {G H : Hp} : ∀ {xs ys : List T}, Goods Γ G H xs → Goods Γ G H ys → Goods Γ G H (xs ++ ys)
  | [], ys, _, h => h
  | x :: xs, ys, h, h2 => ⟨h.1, goods_app h.2 h2⟩
theorem kv_set {κ : Type} [DecidableEq κ] : ∀ {ks : List κ} {vs : List V} {k : κ} {j : Nat} (v : V), posOf ks k = some j → ks.length = vs.length → ks.Nodup → (ks.zip vs).map (fun kv => if kv.1 = k then (kv.1, v) else kv) = ks.zip (vs.set j v)
  | [], vs, k, j, v, h, _, _ => nomatch h
  | x :: ks, [], k, j, v, h, hl, _ => by simp at hl
  | x :: ks, y :: vs, k, j, v, h, hl, nd => by
    unfold posOf at h
    obtain ⟨nx, nd⟩ := List.nodup_cons.mp nd
    by_cases e : x = k
    · rw [if_pos e] at h
      cases h
      subst e
      simp only [List.zip_cons_cons, List.map_cons, if_true, List.set_cons_zero]
      congr 1
      refine (List.map_congr_left fun p hp => ?_).trans (List.map_id _)
      have : p.1 ≠ x := fun z => nx (z ▸ (List.of_mem_zip hp).1)
      rw [if_neg this]
      rfl
    · rw [if_neg e] at h
      cases hp : posOf ks k with
      | none => rw [hp] at h; cases h
      | some i =>
        rw [hp] at h
        cases h
        simp only [List.zip_cons_cons, List.map_cons, if_neg e, List.set_cons_succ]
        rw [kv_set v hp (by simpa using hl) nd]
theorem any_pos {κ : Type} [DecidableEq κ] {ks : List κ} {vs : List V} {k : κ} (hl : ks.length = vs.length) : ((ks.zip vs).any fun kv => decide (kv.1 = k)) = (posOf ks k).isSome := by
  rw [valV_any, valV_zip hl]
  cases h : posOf ks k with
  | none => rfl
  | some j =>
    have : j < vs.length := by rw [← hl]; exact (List.getElem?_eq_some_iff.mp (posOf_lt h)).1
    simp [List.getElem?_eq_getElem this]
theorem putK_there {κ : Type} [DecidableEq κ] {ks : List κ} {vs : List V} {k : κ} {j : Nat} (v : V) (h : posOf ks k = some j) (hl : ks.length = vs.length) (nd : ks.Nodup) : putK (ks.zip vs) k v = ks.zip (vs.set j v) := by
  unfold putK
  rw [any_pos hl, h]
  exact kv_set v h hl nd
theorem putK_not {κ : Type} [DecidableEq κ] {ks : List κ} {vs : List V} {k : κ} (v : V) (h : posOf ks k = none) (hl : ks.length = vs.length) : putK (ks.zip vs) k v = (ks ++ [k]).zip (vs ++ [v]) := by
  rw [putK_new v (by rw [valV_zip hl, h]; rfl), List.zip_append hl]
  rfl
end L2.Pv
end
section
set_option Elab.async false
set_option linter.all false
set_option autoImplicit false
set_option maxRecDepth 100000
namespace L2.Pv
open PySem PySem.Spec PyProof.Rows

theorem nd_snoc {α : Type} {ks : List α} {k : α} (nd : ks.Nodup) (h : k ∉ ks) : (ks ++ [k]).Nodup := by
  rw [List.nodup_append]
  refine ⟨nd, by simp, fun a ha b hb => ?_⟩
  have : b = k := by simpa using hb
  subst this
  exact fun z => h (z ▸ ha)
section
variable {Γ : Gm} {F : Fr} {σ : St} {H G : Hp} {sl : TS'} {tm us : List T} {w u t kt : T} {pi : List Nat} {j : Nat} {nd : D}
/-- x[k] = v, what it does to the heap -/
theorem Abs.put (A : Abs Γ F σ H G sl (t :: tm)) (hj : sl[j]? = some (some w)) (hu : T.at w pi = some u) (gk : Good Γ G H kt) (h : putD u.d kt.d t.d = some nd) :
    ∃ p o n, u.v = .ref p ∧ n.d = nd ∧ Abs Γ F σ (upd H p o) G (sl.set j (some (T.upd w pi n))) tm ∧
      ((∃ xs i k, kt.v = .int i ∧ H p = some (.lst xs) ∧ ixN xs.length i = some k ∧ o = .lst (xs.set k t.v)) ∨ DPut H p kt.v t.v (upd H p o)) := by
  have gu := (node_at A hj hu).2
  have gt : Good Γ G H t := A.goodT t List.mem_cons_self
  have cnt1 : ∀ b, T.cnts b [t] = t.cnt b := fun b => by rw [T.cnts, T.cnts]; omega
  have one := A.one
  -- t holds no address of w
  have apart : ∀ b, 0 < u.cnt b → t.cnt b = 0 := fun b hb => by
    have h1 := one b
    have h2 := cS_get (a := b) hj
    have h3 := T.at_cnt b hu
    rw [T.cnts] at h1
    omega
  unfold putD at h
  split at h
  · rename_i xs en
    split at h
    · rename_i i ek
      cases hx : ixN xs.length i with
      | none => rw [hx] at h; cases h
      | some k =>
        rw [hx] at h
        cases h
        obtain ⟨p, ts, eu, ets, hH, hz⟩ := node_lst gu en
        subst eu
        subst ets
        rw [List.length_map] at hx
        refine ⟨p, .lst (((ts.map T.v)).set k t.v), .lst p (ts.set k t), rfl, by rw [T.d, T.ds_map, List.map_set], ?_, .inl ⟨ts.map T.v, i, k, int_of gk ek, hH, by rw [List.length_map]; exact hx, rfl⟩⟩
        refine Abs.write (us := [t]) (rs := []) (u := .lst p ts) A hj hu rfl rfl hH (nTbl_lst _) (nCod_lst _) (fun b => ?_) (fun r hr => absurd hr (by simp)) fun kp => ?_
        · have := cnts_set_le b t ts k
          rw [cnt1, T.cnt, T.cnt]
          simp only [T.cnts]
          omega
        · have pz : t.cnt p = 0 := apart p (by rw [T.cnt, if_pos rfl]; omega)
          have cw : T.cnts p ts = 0 := by
            have h1 := one p
            have h2 := cS_get (a := p) hj
            have h3 := T.at_cnt p hu
            rw [T.cnt, if_pos rfl] at h3
            omega
          refine ⟨⟨by rw [upd_same, List.map_set], by rw [List.length_set]; exact hz⟩, goods_set (kp t pz gt) (Goods_iff.mpr fun x hx => kp x (by have := cnts_mem (a := p) hx; omega) (Goods_iff.mp gu.2 x hx))⟩
    · cases h
  · rename_i ks xs en
    obtain ⟨p, ts, eu, ets, hH, hz, hl, hnd⟩ := node_dic gu en
    subst eu
    subst ets
    have pz : t.cnt p = 0 := apart p (by rw [T.cnt, if_pos rfl]; omega)
    have cw : T.cnts p ts = 0 := by
      have h1 := one p
      have h2 := cS_get (a := p) hj
      have h3 := T.at_cnt p hu
      rw [T.cnt, if_pos rfl] at h3
      omega
    have kids : ∀ kp : (∀ x, x.cnt p = 0 → Good Γ G H x → Good Γ G (upd H p (dicHO ks ((ts.map T.v)))) x), True := fun _ => trivial
    split at h
    · rename_i i hx
      split at h
      · rename_i hz2
        cases h
        rw [List.length_map] at hz2
        refine ⟨p, dicHO ks ((ts.map T.v).set i t.v), .dic p ks (ts.set i t), rfl, by rw [T.d, T.ds_map, List.map_set], ?_, .inr ?_⟩
        · refine Abs.write (us := [t]) (rs := []) (u := .dic p ks ts) A hj hu rfl rfl hH (nTbl_dic _ _) (nCod_dic _ _) (fun b => ?_) (fun r hr => absurd hr (by simp)) fun kp => ?_
          · have := cnts_set_le b t ts i
            rw [cnt1, T.cnt, T.cnt]
            simp only [T.cnts]
            omega
          · exact ⟨⟨by rw [upd_same, List.map_set], by rw [List.length_set]; exact hz, by rw [List.length_set]; exact ⟨hl, hnd⟩⟩, goods_set (kp t pz gt) (Goods_iff.mpr fun x hx => kp x (by have := cnts_mem (a := p) hx; omega) (Goods_iff.mp gu.2 x hx))⟩
        · cases ks with
          | k ks =>
            unfold DKs.ix at hx
            cases hk : kt.d.key1 with
            | none => rw [hk] at hx; cases hx
            | some k =>
              rw [hk] at hx
              have hx : posOf ks k = some i := Option.some.inj hx
              have hl : ks.length = ts.length := hl
              refine .inl ⟨_, k, hH, key1_v gk hk, by rw [List.length_zip, List.length_map]; omega, ?_⟩
              rw [putK_there t.v hx (by rw [List.length_map]; exact hl) hnd]
              rfl
          | t ks =>
            unfold DKs.ix at hx
            cases hk : kt.d.keyT with
            | none => rw [hk] at hx; cases hx
            | some k =>
              rw [hk] at hx
              have hx : posOf ks k = some i := Option.some.inj hx
              have hl : ks.length = ts.length := hl
              obtain ⟨b, ev, eb⟩ := keyT_v A.sub gk hk
              refine .inr ⟨_, k, b, hH, ev, A.sub _ _ eb, by rw [List.length_zip, List.length_map]; omega, ?_⟩
              rw [putK_there t.v hx (by rw [List.length_map]; exact hl) hnd]
              rfl
      · cases h
    · rename_i hx
      split at h
      · rename_i hz2
        rw [List.length_map] at hz2
        have wr : ∀ ks' : DKs, ks'.len = ts.length + 1 → ks'.nd → Abs Γ F σ (upd H p (dicHO ks' ((ts ++ [t]).map T.v))) G (sl.set j (some (T.upd w pi (.dic p ks' (ts ++ [t]))))) tm := fun ks' h1 h2 => by
          refine Abs.write (us := [t]) (rs := []) (u := .dic p ks ts) A hj hu rfl rfl hH (nTbl_dic _ _) (nCod_dic _ _) (fun b => ?_) (fun r hr => absurd hr (by simp)) fun kp => ?_
          · rw [cnt1, T.cnt, T.cnt, cnts_append, cnt1]
            simp only [T.cnts]
            omega
          · exact ⟨⟨upd_same, by rw [List.length_append]; exact hz2, by rw [List.length_append]; exact ⟨h1, h2⟩⟩, goods_app (Goods_iff.mpr fun x hx => kp x (by have := cnts_mem (a := p) hx; omega) (Goods_iff.mp gu.2 x hx)) ⟨kp t pz gt, trivial⟩⟩
        cases ks with
        | k ks =>
          unfold DKs.ix at hx
          unfold DKs.snoc at h
          cases hk : kt.d.key1 with
          | none => rw [hk] at hx; cases hx
          | some k =>
            rw [hk] at hx h
            have hx : posOf ks k = none := Option.some.inj hx
            have hl : ks.length = ts.length := hl
            cases h
            refine ⟨p, _, .dic p (.k (ks ++ [k])) (ts ++ [t]), rfl, by rw [T.d, T.ds_map, List.map_append]; rfl, wr (.k (ks ++ [k])) (by show (ks ++ [k]).length = _; rw [List.length_append, hl]; rfl) (nd_snoc hnd (posOf_none hx)), .inr (.inl ⟨_, k, hH, key1_v gk hk, by rw [List.length_zip, List.length_map]; omega, ?_⟩)⟩
            rw [putK_not t.v hx (by rw [List.length_map]; exact hl), List.map_append]
            rfl
        | t ks =>
          unfold DKs.ix at hx
          unfold DKs.snoc at h
          cases hk : kt.d.keyT with
          | none => rw [hk] at hx; cases hx
          | some k =>
            rw [hk] at hx h
            have hx : posOf ks k = none := Option.some.inj hx
            have hl : ks.length = ts.length := hl
            cases h
            obtain ⟨b, ev, eb⟩ := keyT_v A.sub gk hk
            refine ⟨p, _, .dic p (.t (ks ++ [k])) (ts ++ [t]), rfl, by rw [T.d, T.ds_map, List.map_append]; rfl, wr (.t (ks ++ [k])) (by show (ks ++ [k]).length = _; rw [List.length_append, hl]; rfl) (nd_snoc hnd (posOf_none hx)), .inr (.inr ⟨_, k, b, hH, ev, A.sub _ _ eb, by rw [List.length_zip, List.length_map]; omega, ?_⟩)⟩
            rw [putK_not t.v hx (by rw [List.length_map]; exact hl), List.map_append]
            rfl
      · cases h
    · cases h
  · cases h
end
theorem PSet.or {X : Cx} {r r' : TSet} (h : PSet X r) (h' : PSet X r') : PSet X (fun o i v H Q => r o i v H Q ∨ r' o i v H Q) := by
  intro pins s σ H o i v ov iv u Q I ro ri rv q
  rcases q with q | q
  · exact h pins s σ H o i v ov iv u Q I ro ri rv q
  · exact h' pins s σ H o i v ov iv u Q I ro ri rv q
theorem updAt_of {Γ : Gm} {F : Fr} {σ : St} {H G : Hp} {sl : TS'} {tm : List T} {j : Nat} {pi : List Nat} {g : D → Option D} {δ : DS} (A : Abs Γ F σ H G sl tm) (h : updAt j pi g (dsl sl) = some δ) : ∃ w u n, sl[j]? = some (some w) ∧ T.at w pi = some u ∧ g u.d = some n ∧ δ = (dsl sl).set j (some (D.upd w.d pi n)) := by
  unfold updAt at h
  split at h
  · rename_i d hd
    obtain ⟨w, hw, ew⟩ := dsl_get hd
    subst ew
    split at h
    · rename_i n hn
      obtain ⟨u, hu, eu⟩ := T.at_of (A.goodS j w hw) hn
      subst eu
      cases hg : g u.d with
      | none => rw [hg] at h; cases h
      | some n' =>
        rw [hg] at h
        cases h
        exact ⟨w, u, n', hw, hu, hg, rfl⟩
    · cases h
  · cases h
/-- o[i] = e -/
def sPut (j : Nat) (fe : Ev) (fo : Ep) (fi : Ev) : Es := fun δ => (fe δ).st fun d δ1 => (fo δ1).st fun pi δ2 => (fi δ2).st fun k δ3 => og (updAt j pi (fun n => putD n k d) δ3) fun δ4 => .nx δ4
section
variable {X : Cx} {Γ : Gm} {E : WX} {P W Wo Wi Wa We : List Nat} {j : Nat} {fo : Ep} {fi fe : Ev} {o i e : Expr} {ri : Option Nat} {pos pos' : Pos}
theorem ss_put (hu : X.A.units + 1 < cLine) (he : SE X Γ E We e fe) (ho : SP X Γ E Wo j o fo) (hi : SV X Γ E Wi ri i fi) (hj : j ∉ Wi)
    (ha : ∀ v, assign (.Subscript o i pos') X.env v = (do
      let ov ← holding [v] (eval o X.env)
      let iv ← holding [v, ov] (eval i X.env)
      standAt pos'
      holding [v, ov, iv] (setItem ov iv v)
      release [v, ov, iv] []))
    (hs : swapsWithSole [.Subscript o i pos'] e pos.line X.env = pure false) (hw : swappedStores [.Subscript o i pos'] e X.env = pure none)
    (h1 : (assignEach [.Subscript o i pos'] X.env).map (·.2) = [assign (.Subscript o i pos') X.env]) : SS X Γ E P (.Assign [.Subscript o i pos'] e pos) (sPut j fe fo fi) := fun hK =>
  (ps_asg (he hK) (pg_sub (ho hK) (hi hK) (PSet.or set_list (set_dict hu)) ha) hs hw h1).imp fun Z σ H ⟨F, G, sl, tm, A, q⟩ => by
  refine e_run A q fun d δ H1 G1 sl1 t A1 s1 ed e1 _ q1 => ?_
  refine ⟨F, G1, sl1, t :: tm, A1, ?_⟩
  rw [e1]
  cases h1 : fo δ with
  | stuck => rw [h1] at q1; exact q1
  | exc c fs δ' => rw [h1] at q1; exact PX.more (ex := [t]) (q1 σ (Prot.refl _ _))
  | ok pi δ1 =>
    rw [h1] at q1
    intro H2 G2 sl2 w u A2 hw2 hu2 s2 e2 k2
    refine ⟨F, G2, sl2, t :: tm, A2, ?_⟩
    rw [e2]
    cases h2 : fi δ1 with
    | stuck => rw [st_ok, h2] at q1; exact q1
    | exc c fs δ' => rw [st_ok, h2] at q1; exact PX.more (ex := [t]) (q1 σ (Prot.refl _ _))
    | ok k δ2 =>
      rw [st_ok, h2, st_ok] at q1
      intro H3 G3 sl3 ex kt A3 w3 s3 e3 e3' k3
      have gk := w3.good A3
      have A4 := A3.dropN
      cases hp : updAt j pi (fun n => putD n k d) δ2 with
      | none => rw [hp] at q1; exact q1.elim
      | some δ3 =>
        rw [hp, og_some] at q1
        rw [← e3'] at hp
        obtain ⟨w', u', n, hw', hu', hn, eδ⟩ := updAt_of A4 hp
        have ew : w' = w := by
          have z := (k3 j hj).trans hw2
          rw [hw'] at z
          cases z
          rfl
        subst ew
        have eu : u' = u := by rw [hu2] at hu'; cases hu'; rfl
        subst eu
        rw [← ed, ← e3] at hn
        obtain ⟨p, oo, n', ev, en, B, hor⟩ := A4.put hw' hu' gk hn
        have fin : Z.nx σ (upd H3 p oo) := q1 σ _ _ _ B (s2.trans s3) (Prot.refl _ _) (by rw [dsl_set', T.upd_d n' (A4.goodS j _ hw'), en, eδ])
        rw [ev]
        rcases hor with ⟨xs, ii, kk, e5, e6, e7, e8⟩ | hd
        · refine .inl ⟨p, xs, ii, kk, rfl, e5, e6, e7, ?_⟩
          rw [← e8]
          exact fin
        · exact .inr ⟨p, _, rfl, hd, fin⟩
end
end L2.Pv
end
section
set_option Elab.async false
set_option linter.all false
set_option autoImplicit false
set_option maxRecDepth 100000
namespace L2.Pv
open PySem PySem.Spec PyProof.Rows

/-! ### methods of a place: o.m(..) -/
abbrev Mg := D → List D → Option (D × D)
def tyOk (T : String) (n : D) : Bool := match n with
  | .lst true _ => T == "list"
  | .dic true _ _ => T == "dict"
  | _ => false
def updM (j : Nat) (pi : List Nat) (g : D → Option (D × D)) (δ : DS) : Option (DS × D) := match δ[j]? with
  | some (some w) => match D.at w pi with
    | some n => (g n).map fun r => (δ.set j (some (D.upd w pi r.1)), r.2)
    | none => none
  | _ => none
def eMeth (T : String) (j : Nat) (fo : Ep) (fa : EvA) (g : Mg) : Ev := fun δ => (fo δ).bd fun pi δ1 => match nodeAt j pi δ1 with
  | some n => if tyOk T n then (fa δ1).bd fun ds δ2 => match updM j pi (fun n => g n ds) δ2 with
      | some r => .ok r.2 r.1
      | none => .stuck
    else .stuck
  | none => .stuck
def MtG (X : Cx) (Γ : Gm) (id : String) (g : Mg) : Prop := X.K = Γ.K → ∃ r, MtR X id r ∧ ∀ F σ H G sl tm ts w u j pi nd rd (Q : VK), Abs Γ F σ H G sl (ts ++ tm) → sl[j]? = some (some w) → T.at w pi = some u → g u.d (ts.map T.d) = some (nd, rd) →
  (∀ H' G' n t, Abs Γ F σ H' G' (sl.set j (some (T.upd w pi n))) (t :: tm) → Sub G G' → n.d = nd → t.d = rd → Q t.v H') → r u.v (ts.map T.v) H Q
theorem updM_of {Γ : Gm} {F : Fr} {σ : St} {H G : Hp} {sl : TS'} {tm : List T} {j : Nat} {pi : List Nat} {g : D → Option (D × D)} {r : DS × D} (A : Abs Γ F σ H G sl tm) (h : updM j pi g (dsl sl) = some r) : ∃ w u n, sl[j]? = some (some w) ∧ T.at w pi = some u ∧ g u.d = some (n, r.2) ∧ r.1 = (dsl sl).set j (some (D.upd w.d pi n)) := by
  unfold updM at h
  split at h
  · rename_i d hd
    obtain ⟨w, hw, ew⟩ := dsl_get hd
    subst ew
    split at h
    · rename_i n hn
      obtain ⟨u, hu, eu⟩ := T.at_of (A.goodS j w hw) hn
      subst eu
      cases hg : g u.d with
      | none => rw [hg] at h; cases h
      | some n' =>
        rw [hg] at h
        cases h
        exact ⟨w, u, n'.1, hw, hu, hg, rfl⟩
    · cases h
  · cases h
theorem tyV_of {K : PySem.W.Frag} {Γ : Gm} {G H : Hp} {u : T} {T : String} (g : Good Γ G H u) (h : tyOk T u.d = true) : tyV K T u.v H := by
  unfold tyOk at h
  split at h
  · rename_i xs e
    obtain ⟨p, ts, rfl, _, hH, _⟩ := node_lst g e
    exact .inl ⟨by simpa using h, _, SqL.of hH⟩
  · rename_i ks xs e
    obtain ⟨p, ts, rfl, _, hH, _⟩ := node_dic g e
    refine .inr (.inr (.inl ⟨by simpa using h, ?_⟩))
    cases ks with
    | k ks => exact .inl ⟨_, hH⟩
    | t ks => exact .inr ⟨_, hH⟩
  · cases h
section
variable {X : Cx} {Γ : Gm} {E : WX} {P W Wo Wi Wa We : List Nat} {j n : Nat} {fo : Ep} {fi fe : Ev} {fa : EvA} {o i e : Expr} {es : List Expr} {ri : Option Nat} {pos pos' apos cpos : Pos} {T' id : String} {name : Str} {g : Mg}
/-- the method's run, its arguments read -/
theorem meth_run (hK : X.K = Γ.K) {r : V → List V → Hp → VK → Prop} (hs : ∀ F σ H G sl tm ts w u j pi nd rd (Q : VK), Abs Γ F σ H G sl (ts ++ tm) → sl[j]? = some (some w) → T.at w pi = some u → g u.d (ts.map T.d) = some (nd, rd) →
      (∀ H' G' n t, Abs Γ F σ H' G' (sl.set j (some (T.upd w pi n))) (t :: tm) → Sub G G' → n.d = nd → t.d = rd → Q t.v H') → r u.v (ts.map T.v) H Q) (hj : j ∉ Wa) {σ : St} {H : Hp} {Q : VK}
    (q : tE Γ E (Wo ++ (Wa ++ [j])) (eMeth T' j fo fa g) σ H Q) : tP Γ E Wo j fo σ H fun x H1 => tyV X.K T' x H1 ∧ tA Γ E Wa n fa σ H1 fun xs H2 => r x xs H2 Q := by
  obtain ⟨F, G, sl, tm, A, q⟩ := q
  refine ⟨F, G, sl, tm, A, ?_⟩
  unfold eMeth at q
  cases h1 : fo (dsl sl) with
  | stuck => rw [h1] at q; exact q
  | exc c fs δ => rw [h1] at q; exact q
  | ok pi δ1 =>
    rw [h1, bd_ok] at q
    intro H1 G1 sl1 w u A1 hw hu s1 e1 k1
    obtain ⟨hn, gu⟩ := node_at A1 hw hu
    rw [e1] at hn
    rw [hn] at q
    dsimp only at q
    cases ht : tyOk T' u.d with
    | false => rw [ht, if_neg Bool.false_ne_true] at q; exact q.elim
    | true =>
      rw [ht, if_pos rfl] at q
      refine ⟨tyV_of gu ht, F, G1, sl1, tm, A1, ?_⟩
      rw [e1]
      cases h2 : fa δ1 with
      | stuck => rw [h2] at q; exact q
      | exc c fs δ => rw [h2] at q; exact q
      | ok ds δ2 =>
        rw [h2, bd_ok] at q
        intro H2 G2 sl2 ts A2 s2 hl ets e2 k2
        have hw2 : sl2[j]? = some (some w) := (k2 j hj).trans hw
        cases hm : updM j pi (fun n => g n ds) δ2 with
        | none => rw [hm] at q; exact q.elim
        | some rr =>
          rw [hm] at q
          dsimp only at q
          rw [← e2] at hm
          obtain ⟨w', u', n, hw', hu', hg, er⟩ := updM_of A2 hm
          rw [hw2] at hw'
          cases hw'
          rw [hu] at hu'
          cases hu'
          rw [← ets] at hg
          refine hs F σ H2 G2 sl2 tm ts w u j pi n rr.2 Q A2 hw2 hu hg fun H3 G3 nn t A3 s3 en et => ?_
          refine q H3 G3 _ t A3 (s1.trans (s2.trans s3)) et ?_ (k1.trans (k2.trans fun i hi => ?_))
          · rw [dsl_set', T.upd_d nn (A2.goodS j w hw2), en, er]
          · rw [List.getElem?_set_ne (show j ≠ i from fun z => hi (by simp [z]))]
theorem se_meth (O : MtG X Γ id g) (pa : PlainAttrs T') (slot : Slot T' name id) (hty : typeOf (.builtin id) = pure (.type "method_descriptor")) (ho : SP X Γ E Wo j o fo) (ha : SA X Γ E Wa n (e :: es) fa) (hj : j ∉ Wa)
    (hbase : attributeBase o name X.env (eval o X.env) = eval o X.env)
    (hfew : ((backTo cpos (starEach (e :: es) X.env)).all (fun x => !x.1) && (backToKw cpos (keywordEach [] X.env)).all (fun x => x.1.isSome)
      && decide ((e :: es).length + ([] : List Keyword).length + (if ([] : List Keyword).isEmpty then 0 else 1) < 30)) = true)
    (hline : (apos.endLine == cpos.line) = true) (hs : starEach (e :: es) X.env = (false, eval e X.env) :: starEach es X.env) (hplain : (backTo cpos (starEach es X.env)).any (·.1) = false) :
    SE X Γ E (Wo ++ (Wa ++ [j])) (.Call (.Attribute o name apos) (e :: es) [] cpos) (eMeth T' j fo fa g) := fun hK => by
  obtain ⟨r, hm, hr⟩ := O hK
  exact (pe_bm pa slot hty hm (ho hK) (ha hK) hbase hfew hline hs hplain).imp fun σ H Q q => meth_run hK hr hj q
theorem se_meth0 (O : MtG X Γ id g) (pa : PlainAttrs T') (slot : Slot T' name id) (hty : typeOf (.builtin id) = pure (.type "method_descriptor")) (ho : SP X Γ E Wo j o fo)
    (hbase : attributeBase o name X.env (eval o X.env) = eval o X.env) (hline : (apos.endLine == cpos.line) = true) :
    SE X Γ E (Wo ++ ([] ++ [j])) (.Call (.Attribute o name apos) [] [] cpos) (eMeth T' j fo aNil g) := fun hK => by
  obtain ⟨r, hm, hr⟩ := O hK
  refine (pe_bm0 pa slot hty hm (ho hK) hbase hline).imp fun σ H Q q => ?_
  obtain ⟨F, G, sl, tm, A, k⟩ := meth_run (Wa := []) (n := 0) (fa := aNil) hK hr (by simp) q
  refine ⟨F, G, sl, tm, A, ?_⟩
  cases hf : fo (dsl sl) with
  | stuck => rw [hf] at k; exact k
  | exc c fs δ => rw [hf] at k; exact k
  | ok pi δ =>
    rw [hf] at k
    intro H1 G1 sl1 w u A1 hw hu s1 e1 k1
    obtain ⟨ty, F', G', sl', tm', A', z⟩ := k H1 G1 sl1 w u A1 hw hu s1 e1 k1
    exact ⟨ty, z H1 G' sl' [] A' (Sub.refl _) rfl rfl rfl (Keep.refl _ _)⟩
/-! ### append, pop, extend -/
def mAppend : Mg := fun n ds => match n, ds with
  | .lst true xs, [d] => if xs.length < sizeLine then some (.lst true (xs ++ [d]), .non) else none
  | _, _ => none
theorem m_append : MtG X Γ "list.append" mAppend := fun hK => by
  refine ⟨_, mt_append, ?_⟩
  intro F σ H G sl tm ts w u j pi nd rd Q A hj hu hg q
  have gu := (node_at A hj hu).2
  unfold mAppend at hg
  split at hg
  · rename_i xs d en ed
    split at hg
    · rename_i hz
      cases hg
      obtain ⟨p, us, eu, ets, hH, hz'⟩ := node_lst gu en
      subst eu ets
      cases ts with
      | nil => cases ed
      | cons t ts =>
        cases ts with
        | cons t2 ts => cases ed
        | nil =>
          cases ed
          have gt : Good Γ G H t := A.goodT t (by simp)
          rw [List.length_map] at hz
          refine ⟨p, us.map T.v, t.v, rfl, rfl, hH, by rw [List.length_map]; exact hz, ?_⟩
          have one := A.one
          have h3 : ∀ b, (T.lst p us).cnt b ≤ cS b sl := fun b => Nat.le_trans (T.at_cnt b hu) (cS_get hj)
          have pz : t.cnt p = 0 ∧ T.cnts p us = 0 := by
            have h1 := one p
            have h2 := h3 p
            rw [T.cnt, if_pos rfl] at h2
            rw [List.cons_append, T.cnts] at h1
            omega
          have A' := Abs.write (us := [t]) (rs := []) (n := .lst p (us ++ [t])) (o := .lst (us.map T.v ++ [t.v])) A hj hu rfl rfl hH (nTbl_lst _) (nCod_lst _) (fun b => by
            have : T.cnts b [t] = t.cnt b := by rw [T.cnts, T.cnts]; omega
            rw [T.cnt, T.cnt, cnts_append, this]; simp only [T.cnts]; omega) (fun r hr => absurd hr (by simp)) fun kp => by
              refine ⟨⟨by rw [upd_same, List.map_append]; rfl, by rw [List.length_append]; exact hz⟩, goods_app (Goods_iff.mpr fun x hx => kp x (by have := cnts_mem (a := p) hx; omega) (Goods_iff.mp gu.2 x hx)) ⟨kp t pz.1 gt, trivial⟩⟩
          exact q _ G (.lst p (us ++ [t])) (.leaf .non .non) (A'.leaf rfl) (Sub.refl G) (by rw [T.d, T.ds_map, List.map_append]; rfl) rfl
    · cases hg
  · cases hg
def mPop : Mg := fun n ds => match n, ds with
  | .lst true xs, [] => (xs[xs.length - 1]?).map fun d => (.lst true xs.dropLast, d)
  | _, _ => none
def mPopAt : Mg := fun n ds => match n, ds with
  | .lst true xs, [.int i] => if -(2 ^ 63) ≤ i ∧ i < 2 ^ 63 then (ixN xs.length i).bind fun k => (xs[k]?).map fun d => (.lst true (xs.eraseIdx k), d) else none
  | _, _ => none
theorem cnts_erase (b : Addr) : ∀ {xs : List T} {k : Nat} {t : T}, xs[k]? = some t → T.cnts b (xs.eraseIdx k) + t.cnt b = T.cnts b xs
  | [], k, t, h => by simp at h
  | x :: xs, 0, t, h => by simp at h; subst h; simp only [List.eraseIdx_cons_zero, T.cnts]; omega
  | x :: xs, k + 1, t, h => by
    have := cnts_erase b (xs := xs) (k := k) (t := t) (by simpa using h)
    simp only [List.eraseIdx_cons_succ, T.cnts]
    omega
theorem erase_last {α : Type} (xs : List α) : xs.eraseIdx (xs.length - 1) = xs.dropLast := by
  induction xs with
  | nil => rfl
  | cons x xs ih =>
    cases xs with
    | nil => rfl
    | cons y ys =>
      show (x :: y :: ys).eraseIdx ((y :: ys).length - 1 + 1) = x :: (y :: ys).dropLast
      rw [List.eraseIdx_cons_succ, ih]
/-- one of the list's parts goes out -/
theorem Abs.takeAt {F : Fr} {σ : St} {H G : Hp} {sl : TS'} {tm ts us : List T} {w : T} {j k : Nat} {pi : List Nat} {p : Addr} {t : T} (A : Abs Γ F σ H G sl (ts ++ tm)) (hj : sl[j]? = some (some w)) (hu : T.at w pi = some (.lst p us)) (hk : us[k]? = some t) :
    H p = some (.lst (us.map T.v)) ∧ Abs Γ F σ (upd H p (.lst ((us.map T.v).eraseIdx k))) G (sl.set j (some (T.upd w pi (.lst p (us.eraseIdx k))))) (t :: tm) := by
  have gu := (node_at A hj hu).2
  refine ⟨gu.1.1, ?_⟩
  have h3 : ∀ b, (T.lst p us).cnt b ≤ cS b sl := fun b => Nat.le_trans (T.at_cnt b hu) (cS_get hj)
  have pz : T.cnts p us = 0 := by
    have h1 := A.one p
    have h2 := h3 p
    rw [T.cnt, if_pos rfl] at h2
    omega
  have ce := cnts_erase (xs := us) (k := k) (t := t)
  have A' := Abs.write (us := ts) (rs := [t]) (n := .lst p (us.eraseIdx k)) (o := .lst ((us.map T.v).eraseIdx k)) A hj hu rfl rfl gu.1.1 (nTbl_lst _) (nCod_lst _) (fun b => by
    have := ce b hk
    have e1 : T.cnts b [t] = t.cnt b := by rw [T.cnts, T.cnts]; omega
    rw [T.cnt, T.cnt, e1]; omega) (fun r hr => by
      have : r = t := by simpa using hr
      subst this
      exact Goods_iff.mp gu.2 _ (List.mem_of_getElem? hk)) fun kp => by
        refine ⟨⟨by rw [upd_same, map_eraseI], Nat.le_trans (List.length_eraseIdx_le ..) gu.1.2⟩, Goods_iff.mpr fun x hx => kp x (by have := cnts_mem (a := p) (List.mem_of_mem_eraseIdx hx); omega) (Goods_iff.mp gu.2 x (List.mem_of_mem_eraseIdx hx))⟩
  exact A'
where map_eraseI {α β : Type} {f : α → β} {l : List α} {k : Nat} : (l.map f).eraseIdx k = (l.eraseIdx k).map f := by
        induction l generalizing k with
        | nil => rfl
        | cons x l ih => cases k with
          | zero => rfl
          | succ k => simp [ih]
theorem map_erase' {α β : Type} (f : α → β) : ∀ (l : List α) (k : Nat), (l.map f).eraseIdx k = (l.eraseIdx k).map f
  | [], k => rfl
  | x :: l, 0 => rfl
  | x :: l, k + 1 => by simp [map_erase' f l k]
theorem m_pop : MtG X Γ "list.pop" mPop := fun hK => by
  refine ⟨_, mt_pop, ?_⟩
  intro F σ H G sl tm ts w u j pi nd rd Q A hj hu hg q
  have gu := (node_at A hj hu).2
  unfold mPop at hg
  split at hg
  · rename_i xs en ed
    cases hx : xs[xs.length - 1]? with
    | none => rw [hx] at hg; cases hg
    | some d =>
      rw [hx] at hg
      cases hg
      obtain ⟨p, us, eu, ets, hH, hz'⟩ := node_lst gu en
      subst eu ets
      have ets : ts = [] := by simpa using ed
      subst ets
      rw [List.length_map, List.getElem?_map] at hx
      cases ht : us[us.length - 1]? with
      | none => rw [ht] at hx; cases hx
      | some t =>
        rw [ht] at hx
        cases hx
        obtain ⟨_, B⟩ := Abs.takeAt (ts := []) A hj hu ht
        have e1 : (us.map T.v).eraseIdx (us.length - 1) = (us.map T.v).dropLast := by
          have := erase_last (us.map T.v)
          rw [List.length_map] at this
          exact this
        rw [e1] at B
        refine ⟨p, us.map T.v, t.v, rfl, rfl, hH, by rw [List.length_map, List.getElem?_map, ht]; rfl, ?_⟩
        refine q _ G (.lst p (us.eraseIdx (us.length - 1))) t B (Sub.refl G) ?_ rfl
        rw [T.d, T.ds_map, ← map_erase']
        have := erase_last (us.map T.d)
        rw [List.length_map] at this
        rw [this]
  · cases hg
theorem m_popAt : MtG X Γ "list.pop" mPopAt := fun hK => by
  refine ⟨_, mt_popAt, ?_⟩
  intro F σ H G sl tm ts w u j pi nd rd Q A hj hu hg q
  have gu := (node_at A hj hu).2
  unfold mPopAt at hg
  split at hg
  · rename_i xs i en ed
    split at hg
    · rename_i hi
      cases hx : ixN xs.length i with
      | none => rw [hx] at hg; cases hg
      | some k =>
        rw [hx] at hg
        obtain ⟨p, us, eu, ets, hH, hz'⟩ := node_lst gu en
        subst eu ets
        have hg : ((us.map T.d)[k]?).map (fun d => (D.lst true ((us.map T.d).eraseIdx k), d)) = some (nd, rd) := hg
        rw [List.getElem?_map] at hg
        cases ht : us[k]? with
        | none => rw [ht] at hg; cases hg
        | some t =>
          rw [ht] at hg
          cases hg
          rw [List.length_map] at hx
          cases ts with
          | nil => cases ed
          | cons t2 ts =>
            cases ts with
            | cons t3 ts => exact absurd ed (by simp)
            | nil =>
              have ed : t2.d = .int i := by simpa using ed
              have gi := A.goodT t2 (by simp)
              obtain ⟨_, B⟩ := Abs.takeAt (ts := [t2]) A hj hu ht
              refine ⟨p, us.map T.v, i, k, t.v, rfl, by rw [List.map_cons, List.map_nil, int_of gi ed], hH, hi.1, hi.2, by rw [List.length_map]; exact (ixN_seq hx).1, by rw [List.getElem?_map, ht]; rfl, ?_⟩
              exact q _ G (.lst p (us.eraseIdx k)) t B (Sub.refl G) (by rw [T.d, T.ds_map, map_erase']) rfl
    · cases hg
  · cases hg
end
end L2.Pv
end
section
set_option Elab.async false
set_option linter.all false
set_option autoImplicit false
set_option maxRecDepth 100000
namespace L2.Pv
open PySem PySem.Spec PyProof.Rows

/-! ### two clauses -/
def lc2L (vs vs1 : List Nat) (ft : Eg) (fc : EvT) (fi1 : EvA) (ft1 : Eg) (fc1 : EvT) (fe : Ev) : List D → DS → Option (List D × DS)
  | [], δ => some ([], δ)
  | d :: ds, δ => (ft d δ).bind fun δ1 => match fc δ1 with
    | .ok true δ2 => match fi1 δ2 with
      | .ok es δ3 => (lcL vs1 ft1 fc1 fe es (wipeG δ3 vs1)).bind fun p => (lc2L vs vs1 ft fc fi1 ft1 fc1 fe ds (wipeG p.2 vs)).map fun r => (p.1 ++ r.1, r.2)
      | _ => none
    | .ok false δ2 => lc2L vs vs1 ft fc fi1 ft1 fc1 fe ds (wipeG δ2 vs)
    | _ => none
def eLc2 (vs vs1 : List Nat) (fi : EvA) (ft : Eg) (fc : EvT) (fi1 : EvA) (ft1 : Eg) (fc1 : EvT) (fe : Ev) : Ev := fun δ => (fi δ).bd fun ds δ1 => match lc2L vs vs1 ft fc fi1 ft1 fc1 fe ds (wipeG δ1 vs) with
  | some (ys, δ2) => if ys.length ≤ sizeLine then .ok (.lst true ys) (restG δ1 δ2 vs) else .stuck
  | none => .stuck
theorem wipe_wipe {σ : St} {vs vs1 : List Nat} (h : ∀ i ∈ vs1, i ∈ vs) : wipe (wipe σ vs1) vs = wipe σ vs := by
  apply List.ext_getElem?
  intro i
  rw [wipe_eq (wipe σ vs1), wipe_eq σ vs, wipeG_get, wipeG_get, wipe_length]
  by_cases hi : i ∈ vs ∧ i < σ.length
  · rw [if_pos hi, if_pos hi]
  · rw [if_neg hi, if_neg hi, wipe_eq, wipeG_get, if_neg fun z => hi ⟨h i z.1, z.2⟩]
section
variable {X : Cx} {Γ : Gm} {E : WX} {Wi Wc We Wi1 Wc1 S S1 : List Nat} {elt tg iter tg1 iter1 : Expr} {ifs ifs1 : List Expr} {scope : Scope} {own : List (Str × Nat)} {pos : Pos} {fi fi1 : EvA} {ft ft1 : Eg} {fc fc1 : EvT} {fe : Ev}
theorem lc2_run {vs vs1 : List Nat} {σ : St} {H : Hp} {Q : VK} (hS : ∀ i ∈ S, i ∈ vs) (hS1 : ∀ i ∈ S1, i ∈ vs1) (hv : ∀ i ∈ vs1, i ∈ vs) (q : tE Γ E (Wi ++ (vs ++ (Wc ++ (Wi1 ++ (Wc1 ++ We))))) (eLc2 vs vs1 fi ft fc fi1 ft1 fc1 fe) σ H Q) :
    tLc2 (tI Γ E Wi fi) (tG Γ S ft) (tT Γ E0' Wc fc) (tI Γ E0' Wi1 fi1) (tG Γ S1 ft1) (tT Γ E0' Wc1 fc1) (tE Γ E0' We fe) vs vs1 σ H Q := by
  obtain ⟨F, G, sl, tm, A, q⟩ := q
  refine ⟨F, G, sl, tm, A, ?_⟩
  unfold eLc2 at q
  cases hf : fi (dsl sl) with
  | stuck => rw [hf] at q; exact q
  | exc c fs δ => rw [hf] at q; exact q
  | ok ds δ1 =>
    rw [hf, bd_ok] at q
    intro J H1 G1 sl1 A1 s1 e1 k1 gv hz D hD
    cases hl : lc2L vs vs1 ft fc fi1 ft1 fc1 fe ds (wipeG δ1 vs) with
    | none => rw [hl] at q; exact q.elim
    | some r =>
      obtain ⟨ysT, δT⟩ := r
      rw [hl] at q
      dsimp only at q
      by_cases hzT : ysT.length ≤ sizeLine
      case neg => rw [if_neg hzT] at q; exact q.elim
      rw [if_pos hzT] at q
      let WW := vs ++ (Wc ++ (Wi1 ++ (Wc1 ++ We)))
      obtain ⟨hsT, B, R⟩ := A1.hide vs
      have B2 : Abs Γ F (wipe σ vs) (upd H1 D (.lst [])) G1 (wipeG sl1 vs) (.lst D [] :: (hsT ++ tm)) := Abs.newLst (ts := []) B hD (Nat.zero_le _)
      -- what stands between the turns
      let Iv : List L2.Pv.D → Hp → Prop := fun rest H' => ∃ G' sl' ts ys, Abs Γ F (wipe σ vs) H' G' sl' (.lst D ts :: (hsT ++ tm)) ∧ Sub G1 G' ∧ Keep WW (wipeG sl1 vs) sl' ∧ lc2L vs vs1 ft fc fi1 ft1 fc1 fe rest (dsl sl') = some (ys, δT) ∧ ts.map T.d ++ ys = ysT
      refine ⟨fun i m H' => m = ds.length - i ∧ Iv (ds.drop i) H', ⟨_, rfl, G1, wipeG sl1 vs, [], ysT, B2, Sub.refl _, Keep.refl _ _, by rw [dsl_wipe, e1]; exact hl, rfl⟩, ?_⟩
      rintro i m H' ⟨rfl, G', sl', ts, ys, A', s', k', hL, hys⟩
      obtain ⟨hgo, hst⟩ := gv F _ H' G' sl' _ A' s' i
      cases hd : ds[i]? with
      | none =>
        refine .inl ⟨hst hd, ?_⟩
        rw [show ds.drop i = [] from List.drop_eq_nil_iff.mpr (List.getElem?_eq_none_iff.mp hd)] at hL
        have hL : some ([], dsl sl') = some (ys, δT) := hL
        cases hL
        rw [List.append_nil] at hys
        have C := R H' G' sl' (.lst D ts :: tm) A'.swap'
        refine q H' G' _ (.lst D ts) C (s1.trans s') (by rw [T.d, T.ds_map, hys]) (by rw [dsl_rest, e1]) (k1.trans ?_)
        intro j hj
        have hjv : j ∉ vs := fun z => hj (List.mem_append_left _ z)
        rw [Keep.rest (W := vs) sl1 sl' vs (fun _ h => h) j hjv, k' j hj, wipeG_get, if_neg fun z => hjv z.1]
      | some d =>
        obtain ⟨h1, h2⟩ := hgo d hd
        have hlt : i < ds.length := (List.getElem?_eq_some_iff.mp hd).1
        rw [drop_cons hd] at hL
        refine .inr ⟨h1, Iv (ds.drop (i + 1)), fun H'' w => ⟨ds.length - (i + 1), by omega, rfl, w⟩, fun x H3 y => ?_⟩
        obtain ⟨G3, t, A3, s3, ev, ed⟩ := h2 x H3 y
        refine ⟨F, G3, sl', _, t, A3, ev, ?_⟩
        rw [ed]
        unfold lc2L at hL
        cases hft : ft d (dsl sl') with
        | none => rw [hft] at hL; cases hL
        | some δ2 =>
          rw [hft] at hL
          intro σ4 H4 G4 sl4 A4 s4 o4 k4 e4
          refine ⟨wipe_only o4 hS, F, G4, sl4, _, A4, ?_⟩
          rw [e4]
          have hL : (match fc δ2 with
            | .ok true δ2 => match fi1 δ2 with
              | .ok es δ3 => (lcL vs1 ft1 fc1 fe es (wipeG δ3 vs1)).bind fun p => (lc2L vs vs1 ft fc fi1 ft1 fc1 fe (ds.drop (i + 1)) (wipeG p.2 vs)).map fun r => (p.1 ++ r.1, r.2)
              | _ => none
            | .ok false δ2 => lc2L vs vs1 ft fc fi1 ft1 fc1 fe (ds.drop (i + 1)) (wipeG δ2 vs)
            | _ => none) = some (ys, δT) := hL
          have inV : ∀ v ∈ vs, v ∈ WW := fun v h => List.mem_append_left _ h
          have in1 : ∀ v ∈ Wc, v ∈ WW := fun v h => List.mem_append_right _ (List.mem_append_left _ h)
          have in2 : ∀ v ∈ Wi1, v ∈ WW := fun v h => List.mem_append_right _ (List.mem_append_right _ (List.mem_append_left _ h))
          have in3 : ∀ v ∈ Wc1, v ∈ WW := fun v h => List.mem_append_right _ (List.mem_append_right _ (List.mem_append_right _ (List.mem_append_left _ h)))
          have in4 : ∀ v ∈ We, v ∈ WW := fun v h => List.mem_append_right _ (List.mem_append_right _ (List.mem_append_right _ (List.mem_append_right _ h)))
          have k4' : Keep WW sl' sl4 := k4.mono fun i h => inV i (hS i h)
          cases hfc : fc δ2 with
          | stuck => rw [hfc] at hL; cases hL
          | exc c fs δ => rw [hfc] at hL; cases hL
          | ok b δ3 =>
            rw [hfc] at hL
            intro H5 G5 sl5 A5 s5 e5 k5
            have k5' : Keep WW sl4 sl5 := k5.mono in1
            cases b with
            | false =>
              rw [if_neg Bool.false_ne_true]
              have A6 := A5.wipeS vs
              rw [wipe_only o4 hS] at A6
              exact ⟨G5, wipeG sl5 vs, ts, ys, A6, s'.trans (s3.trans (s4.trans s5)), ((k'.tr k4').tr k5').tr (Keep.wipe _ _ inV), by rw [dsl_wipe, e5]; exact hL, hys⟩
            | true =>
              rw [if_pos rfl]
              refine ⟨F, G5, sl5, _, A5, ?_⟩
              rw [e5]
              have hL : (match fi1 δ3 with
                | .ok es δ3 => (lcL vs1 ft1 fc1 fe es (wipeG δ3 vs1)).bind fun p => (lc2L vs vs1 ft fc fi1 ft1 fc1 fe (ds.drop (i + 1)) (wipeG p.2 vs)).map fun r => (p.1 ++ r.1, r.2)
                | _ => none) = some (ys, δT) := hL
              cases hfi : fi1 δ3 with
              | stuck => rw [hfi] at hL; cases hL
              | exc c fs δ => rw [hfi] at hL; cases hL
              | ok es δ4 =>
                rw [hfi] at hL
                intro J1 H6 G6 sl6 A6 s6 e6 k6 gv1 hz1
                have k6' : Keep WW sl5 sl6 := k6.mono in2
                have hL : (lcL vs1 ft1 fc1 fe es (wipeG δ4 vs1)).bind (fun p => (lc2L vs vs1 ft fc fi1 ft1 fc1 fe (ds.drop (i + 1)) (wipeG p.2 vs)).map fun r => (p.1 ++ r.1, r.2)) = some (ys, δT) := hL
                cases hin : lcL vs1 ft1 fc1 fe es (wipeG δ4 vs1) with
                | none => rw [hin] at hL; cases hL
                | some p =>
                  rw [hin] at hL
                  have hL : (lc2L vs vs1 ft fc fi1 ft1 fc1 fe (ds.drop (i + 1)) (wipeG p.2 vs)).map (fun r => (p.1 ++ r.1, r.2)) = some (ys, δT) := hL
                  cases hre : lc2L vs vs1 ft fc fi1 ft1 fc1 fe (ds.drop (i + 1)) (wipeG p.2 vs) with
                  | none => rw [hre] at hL; cases hL
                  | some rr =>
                    rw [hre] at hL
                    have hL : some (p.1 ++ rr.1, rr.2) = some (ys, δT) := hL
                    cases hL
                    have kk := ((k'.tr k4').tr k5').tr k6'
                    have ss : Sub G1 G6 := s'.trans (s3.trans (s4.trans (s5.trans s6)))
                    let Iw : List L2.Pv.D → Hp → Prop := fun rest H' => ∃ G' sl' ts' ys', Abs Γ F (wipe σ4 vs1) H' G' sl' (.lst D ts' :: (hsT ++ tm)) ∧ Sub G6 G' ∧ Keep WW (wipeG sl1 vs) sl' ∧ lcL vs1 ft1 fc1 fe rest (dsl sl') = some (ys', p.2) ∧ ts'.map T.d ++ (ys' ++ rr.1) = ysT
                    refine ⟨fun j m H' => m = es.length - j ∧ Iw (es.drop j) H', ⟨_, rfl, G6, wipeG sl6 vs1, ts, p.1, A6.wipeS vs1, Sub.refl _, kk.tr (Keep.wipe _ _ fun v h => inV v (hv v h)), by rw [dsl_wipe, e6]; exact hin, hys⟩, ?_⟩
                    rintro j m H' ⟨rfl, G', sl7, ts7, ys7, A7, s7, k7, hL7, hys7⟩
                    obtain ⟨hgo1, hst1⟩ := gv1 F _ H' G' sl7 _ A7 s7 j
                    cases hd1 : es[j]? with
                    | none =>
                      refine .inl ⟨hst1 hd1, ?_⟩
                      rw [show es.drop j = [] from List.drop_eq_nil_iff.mpr (List.getElem?_eq_none_iff.mp hd1)] at hL7
                      have hL7 : some ([], dsl sl7) = some (ys7, p.2) := hL7
                      have e7 : ys7 = [] := ((Prod.mk.inj (Option.some.inj hL7)).1).symm
                      have e7' : dsl sl7 = p.2 := (Prod.mk.inj (Option.some.inj hL7)).2
                      subst e7
                      have A8 := A7.wipeS vs
                      rw [wipe_wipe hv, wipe_only o4 hS] at A8
                      exact ⟨G', wipeG sl7 vs, ts7, rr.1, A8, ss.trans s7, k7.tr (Keep.wipe _ _ inV), by rw [dsl_wipe, e7']; exact hre, by simpa using hys7⟩
                    | some d1 =>
                      obtain ⟨h11, h12⟩ := hgo1 d1 hd1
                      have hlt1 : j < es.length := (List.getElem?_eq_some_iff.mp hd1).1
                      rw [drop_cons hd1] at hL7
                      refine .inr ⟨h11, Iw (es.drop (j + 1)), fun H'' w => ⟨es.length - (j + 1), by omega, rfl, w⟩, fun x1 H8 y1 => ?_⟩
                      obtain ⟨G8, t8, A8, s8, ev8, ed8⟩ := h12 x1 H8 y1
                      refine ⟨F, G8, sl7, _, t8, A8, ev8, ?_⟩
                      rw [ed8]
                      unfold lcL at hL7
                      cases hft1 : ft1 d1 (dsl sl7) with
                      | none => rw [hft1] at hL7; cases hL7
                      | some δ9 =>
                        rw [hft1] at hL7
                        intro σ9 H9 G9 sl9 A9 s9 o9 k9 e9
                        refine ⟨wipe_only o9 hS1, F, G9, sl9, _, A9, ?_⟩
                        rw [e9]
                        have hL7 : (match fc1 δ9 with
                          | .ok true δ2 => match fe δ2 with
                            | .ok y δ3 => (lcL vs1 ft1 fc1 fe (es.drop (j + 1)) (wipeG δ3 vs1)).map fun p => (y :: p.1, p.2)
                            | _ => none
                          | .ok false δ2 => lcL vs1 ft1 fc1 fe (es.drop (j + 1)) (wipeG δ2 vs1)
                          | _ => none) = some (ys7, p.2) := hL7
                        have k9' : Keep WW sl7 sl9 := k9.mono fun i h => inV i (hv i (hS1 i h))
                        have fin : ∀ {H6 G6 : Hp} {sl6 : TS'} {ts' : List T}, Abs Γ F σ9 H6 G6 sl6 (.lst D ts' :: (hsT ++ tm)) → Abs Γ F (wipe σ4 vs1) H6 G6 (wipeG sl6 vs1) (.lst D ts' :: (hsT ++ tm)) := fun {H6 G6 sl6 ts'} A6 => by
                          have := A6.wipeS vs1
                          rw [wipe_only o9 hS1] at this
                          exact this
                        cases hfc1 : fc1 δ9 with
                        | stuck => rw [hfc1] at hL7; cases hL7
                        | exc c fs δ => rw [hfc1] at hL7; cases hL7
                        | ok b1 δ10 =>
                          rw [hfc1] at hL7
                          intro H10 G10 sl10 A10 s10 e10 k10
                          have k10' : Keep WW sl9 sl10 := k10.mono in3
                          cases b1 with
                          | false =>
                            rw [if_neg Bool.false_ne_true]
                            exact ⟨G10, wipeG sl10 vs1, ts7, ys7, fin A10, s7.trans (s8.trans (s9.trans s10)), ((k7.tr k9').tr k10').tr (Keep.wipe _ _ fun v h => inV v (hv v h)), by rw [dsl_wipe, e10]; exact hL7, hys7⟩
                          | true =>
                            rw [if_pos rfl]
                            refine ⟨F, G10, sl10, _, A10, ?_⟩
                            rw [e10]
                            have hL7 : (match fe δ10 with
                              | .ok y δ3 => (lcL vs1 ft1 fc1 fe (es.drop (j + 1)) (wipeG δ3 vs1)).map fun p => (y :: p.1, p.2)
                              | _ => none) = some (ys7, p.2) := hL7
                            cases hfe : fe δ10 with
                            | stuck => rw [hfe] at hL7; cases hL7
                            | exc c fs δ => rw [hfe] at hL7; cases hL7
                            | ok y' δ11 =>
                              rw [hfe] at hL7
                              intro H11 G11 sl11 t11 A11 s11 e11 e11' k11
                              have k11' : Keep WW sl10 sl11 := k11.mono in4
                              have hL7 : (lcL vs1 ft1 fc1 fe (es.drop (j + 1)) (wipeG δ11 vs1)).map (fun p => (y' :: p.1, p.2)) = some (ys7, p.2) := hL7
                              cases hr : lcL vs1 ft1 fc1 fe (es.drop (j + 1)) (wipeG δ11 vs1) with
                              | none => rw [hr] at hL7; cases hL7
                              | some pr =>
                                rw [hr] at hL7
                                have hL7 : some (y' :: pr.1, pr.2) = some (ys7, p.2) := hL7
                                have e12 : ys7 = y' :: pr.1 := ((Prod.mk.inj (Option.some.inj hL7)).1).symm
                                have e13 : pr.2 = p.2 := (Prod.mk.inj (Option.some.inj hL7)).2
                                subst e12
                                have hlt2 : ts7.length < sizeLine := by
                                  have := congrArg List.length hys7
                                  simp only [List.length_append, List.length_map, List.length_cons] at this
                                  omega
                                obtain ⟨hp, A12⟩ := A11.push hlt2
                                refine ⟨ts7.map T.v, hp, by rw [List.length_map]; exact hlt2, ?_⟩
                                refine ⟨G11, wipeG sl11 vs1, ts7 ++ [t11], pr.1, fin A12, s7.trans (s8.trans (s9.trans (s10.trans s11))), (((k7.tr k9').tr k10').tr k11').tr (Keep.wipe _ _ fun v h => inV v (hv v h)), by rw [dsl_wipe, e11', hr, ← e13], ?_⟩
                                rw [← hys7, List.map_append, List.append_assoc]
                                rw [show List.map T.d [t11] = [y'] by rw [← e11]; rfl]
                                rfl
theorem se_lc2 {vs1 : List Nat} (hc : X.calm = true) (hN : X.N.Nodup) (hi : SI X Γ E Wi tg iter fi) (ok : BlkOk X.N X.env.scope scope own) (hv : ∀ i ∈ vs1, i ∈ own.map (·.2))
    (hg : ∀ (s : Shared) (H : Hp) (C : Addr) (cl : List (Str × Addr)) (fp : List Addr), SG (X.blk s H scope (compEnvC scope cl C X.env) fp) Γ S tg ft)
    (ht : ∀ (s : Shared) (H : Hp) (C : Addr) (cl : List (Str × Addr)) (fp : List Addr), STs (X.blk s H scope (compEnvC scope cl C X.env) fp) Γ E0' Wc ifs fc)
    (hi1 : ∀ (s : Shared) (H : Hp) (C : Addr) (cl : List (Str × Addr)) (fp : List Addr), SI (X.blk s H scope (compEnvC scope cl C X.env) fp) Γ E0' Wi1 tg1 iter1 fi1)
    (hg1 : ∀ (s : Shared) (H : Hp) (C : Addr) (cl : List (Str × Addr)) (fp : List Addr), SG (X.blk s H scope (compEnvC scope cl C X.env) fp) Γ S1 tg1 ft1)
    (ht1 : ∀ (s : Shared) (H : Hp) (C : Addr) (cl : List (Str × Addr)) (fp : List Addr), STs (X.blk s H scope (compEnvC scope cl C X.env) fp) Γ E0' Wc1 ifs1 fc1)
    (he : ∀ (s : Shared) (H : Hp) (C : Addr) (cl : List (Str × Addr)) (fp : List Addr), SE (X.blk s H scope (compEnvC scope cl C X.env) fp) Γ E0' We elt fe) (hs : ∀ x, foldedSetIterable iter X.env x = pure x) (hs1 : ∀ env x, foldedSetIterable iter1 env x = pure x)
    (hS : ∀ i ∈ S, i ∈ own.map (·.2)) (hS1 : ∀ i ∈ S1, i ∈ vs1) :
    SE X Γ E (Wi ++ (own.map (·.2) ++ (Wc ++ (Wi1 ++ (Wc1 ++ We))))) (.ListComp elt [⟨tg, iter, ifs, 0⟩, ⟨tg1, iter1, ifs1, 0⟩] scope pos) (eLc2 (own.map (·.2)) vs1 fi ft fc fi1 ft1 fc1 fe) := fun hK =>
  (pe_lc2 hc hN (hi hK) ok hv (fun s H C cl fp => hg s H C cl fp hK) (fun s H C cl fp => ht s H C cl fp hK) (fun s H C cl fp => hi1 s H C cl fp hK) (fun s H C cl fp => hg1 s H C cl fp hK) (fun s H C cl fp => ht1 s H C cl fp hK) (fun s H C cl fp => he s H C cl fp hK) hs hs1).imp fun σ H Q q => lc2_run hS hS1 hv q
theorem ss_setLc2 {P vs1 : List Nat} {i : Nat} {y : Str} {py spos : Pos} (hc : X.calm = true) (hN : X.N.Nodup) (hy : X.N[i]? = some y) (hyl : X.env.scope.names.lookup y = some .local)
    (hsw : swapsWith (.ListComp elt [⟨tg, iter, ifs, 0⟩, ⟨tg1, iter1, ifs1, 0⟩] scope pos) (some (.Name y py)) spos.line X.env = pure true) (hi : SI X Γ E Wi tg iter fi) (ok : BlkOk X.N X.env.scope scope own) (hv : ∀ i ∈ vs1, i ∈ own.map (·.2))
    (hg : ∀ (s : Shared) (H : Hp) (C : Addr) (cl : List (Str × Addr)) (fp : List Addr), SG (X.blk s H scope (compEnvC scope cl C X.env) fp) Γ S tg ft)
    (ht : ∀ (s : Shared) (H : Hp) (C : Addr) (cl : List (Str × Addr)) (fp : List Addr), STs (X.blk s H scope (compEnvC scope cl C X.env) fp) Γ E0' Wc ifs fc)
    (hi1 : ∀ (s : Shared) (H : Hp) (C : Addr) (cl : List (Str × Addr)) (fp : List Addr), SI (X.blk s H scope (compEnvC scope cl C X.env) fp) Γ E0' Wi1 tg1 iter1 fi1)
    (hg1 : ∀ (s : Shared) (H : Hp) (C : Addr) (cl : List (Str × Addr)) (fp : List Addr), SG (X.blk s H scope (compEnvC scope cl C X.env) fp) Γ S1 tg1 ft1)
    (ht1 : ∀ (s : Shared) (H : Hp) (C : Addr) (cl : List (Str × Addr)) (fp : List Addr), STs (X.blk s H scope (compEnvC scope cl C X.env) fp) Γ E0' Wc1 ifs1 fc1)
    (he : ∀ (s : Shared) (H : Hp) (C : Addr) (cl : List (Str × Addr)) (fp : List Addr), SE (X.blk s H scope (compEnvC scope cl C X.env) fp) Γ E0' We elt fe) (hs : ∀ x, foldedSetIterable iter X.env x = pure x) (hs1 : ∀ env x, foldedSetIterable iter1 env x = pure x)
    (hS : ∀ i ∈ S, i ∈ own.map (·.2)) (hS1 : ∀ i ∈ S1, i ∈ vs1) (hp : i ∉ P) :
    SS X Γ E P (.Assign [.Name y py] (.ListComp elt [⟨tg, iter, ifs, 0⟩, ⟨tg1, iter1, ifs1, 0⟩] scope pos) spos) (sSet i (eLc2 (own.map (·.2)) vs1 fi ft fc fi1 ft1 fc1 fe)) := fun hK =>
  (ps_setLc2 hc hN hy hyl hsw (hi hK) ok hv (fun s H C cl fp => hg s H C cl fp hK) (fun s H C cl fp => ht s H C cl fp hK) (fun s H C cl fp => hi1 s H C cl fp hK) (fun s H C cl fp => hg1 s H C cl fp hK) (fun s H C cl fp => ht1 s H C cl fp hK) (fun s H C cl fp => he s H C cl fp hK) hs hs1).imp fun Z σ H ⟨F, G, sl, tm, A, q⟩ =>
  lc2_run (E := E) hS hS1 hv (e_run A q fun d δ H' G' sl' t A' s ed e _ q' => PostS.put A' hp (by rw [ed, e]; exact q'))
end
end L2.Pv
end
section
set_option Elab.async false
set_option linter.all false
set_option maxRecDepth 100000
/-! enumerate(a tuple) -/
namespace EnT
open PySem PySem.Spec PyProof.Rows L2
set_option maxHeartbeats 1000000 in
theorem meets_newB {v : Value} {o : Obj} {H : Heap → Prop} (B : Begins v o H) :
    Meets (Builtin.«enumerate.__new__» ⟨[.type "enumerate", v], []⟩) (fun _ R s => H s.heap ∧
      R (.ok (.ret (.ref (s.heap.push o).objs.size))) { s with heap := (s.heap.push o).push { cls := .type "enumerate", data := .fields #[.none, .bool false, .ref s.heap.objs.size, rawInt 0, .none, .none] } }) :=
  .of_wp fun prog w A R s h => by
    obtain ⟨hp, g, d, tk, os⟩ := s; obtain ⟨h1, h⟩ := h
    have hsub := sub_enumerate
    have q1 : ∀ {A' : Around} {E : Value → Shared → Prop} {Q : Value → Shared → Prop}, Q (.ref hp.objs.size) ⟨hp.push o, g, d, tk, os⟩ → wpAny (model prog w) A' (pyIter v) Q E ⟨hp, g, d, tk, os⟩ :=
      fun q => B.iter prog w _ _ ⟨hp, g, d, tk, os⟩ _ h1 q
    wp_walk using q1
    refine wpAny_stack_any fun st => wpAny_pure ?_
    split
    · rename_i c _ _ _ _ _
      cases (c == Value.type "enumerate")
      · wp_walk using q1
        exact ⟨_, rfl, h⟩
      · wp_walk using q1
        exact ⟨_, rfl, h⟩
    · wp_walk using q1
      exact ⟨_, rfl, h⟩
section
variable {prog : Program} {w : World} {A : Around} {E : Value → Shared → Prop} {s : Shared}
theorem call_enum {v : Value} {o : Obj} {H : Heap → Prop} {Q : Value → Shared → Prop} (B : Begins v o H) (h1 : H s.heap)
    (h : ∀ h', IsEnum h' (s.heap.objs.size + 1) s.heap.objs.size 0 .none → h'.get? s.heap.objs.size = some o → h'.objs.size = s.heap.objs.size + 2 →
      (∀ b o, s.heap.get? b = some o → h'.get? b = some o) → Q (.ref (s.heap.objs.size + 1)) { s with heap := h' }) :
    wpAny (model prog w) A (call (.type "enumerate") [v]) Q E s := by
  refine callType_new F.called_enumerate (by decide) (F.typeCall_enumerate_1 _) (F.newCall_enumerate_1 _) (fun obj => F.args_object_init_2 obj _) F.entry_enumerate_new
    (meets_newB B) ⟨h1, ?_⟩
  have hz : (s.heap.push o).objs.size = s.heap.objs.size + 1 := Heap.size_push ..
  show _ ∧ _
  rw [hz]
  have he : IsEnum ((s.heap.push o).push { cls := .type "enumerate", data := .fields #[.none, .bool false, .ref s.heap.objs.size, rawInt 0, .none, .none] }) (s.heap.objs.size + 1) s.heap.objs.size 0 .none := by
    have := Heap.get?_push_size (s.heap.push o) (o := { cls := .type "enumerate", data := .fields #[.none, .bool false, .ref s.heap.objs.size, rawInt 0, .none, .none] }) rfl
    rw [hz] at this; exact this
  refine ⟨⟨_, he, rfl⟩, h _ he (Heap.get?_push_of_some _ (Heap.get?_push_size _ B.free)) (by rw [Heap.size_push, hz]) fun b o x => Heap.get?_push_of_some _ (Heap.get?_push_of_some _ x)⟩
end
theorem begins_tup (a : Addr) (items : Array Value) : Begins (.ref a) { cls := .type "tuple_iterator", data := .fields #[.ref a, .int 0 0] } (fun h => h.IsTuple a items) where
  iter := fun prog w A E s Q h q => wpAny_pyIter_tuple h q
  keeps := fun h h' x hk => let ⟨o, ho, r⟩ := x; ⟨o, hk a o ho, r⟩
  free := rfl
/-- the tuple at a, each item in a new pair -/
def IteT (K : PySem.W.Frag) (a : Addr) : It :=
  ⟨fun i H => ∃ (xs : List V) (x : V), SqT K H a xs ∧ xs[i]? = some x, fun i H v H' => ∃ T x, v = .ref T ∧ H T = none ∧ H' = upd H T (.tup [.int (i : Nat), x]) ∧ ∀ xs, SqT K H a xs → xs[i]? = some x, fun i H => ∃ xs : List V, SqT K H a xs ∧ xs.length ≤ i⟩
theorem turn_enumT {P : Program} {w : World} {K : PySem.W.Frag} {elts : List Expr} {kk : Nat} {tpos : Pos} (a e it : Addr) (hai : a ≠ it) (hae : a ≠ e) :
    Turn P w K (.Tuple elts kk tpos) (IteT K a) [e, it] e (fun i h => (∃ old, IsEnum h e it ((i : Nat) : Int) old) ∧ h.IsTupleIter it a i ∧ e ≠ it) where
  mem := by simp
  obj := fun i h st b hb => by
    obtain ⟨⟨old, he⟩, ⟨o, ho, hc, hd⟩, _⟩ := st
    have e' : b = e ∨ b = it := by simpa using hb
    rcases e' with z | z
    · rw [z]; exact ⟨_, he, fun v q => nomatch q⟩
    · rw [z]; exact ⟨o, ho, fun v q => by rw [hd] at q; cases q⟩
  keep := fun i h h' st k => let ⟨⟨old, he⟩, hi, hne⟩ := st; ⟨⟨old, k e (by simp) _ he⟩, hi.at fun o q => k it (by simp) o q, hne⟩
  item := by
    intro X hP hw hK hc i pins s σ H E I hf st hg
    subst hP hw hK
    obtain ⟨⟨old, he⟩, hit, hne⟩ := st
    obtain ⟨xs, x, hq, hx⟩ := hg
    obtain ⟨its, rv, p, hz⟩ := I.tuple hq
    obtain ⟨u, hu, ru⟩ := rv.get hx
    have hel : e < s.heap.objs.size := Heap.lt_size he
    have hil : it < s.heap.objs.size := by obtain ⟨_, q, _⟩ := hit; exact Heap.lt_size q
    have hlt : i < its.toArray.size := by
      have := (List.getElem?_eq_some_iff.mp hu).1
      simpa using this
    refine wpAny_pyNext_enum_itemD (Draws.tuple (prog := X.prog) (w := X.w) (A := X.A.in1) (show X.A.in1.handled = none from I.ok.hd hc) it a hai its.toArray) he ⟨hit, p⟩ hlt hne (by simp [hne, Ne.symm hae]) fun x2 h' tk hx2 ho st' hT hsz hk => ?_
    have ex : x2 = u := by
      rw [show its.toArray[i]? = some u by simpa using hu] at hx2
      exact (Option.some.inj hx2).symm
    subst ex
    refine ⟨_, rfl, wpAny_letOwnedTupleGo_enum (s := { s with heap := h', toks := tk + 1 }) ho fun h'' he' sb => ?_⟩
    have hT2 : h''.get? s.heap.objs.size = some { cls := .type "tuple", data := .seq #[.int i tk, x2] } := (sb.2 _ (Nat.ne_of_gt hel)).trans hT
    have new : ObjOk X.prog X.w (upd H s.heap.objs.size (.tup [.int (i : Nat), x])) h'' s.heap.objs.size (.tup [.int (i : Nat), x]) :=
      ⟨by show 2 ≤ sizeLine; decide, [.int i tk, x2], .cons ⟨_, rfl⟩ (.cons ru .nil), ⟨_, hT2, rfl, _, rfl⟩⟩
    have I1 : Inv X pins σ (upd H s.heap.objs.size (.tup [.int (i : Nat), x])) { s with heap := h'', toks := tk + 1 } :=
      I.turnedNew (ch := [e, it]) (fun b ob hb q => (sb.2 b (fun z => hb (by simp [z]))).trans (hk b ob (fun z => hb (by simp [z])) (fun z => hb (by simp [z])) q)) hf (Nat.le_refl _) new
    refine ⟨.ref s.heap.objs.size, _, I1, rfl, ⟨_, x, rfl, I.hok.fresh (Nat.le_refl _), rfl, fun ys hy => by rw [I.tuple_inj hy hq]; exact hx⟩, ⟨⟨x2, ?_⟩, st'.1.at fun o q => (sb.2 it (Ne.symm hne)).trans q, hne⟩, fun b hb => ?_⟩
    · have e1 : ((i + 1 : Nat) : Int) = (i : Int) + 1 := by omega
      rw [e1]; exact he'
    · have hb' : b < s.heap.objs.size := by
        have e' : b = e ∨ b = it := by simpa using hb
        rcases e' with z | z
        · rw [z]; exact hel
        · rw [z]; exact hil
      rw [upd_ne (Nat.ne_of_lt hb')]
      exact (hf b hb).1
  done := by
    intro X hP hw hK hc i pins s σ H E I hf st hg
    subst hP hw hK
    obtain ⟨⟨old, he⟩, hit, hne⟩ := st
    obtain ⟨xs, hq, hx⟩ := hg
    obtain ⟨its, rv, p, hz⟩ := I.tuple hq
    obtain ⟨f0, f1, f2, f3, f4, f5⟩ := hf it (by simp)
    have hl := rv.length
    have hh : X.A.in1.handled = none := by first | exact I.ok.hd hc | (rw [show X.A.in1.handled = X.A.handled from rfl]; exact I.ok.hd hc)
    have D0 : Draws X.prog X.w X.A.in1 it [it, a] its.toArray.size (fun k v => its.toArray[k]? = some v) (fun k h => (∃ j : Nat, (k < its.toArray.size → j = k) ∧ (its.toArray.size ≤ k → its.toArray.size ≤ j) ∧ h.IsTupleIter it a j) ∧ h.IsTuple a its.toArray) := {
      live := fun _ _ st => by
        obtain ⟨⟨j, _, _, o, ho, _⟩, _⟩ := st
        exact ⟨o, ho⟩
      frame := fun _ _ _ st hk => by
        obtain ⟨⟨j, h1, h2, h3⟩, h4⟩ := st
        exact ⟨⟨j, h1, h2, h3.at fun o e => hk it (by simp) o e⟩, h4.at fun o e => hk a (by simp) o e⟩
      item := fun k s Q E hi st hQ => by
        obtain ⟨⟨j, h1, h2, h3⟩, h4⟩ := st
        have := h1 hi
        subst this
        refine PySem.wpAny_nextOf_tuple_item h3 h4 (x := its.toArray[j]) (by simp) fun h' hit' hs' => ?_
        exact hQ _ h' s.toks (by simp) ⟨⟨j + 1, fun _ => rfl, fun h => h, hit'⟩, h4.extBut hs'.extBut hai⟩ hs'
      done := fun s Q E st hE => by
        obtain ⟨⟨j, h1, h2, h3⟩, h4⟩ := st
        have h5 := h2 (Nat.le_refl _)
        exact PySem.wpAny_nextOf_tuple_end hh h3 h4 (by simpa using h5) hE }
    exact wpAny_pyNext_enum_endD D0 he ⟨⟨i, fun h => absurd h (by simp only [List.size_toArray]; omega), fun _ => by simp only [List.size_toArray]; omega, hit⟩, p⟩ fun h' eb => ⟨rfl, I.turned (t' := s.toks) (fun b o hb q => eb b o hb q) f0 f1 f3 f4 f5⟩
  self := fun A i s Q E st h => let ⟨⟨_, he⟩, _⟩ := st; wpAny_pyIter_enum he h
def iEnumT (K : PySem.W.Frag) (ta : TA) : TI := fun σ H R => ta σ H fun vs H1 => ∃ a xs, vs = [.ref a] ∧ SqT K H1 a xs ∧ R (IteT K a) H1
theorem pi_enumT {X : Cx} {e : Expr} {ta : TA} {p pos tpos : Pos} {elts : List Expr} {kk : Nat} (hg : Gl X "enumerate") (hm : X.mg "enumerate" = none) (ha : PA X [e] ta) (hs : starEach [e] X.env = [(false, eval e X.env)]) :
    PI X (.Tuple elts kk tpos) (.Call (.Name "enumerate" p) [e] [] pos) (iEnumT X.K ta) := by
  refine ⟨fun pins s σ H R I h => ?_⟩
  refine Call_ (ld_blt I hg hm boot_enumerate (PyProof.Rows.callWith_type1 (thn (ha.run pos pins s σ H _ I h) fun us s1 ⟨vs, H1, I1, r1, q1⟩ => ?_) hs rfl))
  obtain ⟨a, xs, ex, hq, q⟩ := q1
  subst ex
  cases r1 with
  | cons r rr =>
    cases rr
    cases r
    obtain ⟨its, rv, p', hz⟩ := I1.tuple hq
    obtain ⟨oa, hoa, _⟩ := id p'
    have hla : a < s1.heap.objs.size := Heap.lt_size hoa
    refine call_enum (begins_tup a its.toArray) (show s1.heap.IsTuple a its.toArray from p') fun h' he hit hsz hk => wpAny_pyIter_enum he ?_
    have I2 : Inv X pins σ H1 { s1 with heap := h' } := I1.kept (t' := s1.toks) hk
    refine ⟨s1.heap.objs.size + 1, [s1.heap.objs.size + 1, s1.heap.objs.size], _, _, H1, rfl, I2, turn_enumT a (s1.heap.objs.size + 1) s1.heap.objs.size (Nat.ne_of_lt hla) (Nat.ne_of_lt (Nat.lt_succ_of_lt hla)), ⟨⟨.none, he⟩, ⟨_, hit, rfl, rfl⟩, Nat.succ_ne_self _⟩, fun b hb => ?_, q⟩
    have e' : b = s1.heap.objs.size + 1 ∨ b = s1.heap.objs.size := by simpa using hb
    have hle : s1.heap.objs.size ≤ b := by
      rcases e' with z | z
      · rw [z]; exact Nat.le_add_right _ _
      · rw [z]; exact Nat.le_refl _
    exact I1.fpOk hle (I1.hok.fresh hle)
end EnT
end
section
set_option Elab.async false
set_option linter.all false
set_option autoImplicit false
set_option maxRecDepth 100000
namespace L2.Pv
open PySem PySem.Spec PyProof.Rows

/-! ### zip, enumerate as sources -/
def zipD (xs ys : List D) : List D := List.zipWith (fun a b => D.tup [a, b]) xs ys
def enumD (xs : List D) : List D := xs.mapIdx fun i d => D.tup [.int (i : Nat), d]
section
variable {Γ : Gm} {G : Hp}
/-- a new pair -/
theorem Abs.pair {F : Fr} {σ : St} {H G' : Hp} {sl : TS'} {tm : List T} {x y : V} {a b : D} {p : Addr} (A : Abs Γ F σ H G' sl tm) (h1 : Rep Γ G' x a) (h2 : Rep Γ G' y b) (hp : H p = none) :
    ∃ G2 t, Abs Γ F σ (upd H p (.tup [x, y])) G2 sl (t :: tm) ∧ Sub G' G2 ∧ t.v = .ref p ∧ t.d = .tup [a, b] := by
  have B := A.newFrz (o := .tup [x, y]) hp (fun _ z => nomatch z)
  obtain ⟨n1, _⟩ := A.new0 hp
  have s1 : Sub G' (upd G' p (.tup [x, y])) := fun a u h => by rw [upd_ne (ne_of_none h n1)]; exact h
  exact ⟨_, .leaf (.ref p) (.tup [a, b]), B.leaf ⟨by show 2 ≤ sizeLine; decide, p, [x, y], rfl, upd_same, x, [y], rfl, h1.mono s1 a, y, [], rfl, h2.mono s1 b, rfl⟩, s1, rfl, rfl⟩
theorem zip_get {xs ys : List D} {i : Nat} {d : D} (h : (zipD xs ys)[i]? = some d) : ∃ a b, xs[i]? = some a ∧ ys[i]? = some b ∧ d = .tup [a, b] := by
  unfold zipD at h
  rw [List.getElem?_zipWith] at h
  cases h1 : xs[i]? with
  | none => rw [h1] at h; cases h
  | some a =>
    cases h2 : ys[i]? with
    | none => rw [h1, h2] at h; cases h
    | some b => rw [h1, h2] at h; cases h; exact ⟨a, b, rfl, rfl, rfl⟩
theorem zip_end {xs ys : List D} {i : Nat} (h : (zipD xs ys)[i]? = none) : xs.length ≤ i ∨ ys.length ≤ i := by
  have := List.getElem?_eq_none_iff.mp h
  unfold zipD at this
  rw [List.length_zipWith] at this
  omega
theorem gives_zipL {a b : Addr} {vs ws : List V} {ds es : List D} (h : G a = some (.lst vs)) (r : Reps Γ G vs ds) (h' : G b = some (.lst ws)) (r' : Reps Γ G ws es) : Gives Γ G (Itz Γ.K a b) (zipD ds es) := fun F σ2 H2 G2 sl2 tm2 A2 s i => by
  have hq : SqL Γ.K H2 a vs := SqL.of (A2.sub _ _ (s _ _ h))
  have hq' : SqL Γ.K H2 b ws := SqL.of (A2.sub _ _ (s _ _ h'))
  refine ⟨fun d hd => ?_, fun hd => ⟨vs, ws, hq, hq', ?_⟩⟩
  · obtain ⟨d1, d2, e1, e2, rfl⟩ := zip_get hd
    obtain ⟨v, hv, rv⟩ := r.get e1
    obtain ⟨w, hw, rw'⟩ := r'.get e2
    refine ⟨⟨vs, ws, v, w, hq, hq', hv, hw⟩, fun x H3 ⟨T, x1, x2, e, hT, eH, y1, y2⟩ => ?_⟩
    have ex1 := (y1 vs hq).symm.trans hv
    have ex2 := (y2 ws hq').symm.trans hw
    cases ex1
    cases ex2
    subst e eH
    obtain ⟨G3, t, B, s3, ev, ed⟩ := A2.pair (rv.mono s d1) (rw'.mono s d2) hT
    exact ⟨G3, t, B, s3, ev, ed⟩
  · rcases zip_end hd with z | z
    · exact .inl (by rw [r.len]; exact z)
    · exact .inr (by rw [r'.len]; exact z)
theorem gives_zipT {a b : Addr} {vs ws : List V} {ds es : List D} (h : G a = some (.tup vs)) (r : Reps Γ G vs ds) (h' : G b = some (.tup ws)) (r' : Reps Γ G ws es) : Gives Γ G (RZ.ItzT Γ.K a b) (zipD ds es) := fun F σ2 H2 G2 sl2 tm2 A2 s i => by
  have hq : SqT Γ.K H2 a vs := sqT_of (s.trans A2.sub) h
  have hq' : SqT Γ.K H2 b ws := sqT_of (s.trans A2.sub) h'
  refine ⟨fun d hd => ?_, fun hd => ⟨vs, ws, hq, hq', ?_⟩⟩
  · obtain ⟨d1, d2, e1, e2, rfl⟩ := zip_get hd
    obtain ⟨v, hv, rv⟩ := r.get e1
    obtain ⟨w, hw, rw'⟩ := r'.get e2
    refine ⟨⟨vs, ws, v, w, hq, hq', hv, hw⟩, fun x H3 ⟨T, x1, x2, e, hT, eH, y1, y2⟩ => ?_⟩
    have ex1 := (y1 vs hq).symm.trans hv
    have ex2 := (y2 ws hq').symm.trans hw
    cases ex1
    cases ex2
    subst e eH
    obtain ⟨G3, t, B, s3, ev, ed⟩ := A2.pair (rv.mono s d1) (rw'.mono s d2) hT
    exact ⟨G3, t, B, s3, ev, ed⟩
  · rcases zip_end hd with z | z
    · exact .inl (by rw [r.len]; exact z)
    · exact .inr (by rw [r'.len]; exact z)
theorem enum_get {xs : List D} {i : Nat} {d : D} (h : (enumD xs)[i]? = some d) : ∃ a, xs[i]? = some a ∧ d = .tup [.int (i : Nat), a] := by
  unfold enumD at h
  rw [List.getElem?_mapIdx] at h
  cases h1 : xs[i]? with
  | none => rw [h1] at h; cases h
  | some a => rw [h1] at h; cases h; exact ⟨a, rfl, rfl⟩
theorem enum_end {xs : List D} {i : Nat} (h : (enumD xs)[i]? = none) : xs.length ≤ i := by
  have := List.getElem?_eq_none_iff.mp h
  unfold enumD at this
  simpa using this
theorem gives_enumL {a : Addr} {vs : List V} {ds : List D} (h : G a = some (.lst vs)) (r : Reps Γ G vs ds) : Gives Γ G (Ite Γ.K a) (enumD ds) := fun F σ2 H2 G2 sl2 tm2 A2 s i => by
  have hq : SqL Γ.K H2 a vs := SqL.of (A2.sub _ _ (s _ _ h))
  refine ⟨fun d hd => ?_, fun hd => ⟨vs, hq, by rw [r.len]; exact enum_end hd⟩⟩
  obtain ⟨d1, e1, rfl⟩ := enum_get hd
  obtain ⟨v, hv, rv⟩ := r.get e1
  refine ⟨⟨vs, v, hq, hv⟩, fun x H3 ⟨T, x1, e, hT, eH, y1⟩ => ?_⟩
  have ex1 := (y1 vs hq).symm.trans hv
  cases ex1
  subst e eH
  obtain ⟨G3, t, B, s3, ev, ed⟩ := A2.pair (a := .int (i : Nat)) (x := .int (i : Nat)) rfl (rv.mono s d1) hT
  exact ⟨G3, t, B, s3, ev, ed⟩
theorem gives_enumT {a : Addr} {vs : List V} {ds : List D} (h : G a = some (.tup vs)) (r : Reps Γ G vs ds) : Gives Γ G (EnT.IteT Γ.K a) (enumD ds) := fun F σ2 H2 G2 sl2 tm2 A2 s i => by
  have hq : SqT Γ.K H2 a vs := sqT_of (s.trans A2.sub) h
  refine ⟨fun d hd => ?_, fun hd => ⟨vs, hq, by rw [r.len]; exact enum_end hd⟩⟩
  obtain ⟨d1, e1, rfl⟩ := enum_get hd
  obtain ⟨v, hv, rv⟩ := r.get e1
  refine ⟨⟨vs, v, hq, hv⟩, fun x H3 ⟨T, x1, e, hT, eH, y1⟩ => ?_⟩
  have ex1 := (y1 vs hq).symm.trans hv
  cases ex1
  subst e eH
  obtain ⟨G3, t, B, s3, ev, ed⟩ := A2.pair (a := .int (i : Nat)) (x := .int (i : Nat)) rfl (rv.mono s d1) hT
  exact ⟨G3, t, B, s3, ev, ed⟩
end
def zipO (ds : List D) : Option (List D) := match ds with
  | [.lst _ xs, .lst _ ys] => some (zipD (D.frzs xs) (D.frzs ys))
  | [.tup xs, .tup ys] => some (zipD xs ys)
  | _ => none
def enumO (ds : List D) : Option (List D) := match ds with
  | [.lst _ xs] => some (enumD (D.frzs xs))
  | [.tup xs] => some (enumD xs)
  | _ => none
def iZipD (fa : EvA) : EvA := fun δ => (fa δ).bd fun ds δ' => lft (zipO ds) δ'
def iEnumD (fa : EvA) : EvA := fun δ => (fa δ).bd fun ds δ' => lft (enumO ds) δ'
theorem zipO_of {a b : D} {es : List D} (h : zipO [a, b] = some es) : (∃ o xs o' ys, a = .lst o xs ∧ b = .lst o' ys ∧ es = zipD (D.frzs xs) (D.frzs ys)) ∨ ∃ xs ys, a = .tup xs ∧ b = .tup ys ∧ es = zipD xs ys := by
  unfold zipO at h
  split at h
  · rename_i o xs o' ys e
    cases e
    cases h
    exact .inl ⟨_, _, _, _, rfl, rfl, rfl⟩
  · rename_i xs ys e
    cases e
    cases h
    exact .inr ⟨_, _, rfl, rfl, rfl⟩
  · cases h
theorem enumO_of {a : D} {es : List D} (h : enumO [a] = some es) : (∃ o xs, a = .lst o xs ∧ es = enumD (D.frzs xs)) ∨ ∃ xs, a = .tup xs ∧ es = enumD xs := by
  unfold enumO at h
  split at h
  · rename_i o xs e
    cases e
    cases h
    exact .inl ⟨_, _, rfl, rfl⟩
  · rename_i xs e
    cases e
    cases h
    exact .inr ⟨_, rfl, rfl⟩
  · cases h
section
variable {X : Cx} {Γ : Gm} {E : WX} {W : List Nat} {e e2 : Expr} {fa : EvA} {elts : List Expr} {kk : Nat} {p pos tpos : Pos}
theorem si_zip (hg : Gl X "zip") (hm : X.mg "zip" = none) (ha : SA X Γ E W 2 [e, e2] fa)
    (hs : starEach [e, e2] X.env = (false, eval e X.env) :: starEach [e2] X.env) (hpl : (backTo pos (starEach [e2] X.env)).any (·.1) = false) :
    SI X Γ E W (.Tuple elts kk tpos) (.Call (.Name "zip" p) [e, e2] [] pos) (iZipD fa) := fun hK => (RZ.pi_zipA hg hm (ha hK) hs hpl).imp fun σ H R ⟨F, G, sl, tm, A, q⟩ => by
  refine ⟨F, G, sl, tm, A, ?_⟩
  unfold iZipD at q
  cases hf : fa (dsl sl) with
  | stuck => rw [hf] at q; exact q
  | exc c fs δ => rw [hf] at q; exact q
  | ok ds δ =>
    rw [hf, bd_ok] at q
    intro H1 G1 sl1 ts A1 s1 hl ets e1 k1
    obtain ⟨t1, t2, rfl⟩ : ∃ t1 t2, ts = [t1, t2] := by
      match ts, hl with
      | [t1, t2], _ => exact ⟨t1, t2, rfl⟩
    obtain ⟨B, v1, r1, ev1, rp1, v2, r2, ev2, rp2, _⟩ := A1.freeze
    cases ev1
    cases ev2
    have s2 : Sub G1 (frzH G1 H1 [t1, t2]) := frzH_sub fun a ha => (A1.sep a (by rw [cnts_append]; omega)).1
    have ets : [t1.d, t2.d] = ds := ets
    subst ets
    cases hz : zipO [t1.d, t2.d] with
    | none => rw [hz] at q; exact q.elim
    | some es =>
      rw [hz, lft_some] at q
      have len : ∀ xs ys : List D, xs.length ≤ sizeLine → (zipD xs ys).length ≤ sizeLine := fun xs ys h => by unfold zipD; rw [List.length_zipWith]; omega
      rcases zipO_of hz with ⟨o, xs, o', ys, e1', e2', rfl⟩ | ⟨xs, ys, e1', e2', rfl⟩
      · rw [e1'] at rp1
        rw [e2'] at rp2
        obtain ⟨z1, a, vs, ev1, q1, r1⟩ := rp1
        obtain ⟨z2, b, ws, ev2, q2, r2⟩ := rp2
        refine ⟨a, b, vs, ws, by rw [List.map_cons, List.map_cons, ev1, ev2]; rfl, .inl ⟨SqL.of (B.sub _ _ q1), SqL.of (B.sub _ _ q2), ?_⟩⟩
        rw [hK]
        exact q _ H1 _ sl1 B (s1.trans s2) e1 k1 (gives_zipL q1 r1 q2 r2) (len _ _ z1.2)
      · rw [e1'] at rp1
        rw [e2'] at rp2
        obtain ⟨z1, a, vs, ev1, q1, r1⟩ := rp1
        obtain ⟨z2, b, ws, ev2, q2, r2⟩ := rp2
        refine ⟨a, b, vs, ws, by rw [List.map_cons, List.map_cons, ev1, ev2]; rfl, .inr ⟨by rw [hK]; exact sqT_of B.sub q1, by rw [hK]; exact sqT_of B.sub q2, ?_⟩⟩
        rw [hK]
        exact q _ H1 _ sl1 B (s1.trans s2) e1 k1 (gives_zipT q1 r1 q2 r2) (len _ _ z1)
theorem si_enum (hg : Gl X "enumerate") (hm : X.mg "enumerate" = none) (ha : SA X Γ E W 1 [e] fa) (hs : starEach [e] X.env = [(false, eval e X.env)]) :
    SI X Γ E W (.Tuple elts kk tpos) (.Call (.Name "enumerate" p) [e] [] pos) (iEnumD fa) := fun hK => ((pi_enum hg hm (ha hK) hs).or (EnT.pi_enumT hg hm (ha hK) hs)).imp fun σ H R ⟨F, G, sl, tm, A, q⟩ => by
  unfold iEnumD at q
  cases hf : fa (dsl sl) with
  | stuck => rw [hf] at q; exact q.elim
  | exc c fs δ =>
    left
    refine ⟨F, G, sl, tm, A, ?_⟩
    rw [hf] at q ⊢
    exact q
  | ok ds δ =>
    rw [hf, bd_ok] at q
    cases hz : enumO ds with
    | none => rw [hz] at q; exact q.elim
    | some es =>
      rw [hz, lft_some] at q
      have len : ∀ xs : List D, xs.length ≤ sizeLine → (enumD xs).length ≤ sizeLine := fun xs h => by unfold enumD; simpa using h
      have one : ∀ d, ds = [d] → (∃ o xs, d = .lst o xs) → tA Γ E W 1 fa σ H (fun vs H1 => ∃ a xs, vs = [.ref a] ∧ SqL X.K H1 a xs ∧ R (Ite X.K a) H1) := fun d hd ⟨o, xs, ed⟩ => by
        refine ⟨F, G, sl, tm, A, ?_⟩
        rw [hf]
        intro H1 G1 sl1 ts A1 s1 hl ets e1 k1
        obtain ⟨t1, rfl⟩ : ∃ t1, ts = [t1] := by
          match ts, hl with
          | [t1], _ => exact ⟨t1, rfl⟩
        obtain ⟨B, v1, r1, ev1, rp1, _⟩ := A1.freeze
        cases ev1
        have s2 : Sub G1 (frzH G1 H1 [t1]) := frzH_sub fun a ha => (A1.sep a (by rw [cnts_append]; omega)).1
        have et : t1.d = d := by rw [hd] at ets; exact (List.cons.inj ets).1
        rw [et, ed] at rp1
        obtain ⟨z1, a, vs, ev1, q1, r1⟩ := rp1
        refine ⟨a, vs, by rw [List.map_cons, ev1]; rfl, SqL.of (B.sub _ _ q1), ?_⟩
        rw [hK]
        rw [hd, ed] at hz
        cases hz
        exact q _ H1 _ sl1 B (s1.trans s2) e1 k1 (gives_enumL q1 r1) (len _ z1.2)
      have two : ∀ d, ds = [d] → (∃ xs, d = .tup xs) → tA Γ E W 1 fa σ H (fun vs H1 => ∃ a xs, vs = [.ref a] ∧ SqT X.K H1 a xs ∧ R (EnT.IteT X.K a) H1) := fun d hd ⟨xs, ed⟩ => by
        refine ⟨F, G, sl, tm, A, ?_⟩
        rw [hf]
        intro H1 G1 sl1 ts A1 s1 hl ets e1 k1
        obtain ⟨t1, rfl⟩ : ∃ t1, ts = [t1] := by
          match ts, hl with
          | [t1], _ => exact ⟨t1, rfl⟩
        obtain ⟨B, v1, r1, ev1, rp1, _⟩ := A1.freeze
        cases ev1
        have s2 : Sub G1 (frzH G1 H1 [t1]) := frzH_sub fun a ha => (A1.sep a (by rw [cnts_append]; omega)).1
        have et : t1.d = d := by rw [hd] at ets; exact (List.cons.inj ets).1
        rw [et, ed] at rp1
        obtain ⟨z1, a, vs, ev1, q1, r1⟩ := rp1
        refine ⟨a, vs, by rw [List.map_cons, ev1]; rfl, by rw [hK]; exact sqT_of B.sub q1, ?_⟩
        rw [hK]
        rw [hd, ed] at hz
        cases hz
        exact q _ H1 _ sl1 B (s1.trans s2) e1 k1 (gives_enumT q1 r1) (len _ z1)
      cases ds with
      | nil => cases hz
      | cons d ds => cases ds with
       | cons d2 ds => exact absurd hz (by unfold enumO; simp)
       | nil =>
        rcases enumO_of hz with ⟨o, xs, e1', rfl⟩ | ⟨xs, e1', rfl⟩
        · exact .inl (one d rfl ⟨o, xs, e1'⟩)
        · exact .inr (two d rfl ⟨xs, e1'⟩)
end
end L2.Pv
end
section
set_option Elab.async false
set_option linter.all false
set_option maxRecDepth 100000
/-! list(zip(a, b)) of two lists -/
namespace LZ
open PySem PySem.Spec PyProof.Rows PySem.W
theorem zip_no_len : typeLookup (.type "zip") "__len__" = pure none := am_miss_of_fast (by decide +kernel)
theorem zip_no_hint : typeLookup (.type "zip") "__length_hint__" = pure none := am_miss_of_fast (by decide +kernel)
def St (S z TI TO i1 i2 l1 l2 : Addr) (xs ys : Array Value) (i : Nat) (h : Heap) : Prop :=
  IsPair h TI (.ref i1) (.ref i2) ∧ h.IsListIter i1 l1 i ∧ h.IsListIter i2 l2 i ∧ h.IsList l1 xs ∧ h.IsList l2 ys ∧
    ((IsZip h z TI TO .none ∧ ∃ a b, IsPair h TO a b) ∨ ∃ T f oT, IsZipHeld h z TI TO T f ∧ h.get? T = some oT ∧ T ≠ z ∧ T ≠ i1 ∧ T ≠ i2 ∧ T ≠ S)
structure Off (S z TI TO i1 i2 l1 l2 : Addr) : Prop where
  z : S ≠ z
  TI : S ≠ TI
  TO : S ≠ TO
  i1 : S ≠ i1
  i2 : S ≠ i2
  l1 : S ≠ l1
  l2 : S ≠ l2
section
variable {prog : Program} {w : World} {A : Around} {E : Value → Shared → Prop} {s : Shared} {S z TI TO i1 i2 l1 l2 : Addr} {xs ys : Array Value}
theorem St.frame {i : Nat} {h₁ h₂ : Heap} (o : Off S z TI TO i1 i2 l1 l2) (st : St S z TI TO i1 i2 l1 l2 xs ys i h₁) (hk : ∀ b o, b ≠ S → h₁.get? b = some o → h₂.get? b = some o) : St S z TI TO i1 i2 l1 l2 xs ys i h₂ := by
  obtain ⟨hTI, h1, h2, hl1, hl2, hz⟩ := st
  refine ⟨hk _ _ (Ne.symm o.TI) hTI, h1.at fun _ e => hk _ _ (Ne.symm o.i1) e, h2.at fun _ e => hk _ _ (Ne.symm o.i2) e, hl1.at fun _ e => hk _ _ (Ne.symm o.l1) e, hl2.at fun _ e => hk _ _ (Ne.symm o.l2) e, ?_⟩
  rcases hz with ⟨hz, a, b, hTO⟩ | ⟨T, f, oT, hz, hT, r1, r2, r3, r4⟩
  · exact .inl ⟨hk _ _ (Ne.symm o.z) hz, a, b, hk _ _ (Ne.symm o.TO) hTO⟩
  · exact .inr ⟨T, f, oT, hk _ _ (Ne.symm o.z) hz, hk _ _ r4 hT, r1, r2, r3, r4⟩
theorem next {i : Nat} {x y : Value} {Q : Option Value → Shared → Prop} (D : ZipApart z TI TO i1 i2 l1 l2) (st : St S z TI TO i1 i2 l1 l2 xs ys i s.heap) (hS : S < s.heap.objs.size) (ex : xs[i]? = some x) (ey : ys[i]? = some y)
    (hQ : ∀ h', St S z TI TO i1 i2 l1 l2 xs ys (i + 1) h' → IsPair h' s.heap.objs.size x y → h'.objs.size = s.heap.objs.size + 1 → (∀ c o, c ≠ z → c ≠ TO → c ≠ i1 → c ≠ i2 → s.heap.get? c = some o → h'.get? c = some o) → Q (some (.ref s.heap.objs.size)) { s with heap := h' }) :
    wpAny (model prog w) A (pyNext (.ref z)) Q E s := by
  obtain ⟨hTI, h1, h2, hl1, hl2, hz⟩ := st
  have lt : ∀ {c o}, s.heap.get? c = some o → s.heap.objs.size ≠ c := fun e => Nat.ne_of_gt (Heap.lt_size e)
  have n1 : s.heap.objs.size ≠ i1 := let ⟨_, e, _⟩ := h1; lt e
  have n2 : s.heap.objs.size ≠ i2 := let ⟨_, e, _⟩ := h2; lt e
  rcases hz with ⟨hz, a, b, hTO⟩ | ⟨T, f, oT, hz, hT, r1, r2, r3, r4⟩
  · refine wpAny_pyNext_zip_item D hz hTI hTO h1 h2 hl1 hl2 ex ey fun h' a1 a2 a3 a4 a5 a6 hk => ?_
    exact hQ h' ⟨hk _ _ D.TIz D.TITO D.TIi1 D.TIi2 hTI, a3, a4, hl1.at fun o e => hk _ o D.l1z D.l1TO D.l1i1 D.l1i2 e, hl2.at fun o e => hk _ o D.l2z D.l2TO D.l2i1 D.l2i2 e,
      .inr ⟨s.heap.objs.size, false, _, a1, a5, lt hz, n1, n2, Nat.ne_of_gt hS⟩⟩ a5 a6 fun c o q1 q2 q3 q4 e => hk c o q1 q2 q3 q4 e
  · refine wpAny_pyNext_zip_item_held D hz hT hTI h1 h2 hl1 hl2 ex ey fun h' a1 a3 a4 a5 a6 hk => ?_
    exact hQ h' ⟨hk _ _ D.TIz D.TIi1 D.TIi2 hTI, a3, a4, hl1.at fun o e => hk _ o D.l1z D.l1i1 D.l1i2 e, hl2.at fun o e => hk _ o D.l2z D.l2i1 D.l2i2 e,
      .inr ⟨T, true, oT, a1, hk _ _ r1 r2 r3 hT, r1, r2, r3, r4⟩⟩ a5 a6 fun c o q1 q2 q3 q4 e => hk c o q1 q3 q4 e
theorem fin {i : Nat} {Q : Option Value → Shared → Prop} (hA : A.handled = none) (D : ZipApart z TI TO i1 i2 l1 l2) (st : St S z TI TO i1 i2 l1 l2 xs ys i s.heap) (hend : xs[i]? = none ∨ ys[i]? = none)
    (hQ : ∀ h', (∀ c o, c ≠ z → c ≠ TO → c ≠ i1 → c ≠ i2 → s.heap.get? c = some o → h'.get? c = some o) → Q none { s with heap := h' }) : wpAny (model prog w) A (pyNext (.ref z)) Q E s := by
  obtain ⟨hTI, h1, h2, hl1, hl2, hz⟩ := st
  rcases hz with ⟨hz, a, b, hTO⟩ | ⟨T, f, oT, hz, hT, r1, r2, r3, r4⟩
  · exact wpAny_pyNext_zip_end hA D hz hTI hTO h1 h2 hl1 hl2 hend fun h' hk => hQ h' fun c o q1 q2 q3 q4 e => hk c o q1 q2 q3 q4 e
  · exact wpAny_pyNext_zip_end_held hA D hz hT hTI h1 h2 hl1 hl2 hend fun h' hk => hQ h' fun c o q1 q2 q3 q4 e => hk c o q1 q3 q4 e
/-- the pairs that were made -/
structure Made (xs ys : Array Value) (lo : Addr) (h : Heap) (as : List Addr) : Prop where
  rise : as.Pairwise (· < ·)
  above : ∀ a ∈ as, lo ≤ a
  there : ∀ a ∈ as, a < h.objs.size
  pairs : ∀ (j : Nat) (a : Addr), as[j]? = some a → ∃ x y, xs[j]? = some x ∧ ys[j]? = some y ∧ IsPair h a x y
theorem loop {R : Result → Shared → Prop} {lo : Addr} (hh : A.handled = none) (D : ZipApart z TI TO i1 i2 l1 l2) (o : Off S z TI TO i1 i2 l1 l2) (hn : min xs.size ys.size ≤ sizeLine) (hSl : S < lo) (hlo : z < lo ∧ TO < lo ∧ i1 < lo ∧ i2 < lo) (res : Value) {h₁ : Heap}
    (hR : ∀ h' acc c as, (∀ b o, b ≠ S → b ≠ z → b ≠ TO → b ≠ i1 → b ≠ i2 → h₁.get? b = some o → h'.get? b = some o) → h'.get? S = some { cls := .type "list", dict := none, data := .seq acc c, slots := #[] } → as.length = min xs.size ys.size → Made xs ys lo h' as →
      acc.toList = as.map Value.ref → R (.ok (.ret res)) { s with heap := h' }) :
    ∀ (k i : Nat) (h : Heap) (c : Nat) (acc : Array Value) (as : List Addr), min xs.size ys.size - i = k → i ≤ min xs.size ys.size → St S z TI TO i1 i2 l1 l2 xs ys i h → (∀ b o, b ≠ S → b ≠ z → b ≠ TO → b ≠ i1 → b ≠ i2 → h₁.get? b = some o → h.get? b = some o) →
      h.get? S = some { cls := .type "list", dict := none, data := .seq acc c, slots := #[] } → acc.toList = as.map Value.ref → as.length = i → Made xs ys lo h as → lo ≤ h.objs.size →
      codeAny (model prog w) A (.builtin "list.extend.loop" ⟨[.ref S, .ref z, res], []⟩) R { s with heap := h } := by
  intro k
  induction k with
  | zero =>
    intro i h c acc as hk hi hst hkeep hS hacc hal hG hlo2
    refine codeAny_builtin PySem.F.entry_extend_loop ?_
    rw [Around.under_plainId PySem.F.plain_extend_loop _]
    show wpAny _ A.in1 (pyNext (.ref z) >>= _) _ _ _
    have hend : xs[i]? = none ∨ ys[i]? = none := by
      have : i = min xs.size ys.size := by omega
      subst this
      rcases Nat.le_total xs.size ys.size with h | h
      · exact .inl (Array.getElem?_eq_none (by rw [Nat.min_eq_left h]; exact Nat.le_refl _))
      · exact .inr (Array.getElem?_eq_none (by rw [Nat.min_eq_right h]; exact Nat.le_refl _))
    refine wpAny_bind (fin (s := { s with heap := h }) (A := A.in1) hh D hst hend fun h' he => ?_)
    have at_ : ∀ a ∈ as, ∀ ob, h.get? a = some ob → h'.get? a = some ob := fun a ha ob e => by
      exact he a ob (Nat.ne_of_gt (Nat.lt_of_lt_of_le hlo.1 (hG.above a ha))) (Nat.ne_of_gt (Nat.lt_of_lt_of_le hlo.2.1 (hG.above a ha))) (Nat.ne_of_gt (Nat.lt_of_lt_of_le hlo.2.2.1 (hG.above a ha))) (Nat.ne_of_gt (Nat.lt_of_lt_of_le hlo.2.2.2 (hG.above a ha))) e
    refine wpAny_pure (hR h' acc c as (fun b o h1 h2 h3 h4 h5 e => he b o h2 h3 h4 h5 (hkeep b o h1 h2 h3 h4 h5 e)) (he S _ o.z o.TO o.i1 o.i2 hS) (by omega) ⟨hG.rise, hG.above, fun a ha => ?_, fun j a hj => ?_⟩ hacc)
    · obtain ⟨j, hj⟩ := List.mem_iff_getElem?.mp ha
      obtain ⟨x, y, _, _, e3⟩ := hG.pairs j a hj
      exact Heap.lt_size (at_ a ha _ e3)
    · obtain ⟨x, y, e1, e2, e3⟩ := hG.pairs j a hj
      exact ⟨x, y, e1, e2, at_ a (List.mem_of_getElem? hj) _ e3⟩
  | succ k ih =>
    intro i h c acc as hk hi hst hkeep hS hacc hal hG hlo2
    have hlt : i < min xs.size ys.size := by omega
    have hix : i < xs.size := Nat.lt_of_lt_of_le hlt (Nat.min_le_left ..)
    have hiy : i < ys.size := Nat.lt_of_lt_of_le hlt (Nat.min_le_right ..)
    have hsz : acc.size = i := by rw [← Array.length_toList, hacc, List.length_map, hal]
    refine codeAny_builtin PySem.F.entry_extend_loop ?_
    rw [Around.under_plainId PySem.F.plain_extend_loop _]
    show wpAny _ A.in1 (pyNext (.ref z) >>= _) _ _ _
    refine wpAny_bind (next (s := { s with heap := h }) (S := S) D hst (Heap.lt_size hS) (Array.getElem?_eq_getElem hix) (Array.getElem?_eq_getElem hiy) fun h' hst' ht hz hkp => ?_)
    dsimp only at ht hz hkp ⊢
    have hS' := hkp S _ o.z o.TO o.i1 o.i2 hS
    have up : ∀ b o, b ≠ S → h'.get? b = some o → (h'.update S (Obj.mapSeq (·.push (Value.ref h.objs.size)))).get? b = some o := fun b o hb e => (Heap.get?_update_other _ _ (Ne.symm hb)).trans e
    have hSh : S < h.objs.size := Heap.lt_size hS
    have atH : ∀ a ∈ as, ∀ ob, h.get? a = some ob → (h'.update S (Obj.mapSeq (·.push (Value.ref h.objs.size)))).get? a = some ob := fun a ha ob e => by
      exact up a ob (Nat.ne_of_gt (Nat.lt_of_lt_of_le hSl (hG.above a ha))) (hkp a ob (Nat.ne_of_gt (Nat.lt_of_lt_of_le hlo.1 (hG.above a ha))) (Nat.ne_of_gt (Nat.lt_of_lt_of_le hlo.2.1 (hG.above a ha))) (Nat.ne_of_gt (Nat.lt_of_lt_of_le hlo.2.2.1 (hG.above a ha))) (Nat.ne_of_gt (Nat.lt_of_lt_of_le hlo.2.2.2 (hG.above a ha))) e)
    have newT := up _ _ (Nat.ne_of_gt hSh) ht
    show wpAny _ A.in1 (updateSeq S (·.push (Value.ref h.objs.size)) >>= _) _ _ _
    refine wpAny_bind ?_
    refine wpAny_updateSeq hS' rfl (wpAny_pure ⟨plainId_quiet PySem.F.plain_extend_loop _, ih (i + 1) _ _ (acc.push (Value.ref h.objs.size)) (as ++ [h.objs.size]) (by omega) hlt (hst'.frame o up)
      (fun b o h1 h2 h3 h4 h5 e => up b o h1 (hkp b o h2 h3 h4 h5 (hkeep b o h1 h2 h3 h4 h5 e))) (Heap.get?_update_self _ hS' rfl) (by rw [Array.toList_push, hacc, List.map_append]; rfl) (by rw [List.length_append, hal]; rfl) ⟨?_, ?_, ?_, ?_⟩ (Nat.le_trans hlo2 (Nat.le_of_lt (Heap.lt_size newT)))⟩) (by rw [hsz]; omega) (by show (acc.push (Value.ref h.objs.size)).size ≤ sizeLine + 1; rw [Array.size_push, hsz]; omega)
    · refine List.pairwise_append.mpr ⟨hG.rise, List.pairwise_singleton _ _, fun a ha b hb => ?_⟩
      rw [List.mem_singleton.mp hb]
      exact hG.there a ha
    · intro a ha
      rcases List.mem_append.mp ha with ha | ha
      · exact hG.above a ha
      · rw [List.mem_singleton.mp ha]; exact hlo2
    · intro a ha
      rcases List.mem_append.mp ha with ha | ha
      · obtain ⟨j, hj⟩ := List.mem_iff_getElem?.mp ha
        obtain ⟨x, y, _, _, e3⟩ := hG.pairs j a hj
        exact Heap.lt_size (atH a ha _ e3)
      · rw [List.mem_singleton.mp ha]; exact Heap.lt_size newT
    · intro j b hj
      rcases Nat.lt_trichotomy j as.length with h1 | h1 | h1
      · rw [List.getElem?_append_left h1] at hj
        obtain ⟨x, y, e1, e2, e3⟩ := hG.pairs j b hj
        exact ⟨x, y, e1, e2, atH b (List.mem_of_getElem? hj) _ e3⟩
      · subst h1
        have hb : h.objs.size = b := by simpa using hj
        subst hb
        subst hal
        exact ⟨_, _, Array.getElem?_eq_getElem hix, Array.getElem?_eq_getElem hiy, newT⟩
      · have hnone : (as ++ [h.objs.size])[j]? = none := List.getElem?_eq_none (by rw [List.length_append, List.length_singleton]; omega)
        rw [hnone] at hj; cases hj
/-- list(z), z a zip that is as new -/
theorem call_list {Q : Value → Shared → Prop} (hh : A.handled = none) (D : ZipApart z TI TO i1 i2 l1 l2) (hn : min xs.size ys.size ≤ sizeLine) (hz : IsZip s.heap z TI TO .none) (hTI : IsPair s.heap TI (.ref i1) (.ref i2)) (hTO : ∃ a b, IsPair s.heap TO a b)
    (h1 : s.heap.IsListIter i1 l1 0) (h2 : s.heap.IsListIter i2 l2 0) (hl1 : s.heap.IsList l1 xs) (hl2 : s.heap.IsList l2 ys)
    (hQ : ∀ h' acc c as, (∀ b o, b ≠ z → b ≠ TO → b ≠ i1 → b ≠ i2 → s.heap.get? b = some o → h'.get? b = some o) → h'.get? s.heap.objs.size = some { cls := .type "list", dict := none, data := .seq acc c, slots := #[] } → as.length = min xs.size ys.size → Made xs ys (s.heap.objs.size + 1) h' as →
      acc.toList = as.map Value.ref → Q (.ref s.heap.objs.size) { s with heap := h' }) :
    wpAny (model prog w) A (call (.type "list") [.ref z]) Q E s := by
  refine callType_codes (Q₁ := fun obj s₁ => obj = .ref s.heap.objs.size ∧ s₁ = { s with heap := s.heap.push { cls := .type "list", data := .seq #[] } }) PySem.F.called_list (PySem.F.typeCall_list_1 _) PySem.F.entry_list_init
    (code_list_new _ ⟨rfl, rfl⟩) fun obj s₁ h₁ => ?_
  obtain ⟨rfl, rfl⟩ := h₁
  have hS : (s.heap.push { cls := .type "list", data := .seq #[] }).get? s.heap.objs.size = some { cls := .type "list", data := .seq #[] } := Heap.get?_push_size _ rfl
  refine ⟨⟨_, hS, rfl⟩, PySem.F.args_list_init_2 _ _, ?_⟩
  have lt : ∀ {c o}, s.heap.get? c = some o → s.heap.objs.size ≠ c := fun e => Nat.ne_of_gt (Heap.lt_size e)
  have off : Off s.heap.objs.size z TI TO i1 i2 l1 l2 := by
    obtain ⟨a, b, e3⟩ := hTO
    obtain ⟨_, e4, _⟩ := h1
    obtain ⟨_, e5, _⟩ := h2
    obtain ⟨_, e6, _⟩ := hl1
    obtain ⟨_, e7, _⟩ := hl2
    exact ⟨lt hz, lt hTI, lt e3, lt e4, lt e5, lt e6, lt e7⟩
  have lts : z < s.heap.objs.size + 1 ∧ TO < s.heap.objs.size + 1 ∧ i1 < s.heap.objs.size + 1 ∧ i2 < s.heap.objs.size + 1 := by
    obtain ⟨a, b, e3⟩ := hTO
    obtain ⟨_, e4, _⟩ := h1
    obtain ⟨_, e5, _⟩ := h2
    exact ⟨Nat.lt_succ_of_lt (Heap.lt_size hz), Nat.lt_succ_of_lt (Heap.lt_size e3), Nat.lt_succ_of_lt (Heap.lt_size e4), Nat.lt_succ_of_lt (Heap.lt_size e5)⟩
  have st0 : St s.heap.objs.size z TI TO i1 i2 l1 l2 xs ys 0 s.heap := ⟨hTI, h1, h2, hl1, hl2, .inl ⟨hz, hTO⟩⟩
  generalize hSS : s.heap.objs.size = S at hS off lts st0 hQ ⊢
  have hTy : ∀ h : Heap, IsZip h z TI TO .none → (({ s with heap := h } : Shared)).TypeIs (.ref z) "zip" := fun h e => ⟨_, e, rfl⟩
  -- the loop, from any heap that is as s's beside S
  have key : ∀ (h : Heap) (c₁ : Nat), (∀ b o, b ≠ S → s.heap.get? b = some o → h.get? b = some o) → h.get? S = some { cls := .type "list", data := .seq #[] c₁ } → S + 1 ≤ h.objs.size →
      codeAny (model prog w) A.in1 (.builtin "list.extend.loop" ⟨[.ref S, .ref z, .none], []⟩) (wants (fun r s₂ => r = .none ∧ Q (.ref S) s₂) E) { s with heap := h } := by
    intro h c₁ hk hS₁ hsz
    refine loop (A := A.in1) (s := s) (h₁ := s.heap) (lo := S + 1) (show A.in1.handled = none from hh) D off hn (Nat.lt_succ_self _) lts .none (fun h' acc c as hk' hS' hl hG hacc => ?_) _ 0 h c₁ #[] [] (Nat.sub_zero _) (Nat.zero_le _) (st0.frame off hk) (fun b o q1 _ _ _ _ e => hk b o q1 e) hS₁ rfl rfl ⟨List.Pairwise.nil, (fun _ ha => nomatch ha), (fun _ ha => nomatch ha), (fun j a hj => by simp at hj)⟩ hsz
    refine ⟨rfl, hQ h' acc c as (fun b o q1 q2 q3 q4 e => hk' b o (fun z => ?_) q1 q2 q3 q4 e) hS' hl hG hacc⟩
    rw [z, ← hSS] at e
    exact Nat.lt_irrefl _ (Heap.lt_size e)
  show wpAny _ _ (do let old ← Builtin.List.listItems (.ref S); Builtin.List.listUpdate (.ref S) (fun _ => #[]); letGo old.toList.reverse; Builtin.List.listExtendWith (.ref S) (.ref z) .none) _ _ _
  refine wpAny_bind ?_
  unfold Builtin.List.listItems
  refine wpAny_bind (wpAny_seqItems hS rfl (wpAny_pure ?_))
  show wpAny _ _ (updateSeq S (fun _ => #[]) >>= fun _ => letGo (#[] : Array Value).toList.reverse >>= fun _ => Builtin.List.listExtendWith (.ref S) (.ref z) .none) _ _ _
  refine wpAny_bind (wpAny_updateSeq hS rfl ?_)
  have hS₂ := Heap.get?_update_self (Obj.mapSeq (fun _ => (#[] : Array Value))) hS rfl
  refine wpAny_bind (wpAny_letGo ?_)
  generalize hh2 : (s.heap.push { cls := .type "list", data := .seq #[] }).update S (Obj.mapSeq (fun _ => (#[] : Array Value))) = h2 at hS₂ ⊢
  have kp2 : ∀ b o, b ≠ S → s.heap.get? b = some o → h2.get? b = some o := fun b o hb e => by
    rw [← hh2]
    exact (Heap.get?_update_other _ _ (Ne.symm hb)).trans (Heap.get?_push_of_some _ e)
  have hz2 : IsZip h2 z TI TO .none := kp2 z _ (Ne.symm off.z) hz
  unfold Builtin.List.listExtendWith
  refine wpAny_bind (wpAny_typeOf (T := "zip") (hTy h2 hz2) ?_)
  have g1 : Builtin.List.listSameRef (.ref S) (.ref z) = false := by simp [Builtin.List.listSameRef, off.z]
  have g2 : (Value.type "zip" == Value.type "list") = false := by decide
  have g3 : (Value.type "zip" == Value.type "tuple") = false := by decide
  simp only [g1, g2, g3, Bool.or_false, Bool.false_eq_true, if_false]
  refine wpAny_bind (wpAny_pyIter_zip hz2 ?_)
  refine wpAny_bind (wpAny_holding ?_)
  unfold Builtin.List.listLengthHint
  refine wpAny_bind (wpAny_specialOf (hTy h2 hz2) zip_no_len ?_)
  show wpAny _ _ (specialOf (Value.ref z) (Str.ofString "__length_hint__") >>= _) _ _ _
  refine wpAny_bind (wpAny_specialOf (hTy h2 hz2) zip_no_hint ?_)
  refine wpAny_pure ?_
  show wpAny _ _ (rule "list.extend.makes-room" >>= fun _ => Builtin.List.listTouch (.ref S) >>= fun _ => again (.builtin "list.extend.loop" ⟨[.ref S, .ref z, .none], []⟩)) _ _ _
  refine wpAny_bind (wpAny_rule ?_)
  refine wpAny_bind ?_
  show wpAny _ _ (updateSeq S (·.push .none) >>= fun _ => updateSeq S (·.pop)) _ _ _
  refine wpAny_bind (wpAny_updateSeq (hz := by seq_fits) hS₂ rfl ?_)
  have hS₃ := Heap.get?_update_self (Obj.mapSeq (·.push Value.none)) hS₂ rfl
  refine wpAny_updateSeq (hz := by seq_fits) hS₃ rfl ?_
  have hS₄ := Heap.get?_update_self (Obj.mapSeq (·.pop)) hS₃ rfl
  refine wpAny_pure ⟨plainId_quiet PySem.F.plain_extend_loop _, key _ _ (fun b o hb e => ?_) hS₄ (Heap.lt_size hS₄)⟩
  exact (Heap.get?_update_other _ _ (Ne.symm hb)).trans ((Heap.get?_update_other _ _ (Ne.symm hb)).trans (kp2 b o hb e))
end
end LZ
end
section
set_option Elab.async false
set_option linter.all false
set_option maxRecDepth 100000
namespace LZ
open PySem PySem.Spec PyProof.Rows L2
def foldP : List (Addr × List V) → Hp → Hp
  | [], H => H
  | p :: L, H => foldP L (upd H p.1 (.tup p.2))
def pairsP (L : List (Addr × V × V)) : List (Addr × List V) := L.map fun p => (p.1, [p.2.1, p.2.2])
/-- pairs that stand already are tracked -/
theorem takeP {X : Cx} {pins : List (Addr × Obj)} {σ : L2.St} {H0 : Hp} {s : Shared} {h' : Heap} {tk : Nat} (I0 : Inv X pins σ H0 s) : ∀ (L : List (Addr × List V)) (H1 : Hp), Inv X pins σ H1 { s with heap := h', toks := tk } → (L.map (·.1)).Nodup →
    (∀ p ∈ L, s.heap.objs.size ≤ p.1 ∧ H1 p.1 = none ∧ ∀ H2, ObjOk X.prog X.w H2 h' p.1 (.tup p.2)) → Inv X pins σ (foldP L H1) { s with heap := h', toks := tk }
  | [], H1, I1, _, _ => I1
  | p :: L, H1, I1, hn, h => by
    obtain ⟨hb, hnone, ok⟩ := h p (List.mem_cons_self ..)
    have I2 : Inv X pins σ (upd H1 p.1 (.tup p.2)) { s with heap := h', toks := tk } := I1.take (h' := h') (t' := tk) (fun b ob _ e => e) (I0.fpOk hb hnone) (ok _)
    rw [List.map_cons, List.nodup_cons] at hn
    refine takeP I0 L _ I2 hn.2 fun c hc => ?_
    obtain ⟨c1, c2, c3⟩ := h c (List.mem_cons_of_mem _ hc)
    refine ⟨c1, ?_, c3⟩
    rw [upd_ne (fun z => hn.1 (by rw [← z]; exact List.mem_map_of_mem hc))]
    exact c2
theorem fold_out {b : Addr} : ∀ (L : List (Addr × List V)) (H1 : Hp), b ∉ L.map (·.1) → (foldP L H1) b = H1 b
  | [], H1, _ => rfl
  | p :: L, H1, h => by
    rw [foldP, fold_out L _ fun z => h (by rw [List.map_cons]; exact List.mem_cons_of_mem _ z), upd_ne fun z => h (by rw [List.map_cons, z]; exact List.mem_cons_self ..)]
def tLz (K : PySem.W.Frag) (ta : TA) : TE := fun σ H Q => ta σ H fun vs H1 => ∃ a b xs ys, vs = [.ref a, .ref b] ∧ SqL K H1 a xs ∧ SqL K H1 b ys ∧
  ∀ (L : List (Addr × V × V)) (l : Addr), L.length = min xs.length ys.length → (∀ (j : Nat) (p : Addr × V × V), L[j]? = some p → xs[j]? = some p.2.1 ∧ ys[j]? = some p.2.2 ∧ H1 p.1 = none) → (L.map (·.1)).Nodup → l ∉ L.map (·.1) → H1 l = none →
    Q (.ref l) (upd (foldP (pairsP L) H1) l (.lst (L.map fun p => V.ref p.1)))
section
variable {X : Cx} {e e2 : Expr} {ta : TA} {p p2 pos pos2 : Pos}
theorem pe_lz (hc : X.calm = true) (hgl : Gl X "list") (hml : X.mg "list" = none) (hgz : Gl X "zip") (hmz : X.mg "zip" = none) (ha : PA X [e, e2] ta)
    (hs : starEach [e, e2] X.env = (false, eval e X.env) :: starEach [e2] X.env) (hpl : (backTo pos2 (starEach [e2] X.env)).any (·.1) = false)
    (hs2 : starEach [.Call (.Name "zip" p2) [e, e2] [] pos2] X.env = (false, eval (.Call (.Name "zip" p2) [e, e2] [] pos2) X.env) :: starEach [] X.env) (hpl2 : (backTo pos (starEach [] X.env)).any (·.1) = false)
    (hnil : backTo pos (starEach [] X.env) = [])
    (he1 : eval (.Call (.Name "list" p) [.Call (.Name "zip" p2) [e, e2] [] pos2] [] pos) X.env = (do callWith pos (← eval (.Name "list" p) X.env) [] (backTo pos (starEach [.Call (.Name "zip" p2) [e, e2] [] pos2] X.env)) (backToKw pos (keywordEach [] X.env))))
    (he2 : eval (.Call (.Name "zip" p2) [e, e2] [] pos2) X.env = (do callWith pos2 (← eval (.Name "zip" p2) X.env) [] (backTo pos2 (starEach [e, e2] X.env)) (backToKw pos2 (keywordEach [] X.env)))) :
    PE X (.Call (.Name "list" p) [.Call (.Name "zip" p2) [e, e2] [] pos2] [] pos) (tLz X.K ta) := by
  refine ⟨fun pins s σ H Q I h => ?_⟩
  refine Call_ (ld_blt I hgl hml PyProof.Rows.boot_list (PyProof.Rows.callWith_type1 ?_ hs2 hpl2)) he1
  rw [hs2]
  show wpAny _ _ (spliced ((false, _) :: backTo pos (starEach [] X.env))) _ _ s
  rw [hnil]
  refine Calls.spliced_cons (Call_ (ld_blt I hgz hmz PyProof.Rows.boot_zip (PyProof.Rows.callWith_type1 (thn (ha.run pos2 pins s σ H _ I h) fun us s1 ⟨vs, H1, I1, r1, q1⟩ => ?_) hs hpl)) he2)
  obtain ⟨a, b, xs, ys, ex, hqx, hqy, q⟩ := q1
  subst ex
  cases r1 with
  | cons r rr =>
    cases rr with
    | cons r' rr =>
      cases rr
      cases r
      cases r'
      obtain ⟨its, rv, p1, zx⟩ := I1.list hqx
      obtain ⟨its2, rv2, p2, zy⟩ := I1.list hqy
      have l1 := rv.length
      have l2 := rv2.length
      refine call_zip_2 p1.isList p2.isList fun h' hz hTI hTO h1 h2 hsz hk => ?_
      refine Calls.spliced_nil ?_
      have D := PySem.W.ktu_apart s1.heap.objs.size a b p1.lt p2.lt
      have kl1 : h'.IsList a its.toArray := p1.isList.at fun o e => hk _ o e
      have kl2 : h'.IsList b its2.toArray := p2.isList.at fun o e => hk _ o e
      have hmin : min its.toArray.size its2.toArray.size = min xs.length ys.length := by rw [List.size_toArray, List.size_toArray, l1, l2]
      refine call_list (s := { s1 with heap := h' }) (I1.ok.hd hc) D (by rw [hmin]; exact Nat.le_trans (Nat.min_le_left _ _) (by first | exact zx | (rw [l1]; exact zx))) hz hTI ⟨_, _, hTO⟩ h1 h2 kl1 kl2 fun h2' acc c as hk2 hS hl hG hacc => ?_
      -- the pairs by their values
      have hS' : h2'.get? h'.objs.size = some { cls := .type "list", dict := none, data := .seq acc c, slots := #[] } := hS
      have hl : as.length = min xs.length ys.length := hl.trans hmin
      have hk3 : ∀ b o, s1.heap.get? b = some o → h2'.get? b = some o := fun b o e => by
        have hlt := Heap.lt_size e
        exact hk2 b o (Nat.ne_of_lt (Nat.lt_of_lt_of_le hlt (Nat.le_add_right _ _))) (Nat.ne_of_lt (Nat.lt_of_lt_of_le hlt (Nat.le_add_right _ _))) (Nat.ne_of_lt hlt) (Nat.ne_of_lt (Nat.lt_of_lt_of_le hlt (Nat.le_add_right _ _))) (hk b o e)
      have I2 : Inv X pins σ H1 { s1 with heap := h2' } := I1.kept (t' := s1.toks) hk3
      let L : List (Addr × V × V) := (as.zip (xs.zip ys))
      have hLl : L.length = min xs.length ys.length := by
        show (as.zip (xs.zip ys)).length = _
        rw [List.length_zip, List.length_zip, hl, Nat.min_self]
      have hL1 : L.map (·.1) = as := by
        show (as.zip (xs.zip ys)).map (·.1) = as
        exact List.map_fst_zip (by rw [hl, List.length_zip]; exact Nat.le_refl _)
      have lo : h'.objs.size = s1.heap.objs.size + 5 := hsz
      have above : ∀ a ∈ as, h'.objs.size + 1 ≤ a := hG.above
      have nd : as.Nodup := List.Pairwise.imp (fun h => Nat.ne_of_lt h) hG.rise
      have fresh : ∀ a, s1.heap.objs.size ≤ a → H1 a = none := fun a h => I1.hok.fresh h
      have big : ∀ a ∈ as, s1.heap.objs.size ≤ a := fun a ha => Nat.le_trans (by rw [lo]; exact Nat.le_add_right _ 6) (above a ha)
      have getL : ∀ (j : Nat) (p : Addr × V × V), L[j]? = some p → as[j]? = some p.1 ∧ xs[j]? = some p.2.1 ∧ ys[j]? = some p.2.2 := fun j p hj => by
        have hj : (as.zip (xs.zip ys))[j]? = some p := hj
        obtain ⟨h1, h2⟩ := List.getElem?_zip_eq_some.mp hj
        obtain ⟨h3, h4⟩ := List.getElem?_zip_eq_some.mp h2
        exact ⟨h1, h3, h4⟩
      have I3 : Inv X pins σ (foldP (pairsP L) H1) { s1 with heap := h2' } := by
        refine takeP (tk := s1.toks) I1 _ H1 I2 ?_ fun p hp => ?_
        · unfold pairsP
          rw [List.map_map]
          show (L.map fun p => p.1).Nodup
          rw [hL1]
          exact nd
        · obtain ⟨p', hp', ep⟩ := List.mem_map.mp hp
          obtain ⟨j, hj⟩ := List.mem_iff_getElem?.mp hp'
          obtain ⟨g1, g2, g3⟩ := getL j p' hj
          obtain ⟨x, y, e1, e2, e3⟩ := hG.pairs j _ g1
          subst ep
          have ha := List.mem_of_getElem? g1
          refine ⟨big _ ha, fresh _ (big _ ha), fun H2 => ⟨by show 2 ≤ sizeLine; decide, [x, y], ?_, ⟨_, e3, rfl, _, rfl⟩⟩⟩
          obtain ⟨u, hu, ru⟩ := rv.get g2
          obtain ⟨u', hu', ru'⟩ := rv2.get g3
          have e1 : its[j]? = some x := by simpa using e1
          have e2 : its2[j]? = some y := by simpa using e2
          rw [hu] at e1
          rw [hu'] at e2
          cases e1
          cases e2
          exact .cons ru (.cons ru' .nil)
      have hlS : h'.objs.size ∉ L.map (·.1) := fun z => by
        rw [hL1] at z
        exact Nat.lt_irrefl _ (above _ z)
      have bigS : s1.heap.objs.size ≤ h'.objs.size := by rw [lo]; exact Nat.le_add_right _ _
      have nS : (foldP (pairsP L) H1) h'.objs.size = none := by
        rw [fold_out _ _ (by unfold pairsP; rw [List.map_map]; exact hlS)]
        exact fresh _ bigS
      have rvL : Vals (L.map fun p => V.ref p.1) acc.toList := by
        rw [hacc]
        have e1 : (L.map fun p => V.ref p.1) = as.map V.ref := by
          rw [← hL1, List.map_map]
          rfl
        rw [e1]
        exact vals_maps (fun a : Addr => V.ref a) (fun a => Value.ref a) as fun _ _ => rfl
      have I4 : Inv X pins σ (upd (foldP (pairsP L) H1) h'.objs.size (.lst (L.map fun p => V.ref p.1))) { s1 with heap := h2' } :=
        I3.take (h' := h2') (t' := s1.toks) (fun b ob _ e => e) (I1.fpOk bigS nS) ⟨by rw [List.length_map, hLl]; exact Nat.le_trans (Nat.min_le_left _ _) (by first | exact zx | (rw [l1]; exact zx)), acc.toList, c, rvL, by rw [Array.toArray_toList]; exact hS'⟩
      exact ⟨.ref h'.objs.size, _, I4, rfl, q L h'.objs.size hLl (fun j p hj => by
        obtain ⟨g1, g2, g3⟩ := getL j p hj
        exact ⟨g2, g3, fresh _ (big _ (List.mem_of_getElem? g1))⟩) (by rw [hL1]; exact nd) hlS (fresh _ bigS)⟩
end
end LZ
end
section
set_option Elab.async false
set_option linter.all false
set_option autoImplicit false
set_option maxRecDepth 100000
namespace L2.Pv
open PySem PySem.Spec PyProof.Rows

/-! ### list(zip(a, b)) -/
section
variable {Γ : Gm} {F : Fr} {σ : St} {sl : TS'}
/-- pairs that are new -/
theorem Abs.pairs : ∀ (L : List (Addr × V × V)) {H G : Hp} {tm : List T} (ds es : List D), Abs Γ F σ H G sl tm → (∀ (j : Nat) (p : Addr × V × V), L[j]? = some p → ∃ a b, ds[j]? = some a ∧ es[j]? = some b ∧ Rep Γ G p.2.1 a ∧ Rep Γ G p.2.2 b ∧ H p.1 = none) → (L.map (·.1)).Nodup → L.length = (zipD ds es).length →
    ∃ G' ts, Abs Γ F σ (LZ.foldP (LZ.pairsP L) H) G' sl (ts ++ tm) ∧ Sub G G' ∧ ts.map T.v = L.map (fun p => V.ref p.1) ∧ ts.map T.d = zipD ds es
  | [], H, G, tm, ds, es, A, _, _, hl => ⟨G, [], A, Sub.refl G, rfl, by
    have : zipD ds es = [] := List.eq_nil_of_length_eq_zero hl.symm
    rw [this]; rfl⟩
  | p :: L, H, G, tm, ds, es, A, h, nd, hl => by
    obtain ⟨a, b, e1, e2, r1, r2, hn⟩ := h 0 p rfl
    cases ds with
    | nil => simp at e1
    | cons d ds =>
      cases es with
      | nil => simp at e2
      | cons e es =>
        have e1 : d = a := by simpa using e1
        have e2 : e = b := by simpa using e2
        subst e1 e2
        obtain ⟨G1, t, B, s1, ev, ed⟩ := A.pair r1 r2 hn
        rw [List.map_cons, List.nodup_cons] at nd
        obtain ⟨G2, ts, C, s2, ev2, ed2⟩ := Abs.pairs L (H := upd H p.1 (.tup [p.2.1, p.2.2])) ds es B (fun j q hj => by
          obtain ⟨a', b', f1, f2, f3, f4, f5⟩ := h (j + 1) q (by simpa using hj)
          refine ⟨a', b', by simpa using f1, by simpa using f2, f3.mono s1 a', f4.mono s1 b', ?_⟩
          rw [upd_ne (fun z => nd.1 (by rw [← z]; exact List.mem_map_of_mem (List.mem_of_getElem? hj)))]
          exact f5) nd.2 (by unfold zipD at hl ⊢; simpa using hl)
        refine ⟨G2, t :: ts, C.swap, s1.trans s2, by rw [List.map_cons, ev, ev2]; rfl, ?_⟩
        rw [List.map_cons, ed, ed2]
        rfl
end
def lzO (ds : List D) : Option D := match ds with
  | [.lst _ xs, .lst _ ys] => some (.lst true (zipD (D.frzs xs) (D.frzs ys)))
  | _ => none
theorem lzO_of {a b : D} {d : D} (h : lzO [a, b] = some d) : ∃ o xs o' ys, a = .lst o xs ∧ b = .lst o' ys ∧ d = .lst true (zipD (D.frzs xs) (D.frzs ys)) := by
  unfold lzO at h
  split at h
  · rename_i o xs o' ys e
    cases e
    cases h
    exact ⟨_, _, _, _, rfl, rfl, rfl⟩
  · cases h
def eLz (fa : EvA) : Ev := fun δ => (fa δ).bd fun ds δ' => lft (lzO ds) δ'
section
variable {X : Cx} {Γ : Gm} {E : WX} {W : List Nat} {e e2 : Expr} {fa : EvA} {p p2 pos pos2 : Pos}
theorem se_lz (hc : X.calm = true) (hgl : Gl X "list") (hml : X.mg "list" = none) (hgz : Gl X "zip") (hmz : X.mg "zip" = none) (ha : SA X Γ E W 2 [e, e2] fa)
    (hs : starEach [e, e2] X.env = (false, eval e X.env) :: starEach [e2] X.env) (hpl : (backTo pos2 (starEach [e2] X.env)).any (·.1) = false)
    (hs2 : starEach [.Call (.Name "zip" p2) [e, e2] [] pos2] X.env = (false, eval (.Call (.Name "zip" p2) [e, e2] [] pos2) X.env) :: starEach [] X.env) (hpl2 : (backTo pos (starEach [] X.env)).any (·.1) = false)
    (hnil : backTo pos (starEach [] X.env) = [])
    (he1 : eval (.Call (.Name "list" p) [.Call (.Name "zip" p2) [e, e2] [] pos2] [] pos) X.env = (do callWith pos (← eval (.Name "list" p) X.env) [] (backTo pos (starEach [.Call (.Name "zip" p2) [e, e2] [] pos2] X.env)) (backToKw pos (keywordEach [] X.env))))
    (he2 : eval (.Call (.Name "zip" p2) [e, e2] [] pos2) X.env = (do callWith pos2 (← eval (.Name "zip" p2) X.env) [] (backTo pos2 (starEach [e, e2] X.env)) (backToKw pos2 (keywordEach [] X.env)))) :
    SE X Γ E W (.Call (.Name "list" p) [.Call (.Name "zip" p2) [e, e2] [] pos2] [] pos) (eLz fa) := fun hK => (LZ.pe_lz hc hgl hml hgz hmz (ha hK) hs hpl hs2 hpl2 hnil he1 he2).imp fun σ H Q ⟨F, G, sl, tm, A, q⟩ => by
  refine ⟨F, G, sl, tm, A, ?_⟩
  unfold eLz at q
  cases hf : fa (dsl sl) with
  | stuck => rw [hf] at q; exact q
  | exc c fs δ => rw [hf] at q; exact q
  | ok ds δ =>
    rw [hf, bd_ok] at q
    intro H1 G1 sl1 ts A1 s1 hl ets e1 k1
    obtain ⟨t1, t2, rfl⟩ : ∃ t1 t2, ts = [t1, t2] := by
      match ts, hl with
      | [t1, t2], _ => exact ⟨t1, t2, rfl⟩
    obtain ⟨B, v1, r1, ev1, rp1, v2, r2, ev2, rp2, _⟩ := A1.freeze
    cases ev1
    cases ev2
    have s2 : Sub G1 (frzH G1 H1 [t1, t2]) := frzH_sub fun a ha => (A1.sep a (by rw [cnts_append]; omega)).1
    have ets : [t1.d, t2.d] = ds := ets
    subst ets
    cases hz : lzO [t1.d, t2.d] with
    | none => rw [hz] at q; exact q.elim
    | some d =>
      rw [hz, lft_some] at q
      obtain ⟨o, xs, o', ys, e1', e2', rfl⟩ := lzO_of hz
      rw [e1'] at rp1
      rw [e2'] at rp2
      obtain ⟨z1, a, vs, ev1, q1, r1⟩ := rp1
      obtain ⟨z2, b, ws, ev2, q2, r2⟩ := rp2
      refine ⟨a, b, vs, ws, by rw [List.map_cons, List.map_cons, ev1, ev2]; rfl, SqL.of (B.sub _ _ q1), SqL.of (B.sub _ _ q2), fun L l hL hj hn hll hl0 => ?_⟩
      obtain ⟨G2, ts, C, s3, ev, ed⟩ := Abs.pairs L (D.frzs xs) (D.frzs ys) B (fun j p hp => by
        obtain ⟨h1, h2, h3⟩ := hj j p hp
        have g1 : j < (D.frzs xs).length := by rw [← r1.len]; exact (List.getElem?_eq_some_iff.mp h1).1
        have g2 : j < (D.frzs ys).length := by rw [← r2.len]; exact (List.getElem?_eq_some_iff.mp h2).1
        obtain ⟨v, hv, rv⟩ := r1.get (List.getElem?_eq_getElem g1)
        obtain ⟨w, hw, rw'⟩ := r2.get (List.getElem?_eq_getElem g2)
        rw [h1] at hv
        rw [h2] at hw
        cases hv
        cases hw
        exact ⟨_, _, List.getElem?_eq_getElem g1, List.getElem?_eq_getElem g2, rv, rw', h3⟩) hn (by unfold zipD; rw [List.length_zipWith, hL, r1.len, r2.len])
      have hzl : (zipD (D.frzs xs) (D.frzs ys)).length ≤ sizeLine := by unfold zipD; rw [List.length_zipWith]; have := z1.2; omega
      have D' := C.newLst (p := l) (by rw [LZ.fold_out _ _ (by unfold LZ.pairsP; rw [List.map_map]; exact hll)]; exact hl0) (by rw [← List.length_map (f := T.d), ed]; exact hzl)
      rw [ev] at D'
      exact q _ G2 sl1 (.lst l ts) D' (s1.trans (s2.trans s3)) (by rw [T.d, T.ds_map, ed]) e1 k1
end
end L2.Pv
end
section
set_option Elab.async false
set_option linter.all false
set_option maxRecDepth 100000
/-! t[::-1] of a tuple -/
namespace RvT
open PySem PySem.Spec PyProof.Rows
section
variable {prog : Program} {w : World} {A : Around} {E : Value → Shared → Prop} {s : Shared}
theorem adj (n : Nat) : Builtin.Slice.sliceAdjust none none (-1) (n : Int) = ((n : Int) - 1, -1) := by
  unfold Builtin.Slice.sliceAdjust
  rfl
theorem plc (n : Nat) : Builtin.Slice.slicePlaces ((n : Int) - 1) (-1) (-1) = n := by
  unfold Builtin.Slice.slicePlaces
  have h0 : ¬ ((-1 : Int) > 0) := by omega
  have h1 : (- -1 : Int) = 1 := rfl
  simp only [h0, if_false, h1, Int.ediv_one]
  split <;> omega
theorem pick (xs : Array Value) : ((List.range xs.size).filterMap fun (m : Nat) => xs[((xs.size : Int) - 1 + (m : Int) * (-1)).toNat]?).toArray = xs.toList.reverse.toArray := by
  congr 1
  have e : ∀ l : List Value, ((List.range l.length).filterMap fun (m : Nat) => l.toArray[((l.length : Int) - 1 + (m : Int) * (-1)).toNat]?) = l.reverse := by
    intro l
    have key : ∀ m, m < l.length → l.toArray[((l.length : Int) - 1 + (m : Int) * (-1)).toNat]? = l.reverse[m]? := fun m hm => by
      have e1 : ((l.length : Int) - 1 + (m : Int) * (-1)).toNat = l.length - 1 - m := by omega
      rw [e1, List.getElem?_reverse hm]
      simp
    have h : ((List.range l.length).filterMap fun (m : Nat) => l.toArray[((l.length : Int) - 1 + (m : Int) * (-1)).toNat]?) = (List.range l.length).filterMap fun m => l.reverse[m]? := by
      have cong : ∀ (r : List Nat), (∀ m ∈ r, m < l.length) → (r.filterMap fun (m : Nat) => l.toArray[((l.length : Int) - 1 + (m : Int) * (-1)).toNat]?) = r.filterMap fun m => l.reverse[m]? := by
        intro r
        induction r with
        | nil => intro _; rfl
        | cons m r ih =>
          intro hr
          rw [List.filterMap_cons, List.filterMap_cons, ih fun k hk => hr k (List.mem_cons_of_mem _ hk), key m (hr m List.mem_cons_self)]
      exact cong _ fun m hm => List.mem_range.mp hm
    rw [h]
    have h2 := PySem.W.krv_all l.reverse.toArray
    simpa using h2
  have := e xs.toList
  simpa using this
theorem applied {sl : Addr} {vl vu vs : Value} {n : Nat} {Q : Int × Int × Nat → Shared → Prop} (hs : s.heap.IsSliceOf sl vl vu vs) (pl : IsPart vl none) (pu : IsPart vu none) (ps : IsPart vs (some (-1)))
    (h : Q ((n : Int) - 1, -1, n) s) : wpAny (model prog w) A (Builtin.Slice.sliceApplied (.ref sl) (pure (n : Int))) Q E s := by
  obtain ⟨os, hos, hcs, hds⟩ := id hs
  unfold Builtin.Slice.sliceApplied Builtin.Slice.sliceFields
  refine wpAny_bind (wpAny_bind (wpAny_field hos hds (x := vl) rfl (wpAny_bind (wpAny_field hos hds (x := vu) rfl (wpAny_bind (wpAny_field hos hds (x := vs) rfl (wpAny_pure ?_)))))))
  refine wpAny_bind (HT.slicePart_ ps ?_)
  show wpAny _ _ (if ((-1 : Int) == 0) = true then _ else _) _ _ s
  rw [if_neg (by decide)]
  refine wpAny_bind (HT.slicePart_ pl (wpAny_bind (HT.slicePart_ pu (wpAny_bind (wpAny_pure ?_)))))
  show wpAny _ _ (match Builtin.Slice.sliceAdjust none none (-1) (n : Int) with | (lo, hi) => pure (lo, (-1 : Int), Builtin.Slice.slicePlaces lo hi (-1))) _ _ s
  rw [adj n]
  show wpAny _ _ (pure (((n : Int) - 1), (-1 : Int), Builtin.Slice.slicePlaces ((n : Int) - 1) (-1) (-1))) _ _ s
  rw [plc]
  exact wpAny_pure h
theorem getItem_rev {t sl : Addr} {items : Array Value} {vl vu vs : Value} {Q : Value → Shared → Prop} (ht : IsTup s.heap t items) (hs : s.heap.IsSliceOf sl vl vu vs) (pl : IsPart vl none) (pu : IsPart vu none) (ps : IsPart vs (some (-1)))
    (h : Q (.ref s.heap.objs.size) { s with heap := s.heap.push { cls := .type "tuple", data := .seq items.toList.reverse.toArray } })
    (hsz : items.size ≤ sizeLine) : wpAny (model prog w) A (getItem (.ref t) (.ref sl)) Q E s := by
  have htake : sizeOk (.seq items.toList.reverse.toArray) := by
    show items.toList.reverse.toArray.size ≤ sizeLine
    simpa using hsz
  obtain ⟨os, hos, hcs, hds⟩ := id hs
  have hTs : s.TypeIs (.ref sl) "slice" := ⟨os, hos, hcs⟩
  unfold getItem
  try with_reducible refine wpAny_holding ?_
  first | refine wpAny_bind (wpAny_pure ?_) | skip
  refine wpAny_bind (wpAny_sequenceKey ht.typeIs (by decide) ?_)
  refine wpAny_bind (wpAny_callSpecial?_slot (name := Str.ofString "__getitem__") ht.typeIs PyProof.Rows.slot_tuple_getitem
    (wpAny_call_entry PyProof.Rows.slot_tuple_getitem ht.typeIs entry_tuple_getitem ?_ (args_tuple_getitem _ _)))
  show wpAny _ _ (Builtin.Tuple.tupleItemsOf (.ref t) >>= _) _ _ s
  refine wpAny_bind (tupleItemsOf_ ht ?_)
  refine wpAny_bind (wpAny_typeOf hTs ?_)
  rw [if_pos (by decide)]
  refine wpAny_bind (applied hs pl pu ps ?_)
  have hno : ¬ ((((items.size : Int) - 1) == 0 && (-1 : Int) == 1 && items.size == items.size) = true) := by
    intro q
    rw [Bool.and_eq_true, Bool.and_eq_true] at q
    exact absurd q.1.2 (by decide)
  show wpAny _ _ (if (((items.size : Int) - 1) == 0 && (-1 : Int) == 1 && items.size == items.size) = true then _ else _) _ _ s
  rw [if_neg hno, pick]
  first
    | exact wpAny_bind (m := Builtin.Tuple.tupleExact _) (wpAny_newObj_type (wpAny_pure ⟨_, rfl, wpAny_pure h⟩) htake)
    | exact wpAny_bind (m := Builtin.Tuple.tupleExact _) (wpAny_newObj_type (wpAny_bind (wpAny_pure (wpAny_pure ⟨_, rfl, wpAny_pure h⟩))) htake)
    | exact wpAny_bind (wpAny_bind (m := Builtin.Tuple.tupleExact _) (wpAny_newObj_type (wpAny_pure (wpAny_pure ⟨_, rfl, wpAny_pure h⟩)) htake))
    | exact wpAny_bind (wpAny_bind (m := Builtin.Tuple.tupleExact _) (wpAny_newObj_type (wpAny_pure ⟨_, rfl, wpAny_pure h⟩) htake))
end
end RvT
namespace L2
open PySem PySem.Spec PyProof.Rows
section
variable {X : Cx}
/-- xs[::-1], a list or a tuple -/
def tRevA (K : PySem.W.Frag) (te : TE) : TE := fun σ H Q => te σ H fun x H1 => ∃ a xs, x = .ref a ∧ ((SqL K H1 a xs ∧ ∀ p, H1 p = none → Q (.ref p) (upd H1 p (.lst xs.reverse))) ∨ (SqT K H1 a xs ∧ ∀ p, H1 p = none → Q (.ref p) (upd H1 p (.tup xs.reverse))))
theorem pe_revA {e : Expr} {te : TE} {k : Nat} {p1 p2 p3 pos : Pos} (he : PE X e te) : PE X (.Subscript e (.Slice none none (some (.UnaryOp .USub (.Constant (.int 1) k p1) p2)) p3) pos) (tRevA X.K te) := by
  refine ⟨fun pins s σ H Q I h => ?_⟩
  refine Subscript_ (thn (he.run pins s σ H _ I h) fun v s1 ⟨x, H1, I1, r1, q1⟩ => ?_)
  obtain ⟨a, xs, ex, q⟩ := q1
  subst ex
  cases r1
  have hst : PO X (some (.UnaryOp .USub (.Constant (.int 1) k p1) p2)) (tPart (tUn (rU fun i => .int (-i)) (tC (.int 1)))) := po_some (pe_un un_neg pe_int)
  refine wpAny_Slice (thn (po_none.run pins s1 σ H1 (fun o H2 => o = none ∧ H2 = H1) I1 ⟨rfl, rfl⟩) fun vl s2 ⟨l, H2, I2, pl, el, e2⟩ => ?_)
  subst el e2
  refine thn (po_none.run pins s2 σ H2 (fun o H3 => o = none ∧ H3 = H2) I2 ⟨rfl, rfl⟩) fun vu s3 ⟨u, H3, I3, pu, eu, e3⟩ => ?_
  subst eu e3
  refine thn (hst.run pins s3 σ H3 (fun o H4 => o = some (-1) ∧ H4 = H3) I3 ⟨1, rfl, -1, rfl, rfl, rfl⟩) fun vs s4 ⟨o, H4, I4, ps, eo, e4⟩ => ?_
  subst eo e4
  have I5 : Inv X pins σ H4 { s4 with heap := s4.heap.push { cls := .type "slice", data := .fields #[vl, vu, vs] } } := I4.kept (t' := s4.toks) fun b ob q => Heap.get?_push_of_some _ q
  show wpAny (model X.prog X.w) X.A (subscriptTail e (.Slice none none (some (.UnaryOp .USub (.Constant (.int 1) k p1) p2)) p3) (.ref a) (.ref s4.heap.objs.size)) (EP X pins σ Q) X.xe { s4 with heap := s4.heap.push { cls := .type "slice", data := .fields #[vl, vu, vs] } }
  rcases q with ⟨hx, q⟩ | ⟨hx, q⟩
  · obtain ⟨its, r, ht, hz⟩ := I5.list hx
    have hlen := r.length
    refine tail_any (ops := [.ref a, .ref s4.heap.objs.size]) ht.isList.typeIs (PySem.slot_list_getitem.lookup) ?_ (by with_unfolding_all rfl)
    refine wpAny_getItem_list_slice ht.isList (Heap.IsSliceOf.new _ vl vu vs) pl pu ps (by decide) ?_ (by rw [List.size_toArray]; omega)
    rw [PySem.W.krv_pick]
    refine ⟨.ref _, _, I5.laid (t' := s4.toks) (o := .lst xs.reverse) (fun b ob q => Heap.get?_push_of_some _ q) (Nat.le_refl _) ?_, rfl, q _ (I5.hok.fresh (Nat.le_refl _))⟩
    exact ⟨by rw [List.length_reverse]; exact hz, _, 0, r.reverse, Heap.get?_push_size _ rfl⟩
  · obtain ⟨its, r, ht, hz⟩ := I5.tuple hx
    have hlen := r.length
    refine tail_any (ops := [.ref a, .ref s4.heap.objs.size]) ht.typeIs (PyProof.Rows.slot_tuple_getitem.lookup) ?_ (by with_unfolding_all rfl)
    refine RvT.getItem_rev ht (Heap.IsSliceOf.new _ vl vu vs) pl pu ps ?_ (by rw [List.size_toArray]; omega)
    refine ⟨.ref _, _, I5.laid (t' := s4.toks) (o := .tup xs.reverse) (fun b ob q => Heap.get?_push_of_some _ q) (Nat.le_refl _) ?_, rfl, q _ (I5.hok.fresh (Nat.le_refl _))⟩
    exact ⟨by rw [List.length_reverse]; exact hz, its.reverse, r.reverse, ⟨_, Heap.get?_push_size _ rfl, rfl, 0, rfl⟩⟩
end
end L2
end
section
set_option Elab.async false
set_option linter.all false
set_option autoImplicit false
set_option maxRecDepth 100000
namespace L2.Pv
open PySem PySem.Spec PyProof.Rows

/-! ### assignments -/
def sAsg (fe : Ev) (fg : Eg) : Es := fun δ => (fe δ).st fun d δ1 => og (fg d δ1) fun δ2 => .nx δ2
def sPar (i j : Nat) (fa : EvA) : Es := fun δ => (fa δ).st fun ds δ1 => match ds with
  | [a, b] => if i < δ1.length ∧ j < δ1.length then .nx ((δ1.set i (some a)).set j (some b)) else .stuck
  | _ => .stuck
def sPar3 (i j k : Nat) (fa : EvA) : Es := fun δ => (fa δ).st fun ds δ1 => match ds with
  | [a, b, c] => if i < δ1.length ∧ j < δ1.length ∧ k < δ1.length then .nx (((δ1.set i (some a)).set j (some b)).set k (some c)) else .stuck
  | _ => .stuck
def sParT (n : Nat) (fa : EvA) (fg : Egs) : Es := fun δ => (fa δ).st fun ds δ1 => if ds.length = n then og (fg ds δ1) fun δ2 => .nx δ2 else .stuck
section
variable {X : Cx} {Γ : Gm} {E : WX} {P W S : List Nat} {e tg : Expr} {es tgs : List Expr} {fe : Ev} {fg : Eg} {fgs : Egs} {fa : EvA} {n : Nat} {pos : Pos}
theorem ss_asg (he : SE X Γ E W e fe) (hg : SG X Γ S tg fg) (hPS : ∀ i, i ∈ P → i ∉ S) (hs : swapsWithSole [tg] e pos.line X.env = pure false) (hw : swappedStores [tg] e X.env = pure none)
    (h1 : (assignEach [tg] X.env).map (·.2) = [assign tg X.env]) : SS X Γ E P (.Assign [tg] e pos) (sAsg fe fg) := fun hK => (ps_asg (he hK) (hg hK) hs hw h1).imp fun Z σ H ⟨F, G, sl, tm, A, q⟩ =>
  e_run A q fun d δ H1 G1 sl1 t A1 s1 ed e1 _ q1 => by
    refine ⟨F, G1, sl1, tm, t, A1, rfl, ?_⟩
    rw [ed, e1]
    cases hf : fg d δ with
    | none => rw [hf] at q1; exact q1.elim
    | some δ2 =>
      rw [hf, og_some] at q1
      exact fun σ' H' G' sl' A' s o _ e => q1 σ' H' G' sl' A' s (o.prot hPS) e
/-- the arguments' run -/
theorem a_run {σ : St} {H : Hp} {F : Fr} {G : Hp} {sl : TS'} {tm : List T} {Z : Ends} {k : List D → DS → SOut} (A : Abs Γ F σ H G sl tm) (q : PostS Γ E P F σ G tm Z ((fa (dsl sl)).st k)) {Q : List V → Hp → Prop}
    (h : ∀ ds δ H' G' sl' ts, Abs Γ F σ H' G' sl' (ts ++ tm) → Sub G G' → ts.length = n → ts.map T.d = ds → dsl sl' = δ → Keep W sl sl' → PostS Γ E P F σ G' tm Z (k ds δ) → Q (ts.map T.v) H') : tA Γ E W n fa σ H Q := by
  refine ⟨F, G, sl, tm, A, ?_⟩
  cases hf : fa (dsl sl) with
  | ok d δ =>
    rw [hf, st_ok] at q
    exact fun H' G' sl' ts A' s hl e e' k' => h d δ H' G' sl' ts A' s hl e e' k' (q.later s (Prot.refl _ _))
  | exc c fs δ => rw [hf, st_exc] at q; exact q σ (Prot.refl _ _)
  | stuck => rw [hf] at q; exact q
theorem ss_par {i j : Nat} {x y : Str} {a b : Expr} {px py pt : Pos} {kt k2 : Nat} {pt2 : Pos} (hc : X.calm = true) (hN : X.N.Nodup) (hi : X.N[i]? = some x) (hj : X.N[j]? = some y) (hij : i ≠ j)
    (hx : X.env.scope.names.lookup x = some .local) (hy : X.env.scope.names.lookup y = some .local) (ha : SA X Γ E W 2 [a, b] fa) (hpi : i ∉ P) (hpj : j ∉ P)
    (hw : swappedStores [.Tuple [.Name x px, .Name y py] kt pt] (.Tuple [a, b] k2 pt2) X.env = pure (some [x, y]))
    (hs : swapsWithSole [.Tuple [.Name x px, .Name y py] kt pt] (.Tuple [a, b] k2 pt2) pos.line X.env = pure false) :
    SS X Γ E P (.Assign [.Tuple [.Name x px, .Name y py] kt pt] (.Tuple [a, b] k2 pt2) pos) (sPar i j fa) := fun hK => (ps_par hc hN hi hj hij hx hy (ha hK) hw hs).imp fun Z σ H ⟨F, G, sl, tm, A, q⟩ =>
  a_run A q fun ds δ H1 G1 sl1 ts A1 s1 hl eds e1 _ q1 => by
    match ts, hl with
    | [t1, t2], _ =>
      subst eds
      refine ⟨t1.v, t2.v, rfl, ?_⟩
      have q1 : PostS Γ E P F σ G1 tm Z (if i < δ.length ∧ j < δ.length then .nx ((δ.set i (some t1.d)).set j (some t2.d)) else .stuck) := q1
      by_cases h : i < δ.length ∧ j < δ.length
      · rw [if_pos h] at q1
        rw [← e1, dsl_len] at h
        have B := A1.store (i := i) h.1
        have C := Abs.store (i := j) (show Abs Γ F _ H1 G1 (sl1.set i (some t1)) (t2 :: tm) from B) (by simpa using h.2)
        refine q1 _ H1 G1 _ C (Sub.refl _) (fun k hk => ?_) (by rw [dsl_set', dsl_set', e1])
        rw [List.getElem?_set_ne (show j ≠ k from fun z => hpj (z ▸ hk)), List.getElem?_set_ne (show i ≠ k from fun z => hpi (z ▸ hk))]
      · rw [if_neg h] at q1; exact q1.elim
theorem ss_par3 {i j l : Nat} {x y z : Str} {a b c : Expr} {px py pz pt : Pos} {kt k2 : Nat} {pt2 : Pos} (hc : X.calm = true) (hN : X.N.Nodup) (hi : X.N[i]? = some x) (hj : X.N[j]? = some y) (hl : X.N[l]? = some z) (hij : i ≠ j) (hil : i ≠ l) (hjl : j ≠ l)
    (hx : X.env.scope.names.lookup x = some .local) (hy : X.env.scope.names.lookup y = some .local) (hz : X.env.scope.names.lookup z = some .local) (ha : SA X Γ E W 3 [a, b, c] fa) (hpi : i ∉ P) (hpj : j ∉ P) (hpl : l ∉ P)
    (hw : swappedStores [.Tuple [.Name x px, .Name y py, .Name z pz] kt pt] (.Tuple [a, b, c] k2 pt2) X.env = pure (some [x, y, z]))
    (hs : swapsWithSole [.Tuple [.Name x px, .Name y py, .Name z pz] kt pt] (.Tuple [a, b, c] k2 pt2) pos.line X.env = pure false) :
    SS X Γ E P (.Assign [.Tuple [.Name x px, .Name y py, .Name z pz] kt pt] (.Tuple [a, b, c] k2 pt2) pos) (sPar3 i j l fa) := fun hK => (ps_par3 hc hN hi hj hl hij hil hjl hx hy hz (ha hK) hw hs).imp fun Z σ H ⟨F, G, sl, tm, A, q⟩ =>
  a_run A q fun ds δ H1 G1 sl1 ts A1 s1 hl eds e1 _ q1 => by
    match ts, hl with
    | [t1, t2, t3], _ =>
      subst eds
      refine ⟨t1.v, t2.v, t3.v, rfl, ?_⟩
      have q1 : PostS Γ E P F σ G1 tm Z (if i < δ.length ∧ j < δ.length ∧ l < δ.length then .nx (((δ.set i (some t1.d)).set j (some t2.d)).set l (some t3.d)) else .stuck) := q1
      by_cases h : i < δ.length ∧ j < δ.length ∧ l < δ.length
      · rw [if_pos h] at q1
        rw [← e1, dsl_len] at h
        have B := A1.store (i := i) h.1
        have C := Abs.store (i := j) (show Abs Γ F _ H1 G1 (sl1.set i (some t1)) (t2 :: ([t3] ++ tm)) from B) (by simpa using h.2.1)
        have D' := Abs.store (i := l) (show Abs Γ F _ H1 G1 ((sl1.set i (some t1)).set j (some t2)) (t3 :: tm) from C) (by simpa using h.2.2)
        refine q1 _ H1 G1 _ D' (Sub.refl _) (fun k hk => ?_) (by rw [dsl_set', dsl_set', dsl_set', e1])
        rw [List.getElem?_set_ne (show l ≠ k from fun z => hpl (z ▸ hk)), List.getElem?_set_ne (show j ≠ k from fun z => hpj (z ▸ hk)), List.getElem?_set_ne (show i ≠ k from fun z => hpi (z ▸ hk))]
      · rw [if_neg h] at q1; exact q1.elim
/-- (a, b, ..) = (x, y, ..), the tuple let go at once -/
theorem ss_parT {x1 k : Nat} {pt pt2 : Pos} (hc : X.calm = true) (ha : SA X Γ E W n es fa) (hg : SGs X Γ S tgs fgs) (hPS : ∀ i, i ∈ P → i ∉ S) (hnz : n ≤ sizeLine) (hn : (assignEach tgs X.env).length = n) (hst : (assignEach tgs X.env).findIdx? (·.1) = none)
    (hs : swapsWithSole [.Tuple tgs k pt] (.Tuple es x1 pt2) pos.line X.env = pure false) (hw : swappedStores [.Tuple tgs k pt] (.Tuple es x1 pt2) X.env = pure none)
    (h1 : (assignEach [.Tuple tgs k pt] X.env).map (·.2) = [assign (.Tuple tgs k pt) X.env]) : SS X Γ E P (.Assign [.Tuple tgs k pt] (.Tuple es x1 pt2) pos) (sParT n fa fgs) := fun hK => (ps_asg (pe_tup (ha hK)) (pg_tup hc (hg hK) hn hst) hs hw h1).imp fun Z σ H ⟨F, G, sl, tm, A, q⟩ =>
  a_run (Q := fun vs H1 => vs.length ≤ sizeLine ∧ ∀ p, H1 p = none → gTup X.K n (tGs Γ S fgs) (.ref p) σ (upd H1 p (.tup vs)) Z.nx) A q fun ds δ H1 G1 sl1 ts A1 s1 hl eds e1 _ q1 => by
    refine ⟨by rw [List.length_map, hl]; exact hnz, fun p hp => ?_⟩
    have hl2 : ds.length = n := by rw [← eds, List.length_map, hl]
    rw [if_pos hl2] at q1
    refine ⟨p, ts.map T.v, rfl, .inl (.inl upd_same), by rw [List.length_map, hl], F, G1, sl1, tm, ts, A1.grow hp, rfl, ?_⟩
    rw [eds, e1]
    cases hf : fgs ds δ with
    | none => rw [hf] at q1; exact q1.elim
    | some δ2 =>
      rw [hf, og_some] at q1
      exact fun σ' H' G' sl' A' s o _ e => q1 σ' H' G' sl' A' s (o.prot hPS) e
/-! ### name op= e, ints -/
def sAugI (g : Int → Int → Int) (i : Nat) (fe : Ev) : Es := fun δ => match δ[i]? with
  | some (some (.int a)) => (fe δ).st fun d δ1 => match d with
    | .int b => if i < δ1.length then .nx (δ1.set i (some (.int (g a b)))) else .stuck
    | _ => .stuck
  | _ => .stuck
theorem ss_aug {i : Nat} {x : Str} {op : Operator} {g : Int → Int → Int} {pos' : Pos} (hN : X.N.Nodup) (hi : X.N[i]? = some x) (hx : Loc X.env.scope x) (he : SE X Γ E W e fe) (ho : PIp X op (ipI g)) (hp : i ∉ P) (hf : X.fn x = true ∨ X.env.scope.names.lookup x = some .local) :
    SS X Γ E P (.AugAssign (.Name x pos') op e pos) (sAugI g i fe) := fun hK => (ps_aug hN hi hx (he hK) ho hf).imp fun Z σ H ⟨F, G, sl, tm, A, q⟩ => by
  unfold sAugI at q
  split at q
  · rename_i a hd
    obtain ⟨t, ht, ed⟩ := dsl_get hd
    have hv := A.val i t ht
    rw [int_of (A.goodS i t ht) ed] at hv
    refine ⟨_, hv, e_run A q fun d δ H1 G1 sl1 t1 A1 s1 ed1 e1 _ q1 => ?_⟩
    split at q1
    · rename_i b
      refine ⟨a, b, rfl, int_of (A1.goodT t1 List.mem_cons_self) ed1, ?_⟩
      split at q1
      · rename_i hlt
        rw [← e1, dsl_len] at hlt
        have B := Abs.store (i := i) (A1.drop.leaf (v := .int (g a b)) (d := .int (g a b)) rfl) hlt
        refine q1 _ H1 G1 _ B (Sub.refl _) (fun k hk => ?_) (by rw [dsl_set', e1]; rfl)
        rw [List.getElem?_set_ne (show i ≠ k from fun z => hp (z ▸ hk))]
      · exact q1.elim
    · exact q1.elim
  · exact q.elim
/-! ### frozen -/
def eFrz (f : Ev) : Ev := fun δ => (f δ).bd fun d δ1 => .ok d.frz δ1
theorem se_frz {f : Ev} (h : SE X Γ E W e f) : SE X Γ E W e (eFrz f) := fun hK => (h hK).imp fun σ H Q ⟨F, G, sl, tm, A, q⟩ => by
  refine ⟨F, G, sl, tm, A, ?_⟩
  unfold eFrz at q
  cases hf : f (dsl sl) with
  | stuck => rw [hf] at q; exact q
  | exc c fs δ => rw [hf] at q; exact q
  | ok d δ =>
    rw [hf, bd_ok] at q
    intro H1 G1 sl1 t A1 s1 ed e1 k1
    obtain ⟨G2, B, s2⟩ := A1.freeze1
    exact q H1 G2 sl1 (.leaf t.v t.d.frz) B (s1.trans s2) (by rw [← ed]; rfl) e1 k1
/-! ### xs[::-1] -/
def dRev (d : D) : Option D := match d with
  | .lst _ xs => if xs.all nOwn = true then some (.lst true xs.reverse) else none
  | .tup xs => some (.tup xs.reverse)
  | _ => none
theorem Reps.rev {G : Hp} : ∀ {vs : List V} {ds : List D}, Reps Γ G vs ds → Reps Γ G vs.reverse ds.reverse
  | _, [], h => by rw [show _ = [] from h]; rfl
  | _, d :: ds, h => by
    obtain ⟨v, r, e1, h1, h2⟩ := h
    subst e1
    rw [List.reverse_cons, List.reverse_cons]
    exact (Reps.rev h2).append ⟨v, [], rfl, h1, rfl⟩
theorem se_rev {r : Option Nat} {f : Ev} {k : Nat} {p1 p2 p3 : Pos} (h : SV X Γ E W r e f) : SE X Γ E W (.Subscript e (.Slice none none (some (.UnaryOp .USub (.Constant (.int 1) k p1) p2)) p3) pos) (ev1 dRev f) := fun hK =>
  (pe_revA (h hK)).imp fun σ H Q q => one_run (R := fun x H1 => ∃ a xs, x = .ref a ∧ ((SqL X.K H1 a xs ∧ ∀ p, H1 p = none → Q (.ref p) (upd H1 p (.lst xs.reverse))) ∨ (SqT X.K H1 a xs ∧ ∀ p, H1 p = none → Q (.ref p) (upd H1 p (.tup xs.reverse))))) q fun F G1 H1 sl1 tm t d A1 g e h => by
  unfold dRev at e
  split at e
  · rename_i o xs et
    split at e
    · rename_i ho
      cases e
      obtain ⟨z, a, vs, ev, q, r⟩ := lst_of A1.sub g et ho
      exact ⟨a, vs, ev, .inl ⟨SqL.of q, fun p hp => h.lst A1 r.rev (by rw [List.length_reverse]; exact z) hp⟩⟩
    · cases e
  · rename_i xs et
    cases e
    obtain ⟨z, a, vs, ev, q, r⟩ := tup_of g et
    exact ⟨a, vs, ev, .inr ⟨by rw [hK]; exact sqT_of A1.sub q, fun p hp => h.tup A1 r.rev (by rw [List.length_reverse]; exact z) hp⟩⟩
  · cases e
/-! ### names of the module -/
theorem se_glob {x : Str} {v : V} {u : Value} {d : D} (hg : Gl X x) (hm : X.mg x = some u) (r : RelV v u) (rd : ∀ G, Rep Γ G v d) (hd : (x == ("__debug__" : Str)) = false) : SE X Γ E [] (.Name x pos) (eC d) := se_const (pe_glob hg hm r hd) rd
/-! ### {} -/
def eDicK : Ev := fun δ => .ok (.dic true (.k []) []) δ
def eDicT : Ev := fun δ => .ok (.dic true (.t []) []) δ
theorem Abs.newDic {F : Fr} {σ : St} {H G : Hp} {sl : TS'} {tm : List T} (A : Abs Γ F σ H G sl tm) {p : Addr} (hp : H p = none) (ks : DKs) (h0 : ks = .k [] ∨ ks = .t []) : Abs Γ F σ (upd H p (dicHO ks [])) G sl (.dic p ks [] :: tm) := by
  have A1 := A.newLst (ts := []) (p := p) hp (Nat.zero_le _)
  -- as for a list, with another object
  have B := A.grow (o := dicHO ks []) hp
  obtain ⟨n1, n2⟩ := A.new0 hp
  have c0 : cS p sl + T.cnts p tm = 0 := by
    by_cases e : 0 < cS p sl + T.cnts p tm
    · exact absurd hp (A.sep p e).2.1
    · omega
  have ec : ∀ a, T.cnts a (T.dic p ks [] :: tm) = (if p = a then 1 else 0) + T.cnts a tm := fun a => by rw [T.cnts, T.cnt, T.cnts]; omega
  refine ⟨B.len, B.val, B.sub, B.keep, B.dom, B.g0, B.goodS, fun u hu => ?_, fun a => ?_, fun a ha => ?_, B.fresh, B.tabs⟩
  · rcases List.mem_cons.mp hu with rfl | hu
    · refine ⟨⟨upd_same, Nat.zero_le _, ?_⟩, trivial⟩
      rcases h0 with rfl | rfl
      · exact ⟨rfl, List.nodup_nil⟩
      · exact ⟨rfl, List.nodup_nil⟩
    · exact B.goodT u hu
  · rw [ec]
    by_cases e : p = a
    · subst e; rw [if_pos rfl]; omega
    · rw [if_neg e]; have := A.one a; omega
  · rw [ec] at ha
    by_cases e : p = a
    · subst e
      refine ⟨n1, ?_, .inl n2⟩
      rw [upd_same]
      exact fun z => nomatch z
    · rw [if_neg e] at ha
      exact B.sep a (by omega)
theorem se_dicK : SE X Γ E [] (.Dict [] [] pos) eDicK := fun _ => pe_dnewK.imp fun σ H Q ⟨F, G, sl, tm, A, q⟩ p hp => q _ G sl (.dic p (.k []) []) (A.newDic hp (.k []) (.inl rfl)) (Sub.refl G) rfl rfl (Keep.refl _ _)
theorem se_dicT : SE X Γ E [] (.Dict [] [] pos) eDicT := fun _ => pe_dnewT.imp fun σ H Q ⟨F, G, sl, tm, A, q⟩ p hp => q _ G sl (.dic p (.t []) []) (A.newDic hp (.t []) (.inr rfl)) (Sub.refl G) rfl rfl (Keep.refl _ _)
end
end L2.Pv
end
section
set_option Elab.async false
set_option linter.all false
set_option autoImplicit false
set_option maxRecDepth 100000
namespace L2.Pv
open PySem PySem.Spec PyProof.Rows

/-! ### a dict is locked for good -/
def tLockP (t : TE) : TE := fun σ H Q => t σ H fun v H1 => ∃ d u, v = .ref d ∧ H1 d = some u ∧ Mut (some u) ∧ ∀ od, Q v (upd H1 d (.frz od u))
theorem pe_lockP {X : Cx} {e : Expr} {t : TE} (h : PE X e t) : PE X e (tLockP t) := by
  refine ⟨fun pins s σ H Q I hw => ?_⟩
  refine thn (h.run pins s σ _ _ I hw) fun v s1 ⟨x, H1, I1, r, d, u, ex, hd, mu, q⟩ => ?_
  obtain ⟨od, I2⟩ := I1.lock hd mu
  exact ⟨x, _, I2, r, q od⟩
theorem mut_dic (ks : DKs) (vs : List V) : Mut (some (dicHO ks vs)) := by cases ks <;> trivial
section
variable {Γ : Gm} {F : Fr} {σ : St} {H G : Hp} {sl : TS'} {tm : List T} {t : T}
theorem Abs.open {a : Addr} {ks : DKs} {ts : List T} (A : Abs Γ F σ H G sl (.dic a ks ts :: tm)) : Abs Γ F σ H G sl (ts ++ tm) := by
  have ec : ∀ b, T.cnts b (ts ++ tm) ≤ T.cnts b (.dic a ks ts :: tm) := fun b => by rw [cnts_append, T.cnts, T.cnt]; omega
  refine ⟨A.len, A.val, A.sub, A.keep, A.dom, A.g0, A.goodS, fun u hu => ?_, fun b => ?_, fun b hb => ?_, A.fresh, A.tabs⟩
  · rcases List.mem_append.mp hu with hu | hu
    · exact Goods_iff.mp (A.goodT _ List.mem_cons_self).2 u hu
    · exact A.goodT u (List.mem_cons_of_mem _ hu)
  · have := A.one b; have := ec b; omega
  · exact A.sep b (by have := ec b; omega)
theorem Abs.lockDic {a : Addr} {ks : DKs} {ts : List T} (A : Abs Γ F σ H G sl (.dic a ks ts :: tm)) (od : Obj) : ∃ G', Abs Γ F σ (upd H a (.frz od (dicHO ks (ts.map T.v)))) G' sl (.leaf (.ref a) (.ldc ks (D.frzs (T.ds ts))) :: tm) ∧ Sub G G' := by
  obtain ⟨hH, hz, hl⟩ := (A.goodT _ List.mem_cons_self).1
  have oa : cS a sl + T.cnts a (.dic a ks ts :: tm) ≤ 1 := A.one a
  rw [T.cnts, T.cnt, if_pos rfl] at oa
  have sa := A.sep a (by rw [T.cnts, T.cnt, if_pos rfl]; omega)
  obtain ⟨B, r⟩ := A.open.freeze
  have n1 : frzH G H ts a = none := by unfold frzH; rw [if_neg (by omega)]; exact sa.1
  have s0 : Sub G (frzH G H ts) := frzH_sub fun b hb => (A.sep b (by rw [T.cnts, T.cnt]; omega)).1
  generalize hu : dicHO ks (ts.map T.v) = u at hH
  have nt : NTbl u := fun ps z => by rw [← hu] at z; cases ks <;> exact nomatch z
  have nc : ∀ c q, u ≠ LamX.CodeO c q := fun c q z => by rw [← hu] at z; cases ks <;> exact nomatch z
  have s1 : Sub (frzH G H ts) (upd (frzH G H ts) a (.frz od u)) := fun b o h => by rw [upd_ne (ne_of_none h n1)]; exact h
  have gd : ∀ w, w.cnt a = 0 → Good Γ (frzH G H ts) H w → Good Γ (upd (frzH G H ts) a (.frz od u)) (upd H a (.frz od u)) w := fun w k g => g.mono s1 w fun b hb => upd_ne (show b ≠ a from fun z => by rw [z] at hb; omega)
  have c0 : cS a sl + T.cnts a tm = 0 := by omega
  have C : Abs Γ F σ (upd H a (.frz od u)) (upd (frzH G H ts) a (.frz od u)) sl tm := by
    refine ⟨B.len, B.val, fun b o h => ?_, fun b o h1 h2 h3 => ?_, fun b h => ?_, B.g0.trans s1 (B.g0.2.2.upd fun _ z => nomatch z), fun i w h => gd w (by have := cS_get (a := a) h; omega) (B.goodS i w h), fun w h => gd w (by have := cnts_mem (a := a) h; omega) (B.goodT w h), B.one, fun b hb => ?_, fun b hb => ?_, tabs_upd B.tabs hH nt nc⟩
    · by_cases e : b = a
      · subst e; rw [upd_same] at h ⊢; exact h
      · rw [upd_ne e] at h ⊢; exact B.sub b o h
    · have e : b ≠ a := fun z => by
        subst z
        rcases sa.2.2 with q | q
        · rw [h1] at q; cases q
        · exact h3 q
      rw [upd_ne e]
      exact B.keep b o h1 h2 h3
    · by_cases e : b = a
      · subst e; rw [upd_same]; exact ⟨_, rfl, fun _ z => nomatch z⟩
      · rw [upd_ne e]; exact B.dom b h
    · have e : b ≠ a := fun z => by subst z; omega
      rw [upd_ne e, upd_ne e]
      exact B.sep b hb
    · by_cases e : b = a
      · subst e
        rcases sa.2.2 with q | q
        · exact .inr (.inl q)
        · exact .inr (.inr (.inl q))
      · rw [upd_ne e] at hb ⊢
        exact B.fresh b hb
  refine ⟨_, C.leaf ?_, s0.trans s1⟩
  have e2 : (D.frzs (T.ds ts)).length = ts.length := by rw [D.frzs_map, T.ds_map]; simp
  refine ⟨by rw [e2]; exact ⟨hz, hl⟩, a, ts.map T.v, od, rfl, ?_, Reps.mono s1 _ r⟩
  rw [upd_same, hu]
/-- a tuple of the heap joins what is frozen -/
theorem Abs.joinQ {p : Addr} {u : HO} (A : Abs Γ F σ H G sl tm) (h : H p = some u) (hu : Quiet u) : ∃ G', Abs Γ F σ H G' sl tm ∧ Sub G G' ∧ G' p = some u := by
  cases hg : G p with
  | some o =>
    have := A.sub p o hg
    rw [h] at this
    cases this
    exact ⟨G, A, Sub.refl G, hg⟩
  | none =>
    have s1 : Sub G (upd G p u) := fun b o h => by rw [upd_ne (ne_of_none h hg)]; exact h
    have nT : ∀ w, Good Γ G H w → w.cnt p = 0 := fun w g => by
      by_cases q : 0 < w.cnt p
      · exact (Good.noQuiet w g q h hu).elim
      · omega
    have c0 : ∀ b, 0 < cS b sl + T.cnts b tm → b ≠ p := fun b hb z => by
      subst z
      rcases Nat.lt_or_ge 0 (T.cnts b tm) with q | q
      · obtain ⟨u, hu, c⟩ := cnts_pos q
        have := nT u (A.goodT u hu)
        omega
      · obtain ⟨i, u, hu, c⟩ := cS_pos (a := b) (sl := sl) (by omega)
        have := nT u (A.goodS i u hu)
        omega
    refine ⟨_, ⟨A.len, A.val, fun b o q => ?_, A.keep, A.dom, A.g0.trans s1 (A.g0.2.2.upd fun ps z => by subst z; exact hu), fun i w q => (A.goodS i w q).mono s1 w fun _ _ => rfl, fun w q => (A.goodT w q).mono s1 w fun _ _ => rfl, A.one, fun b hb => ?_, fun b hb => ?_, A.tabs⟩, s1, upd_same⟩
    · by_cases e : b = p
      · subst e; rw [upd_same] at q; cases q; exact h
      · rw [upd_ne e] at q; exact A.sub b o q
    · rw [upd_ne (c0 b hb)]; exact A.sep b hb
    · by_cases e : b = p
      · subst e; exact .inr (.inr (.inr ⟨u, upd_same, hu⟩))
      · rw [upd_ne e] at hb ⊢; exact A.fresh b hb
end
section
variable {X : Cx} {Γ : Gm} {E : WX} {W : List Nat} {tg e : Expr} {f : Ev}
def dLock (d : D) : Option D := match d with
  | .dic true ks xs => some (.ldc ks (D.frzs xs))
  | _ => none
def eLock (f : Ev) : Ev := fun δ => (f δ).bd fun d δ1 => lft (dLock d) δ1
theorem se_lock {f : Ev} (h : SE X Γ E W e f) : SE X Γ E W e (eLock f) := fun hK => (pe_lockP (h hK)).imp fun σ H Q ⟨F, G, sl, tm, A, q⟩ => by
  refine ⟨F, G, sl, tm, A, ?_⟩
  unfold eLock at q
  cases hf : f (dsl sl) with
  | stuck => rw [hf] at q; exact q
  | exc c fs δ => rw [hf] at q; exact q
  | ok d δ =>
    rw [hf, bd_ok] at q
    intro H1 G1 sl1 t A1 s1 ed e1 k1
    cases hd : dLock d with
    | none => rw [hd] at q; exact q.elim
    | some d' =>
      rw [hd, lft_some] at q
      unfold dLock at hd
      split at hd
      · rename_i ks xs
        cases hd
        obtain ⟨p, ts, et, ex, hH, hz, hl⟩ := node_dic (A1.goodT t List.mem_cons_self) ed
        subst et
        subst ex
        refine ⟨p, _, rfl, hH, mut_dic _ _, fun od => ?_⟩
        obtain ⟨G2, B, s2⟩ := A1.lockDic od
        rw [T.ds_map] at B
        exact q _ G2 sl1 (.leaf (.ref p) _) B (s1.trans s2) rfl e1 k1
      · cases hd
def keyD : Key → D
  | .inl i => .int i
  | .inr x => .str x
def keysD : DKs → List D
  | .k ks => ks.map keyD
  | .t ks => ks.map fun k => .tup (k.map keyD)
theorem rep_key {G : Hp} (k : Key) : Rep Γ G (kV k) (keyD k) := by cases k <;> rfl
theorem reps_key {G : Hp} : ∀ ks : List Key, Reps Γ G (ks.map kV) (ks.map keyD)
  | [] => rfl
  | k :: ks => ⟨_, _, rfl, rep_key k, reps_key ks⟩
def dKeys (d : D) : Option (List D) := match d with
  | .ldc (.k ks) _ => some (keysD (.k ks))
  | .ldc (.t ks) _ => if ks.all (fun k => decide (k.length ≤ sizeLine)) = true then some (keysD (.t ks)) else none
  | _ => none
def iKeysE (f : Ev) : EvA := fun δ => (f δ).bd fun d δ1 => lft (dKeys d) δ1
theorem zip_key {κ : Type} {ks : List κ} {vs : List V} {i : Nat} {k : κ} (h : ks[i]? = some k) (hl : ks.length = vs.length) : ∃ v, (ks.zip vs)[i]? = some (k, v) := by
  have hi := (List.getElem?_eq_some_iff.mp h).1
  refine ⟨vs[i]'(by omega), ?_⟩
  rw [List.getElem?_zip_eq_some]
  exact ⟨h, List.getElem?_eq_getElem _⟩
theorem gives_keysK {G : Hp} {a : Addr} {o : Obj} {ks : List Key} {vs : List V} (hl : ks.length = vs.length) (h : G a = some (.frz o (.dK (ks.zip vs)))) : Gives Γ G (Itk a o (ks.zip vs)) (ks.map keyD) := fun F σ2 H2 G2 sl2 tm2 A2 s i => by
  have hq := A2.sub _ _ (s _ _ h)
  have hlz : (ks.zip vs).length = ks.length := by rw [List.length_zip]; omega
  refine ⟨fun d hd => ?_, fun hd => ⟨hq, by rw [hlz]; rw [List.getElem?_eq_none_iff, List.length_map] at hd; exact hd⟩⟩
  rw [List.getElem?_map] at hd
  cases hk : ks[i]? with
  | none => rw [hk] at hd; cases hd
  | some k =>
    rw [hk] at hd
    cases hd
    refine ⟨⟨hq, by rw [hlz]; exact (List.getElem?_eq_some_iff.mp hk).1⟩, fun x H3 ⟨e, k', v, y1, y2⟩ => ?_⟩
    subst e
    obtain ⟨v', hv⟩ := zip_key hk hl
    rw [hv] at y1
    cases y1
    exact ⟨G2, .leaf x (keyD k), A2.leaf (by rw [y2]; exact rep_key k), Sub.refl _, rfl, rfl⟩
theorem gives_keysT {G : Hp} {a : Addr} {o : Obj} {ks : List (List Key)} {vs : List V} (hl : ks.length = vs.length) (hz : ∀ k ∈ ks, k.length ≤ sizeLine) (h : G a = some (.frz o (.dT (ks.zip vs)))) : Gives Γ G (Itkt a o (ks.zip vs)) (ks.map fun k => .tup (k.map keyD)) := fun F σ2 H2 G2 sl2 tm2 A2 s i => by
  have hq := A2.sub _ _ (s _ _ h)
  have hlz : (ks.zip vs).length = ks.length := by rw [List.length_zip]; omega
  refine ⟨fun d hd => ?_, fun hd => ⟨hq, by rw [hlz]; rw [List.getElem?_eq_none_iff, List.length_map] at hd; exact hd⟩⟩
  rw [List.getElem?_map] at hd
  cases hk : ks[i]? with
  | none => rw [hk] at hd; cases hd
  | some k =>
    rw [hk] at hd
    cases hd
    refine ⟨⟨hq, by rw [hlz]; exact (List.getElem?_eq_some_iff.mp hk).1⟩, fun x H3 ⟨e, k', v, q, y1, y2, y3⟩ => ?_⟩
    subst e
    obtain ⟨v', hv⟩ := zip_key hk hl
    rw [hv] at y1
    cases y1
    obtain ⟨G3, B, s3, hg⟩ := A2.joinQ y3 trivial
    refine ⟨G3, .leaf x (.tup (k.map keyD)), B.leaf ?_, s3, rfl, rfl⟩
    exact ⟨by rw [List.length_map]; exact hz k (List.mem_of_getElem? hk), q, _, y2, hg, reps_key k⟩
theorem si_keys {f : Ev} (h : SE X Γ E W e f) : SI X Γ E W tg e (iKeysE f) := fun hK => (pi_keys (h hK)).imp fun σ H R ⟨F, G, sl, tm, A, q⟩ => by
  refine ⟨F, G, sl, tm, A, ?_⟩
  unfold iKeysE at q
  cases hf : f (dsl sl) with
  | stuck => rw [hf] at q; exact q
  | exc c fs δ => rw [hf] at q; exact q
  | ok d δ =>
    rw [hf, bd_ok] at q
    intro H1 G1 sl1 t A1 s1 ed e1 k1
    cases hd : dKeys d with
    | none => rw [hd] at q; exact q.elim
    | some ds =>
      rw [hd, lft_some] at q
      have lv : ∀ ks xs, d = .ldc ks xs → ∃ a vs o, t.v = .ref a ∧ G1 a = some (.frz o (dicHO ks vs)) ∧ ks.len = vs.length ∧ ks.len ≤ sizeLine := fun ks xs e => by
        rw [e] at ed
        have g := A1.goodT t List.mem_cons_self
        have el := leaf_of_own g (by rw [ed]; rfl)
        rw [el, ed] at g
        obtain ⟨⟨hz, hl, hnd⟩, a, vs, o, ev, hq, rs⟩ := g
        exact ⟨a, vs, o, ev, hq, by rw [hl, rs.len], by rw [hl]; exact hz⟩
      unfold dKeys at hd
      split at hd
      · rename_i ks xs
        cases hd
        obtain ⟨a, vs, o, ev, hq, hl, hz⟩ := lv _ _ rfl
        exact ⟨a, o, ev, .inl ⟨_, A1.sub _ _ hq, q _ H1 G1 sl1 A1.drop s1 e1 k1 (gives_keysK hl hq) (by show (ks.map keyD).length ≤ _; rw [List.length_map]; exact hz)⟩⟩
      · rename_i ks xs
        split at hd
        · rename_i ha
          cases hd
          obtain ⟨a, vs, o, ev, hq, hl, hz⟩ := lv _ _ rfl
          refine ⟨a, o, ev, .inr ⟨_, A1.sub _ _ hq, q _ H1 G1 sl1 A1.drop s1 e1 k1 (gives_keysT hl (fun k hk => ?_) hq) (by show (ks.map _).length ≤ _; rw [List.length_map]; exact hz)⟩⟩
          exact of_decide_eq_true (List.all_eq_true.mp ha k hk)
        · cases hd
      · cases hd
end
end L2.Pv
end
section
set_option Elab.async false
set_option linter.all false
set_option autoImplicit false
set_option maxRecDepth 100000
namespace PySem.W
open PySem PySem.Calls PyProof.Rows PySem.Spec
/-- X(), where X's __init__ says super().__init__('m') -/
structure Ex0 (K : Frag) (prog : Program) (C fI : Addr) where
  oc : Value
  od : Option Addr
  osl : Array (Option Value)
  name : Str
  qual : Str
  params : Arguments
  body : List Stmt
  scope : Scope
  dV : Value
  kV : Value
  doc : Value
  pm : Value
  an : Option Addr
  cda : Addr
  ct : Value
  cc : Addr
  msg : Str
  j : Nat
  p0 : Pos
  p1 : Pos
  p2 : Pos
  p3 : Pos
  p4 : Pos
  p5 : Pos
  ccl : Value
  cdd : Option Addr
  vs : Array Value
  ccs : Array (Option Value)
  file : Str
  tf : Tok
  cl : Value
  cld : Option Addr
  csl : Array (Option Value)
  newId : String
  bmB : List Value
  cdC : ClassData
  FB : ExcBaseFacts "ValueError" newId "ValueError.__init__" bmB
  q : excInitIn K C bmB newId = true
  hi : findIn K (.ref C) "__init__" = some (some (.ref fI))
  hfn : isFn K (.ref fI) = true
  ho : K.lookup fI = some ⟨oc, od, .func (ksFn name qual params body scope dV kV doc pm an (.ref cda) ct cc), osl⟩
  hbody : body = [.Expr (.Call (.Attribute (.Call (.Name "super" p0) [] [] p1) "__init__" p2) [.Constant (.str msg) j p3] [] p4) p5]
  hcd : codeIn K (.ref cda) qual = true
  hbind : ∀ v : Value, bindArgs (ksFn name qual params body scope dV kV doc pm an (.ref cda) ct cc) ⟨[v], []⟩ = pure [(("self" : Str), v)]
  hp : ((params.posonlyargs ++ params.args).head?).map (·.arg) = some ("self" : Str)
  hcode : K.lookup cda = some ⟨ccl, cdd, .fields vs, ccs⟩
  hvs : vs[2]? = some (.str file tf)
  hfile : ((prog.main.file : Str) == file) = true
  hcell : K.lookup cc = some ⟨cl, cld, .cell (some (.ref C)), csl⟩
  hD : clsIn K C = some cdC
  hsub : mroIn K C (.ref C) = some true
  hks : scope.names.lookup ("super" : Str) = some .globalImplicit
  hkc : scope.names.lookup ("__class__" : Str) = some .free
  hka : scope.names.lookup ("self" : Str) = some .local
  hk : scope.kind = .function
  hcells : ∀ x ∈ scope.names, x.2 ≠ .cell
  hco : scope.isCoroutine = false
  hgen : scope.isGenerator = false
  htop : (prog.main.scope.names.lookup ("super" : Str)).isSome = false
  hno : nsIn K cStatics "thirdparty.any" = some none
  hm : ks_superIn K C C "__init__" = some (some (.builtin "ValueError.__init__"))
  hB : subIn K (.ref C) (.type "ValueError") = some true
  hkeep : keepIn K (.ref C) = true
  hEx : subIn K (.ref C) (.type "BaseException") = some true
  hTy : typeIn K (.ref C) = some (.type "type")
  pl : Addr → Sem Bool
  he : ∀ L : Addr, eval (.Call (.Attribute (.Call (.Name "super" p0) [] [] p1) "__init__" p2) [.Constant (.str msg) j p3] [] p4) (ksEnv qual scope L fI (.ref cda) cc) = (do
      let ov ← attributeBase (.Call (.Name "super" p0) [] [] p1) "__init__" (ksEnv qual scope L fI (.ref cda) cc) (eval (.Call (.Name "super" p0) [] [] p1) (ksEnv qual scope L fI (.ref cda) cc))
      standAt p2.atName
      let (f, first) ← holding [ov] (getMethod ov "__init__" (pl L))
      callWith p4 f first (backTo p4 (starEach [.Constant (.str msg) j p3] (ksEnv qual scope L fI (.ref cda) cc))) [])
  hin : ∀ L : Addr, interactive (ksEnv qual scope L fI (.ref cda) cc) = false
  hsw : ∀ L : Addr, swapsWith (.Call (.Attribute (.Call (.Name "super" p0) [] [] p1) "__init__" p2) [.Constant (.str msg) j p3] [] p4) none p5.line (ksEnv qual scope L fI (.ref cda) cc) = pure false

section
variable {prog : Program} {w : World} {A : Around} {E : Value → Shared → Prop} {s : Shared} {K : Frag} {C fI : Addr} {mg mb : Str → Option Value}
theorem exc_call0 (Z : Ex0 K prog C fI) (X : K.In s.heap) (hlim : s.heap.NoLimit) (hg : s.heap.Ns mainGlobals mg) (hb : s.heap.Ns builtinsNs mb) (hsup : mg "super" = none) (hsupb : mb "super" = some (.type "super")) (hroom : A.depth + 3 < recursionLimit)
    {Q : Value → Shared → Prop} (h : ∀ h' t tk, (∀ b o, s.heap.get? b = some o → h'.get? b = some o) → h'.get? (s.heap.objs.size + 1) = some (excObj C t none .none) → Q (.ref (s.heap.objs.size + 1)) { s with heap := h', toks := tk }) :
    wpAny (model prog w) A (call (.ref C) []) Q E s := by
  obtain ⟨nm, N', qn, bs, bm, hdct, sn, sub, ab, col, dd, k0, k1, k2, k3, k5, hC, hT⟩ := excInit_of X Z.q
  obtain ⟨oI, hoI, hcI⟩ : ∃ oI, s.heap.get? fI = some oI ∧ oI.cls = .type "function" := by
    obtain ⟨o, ho, hc⟩ := Option.map_eq_some_iff.mp (show (K.lookup fI).map (·.cls) = some (.type "function") from beq_iff_eq.mp Z.hfn)
    exact ⟨o, X _ _ ho, hc⟩
  have hi' : Looks (model prog w) s.heap (typeLookup (.ref C) "__init__") (some (.ref fI)) := looks_findIn X Z.hi
  obtain ⟨h0, g, d, tk, os⟩ := s
  refine wpAny_call (PX.call_own Z.FB hT hC hi' (fun self => exc_bind hoI hcI self) (Nat.zero_le _) ?_)
  have k1' : ∀ b o, h0.get? b = some o → ((h0.push (kdv_tup [])).push (PySem.PX.excO C h0.objs.size)).get? b = some o := fun b o e => Heap.get?_push_of_some _ (Heap.get?_push_of_some _ e)
  generalize hh2 : (h0.push (kdv_tup [])).push (PySem.PX.excO C h0.objs.size) = h2 at k1' ⊢
  have gE : h2.get? (h0.objs.size + 1) = some (excObj C h0.objs.size none .none) := by rw [← hh2]; heap_get
  have gT : h2.get? h0.objs.size = some (excTup []) := by rw [← hh2]; heap_get
  have hsz : h2.objs.size = h0.objs.size + 2 := by rw [← hh2, Heap.size_push, Heap.size_push]
  have X2 : K.In h2 := X.keeps k1'
  refine ks_codeAny_call_defAt (fd := ksFn Z.name Z.qual Z.params Z.body Z.scope Z.dV Z.kV Z.doc Z.pm Z.an (.ref Z.cda) Z.ct Z.cc) (body := Z.body) (binds := [(("self" : Str), Value.ref (h0.objs.size + 1))]) ?_ (X2 _ _ Z.ho) rfl (hlim.keeps k1') (codeRec_of X2 Z.hcd) rfl (.of_eq (Z.hbind _)) Z.hcells
    (fun x hx => by obtain rfl := List.mem_singleton.mp hx; exact Z.hka) (fun h₁ hns hk₁ => ?_) Z.hco Z.hgen Z.hk
  · show A.depth + 1 < recursionLimit
    omega
  have F0 : Fr h0 h2.objs.size h₁ (fun x => [(("self" : Str), Value.ref (h0.objs.size + 1))].reverse.lookup x) := ⟨hns, fun b o e => hk₁ b o (k1' b o e), by rw [hsz]; omega⟩
  have N0 : News h0 h2.objs.size h₁ [(h0.objs.size + 1, excObj C h0.objs.size none .none), (h0.objs.size, excTup [])] := fun p hp => by
    rcases List.mem_cons.mp hp with rfl | hp
    · exact ⟨hk₁ _ _ gE, by show h0.objs.size + 1 ≠ _; rw [hsz]; omega, Heap.get?_none_of_le (Nat.le_succ _)⟩
    · obtain rfl := List.mem_singleton.mp hp
      exact ⟨hk₁ _ _ gT, by show h0.objs.size ≠ _; rw [hsz]; omega, Heap.get?_none_of_le (Nat.le_refl _)⟩
  rw [Z.hbody]
  have gk : h0.StaysIn h₁ := fun b o e => hk₁ b o (k1' b o e)
  have X1 : K.In h₁ := X.keeps gk
  have I1 : InstAt h₁ (h0.objs.size + 1) (excObj C h0.objs.size none .none) C none := InstAt.of_exc0 N0 (.head _)
  obtain ⟨oD, hD1, hD2⟩ : ∃ oD, h₁.get? C = some oD ∧ oD.data = .cls Z.cdC := by
    have hD := Z.hD
    unfold clsIn at hD
    split at hD
    · rename_i c d cd' sl ho
      cases hD
      exact ⟨_, X1 _ _ ho, rfl⟩
    · cases hD
  obtain ⟨ar, hp1, hp2⟩ : ∃ ar, (Z.params.posonlyargs ++ Z.params.args).head? = some ar ∧ ar.arg = ("self" : Str) := by
    cases hx : (Z.params.posonlyargs ++ Z.params.args).head? with
    | none => have := Z.hp; rw [hx] at this; cases this
    | some ar => have := Z.hp; rw [hx] at this; exact ⟨ar, rfl, Option.some.inj this⟩
  show wpAt (model prog w) _ (.func [_] (ksEnv Z.qual Z.scope h2.objs.size fI (.ref Z.cda) Z.cc)) (execs [_] (ksEnv Z.qual Z.scope h2.objs.size fI (.ref Z.cda) Z.cc)) _ _ _
  refine ks_wpAt_execs_cons (ks_wpAt_Expr_any (ks_wpAt_MethodCall ?_ (Z.he _)) (Z.hin _) (Z.hsw _))
  refine ks_wpAt_super_base (env := ksEnv Z.qual Z.scope h2.objs.size fI (.ref Z.cda) Z.cc) Z.hks Z.hkc rfl rfl (X1 _ _ Z.ho) rfl hp1 rfl (X1 _ _ Z.hcode) rfl Z.hvs Z.hfile Z.htop ?_
  refine ks_loadName_global Z.hk Z.hks (loadGlobal_builtin (env := ksEnv Z.qual Z.scope h2.objs.size fI (.ref Z.cda) Z.cc) (hg.keeps gk) hsup (hb.keeps gk) hsupb ⟨rfl, ?_⟩)
  refine wpAny_loadName_free Z.hk Z.hkc rfl ⟨_, X1 _ _ Z.hcell, rfl⟩ ?_
  rw [hp2]
  refine wpAny_loadName_local Z.hk Z.hka F0.ns rfl ?_
  refine ks_wpAny_isType_cls hD1 hD2 ⟨rfl, ?_⟩
  refine ks_wpAny_call_super hD1 hD2 I1.at_ I1.cls (fun c e => ?_) (looks_mroIn X1 Z.hsub) (fun h3 e3 k3 => ?_)
  · cases e
  obtain ⟨F3, N3, _⟩ := ks_newsPush (s := ⟨h₁, g, d, tk, os⟩) F0 N0 rfl e3 k3
  have I3 : InstAt h3 (h0.objs.size + 1) (excObj C h0.objs.size none .none) C none := InstAt.of_exc0 N3 (.tail _ (.head _))
  refine kxs_method (i := "ValueError.__init__") (B := "ValueError") kxs_ValueError F3 X N3 (.head _) I3 Z.hno Z.hm Z.hB rfl fun q h4 F4 N4 l4 => ?_
  refine kxs_callWith1 N4 (.head _) ?_
  refine args_cons (Constant_str (args_nil ⟨kxs_at N4 (.head _), ?_⟩))
  have hx : (h0.objs.size + 1, excObj C h0.objs.size none .none) ∈ (q, kxs_mw "ValueError.__init__" (h0.objs.size + 1)) :: (h₁.objs.size, ks_superObj C (h0.objs.size + 1) C) :: [(h0.objs.size + 1, excObj C h0.objs.size none .none), (h0.objs.size, excTup [])] := .tail _ (.tail _ (.head _))
  have nq : q ≠ h0.objs.size + 1 := fun z => by
    have y := l4 _ (List.Mem.tail _ (List.Mem.head _))
    rw [z] at y
    exact absurd y (Nat.lt_irrefl _)
  have nn : h₁.objs.size ≠ h0.objs.size + 1 := fun z => by
    have y := Heap.lt_size (N0 _ (.head _)).1
    rw [← z] at y
    exact absurd y (Nat.lt_irrefl _)
  refine kxs_call (s := ⟨h4, g, d, _, os⟩) F4 X N4 Z.FB Z.q (.head _) (.tail nq (.tail nn (.head fun p hp => ?_))) (by show 1 ≤ sizeLine; rw [sizeLine_eq]; omega) fun t5 h5 F5 N5 _ => ?_
  · obtain rfl := List.mem_singleton.mp hp
    show h0.objs.size ≠ h0.objs.size + 1
    omega
  show wpAt _ _ _ (execs [] _) _ _ _
  rw [execs_nil]
  refine wpAt_of_wpAny (wpAny_pure ⟨rfl, ?_⟩)
  exact h h5 t5 _ (fun b o e => F5.keep b o e) (N5 _ (.tail _ (.tail _ (.tail _ (.head _))))).1
end
end PySem.W
namespace L2
open PySem PySem.Spec PyProof.Rows
theorem pmk_super0 {X : Cx} {x : Str} {C fI : Addr} {p pos : Pos} {k : Nat} (Z : PySem.W.Ex0 X.K X.prog C fI) (hr : Room (k + 1) X.A) (hg : Gl X x) (hm : X.mg x = some (.ref C)) (hs : X.mg "super" = none) (hdb : (x == ("__debug__" : Str)) = false := by decide) :
    PMk X (.Call (.Name x p) [] [] pos) (fun _ H Q => Q (.ref C) none H) := by
  intro pins s σ H Q I h
  refine wpAny_Call_Name_kw (ld_glob I hg hm ?_ hdb)
  obtain ⟨mb, h1, h2⟩ := I.mod.blt
  refine PySem.W.callWith_K0 I.kIn Z.hkeep ?_
  refine PySem.W.exc_call0 Z I.kIn I.nolimit (I.mod.glob.keeps I.bk) (h1.keeps I.bk) hs ((h2 "super" (by decide)).trans (by kernel_rfl)) (by have := hr.dp; omega) fun h' t tk kp he => ?_
  refine ⟨s.heap.objs.size + 1, _, _, s, H, .ref C, none, rfl, I, kp, Heap.get?_none_of_le (Nat.le_succ _), he, ⟨rfl, rfl⟩, rfl, rfl, I.hok.fresh (Nat.le_succ _), rfl, I.bare, raises_own Z.hEx Z.hTy, h⟩
end L2
end
section
set_option Elab.async false
set_option linter.all false
set_option autoImplicit false
set_option maxRecDepth 100000
namespace L2.Pv
open PySem PySem.Spec PyProof.Rows

/-! ### raise -/
def sRaise (c : Nat) : Es := fun δ => .exc c [] δ
section
variable {X : Cx} {Γ : Gm} {E : WX} {P : List Nat}
theorem ss_raise {c : Nat} {e : Expr} {pos : Pos} (hc : X.calm = true) (tk : Takes X E) (hf : Γ.fl c = []) (h : PMk X e (fun _ H Q => Q (.ref (Γ.ca c)) none H)) : SS X Γ E P (.Raise (some e) none pos) (sRaise c) := fun _ => (ps_raise hc tk h).imp fun Z σ H ⟨F, G, sl, tm, A, q⟩ => by
  refine q σ (Prot.refl _ _) H G sl none A rfl ?_
  unfold ExR
  rw [hf]
  exact ⟨rfl, rfl⟩
end
/-! ### a run is rooted anew -/
section
variable {Γ : Gm} {F : Fr} {σ σ' : St} {H H' G G' : Hp} {sl sl' : TS'} {tm tm' : List T}
def Fr.at (F : Fr) (G : Hp) : Fr := ⟨F.H0, G, F.B⟩
theorem Abs.root (A : Abs Γ F σ H G sl tm) : Abs Γ (F.at G) σ H G sl tm :=
  ⟨A.len, A.val, A.sub, A.keep, A.dom, ⟨Sub.refl G, A.g0.2⟩, A.goodS, A.goodT, A.one, A.sep, fun a ha => .inl ha, A.tabs⟩
theorem Abs.unroot (A : Abs Γ F σ H G sl tm) (B : Abs Γ (F.at G) σ' H' G' sl' tm') : Abs Γ F σ' H' G' sl' tm' :=
  ⟨B.len, B.val, B.sub, B.keep, B.dom, A.g0.trans B.g0.1 B.g0.2.2, B.goodS, B.goodT, B.one, B.sep, fun a ha => by
    rcases B.fresh a ha with z | z
    · rcases A.fresh a z with z | z | z | ⟨o', z, zq⟩
      · exact .inl z
      · exact .inr (.inl z)
      · exact .inr (.inr (.inl z))
      · exact .inr (.inr (.inr ⟨o', B.g0.1 _ _ z, zq⟩))
    · exact .inr z, B.tabs⟩
theorem PostS.root {E : WX} {P : List Nat} {Z : Ends} {o : SOut} (A : Abs Γ F σ H G sl tm) (hne : ∀ c fs δ, o ≠ .exc c fs δ) {E' : WX} (q : PostS Γ E P F σ G tm Z o) : PostS Γ E' P (F.at G) σ G tm Z o := by
  cases o with
  | nx δ => exact fun σ' H' G' sl' B s p e => q σ' H' G' sl' (A.unroot B) s p e
  | rt d δ => exact fun σ' H' G' sl' t B s p ed e => q σ' H' G' sl' t (A.unroot B) s p ed e
  | bk δ => exact fun σ' H' G' sl' B s p e => q σ' H' G' sl' (A.unroot B) s p e
  | ct δ => exact fun σ' H' G' sl' B s p e => q σ' H' G' sl' (A.unroot B) s p e
  | exc c fs δ => exact absurd rfl (hne c fs δ)
  | stuck => exact q
end
/-! ### try -/
def SOut.unset (i : Nat) : SOut → SOut
  | .nx δ => if i < δ.length then .nx (δ.set i none) else .stuck
  | .rt d δ => if i < δ.length then .rt d (δ.set i none) else .stuck
  | .bk δ => if i < δ.length then .bk (δ.set i none) else .stuck
  | .ct δ => if i < δ.length then .ct (δ.set i none) else .stuck
  | .exc _ _ _ => .stuck
  | .stuck => .stuck
def sTry (n : Nat) (gb : Es) (i : Nat) (cs : Nat → Option Bool) (gh : Addr → Nat → Es) : Es := fun δ => match gb δ with
  | .exc c fs δ1 => match cs c with
    | some true => if δ1.length = n then (gh 0 c (δ1.set i (some (.rf 0)))).unset i else .stuck
    | some false => .exc c fs δ1
    | none => .stuck
  | o => o
def xNo : WX := fun _ _ _ _ => False
section
variable {X : Cx} {Γ : Gm} {E : WX} {P : List Nat}
theorem prot_set {σ σ' : St} {i : Nat} {v : V} (hi : i ∉ P) (h : Prot P (σ.set i (some v)) σ') : Prot P σ (σ'.set i none) := fun j hj => by
  have ne : i ≠ j := fun z => hi (by rw [z]; exact hj)
  rw [List.getElem?_set_ne ne, h j hj, List.getElem?_set_ne ne]
theorem prot_set0 {σ σ' : St} {i : Nat} {v : V} (hi : i ∉ P) (h : Prot P (σ.set i (some v)) σ') : Prot P σ σ' := fun j hj => by
  have ne : i ≠ j := fun z => hi (by rw [z]; exact hj)
  rw [h j hj, List.getElem?_set_ne ne]
theorem Abs.unset {F : Fr} {σ : St} {H G : Hp} {sl : TS'} {tm : List T} (A : Abs Γ F σ H G sl tm) {i : Nat} (hi : i < sl.length) : Abs Γ F (σ.set i none) H G (sl.set i none) tm :=
  (A.forget hi).sig (by simp) fun j t h => by
    have ne : i ≠ j := fun z => by subst z; rw [List.getElem?_set_self hi] at h; cases h
    rw [List.getElem?_set_ne ne]
theorem dsl_put (sl : TS') (i : Nat) (t : Option T) : dsl (sl.set i t) = (dsl sl).set i (t.map T.d) := by unfold dsl; rw [List.map_set]
theorem SOut.unset_ne {o : SOut} {i : Nat} {F : Fr} {σ : St} {G : Hp} {tm : List T} {Z : Ends} (h : PostS Γ E P F σ G tm Z (o.unset i)) : ∀ c fs δ, o ≠ .exc c fs δ := fun c fs δ e => by subst e; exact h
theorem ss_try {n i : Nat} {x nm : Str} {cv : Value} {gb : Es} {cs : Nat → Option Bool} {gh : Addr → Nat → Es} {body suite : List Stmt} {b₀ : Stmt} {np pos pos' : Pos} (hs : X.stack = X.env :: X.outer) (hf : X.env.frame = some X.env.locals) (hN : X.N.Nodup)
    (hi : X.N[i]? = some nm) (hln : X.env.kindOf nm = some .local) (hc : Names X x cv) (tk : Takes X E) (hiP : i ∉ P) (hn : n = X.N.length)
    (hcs : ∀ c b, cs c = some b → PySem.W.exmOne Γ.K (.ref (Γ.ca c)) cv = some b ∧ (b = true → Γ.fl c = []))
    (hb : ∀ (W : WX) (pn : List (Addr × Obj)) (xe : Value → Shared → Prop), Takes (X.tr pn xe) W → PassesOwn (model X.prog X.w) X.A X.env xe → SB (X.tr pn xe) Γ W P body gb)
    (hsu : ∀ (a : Addr) (oe : Obj) (c : Nat) (pn : List (Addr × Obj)), cs c = some true → Zc (.ref (Γ.ca c)) none oe → (∃ vs, oe.data = .fields vs) → SB (X.suite a ((a, oe) :: pn)) Γ xNo P (b₀ :: suite) (gh a c))
    (hind : ∀ (a : Addr) (c : Nat) (δ : DS), cs c = some true → δ.length = n → (gh a c (δ.set i (some (.rf a)))).unset i = (gh 0 c (δ.set i (some (.rf 0)))).unset i) :
    SS X Γ E P (.Try body [.ExceptHandler (some (.Name x np)) (some nm) (b₀ :: suite) pos'] [] [] pos) (sTry n gb i cs gh) := fun hK => by
  have hin : i < X.N.length := (List.getElem?_eq_some_iff.mp hi).1
  refine (ps_try_as (Wout := E) (tb := fun W => tS Γ W P gb) (ts := fun a cls d D σ H => ∃ c, cls = .ref (Γ.ca c) ∧ d = none ∧ cs c = some true ∧ tS Γ xNo P (gh a c) D σ H) hs hf hN hi hln hc tk (fun W pn xe t p => hb W pn xe t p hK) (fun a oe cls d pn hz hd => ?_)).imp fun D σ H ⟨F, G, sl, tm, A, q⟩ => ?_
  · refine ⟨fun pins s σ H D I ⟨c, e1, e2, e3, q⟩ => ?_⟩
    subst e1 e2
    exact (hsu a oe c pn e3 hz hd hK).run pins s σ H D I q
  · refine ⟨F.at G, G, sl, tm, A.root, ?_⟩
    unfold sTry at q
    cases hg : gb (dsl sl) with
    | exc c fs δ1 =>
      rw [hg] at q
      dsimp only at q
      intro σ1 pr H1 G1 sl1 dx A1 e1 xr
      cases hc1 : cs c with
      | none => rw [hc1] at q; exact q.elim
      | some b =>
        obtain ⟨hm, hfl⟩ := hcs c b hc1
        rw [hc1] at q
        refine ⟨b, by rw [hK]; exact hm, fun hb => ?_, fun hb => ?_⟩
        · subst hb
          dsimp only at q
          by_cases hl : δ1.length = n
          · rw [if_pos hl] at q
            intro a na
            have hdx : dx = none := by
              unfold ExR at xr
              rw [hfl rfl] at xr
              exact xr.1
            refine ⟨c, rfl, hdx, hc1, F, G1, sl1.set i (some (.leaf (.ref a) (.rf a))), tm, ?_, ?_⟩
            · have il : i < sl1.length := by rw [← dsl_len, e1, hl, hn]; exact hin
              exact (((A.unroot A1).leaf (v := .ref a) (d := .rf a) rfl).store il)
            · rw [dsl_put, e1]
              have q' := q
              rw [← hind a c δ1 hc1 hl] at q'
              have s1 : Sub G G1 := A1.g0.1
              have il : i < δ1.length := by rw [hl, hn]; exact hin
              show PostS Γ xNo P F (σ1.set i (some (.ref a))) G1 tm _ (gh a c (δ1.set i (some (.rf a))))
              cases ho : gh a c (δ1.set i (some (.rf a))) with
              | nx δ2 =>
                rw [ho] at q'
                by_cases hlt : i < δ2.length
                rotate_left
                · simp only [SOut.unset, if_neg hlt] at q'; exact q'.elim
                simp only [SOut.unset, if_pos hlt] at q'
                intro σ' H' G' sl' B s p e
                have il' : i < sl'.length := by rw [← dsl_len, e]; exact hlt
                exact q' _ _ _ _ (B.unset il') (s1.trans s) (pr.trans (prot_set hiP p)) (by rw [dsl_put, e]; rfl)
              | rt d δ2 =>
                rw [ho] at q'
                by_cases hlt : i < δ2.length
                rotate_left
                · simp only [SOut.unset, if_neg hlt] at q'; exact q'.elim
                simp only [SOut.unset, if_pos hlt] at q'
                intro σ' H' G' sl' t B s p ed e
                have il' : i < sl'.length := by rw [← dsl_len, e]; exact hlt
                exact q' _ _ _ _ t (B.forget il') (s1.trans s) (pr.trans (prot_set0 hiP p)) ed (by rw [dsl_put, e]; rfl)
              | bk δ2 =>
                rw [ho] at q'
                by_cases hlt : i < δ2.length
                rotate_left
                · simp only [SOut.unset, if_neg hlt] at q'; exact q'.elim
                simp only [SOut.unset, if_pos hlt] at q'
                intro σ' H' G' sl' B s p e
                have il' : i < sl'.length := by rw [← dsl_len, e]; exact hlt
                exact q' _ _ _ _ (B.unset il') (s1.trans s) (pr.trans (prot_set hiP p)) (by rw [dsl_put, e]; rfl)
              | ct δ2 =>
                rw [ho] at q'
                by_cases hlt : i < δ2.length
                rotate_left
                · simp only [SOut.unset, if_neg hlt] at q'; exact q'.elim
                simp only [SOut.unset, if_pos hlt] at q'
                intro σ' H' G' sl' B s p e
                have il' : i < sl'.length := by rw [← dsl_len, e]; exact hlt
                exact q' _ _ _ _ (B.unset il') (s1.trans s) (pr.trans (prot_set hiP p)) (by rw [dsl_put, e]; rfl)
              | exc c fs δ => rw [ho] at q'; exact q'.elim
              | stuck => rw [ho] at q'; exact q'.elim
          · rw [if_neg hl] at q; exact q.elim
        · subst hb
          dsimp only at q
          exact q σ1 pr H1 G1 sl1 dx (A.unroot A1) e1 xr
    | _ =>
      rw [hg] at q
      exact q.root A (by intros; exact fun z => nomatch z)
end
end L2.Pv
end
section
set_option Elab.async false
set_option linter.all false
set_option autoImplicit false
set_option maxRecDepth 100000
namespace L2
open PySem PySem.Spec PyProof.Rows
/-! ### list.count, flat items -/
def rCountF (K : PySem.W.Frag) : V → List V → Hp → VK → Prop := fun x xs H Q => ∃ (a : Addr) (ys : List V) (y : V), x = V.ref a ∧ xs = [y] ∧ SqL K H a ys ∧ flatV y = true ∧ ys.all flatV = true ∧ Q (.int ((ys.countP fun z => eqV z y : Nat) : Int)) H
theorem countP_eqU {y : V} : ∀ {ys : List V} {us : List Value}, Vals ys us → ys.all flatV = true → us.countP (eqU y) = ys.countP fun z => eqV z y
  | _, _, .nil, _ => rfl
  | _, _, .cons r t, f => by
    rw [List.all_cons, Bool.and_eq_true] at f
    rw [List.countP_cons, List.countP_cons, countP_eqU t f.2, eqU_of r f.1]
theorem mt_countF {X : Cx} : MtR X "list.count" (rCountF X.K) := by
  intro pins s σ H x xs v us Q I rx rxs h
  obtain ⟨a, ys, y, rfl, rfl, hs, fy, fys, q⟩ := h
  cases rx
  cases rxs with
  | cons ry rt =>
    rename_i uy ut
    cases rt
    obtain ⟨its, rv, ⟨⟨cls, dd, data, sl⟩, n, ho, hc, hdn, hd⟩, hlen⟩ := I.list hs
    simp only at hc hd
    subst hc hd
    refine call_meets PySem.F.slot_list_count ⟨_, ho, rfl⟩ PySem.F.entry_list_count (PySem.F.args_list_count_2 _ _)
      (SeqAt.list_countAt a its.toArray n dd sl uy (eqU y)) ⟨ho, fun u' hu' => mem_eqAt ry fy rv fys u' (by simpa using hu'), ?_⟩
    have ec : its.toArray.toList.countP (eqU y) = ys.countP fun z => eqV z y := countP_eqU rv fys
    refine ⟨.int ((ys.countP fun z => eqV z y : Nat) : Int), H, I.tok _, ⟨s.toks, ?_⟩, q⟩
    show Value.int ((its.toArray.toList.countP (eqU y) : Nat) : Int) s.toks = _
    rw [ec]
end L2
namespace L2.Pv
open PySem PySem.Spec PyProof.Rows
/-! ### methods that only read -/
def tyR (T : String) : D → Bool
  | .lst _ _ => T == "list"
  | .str _ => T == "str"
  | _ => false
def eRm (T : String) (g : D → D → Option D) (fa fb : Ev) : Ev := fun δ => (fa δ).bd fun a δ1 => if tyR T a = true then (fb δ1).bd fun b δ2 => lft (g a b) δ2 else .stuck
/-- a method of one argument, by values -/
def Rm1 (X : Cx) (Γ : Gm) (id : String) (g : D → D → Option D) : Prop := X.K = Γ.K → ∃ r : V → List V → Hp → VK → Prop, MtR X id r ∧
  ∀ F σ H G sl tm ta tb d Q, Abs Γ F σ H G sl tm → Good Γ G H ta → Good Γ G H tb → g ta.d tb.d = some d → Hands Γ F σ G sl tm d Q → r ta.v [tb.v] H Q
def D.fl1 : D → Option V
  | .non => some .non
  | .bl b => some (.bl b)
  | .int i => some (.int i)
  | .str x => some (.str x)
  | _ => none
def D.fls : List D → Option (List V)
  | [] => some []
  | d :: ds => match d.fl1, D.fls ds with
    | some v, some vs => some (v :: vs)
    | _, _ => none
section
variable {X : Cx} {Γ : Gm} {E : WX} {W Wa Wb : List Nat} {ra rb : Option Nat} {a b o : Expr} {fa fb : Ev} {pos apos cpos : Pos} {T' id : String} {name : Str} {g : D → D → Option D}
theorem tyR_of {K : PySem.W.Frag} {G H : Hp} (s : Sub G H) {u : T} {T : String} (hg : Good Γ G H u) (h : tyR T u.d = true) : tyV K T u.v H := by
  have vw := hg.view s
  cases e : u.d with
  | lst ow xs =>
    rw [e] at h vw
    obtain ⟨z, a, vs, ev, q, r⟩ := vw
    rw [ev]
    exact .inl ⟨by simpa [tyR] using h, _, SqL.of q⟩
  | str x =>
    rw [e] at h vw
    rw [show u.v = .str x from vw]
    exact (show T = "str" from by simpa [tyR] using h)
  | _ => rw [e] at h; cases h
theorem fl1_v {H : Hp} {v : V} {d : D} {x : V} (w : View Γ H v d) (h : d.fl1 = some x) : v = x ∧ flatV x = true := by
  cases d <;> cases h <;> exact ⟨w, rfl⟩
theorem fls_v {H : Hp} : ∀ {ds : List D} {vs xs : List V}, Views Γ H vs ds → D.fls ds = some xs → vs = xs ∧ xs.all flatV = true
  | [], vs, xs, w, h => by
    cases h
    exact ⟨w, rfl⟩
  | d :: ds, vs, xs, w, h => by
    obtain ⟨v, r, e, h1, h2⟩ := w
    unfold D.fls at h
    split at h
    · rename_i x ys hx hy
      cases h
      obtain ⟨e1, f1⟩ := fl1_v h1 hx
      obtain ⟨e2, f2⟩ := fls_v h2 hy
      subst e e1 e2
      exact ⟨rfl, by rw [List.all_cons, f1, f2]; rfl⟩
    · cases h
def dCount (a b : D) : Option D := match a with
  | .lst _ xs => match D.fls xs, b.fl1 with
    | some vs, some y => some (.int ((vs.countP fun z => eqV z y : Nat) : Int))
    | _, _ => none
  | _ => none
theorem r_count : Rm1 X Γ "list.count" dCount := fun hK => by
  refine ⟨_, mt_countF, ?_⟩
  intro F σ H G sl tm ta tb d Q A g1 g2 hg h
  unfold dCount at hg
  split at hg
  · rename_i ow xs e
    split at hg
    · rename_i vs y hv hy
      cases hg
      have w1 := g1.view A.sub
      rw [e] at w1
      obtain ⟨z, p, us, ev, q, r⟩ := w1
      obtain ⟨e1, f1⟩ := fls_v r hv
      obtain ⟨e2, f2⟩ := fl1_v (g2.view A.sub) hy
      subst e1
      exact ⟨p, us, y, ev, by rw [e2], SqL.of q, f2, f1, h.here A rfl⟩
    · cases hg
  · cases hg
def dIndex (a b : D) : Option D := match a with
  | .lst _ xs => match D.fls xs, b.fl1 with
    | some vs, some y => match vs.findIdx? fun z => eqV z y with
      | some j => some (.int (j : Nat))
      | none => none
    | _, _ => none
  | _ => none
theorem r_index : Rm1 X Γ "list.index" dIndex := fun hK => by
  refine ⟨_, mt_index, ?_⟩
  intro F σ H G sl tm ta tb d Q A g1 g2 hg h
  unfold dIndex at hg
  split at hg
  · rename_i ow xs e
    split at hg
    · rename_i vs y hv hy
      split at hg
      · rename_i j hj
        cases hg
        have w1 := g1.view A.sub
        rw [e] at w1
        obtain ⟨z, p, us, ev, q, r⟩ := w1
        obtain ⟨e1, f1⟩ := fls_v r hv
        obtain ⟨e2, f2⟩ := fl1_v (g2.view A.sub) hy
        subst e1
        obtain ⟨hjl, h1, h2⟩ := List.findIdx?_eq_some_iff_getElem.mp hj
        refine ⟨p, us, y, j, us[j], ev, by rw [e2], SqL.of q, f2, f1, List.getElem?_eq_getElem hjl, h1, fun m z' hm hz => ?_, h.here A rfl⟩
        obtain ⟨hml, em⟩ := List.getElem?_eq_some_iff.mp hz
        have := h2 m hm
        rw [em] at this
        simpa using this
      · cases hg
    · cases hg
  · cases hg
theorem se_rm (O : Rm1 X Γ id g) (pa : PlainAttrs T') (slot : Slot T' name id) (hty : typeOf (.builtin id) = pure (.type "method_descriptor")) (ha : SV X Γ E Wa ra o fa) (hb : SV X Γ E Wb rb b fb) (hr : ∀ i, ra = some i → i ∉ Wb)
    (hbase : attributeBase o name X.env (eval o X.env) = eval o X.env)
    (hfew : ((backTo cpos (starEach [b] X.env)).all (fun x => !x.1) && (backToKw cpos (keywordEach [] X.env)).all (fun x => x.1.isSome)
      && decide (([b] : List Expr).length + ([] : List Keyword).length + (if ([] : List Keyword).isEmpty then 0 else 1) < 30)) = true)
    (hline : (apos.endLine == cpos.line) = true) (hs : starEach [b] X.env = (false, eval b X.env) :: starEach [] X.env) (hplain : (backTo cpos (starEach [] X.env)).any (·.1) = false) :
    SE X Γ E (Wa ++ Wb) (.Call (.Attribute o name apos) [b] [] cpos) (eRm T' g fa fb) := fun hK => by
  obtain ⟨r, hm, hr2⟩ := O hK
  refine (pe_bm pa slot hty hm (ha hK) (pa1 (hb hK) hs) hbase hfew hline hs hplain).imp fun σ H Q ⟨F, G, sl, tm, A, q⟩ => ?_
  refine ⟨F, G, sl, tm, A, ?_⟩
  unfold eRm at q
  cases h1 : fa (dsl sl) with
  | stuck => rw [h1] at q; exact q
  | exc c fs δ => rw [h1] at q; exact q
  | ok da δ1 =>
    rw [h1, bd_ok] at q
    intro H1 G1 sl1 ex ta A1 w1 s1 e1 e1' k1
    by_cases ht : tyR T' da = true
    · rw [if_pos ht] at q
      have ga := w1.good A1
      refine ⟨tyR_of A1.sub ga (by rw [e1]; exact ht), F, G1, sl1, ex ++ tm, A1, ?_⟩
      rw [e1']
      cases h2 : fb δ1 with
      | stuck => rw [h2] at q; exact q
      | exc c fs δ => rw [h2] at q; exact PX.more q
      | ok db δ2 =>
        rw [h2, bd_ok] at q
        intro H2 G2 sl2 ex2 tb A2 w2 s2 e2 e2' k2
        cases h3 : g da db with
        | none => rw [h3] at q; exact q.elim
        | some d =>
          rw [h3, lft_some] at q
          have g1 := w1.later A1 A2 s2 (fun u hu => List.mem_append_right _ (List.mem_append_left _ hu)) fun i hi => k2 i (hr i hi)
          refine hr2 F σ H2 G2 sl2 tm ta tb d Q A2.dropN.dropN g1 (w2.good A2) (by rw [e1, e2]; exact h3) fun H' G' t A' s' e' => q H' G' sl2 t A' (s1.trans (s2.trans s')) e' e2' (k1.trans k2)
    · rw [if_neg ht] at q; exact q.elim
end
end L2.Pv
end
section
set_option Elab.async false
set_option linter.all false
set_option autoImplicit false
set_option maxRecDepth 100000
namespace L2.Pv
open PySem PySem.Spec PyProof.Rows
/-! ### isinstance(fault, C) in an except suite -/
def eIsF (i : Nat) (a : Addr) (b : Bool) : Ev := fun δ => match δ[i]? with
  | some (some (.rf a')) => if a' = a then .ok (.bl b) δ else .stuck
  | _ => .stuck
section
variable {X : Cx} {Γ : Gm} {E : WX} {pos : Pos}
theorem se_isF {i : Nat} {a C : Addr} {oe : Obj} {pn : List (Addr × Obj)} {f x y : Str} {p p1 p2 : Pos} {cV : V} {cv : Value} {b : Bool} (Z : ExcC Γ.K C) (hz : Zc (.ref C) none oe) (hf : ∃ vs, oe.data = .fields vs)
    (hg : Gl (X.suite a ((a, oe) :: pn)) x) (hm : X.mg x = none) (hv : bootBuiltins x = some (.builtin "isinstance")) (hn : x ≠ "__name__") (hdb : (x == ("__debug__" : Str)) = false)
    (hF : PE (X.suite a ((a, oe) :: pn)) (.Name f p1) (tVar i)) (hC : PE (X.suite a ((a, oe) :: pn)) (.Name y p2) (tC cV)) (hcv : ∀ u, RelV cV u → u = cv) (hk : PySem.W.kitOne Γ.K (.ref C) cv = some b)
    (he : starEach [.Name f p1, .Name y p2] X.env = (false, eval (.Name f p1) X.env) :: starEach [.Name y p2] X.env) (he2 : starEach [.Name y p2] X.env = (false, eval (.Name y p2) X.env) :: starEach [] X.env)
    (hpl : (backTo pos (starEach [.Name y p2] X.env)).any (·.1) = false) : SE (X.suite a ((a, oe) :: pn)) Γ E [] (.Call (.Name x p) [.Name f p1, .Name y p2] [] pos) (eIsF i a b) := fun hK => by
  have hK' : X.K = Γ.K := hK
  refine (pe_callB (call_isE (X := X) (by rw [hK']; exact Z) hz hf) hg hm hv (pa_cons hF (pa_cons hC pa_nil he2) he) hn hdb he hpl).imp fun σ H Q ⟨F, G, sl, tm, A, q⟩ => ?_
  unfold eIsF at q
  cases hd : (dsl sl)[i]? with
  | none => rw [hd] at q; exact q.elim
  | some o =>
    rw [hd] at q
    cases o with
    | none => exact q.elim
    | some d =>
      cases d with
      | rf a' =>
        dsimp only at q
        by_cases e : a' = a
        · rw [if_pos e] at q
          subst e
          obtain ⟨t, ht, ed⟩ := dsl_get hd
          have g := A.goodS i t ht
          have el := leaf_of_own g (by rw [ed]; rfl)
          rw [el, ed] at g
          refine ⟨t.v, A.val i t ht, cV, cv, b, ?_, hcv, by rw [show (X.suite _ _).K = Γ.K from hK]; exact hk, ?_⟩
          · rw [show t.v = .ref _ from g]
          · exact q H G sl (.leaf (.bl b) (.bl b)) (A.leaf rfl) (Sub.refl G) rfl rfl (Keep.refl _ _)
        · rw [if_neg e] at q; exact q.elim
      | _ => exact q.elim
end
end L2.Pv
end
section
set_option Elab.async false
set_option linter.all false
set_option autoImplicit false
set_option maxRecDepth 100000
namespace L2.Pv
open PySem PySem.Spec PyProof.Rows

/-! ### another ground -/
def Gm.wg (Γ : Gm) (g : Hp) : Gm := { Γ with gb := g }
mutual
theorem Rep.wg {Γ : Gm} {G g : Hp} : ∀ {v : V} (d : D), Rep Γ G v d → Rep (Γ.wg g) G v d
  | _, .non, h => h
  | _, .bl _, h => h
  | _, .int _, h => h
  | _, .str _, h => h
  | _, .tup ds, ⟨z, a, vs, e, q, r⟩ => ⟨z, a, vs, e, q, Reps.wg ds r⟩
  | _, .lst o ds, ⟨z, a, vs, e, q, r⟩ => ⟨z, a, vs, e, q, Reps.wg ds r⟩
  | _, .scr ns, h => h
  | _, .fn _, h => h
  | _, .rf _, h => h
  | _, .lam _ _ _, h => h
  | _, .ldc ks ds, ⟨z, a, vs, o, e, q, r⟩ => ⟨z, a, vs, o, e, q, Reps.wg ds r⟩
  | _, .dic o ks ds, ⟨z, a, vs, e, q, r⟩ => ⟨z, a, vs, e, q, Reps.wg ds r⟩
  | _, .obj o c ds, ⟨z, a, dx, vs, e, q, q2, r⟩ => ⟨z, a, dx, vs, e, q, q2, Reps.wg ds r⟩
theorem Reps.wg {Γ : Gm} {G g : Hp} : ∀ {vs : List V} (ds : List D), Reps Γ G vs ds → Reps (Γ.wg g) G vs ds
  | _, [], h => h
  | _, d :: ds, ⟨v, r, e, h1, h2⟩ => ⟨v, r, e, Rep.wg d h1, Reps.wg ds h2⟩
end
mutual
theorem Good.wg {Γ : Gm} {G H g : Hp} : ∀ (t : T), Good Γ G H t → Good (Γ.wg g) G H t
  | .leaf v d, h => Rep.wg d h
  | .lst a xs, h => ⟨h.1, Goods.wg xs h.2⟩
  | .dic a ks xs, h => ⟨h.1, Goods.wg xs h.2⟩
  | .obj a dx c xs, h => ⟨h.1, Goods.wg xs h.2⟩
theorem Goods.wg {Γ : Gm} {G H g : Hp} : ∀ (ts : List T), Goods Γ G H ts → Goods (Γ.wg g) G H ts
  | [], h => h
  | t :: ts, h => ⟨Good.wg t h.1, Goods.wg ts h.2⟩
end
section
variable {Γ : Gm} {F : Fr} {σ σ' : St} {H H' G G' g : Hp} {sl sl' : TS'} {tm ts us : List T}
theorem Abs.wg (A : Abs Γ F σ H G sl tm) (s : Sub g G) : Abs (Γ.wg g) F σ H G sl tm :=
  ⟨A.len, A.val, A.sub, A.keep, A.dom, ⟨A.g0.1, s, A.g0.2.2⟩, fun i t h => Good.wg t (A.goodS i t h), fun t h => Good.wg t (A.goodT t h), A.one, A.sep, A.fresh, A.tabs⟩
theorem Abs.ug (A : Abs (Γ.wg g) F σ H G sl tm) (s : Sub Γ.gb G) : Abs Γ F σ H G sl tm := Abs.wg (Γ := Γ.wg g) (g := Γ.gb) A s
/-- nothing owned: the start of a run -/
theorem Abs.fresh0 {slc : TS'} (hl : slc.length = σ.length) (hv : ∀ (i : Nat) (t : T), slc[i]? = some (some t) → σ[i]? = some (some t.v)) (hr : ∀ (i : Nat) (t : T), slc[i]? = some (some t) → ∃ v d, t = .leaf v d ∧ Rep Γ G v d)
    (s : Sub G H) (hg : Sub Γ.gb G) (n : NT G) (ht : LamX.Tabs Γ.tb H) : Abs Γ (FrOf H G []) σ H G slc [] := by
  have c0 : ∀ a, cS a slc = 0 := fun a => by
    by_cases q : 0 < cS a slc
    · obtain ⟨i, u, hu, c⟩ := cS_pos q
      obtain ⟨v, d, e, _⟩ := hr i u hu
      subst e
      rw [T.cnt] at c
      omega
    · omega
  refine ⟨hl, hv, s, fun a o h _ _ => (noT_sub h).1, fun a h => ?_, ⟨Sub.refl G, hg, n⟩, fun i t h => ?_, fun t h => absurd h (by simp), fun a => by rw [c0, T.cnts]; omega, fun a ha => ?_, fun a h => .inl h, ht⟩
  · cases q : noT H a with
    | none => exact absurd q h
    | some o => exact ⟨o, noT_sub q⟩
  · obtain ⟨v, d, e, r⟩ := hr i t h
    subst e
    exact r
  · rw [c0, T.cnts] at ha
    omega
/-- the ground of a run that owned nothing may be told smaller -/
theorem Abs.less {g : Hp} (A : Abs Γ (FrOf H g []) σ' H' G' sl' tm) (s : Sub G g) (hq : ∀ a, g a ≠ none → G a ≠ none ∨ ∃ o, g a = some o ∧ Quiet o) : Abs Γ (FrOf H G []) σ' H' G' sl' tm :=
  ⟨A.len, A.val, A.sub, A.keep, A.dom, ⟨fun a o h => A.g0.1 a o (s a o h), A.g0.2⟩, A.goodS, A.goodT, A.one, A.sep, fun a ha => by
    rcases A.fresh a ha with z | z
    · rcases hq a z with z | ⟨o, z, zq⟩
      · exact .inl z
      · exact .inr (.inr (.inr ⟨o, A.g0.1 a o z, zq⟩))
    · exact .inr z, A.tabs⟩
/-- the tables grew -/
theorem Abs.extN (A : Abs Γ F σ H G sl tm) (e : LamX.ExtN H H') (ht : LamX.Tabs Γ.tb H') : Abs Γ F σ H' G sl tm := by
  have gd : ∀ w, (∀ a, 0 < w.cnt a → H a ≠ none) → Good Γ G H w → Good Γ G H' w := fun w k g => g.mono (Sub.refl G) w fun a ha => by
    cases q : H a with
    | none => exact absurd q (k a ha)
    | some o => exact e a o q fun ps z => by subst z; exact Good.noTbl w g ha q
  refine ⟨A.len, A.val, fun a o h => e a o (A.sub a o h) (A.g0.2.2 a o h), fun a o h1 h2 h3 => e a o (A.keep a o h1 h2 h3) h2, fun a h => ?_, A.g0, fun i u h => gd u (fun a ha => (A.sep a (by have := cS_get (a := a) h; omega)).2.1) (A.goodS i u h),
    fun u h => gd u (fun a ha => (A.sep a (by have := cnts_mem (a := a) h; omega)).2.1) (A.goodT u h), A.one, fun a ha => ?_, A.fresh, ht⟩
  · obtain ⟨o, q, n⟩ := A.dom a h
    exact ⟨o, e a o q n, n⟩
  · obtain ⟨h1, h2, h3⟩ := A.sep a ha
    refine ⟨h1, ?_, h3⟩
    have hu : ∃ u : T, 0 < u.cnt a ∧ Good Γ G H u := by
      rcases Nat.lt_or_ge 0 (T.cnts a tm) with q2 | q2
      · obtain ⟨u, hu, c⟩ := cnts_pos q2
        exact ⟨u, c, A.goodT u hu⟩
      · obtain ⟨i, u, hu, c⟩ := cS_pos (a := a) (sl := sl) (by omega)
        exact ⟨u, c, A.goodS i u hu⟩
    obtain ⟨u, c, gu⟩ := hu
    cases q : H a with
    | none => exact absurd q h2
    | some o =>
      rw [e a o q fun ps z => by subst z; exact Good.noTbl u gu c q]
      exact fun z => nomatch z
end
end L2.Pv
end
section
set_option Elab.async false
set_option linter.all false
set_option autoImplicit false
set_option maxRecDepth 100000
namespace L2.Pv
open PySem PySem.Spec PyProof.Rows

/-! ### what a lambda answers -/
inductive AOut where
  | ok (d : D)
  | exc (c : Nat) (fs : List D)
  | stuck
def actOf (o : Out D) : AOut := match o with
  | .ok d _ => .ok d
  | .exc c fs _ => .exc c fs
  | .stuck => .stuck
/-- try: a() (k: return a()) / except C as x: .. -/
def sTryA (k : Bool) (f : Addr) (act : AOut) (n i : Nat) (cs : Nat → Option Bool) (gh : Addr → Nat → Es) : Es := fun δ => match δ[(0 : Nat)]? with
  | some (some (.rf a)) => if a = f then match act with
      | .ok d => if k = true then .rt d δ else .nx δ
      | .exc c _ => if cs c = some true then (gh 0 c ((List.replicate n none).set i (some (.rf 0)))).unset i else .stuck
      | .stuck => .stuck
    else .stuck
  | _ => .stuck
/-- the maker's slots at the lambda, by themselves -/
structure Capt (Γ : Gm) (g : Hp) (σm : St) (slc : TS') : Prop where
  len : slc.length = σm.length
  val : ∀ (i : Nat) (t : T), slc[i]? = some (some t) → σm[i]? = some (some t.v)
  rep : ∀ (i : Nat) (t : T), slc[i]? = some (some t) → ∃ v d, t = .leaf v d ∧ Rep Γ g v d
theorem Capt.mono {Γ : Gm} {g g' : Hp} {σm : St} {slc : TS'} (c : Capt Γ g σm slc) (s : Sub g g') : Capt Γ g' σm slc :=
  ⟨c.len, c.val, fun i t h => let ⟨v, d, e, r⟩ := c.rep i t h; ⟨v, d, e, r.mono s⟩⟩
section
variable {X : Cx} {Γ : Gm}
theorem try_core {k : Bool} {f c' : Addr} {q : Str} {tl : XK → Hp → VK → Prop} {fb : Ev} {Wb : List Nat} {σm : St} {slc : TS'} {g : Hp} {n i : Nat} {x nm : Str} {cv : Value} {cs : Nat → Option Bool} {gh : Addr → Nat → Es} {body suite : List Stmt} {b₀ : Stmt} {np pos pos' : Pos}
    (hs : X.stack = X.env :: X.outer) (hf : X.env.frame = some X.env.locals) (hN : X.N.Nodup) (hi : X.N[i]? = some nm) (hln : X.env.kindOf nm = some .local) (hc : Names X x cv) (tk : Takes X xNo) (hn : n = X.N.length)
    (hcs : ∀ c, cs c = some true → PySem.W.exmOne Γ.K (.ref (Γ.ca c)) cv = some true ∧ Γ.fl c = [])
    (hsub : Sub Γ.gb g) (hcode : g c' = some (LamX.CodeO c' q)) (C : Capt Γ g σm slc)
    (htl : ∀ E HZ Q', tE Γ (fun cls d _ H' => E cls d H') Wb fb σm HZ Q' → tl E HZ Q')
    (hb : ∀ (W : WX) (pn : List (Addr × Obj)) (xe : Value → Shared → Prop), Takes (X.tr pn xe) W → PSs (X.tr pn xe) body fun D σ H => ∃ Ech : XK, (∀ cls d σ' H', Ech cls d H' → W cls d σ' H') ∧ σ[0]? = some (some (.ref f)) ∧ H c' = some (LamX.CodeO c' q) ∧ tl Ech H fun v H' => if k = true then D.rt v H' else D.nx σ H')
    (hsu : ∀ (a : Addr) (oe : Obj) (c : Nat) (pn : List (Addr × Obj)), cs c = some true → Zc (.ref (Γ.ca c)) none oe → (∃ vs, oe.data = .fields vs) → SB (X.suite a ((a, oe) :: pn)) (Γ.wg g) xNo [] (b₀ :: suite) (gh a c))
    (hind : ∀ (a : Addr) (c : Nat), cs c = some true → (gh a c ((List.replicate n none).set i (some (.rf a)))).unset i = (gh 0 c ((List.replicate n none).set i (some (.rf 0)))).unset i) :
    SS X (Γ.wg g) xNo [] (.Try body [.ExceptHandler (some (.Name x np)) (some nm) (b₀ :: suite) pos'] [] [] pos) (sTryA k f (actOf (fb (dsl slc))) n i cs gh) := fun hK => by
  have hK0 : X.K = Γ.K := hK
  have hin : i < X.N.length := (List.getElem?_eq_some_iff.mp hi).1
  refine (ps_try_as (Wout := xNo) (tb := fun W D σ H => ∃ Ech : XK, (∀ cls d σ' H', Ech cls d H' → W cls d σ' H') ∧ σ[0]? = some (some (.ref f)) ∧ H c' = some (LamX.CodeO c' q) ∧ tl Ech H fun v H' => if k = true then D.rt v H' else D.nx σ H')
    (ts := fun a cls d D σ H => σ.length = n → ∃ c, cls = .ref (Γ.ca c) ∧ d = none ∧ cs c = some true ∧ tS (Γ.wg g) xNo [] (gh a c) D σ H) hs hf hN hi hln hc tk (fun W pn xe t _ => hb W pn xe t) (fun a oe cls d pn hz hd => ?_)).imp fun D σ H ⟨F, G, sl, tm, A, q⟩ => ?_
  · refine ⟨fun pins s σ H D I h => ?_⟩
    obtain ⟨c, e1, e2, e3, q⟩ := h (by rw [hn]; exact I.len)
    subst e1 e2
    exact (hsu a oe c pn e3 hz hd hK).run pins s σ H D I q
  · unfold sTryA at q
    cases hd : (dsl sl)[(0 : Nat)]? with
    | none => rw [hd] at q; exact q.elim
    | some o =>
      rw [hd] at q
      cases o with
      | none => exact q.elim
      | some d =>
        cases d with
        | rf a0 =>
          dsimp only at q
          by_cases e : a0 = f
          · rw [if_pos e] at q
            subst e
            obtain ⟨t, ht, ed⟩ := dsl_get hd
            have gt := A.goodS 0 t ht
            have el := leaf_of_own gt (by rw [ed]; rfl)
            rw [el, ed] at gt
            have hv : t.v = .ref a0 := gt
            have sg : Sub g G := A.g0.2.1
            have AΓ : Abs Γ F σ H G sl tm := A.ug (fun b o h => sg b o (hsub b o h))
            have st : Abs Γ (FrOf H G []) σm H G slc [] := Abs.fresh0 C.len C.val (C.mono sg).rep A.sub (fun b o h => sg b o (hsub b o h)) A.g0.2.2 A.tabs
            have bk : ∀ {H' G' : Hp} {sl' : TS'} {us : List T}, Abs Γ (FrOf H G []) σm H' G' sl' us → Abs (Γ.wg g) F σ H' G' sl (us ++ tm) ∧ Sub G G' := fun {H' G' sl' us} B => by
              obtain ⟨B1, s1⟩ := Abs.back (ts := []) AΓ B.noSlots
              exact ⟨B1.wg (sg.trans s1), s1⟩
            refine ⟨fun cls d H' => ∀ σ', wAs X.K cv i (fun a cls d D σ H => σ.length = n → ∃ c, cls = .ref (Γ.ca c) ∧ d = none ∧ cs c = some true ∧ tS (Γ.wg g) xNo [] (gh a c) D σ H) xNo D cls d σ' H', fun cls d σ' H' h => h σ', by rw [A.val 0 t ht, hv], A.sub _ _ (sg _ _ hcode), htl _ _ _ ⟨FrOf H G [], G, slc, [], st, ?_⟩⟩
            cases hfb : fb (dsl slc) with
            | ok d δ =>
              rw [hfb] at q
              intro H' G' sl' t' B s' ed' e' k'
              obtain ⟨B1, s1⟩ := bk B
              cases k with
              | true => exact q σ H' G' sl t' B1 s1 (Prot.refl _ _) ed' rfl
              | false => exact q σ H' G' sl B1.drop s1 (Prot.refl _ _) rfl
            | exc c fs δ =>
              rw [hfb] at q
              dsimp only [actOf] at q
              intro H1 G1 sl1 dx B e1 xr σ1
              by_cases hc1 : cs c = some true
              · rw [if_pos hc1] at q
                obtain ⟨hm, hfl⟩ := hcs c hc1
                refine ⟨true, by rw [hK0]; exact hm, fun _ a na hlen => ?_, fun z => nomatch z⟩
                have hl1 : σ1.length = n := by simpa using hlen
                have hdx : dx = none := by
                  unfold ExR at xr
                  rw [hfl] at xr
                  exact xr.1
                obtain ⟨B1, s1⟩ := bk B
                have B2 : Abs (Γ.wg g) F σ1 H1 G1 (List.replicate n none) tm := by
                  have B3 := (B1.noSlots)
                  refine ⟨by simp [hl1], fun j t h => ?_, B3.sub, B3.keep, B3.dom, B3.g0, fun j t h => ?_, B3.goodT, fun b => ?_, fun b hb => ?_, B3.fresh, B3.tabs⟩
                  · rw [List.getElem?_replicate] at h; split at h <;> cases h
                  · rw [List.getElem?_replicate] at h; split at h <;> cases h
                  · have c0 : cS b (List.replicate n none) = 0 := by unfold cS; simp [cO]
                    have := B3.one b
                    have c1 : cS b [] = 0 := rfl
                    rw [c1] at this
                    rw [c0]
                    exact this
                  · have c0 : cS b (List.replicate n none) = 0 := by unfold cS; simp [cO]
                    rw [c0] at hb
                    exact B3.sep b hb
                have il : i < (List.replicate n (none : Option T)).length := by simp [hn, hin]
                refine ⟨c, rfl, hdx, hc1, F, G1, (List.replicate n none).set i (some (.leaf (.ref a) (.rf a))), tm, (B2.leaf (v := .ref a) (d := .rf a) rfl).store il, ?_⟩
                rw [dsl_put, show dsl (List.replicate n none) = List.replicate n none from by unfold dsl; simp]
                rw [← hind a c hc1] at q
                show PostS (Γ.wg g) xNo [] F (σ1.set i (some (.ref a))) G1 tm _ (gh a c ((List.replicate n none).set i (some (.rf a))))
                have pr : ∀ {σ' : St}, Prot [] σ σ' := fun {σ'} j hj => absurd hj (by simp)
                cases ho : gh a c ((List.replicate n none).set i (some (.rf a))) with
                | nx δ2 =>
                  rw [ho] at q
                  by_cases hlt : i < δ2.length
                  rotate_left
                  · simp only [SOut.unset, if_neg hlt] at q; exact q.elim
                  simp only [SOut.unset, if_pos hlt] at q
                  intro σ' H' G' sl' B s p e
                  exact q _ _ _ _ (B.unset (by rw [← dsl_len, e]; exact hlt)) (s1.trans s) pr (by rw [dsl_put, e]; rfl)
                | rt d δ2 =>
                  rw [ho] at q
                  by_cases hlt : i < δ2.length
                  rotate_left
                  · simp only [SOut.unset, if_neg hlt] at q; exact q.elim
                  simp only [SOut.unset, if_pos hlt] at q
                  intro σ' H' G' sl' t B s p ed e
                  exact q _ _ _ _ t (B.forget (by rw [← dsl_len, e]; exact hlt)) (s1.trans s) pr ed (by rw [dsl_put, e]; rfl)
                | bk δ2 =>
                  rw [ho] at q
                  by_cases hlt : i < δ2.length
                  rotate_left
                  · simp only [SOut.unset, if_neg hlt] at q; exact q.elim
                  simp only [SOut.unset, if_pos hlt] at q
                  intro σ' H' G' sl' B s p e
                  exact q _ _ _ _ (B.unset (by rw [← dsl_len, e]; exact hlt)) (s1.trans s) pr (by rw [dsl_put, e]; rfl)
                | ct δ2 =>
                  rw [ho] at q
                  by_cases hlt : i < δ2.length
                  rotate_left
                  · simp only [SOut.unset, if_neg hlt] at q; exact q.elim
                  simp only [SOut.unset, if_pos hlt] at q
                  intro σ' H' G' sl' B s p e
                  exact q _ _ _ _ (B.unset (by rw [← dsl_len, e]; exact hlt)) (s1.trans s) pr (by rw [dsl_put, e]; rfl)
                | exc c fs δ => rw [ho] at q; exact q.elim
                | stuck => rw [ho] at q; exact q.elim
              · rw [if_neg hc1] at q; exact q.elim
            | stuck => rw [hfb] at q; exact q.elim
          · rw [if_neg e] at q; exact q.elim
        | _ => exact q.elim
end
end L2.Pv
end
section
set_option Elab.async false
set_option linter.all false
set_option autoImplicit false
set_option maxRecDepth 100000
namespace L2.Pv
open PySem PySem.Spec PyProof.Rows

def endsF : SOut → Option D
  | .rt d _ => some d
  | .nx _ => some .non
  | _ => none
def TTpv (Γ : Gm) (gout : AOut → Option D) : (XK → Hp → VK → Prop) → Hp → VK → Prop := fun tl H Q =>
  ∃ (σm : St) (slc : TS') (fb : Ev) (Wb : List Nat) (G : Hp) (d : D), (∀ E HZ Q', tE Γ (fun cls d _ H' => E cls d H') Wb fb σm HZ Q' → tl E HZ Q') ∧ Sub Γ.gb G ∧ Sub G H ∧ NT G ∧ LamX.Tabs Γ.tb H ∧ Capt Γ G σm slc ∧ gout (actOf (fb (dsl slc))) = some d ∧
    ∀ σ' H' G' sl' t, Abs Γ (FrOf H G []) σ' H' G' sl' [t] → t.d = d → Q t.v H'
section
variable {X : Cx} {Γ : Gm}
theorem gives_pv {Ng : List Str} {x a q : Str} {sg : Scope} {g : Addr} {cdg : Value} {bg : List Stmt} {gw : Addr → AOut → Es} {gout : AOut → Option D} (hNg : 0 < Ng.length) (hdo : ∀ f act, endsF (gw f act (argD Ng.length [.rf f])) = gout act) (hK : X.K = Γ.K)
    (hw : ∀ (f c' : Addr) (s : Shared) (H : Hp) (fb : Ev) (Wb : List Nat) (σm : St) (slc : TS') (gr : Hp) (tl : XK → Hp → VK → Prop), Sub Γ.gb gr → gr c' = some (LamX.CodeO c' q) → Capt Γ gr σm slc →
      (∀ E HZ Q', tE Γ (fun cls d _ H' => E cls d H') Wb fb σm HZ Q' → tl E HZ Q') →
      (∀ (W : WX) (pn : List (Addr × Obj)) (xe : Value → Shared → Prop) (E : XK) (p1 p2 : Pos), Takes ((cxOf C8.CX0 X.prog X.w X.K X.mg X.base Ng x sg g cdg X.A X.stack s H C8.E0).tr pn xe) W → (∀ cls d σ' H', E cls d H' → W cls d σ' H') →
        PE ((cxOf C8.CX0 X.prog X.w X.K X.mg X.base Ng x sg g cdg X.A X.stack s H C8.E0).tr pn xe) (.Call (.Name a p1) [] [] p2) (fun σZ HZ Q => σZ[0]? = some (some (.ref f)) ∧ HZ c' = some (LamX.CodeO c' q) ∧ tl E HZ Q)) →
      SB (cxOf C8.CX0 X.prog X.w X.K X.mg X.base Ng x sg g cdg X.A X.stack s H C8.E0).nox (Γ.wg gr) xNo [] bg (gw f (actOf (fb (dsl slc))))) :
    LamX.GivesTo X Ng x sg g cdg bg a q (TTpv Γ gout) := by
  intro f c' s H Q tl act hc ⟨σm, slc, fb, Wb, G, d, htl, hs, hGH, nG, hT, C, hd, hQ⟩
  -- the ground with the lambda's code
  have hgr : ∃ gr : Hp, Sub G gr ∧ Sub gr H ∧ NT gr ∧ gr c' = some (LamX.CodeO c' q) ∧ ∀ a, gr a ≠ none → G a ≠ none ∨ ∃ o, gr a = some o ∧ Quiet o := by
    cases hg : G c' with
    | some o =>
      have e := hGH _ _ hg
      rw [hc] at e
      cases e
      exact ⟨G, Sub.refl G, hGH, nG, hg, fun a h => .inl h⟩
    | none =>
      refine ⟨upd G c' (LamX.CodeO c' q), fun b o h => by rw [upd_ne (ne_of_none h hg)]; exact h, fun b o h => ?_, nG.upd (fun ps => LamX.codeO_ne ps), upd_same, fun a h => ?_⟩
      · by_cases e : b = c'
        · subst e; rw [upd_same] at h; cases h; exact hc
        · rw [upd_ne e] at h; exact hGH b o h
      · by_cases e : a = c'
        · subst e; exact .inr ⟨_, upd_same, trivial⟩
        · rw [upd_ne e] at h; exact .inl h
  obtain ⟨gr, s1, s2, n2, hcd, hq⟩ := hgr
  have hs2 : Sub Γ.gb gr := fun b o h => s1 b o (hs b o h)
  have SBx := hw f c' s H fb Wb σm slc gr tl hs2 hcd (C.mono s1) htl (fun W pn xe E p1 p2 => act W pn xe E p1 p2)
  have SBr := SBx hK
  refine ⟨_, SBr, FrOf H gr [], gr, some (.leaf (.ref f) (.rf f)) :: List.replicate (Ng.length - 1) none, [], ?_, ?_⟩
  · refine Abs.fresh0 (Γ := Γ.wg gr) ?_ (fun i t h => ?_) (fun i t h => ?_) s2 (Sub.refl gr) n2 hT
    · unfold L2.start
      simp
    · cases i with
      | zero =>
        have h : some (some (T.leaf (V.ref f) (D.rf f))) = some (some t) := h
        cases h
        rfl
      | succ i =>
        have h : (List.replicate (Ng.length - 1) (none : Option T))[i]? = some (some t) := h
        rw [List.getElem?_replicate] at h
        split at h <;> cases h
    · cases i with
      | zero =>
        have h : some (some (T.leaf (V.ref f) (D.rf f))) = some (some t) := h
        cases h
        exact ⟨_, _, rfl, rfl⟩
      | succ i =>
        have h : (List.replicate (Ng.length - 1) (none : Option T))[i]? = some (some t) := h
        rw [List.getElem?_replicate] at h
        split at h <;> cases h
  · have ea : dsl (some (.leaf (.ref f) (.rf f)) :: List.replicate (Ng.length - 1) none) = argD Ng.length [.rf f] := by
      unfold dsl argD
      simp
      rfl
    rw [ea]
    have hend := hdo f (actOf (fb (dsl slc)))
    rw [hd] at hend
    have fin : ∀ {σ' H' G' sl' t}, Abs (Γ.wg gr) (FrOf H gr []) σ' H' G' sl' [t] → t.d = d → Q t.v H' := fun {σ' H' G' sl' t} B ed => by
      have B1 := B.ug (Γ := Γ) (fun b o h => B.g0.1 b o (hs2 b o h))
      exact hQ σ' H' G' sl' t (B1.less s1 hq) ed
    cases ho : gw f (actOf (fb (dsl slc))) (argD Ng.length [.rf f]) with
    | rt d' δ =>
      rw [ho] at hend
      cases hend
      exact fun σ' H' G' sl' t B _ _ ed _ => fin B ed
    | nx δ =>
      rw [ho] at hend
      cases hend
      exact fun σ' H' G' sl' B _ _ _ => fin (B.leaf (v := .non) (d := .non) rfl) rfl
    | _ => rw [ho] at hend; cases hend
/-- the slots that a lambda takes along -/
def capS (cs : List Nat) (δ : DS) : DS := (List.range δ.length).map fun i => if i ∈ cs then δ[i]?.join else none
def eLam (cs : List Nat) (fb : Ev) (gout : AOut → Option D) : Ev := fun δ => if (capS cs δ).all (fun o => match o with | some d => nOwn d | none => true) = true then (match gout (actOf (fb (capS cs δ))) with | some d => .ok d δ | none => .stuck) else .stuck
theorem se_lam {E : WX} {cs : List Nat} {Wb : List Nat} {fb : Ev} {gout : AOut → Option D} {x a : Str} {g c P : Addr} {k : Nat} {pg : Arguments} {bg : List Stmt} {sg : Scope} {dV kV doc pm cdv ct oc : Value} {an od : Option Addr} {osl : Array (Option Value)} {Ng : List Str}
    {params : Arguments} {body : Expr} {scope : Scope} {p lpos pos : Pos} (hg : Gl X x) (hm : X.mg x = some (.ref g)) (hk : PySem.W.keepIn X.K (.ref g) = true)
    (lk : X.K.lookup g = some ⟨oc, od, .func (PySem.W.fnOf x x pg bg sg dV kV doc pm an cdv ct), osl⟩) (hcg : PySem.W.codeIn X.K cdv x = true) (hb : L2.Binds X.K (PySem.W.fnOf x x pg bg sg dV kV doc pm an cdv ct) [a] []) (Sg : FnScope Ng [a] sg) (hNg : Ng[0]? = some a) (hva : Vis sg a)
    (hG : X.K = Γ.K → LamX.GivesTo X Ng x sg g cdv bg a (X.env.qual ++ "<lambda>") (TTpv Γ gout))
    (TB : LamX.TabB X.base X.mg c P) (hcode : X.env.code = .ref c) (hmT : (P, X.env.qual ++ "<lambda>") ∈ Γ.tb) (hu : ∀ p ∈ Γ.tb, p.1 = P → p.2 = X.env.qual ++ "<lambda>") (hr : Room (k + 2) X.A) (L : LamX.LamS X.env.scope scope) (hdef : defaultsOf params X.env = ([], []))
    (hbind : ∀ (q : Str) (cl : List (Str × Addr)) (pm cv ctv : Value), bindArgs (PySem.W.kla_fn "<lambda>" q params body scope cl pm cv ctv) ⟨[], []⟩ = pure [])
    (hbody : ∀ (A : Around) (outer : List Env) (s : Shared) (H : Hp) (E : XK) (f c' : Addr), Room k (A.deeper (LamX.lamEnv X scope s.heap.objs.size f c')) → SE (LamX.lamCx X A outer s H E scope f c') Γ (fun cls d _ H' => E cls d H') Wb body fb)
    (hdb : (x == ("__debug__" : Str)) = false := by decide) (hd : (a == ("__debug__" : Str)) = false := by decide) (hcd : (a == ("__classdict__" : Str)) = false := by decide) :
    SE X Γ E [] (.Call (.Name x p) [.Lambda params body scope lpos] [] pos) (eLam cs fb gout) := fun hK =>
  (LamX.pe_lamcall (T := Γ.tb) (t := fun E => tE Γ (fun cls d _ H' => E cls d H') Wb fb) hg hm hk lk hcg hb Sg hNg hva (hG hK) TB hcode hmT hu hr L hdef hbind (fun A outer s H E f c' hr2 => hbody A outer s H E f c' hr2 hK) hdb hd hcd).imp fun σ H Q ⟨F, G, sl, tm, A, q⟩ => by
  refine ⟨A.tabs, fun H1 eN T1 => ?_⟩
  unfold eLam at q
  by_cases hall : (capS cs (dsl sl)).all (fun o => match o with | some d => nOwn d | none => true) = true
  · rw [if_pos hall] at q
    cases ho : gout (actOf (fb (capS cs (dsl sl)))) with
    | none => rw [ho] at q; exact q.elim
    | some d =>
      rw [ho] at q
      have A1 := A.extN eN T1
      have e1 : dsl ((List.range sl.length).map fun i => if i ∈ cs then sl[i]?.join else none) = capS cs (dsl sl) := by
        unfold capS dsl
        rw [List.map_map, List.length_map]
        refine List.map_congr_left fun i _ => ?_
        show Option.map T.d (if i ∈ cs then sl[i]?.join else none) = if i ∈ cs then ((List.map (Option.map T.d) sl)[i]?).join else none
        split
        · rw [List.getElem?_map]
          cases sl[i]? with
          | none => rfl
          | some o => rfl
        · rfl
      have cap : ∀ (i : Nat) (t : T), ((List.range sl.length).map fun i => if i ∈ cs then sl[i]?.join else none)[i]? = some (some t) → i ∈ cs ∧ sl[i]? = some (some t) := fun i t h => by
        rw [List.getElem?_map] at h
        cases hri : (List.range sl.length)[i]? with
        | none => rw [hri] at h; cases h
        | some j =>
          rw [hri] at h
          have hj : i = j := by
            rw [List.getElem?_range] at hri
            · exact Option.some.inj hri
            · have := (List.getElem?_eq_some_iff.mp hri).1; simpa using this
          subst hj
          have h : (if i ∈ cs then sl[i]?.join else none) = some t := Option.some.inj h
          split at h
          · rename_i hi
            refine ⟨hi, ?_⟩
            cases hs : sl[i]? with
            | none => rw [hs] at h; cases h
            | some o => rw [hs] at h; cases o with
              | none => cases h
              | some t' => cases h; rfl
          · cases h
      refine ⟨σ, (List.range sl.length).map fun i => if i ∈ cs then sl[i]?.join else none, fb, Wb, G, d, fun E HZ Q' h => h, A1.g0.2.1, A1.sub, A1.g0.2.2, A1.tabs, ⟨by simp [A.len], fun i t h => A.val i t (cap i t h).2, fun i t h => ?_⟩, by rw [e1]; exact ho, fun σ' H' G' sl' t B ed => ?_⟩
      · have hs := (cap i t h).2
        have gt := A1.goodS i t hs
        have ho2 : nOwn t.d = true := by
          have hm : some t.d ∈ capS cs (dsl sl) := by
            rw [← e1]
            unfold dsl
            exact List.mem_map.mpr ⟨some t, List.mem_of_getElem? h, rfl⟩
          exact List.all_eq_true.mp hall _ hm
        have el := leaf_of_own gt (by simpa [nOwn] using ho2)
        rw [el] at gt
        exact ⟨t.v, t.d, el, gt⟩
      · obtain ⟨B1, s1⟩ := Abs.back (ts := []) A1 B.noSlots
        exact q H' G' sl t B1 s1 ed rfl (Keep.refl _ _)
  · rw [if_neg hall] at q; exact q.elim
end
end L2.Pv
end
section
set_option Elab.async false
set_option linter.all false
set_option autoImplicit false
set_option maxRecDepth 100000
namespace L2.Pv
open PySem PySem.Spec PyProof.Rows

theorem takes_lam {X : Cx} {A : Around} {outer : List Env} {s : Shared} {H : Hp} {E : XK} {scope : Scope} {f c' : Addr} : Takes (LamX.lamCx X A outer s H E scope f c') (fun cls d _ H' => E cls d H') :=
  takes_of rfl rfl rfl rfl
section
variable {X : Cx} {CX : CXT} {k i : Nat} {f : Addr} {fd : FuncData} {ps : List Str} {sp : Sp} {E : St → XK} {x : Str} {p pos : Pos} {e : Expr} {es : List Expr} {t : TA}
theorem pe_callLS (F : FnOk X.prog X.w X.K X.mg X.base CX k f fd ps sp) (hr : Room k X.A) (hN : X.N[i]? = some x) (hv : Vis X.env.scope x) (hk : PySem.W.keepIn X.K (.ref f) = true) (hb : Binds X.K fd ps []) (hx : ∀ σ, PassesAt CX X σ (E σ)) (ha : PA X (e :: es) t)
    (hdb : (x == ("__debug__" : Str)) = false) (hcd : (x == ("__classdict__" : Str)) = false) (he : starEach (e :: es) X.env = (false, eval e X.env) :: starEach es X.env) (hpl : (backTo pos (starEach es X.env)).any (·.1) = false) :
    PE X (.Call (.Name x p) (e :: es) [] pos) (fun σ H Q => σ[i]? = some (some (.ref f)) ∧ t σ H fun vs H1 => sp vs H1 Q (E σ)) := by
  refine ⟨fun pins s σ H Q I h => ?_⟩
  obtain ⟨hs, ht⟩ := h
  refine wpAny_Call_Name_kw (thn ((pe_var (pos := p) hN hv hdb hcd).run pins s σ H (fun v H1 => v = .ref f ∧ H1 = H) I ⟨.ref f, hs, rfl, rfl⟩) fun u s1 ⟨v, H1, I1, r1, q1⟩ => ?_)
  obtain ⟨rfl, rfl⟩ := q1
  cases r1
  refine PySem.W.callWith_K (h₀ := X.base) I.ok.mod.kin hk (thn (ha.run pos pins s1 σ _ _ I1 ht) fun us s2 ⟨vs, H2, I2, r, q⟩ => ⟨I2.kIn, ?_⟩) he hpl
  exact run_fnS F hr hb (hx σ) I2 r q
end
/-- a def that a name holds is called: ms, the defs' answers -/
def calV (ks : List Nat) (i : Nat) (ms : Nat → List D → FOut) (g : EvA) : Ev := fun δ => match δ[i]? with
  | some (some (.fn j)) => if j ∈ ks then calF (ms j) g δ else .stuck
  | _ => .stuck
/-- a def of one promise -/
structure FnAt (X : Cx) (Γ : Gm) (k j : Nat) (m : List D → FOut) : Prop where
  ex : ∃ (fd : FuncData) (ps : List Str), FnOk X.prog X.w X.K X.mg X.base (L2.CX X.prog X.w) k (Γ.fa j) fd ps (spF Γ [] m) ∧ PySem.W.keepIn X.K (.ref (Γ.fa j)) = true ∧ Binds X.K fd ps []
section
variable {X : Cx} {Γ : Gm} {E : WX} {W : List Nat} {k n i : Nat} {x : Str} {p pos : Pos} {e : Expr} {es : List Expr} {g : EvA}
theorem se_calV {ks : List Nat} {ms : Nat → List D → FOut} (hF : ∀ j ∈ ks, FnAt X Γ k j (ms j)) (hr : Room k X.A) (hN : X.N[i]? = some x) (hv : Vis X.env.scope x) (tk : Takes X E) (ha : SA X Γ E W n (e :: es) g)
    (hdb : (x == ("__debug__" : Str)) = false) (hcd : (x == ("__classdict__" : Str)) = false) (he : starEach (e :: es) X.env = (false, eval e X.env) :: starEach es X.env) (hpl : (backTo pos (starEach es X.env)).any (·.1) = false) :
    SE X Γ E W (.Call (.Name x p) (e :: es) [] pos) (calV ks i ms g) := fun hK => by
  refine ⟨fun pins s σ H Q I ⟨F, G, sl, tm, A, q⟩ => ?_⟩
  unfold calV at q
  cases hd : (dsl sl)[i]? with
  | none => rw [hd] at q; exact q.elim
  | some o =>
    rw [hd] at q
    cases o with
    | none => exact q.elim
    | some d =>
      cases d with
      | fn j =>
        dsimp only at q
        by_cases hj : j ∈ ks
        · rw [if_pos hj] at q
          obtain ⟨t, ht, ed⟩ := dsl_get hd
          have gt := A.goodS i t ht
          have el := leaf_of_own gt (by rw [ed]; rfl)
          rw [el, ed] at gt
          have hv' : t.v = .ref (Γ.fa j) := gt
          obtain ⟨fd, ps, Fo, hk, hb⟩ := (hF j hj).ex
          refine (pe_callLS (E := fun σ cls d H => E cls d σ H) (i := i) Fo hr hN hv hk hb (fun σ => passAt tk σ) (ha hK) hdb hcd he hpl).run pins s σ H Q I ⟨by rw [A.val i t ht, hv'], ?_⟩
          have := calF_run (n := n) (E := E) (Γ := Γ) (W := W) (m := ms j) (g := g) (σ := σ) (H := H) (Q := Q) ⟨F, G, sl, tm, A, q⟩
          simpa using this
        · rw [if_neg hj] at q; exact q.elim
      | _ => exact q.elim
end
end L2.Pv
end
section
set_option Elab.async false
set_option linter.all false
set_option autoImplicit false
set_option maxRecDepth 100000
namespace L2
open PySem PySem.Spec PyProof.Rows
/-! ### d.setdefault(k, v), tuple keys -/
def rSdT : V → List V → Hp → VK → Prop := fun x xs H Q => ∃ (a : Addr) (y v : V) (kvs : List (List Key × V)) (k : List Key) (b : Addr), x = .ref a ∧ xs = [y, v] ∧ y = .ref b ∧ H a = some (.dT kvs) ∧ H b = some (.tup (k.map kV)) ∧ kvs.length < sizeLine ∧
  ((∃ w, valV kvs k = some w ∧ Q w H) ∨ (valV kvs k = none ∧ Q v (upd H a (.dT (putK kvs k v)))))
theorem mt_sdT {X : Cx} (hu : X.A.units + 8 < cLine) : MtR X "dict.setdefault" rSdT := by
  intro pins s σ H x xs u us Q I rx rxs h
  obtain ⟨a, y, v, kvs, k, b, rfl, rfl, rfl, e, eb, l, q⟩ := h
  obtain rfl : u = Value.ref a := rx
  cases rxs with
  | cons ry rt =>
    cases rt with
    | cons rv rn =>
      cases rn
      rename_i uy uv
      obtain rfl : uy = Value.ref b := ry
      obtain ⟨z, hd, vs, rel, dd⟩ := dt_of I.hok e
      have hz : vs.length ≤ sizeLine := by rw [← Paired.length rel]; exact z
      have hl : (putK kvs k v).length ≤ sizeLine := by have := length_putK kvs k v; omega
      refine call_setdefault_heap (hsz := hz) (tupleKind_room_in1 (by omega)) (key_of I.hok eb) hd dd (fun p hp => ?_) fun hn h' dd' hs => ?_
      · have rr := rel.val k
        rw [hp] at rr
        rcases q with ⟨w, hw, q⟩ | ⟨hw, q⟩
        · rw [hw] at rr
          exact ⟨w, H, I.tok _, rr, q⟩
        · rw [hw] at rr
          exact rr.elim
      · have rr := rel.val k
        rw [hn] at rr
        rcases q with ⟨w, hw, q⟩ | ⟨hw, q⟩
        · rw [hw] at rr
          exact rr.elim
        · obtain ⟨qq, es, ep, hq, h2, h3, h4, hhh, h5⟩ := dd'
          refine ⟨v, upd H a (.dT (putK kvs k v)), d_write (ob := .dT (putK kvs k v)) I (by rw [e]; exact True.intro) hs ⟨qq, hq⟩ ⟨hl, hd, _, (rel.put k eb rv).keeps fun c ys ec => ?_, qq, es, ep, hq, h2, h3, h4, h5⟩, rv, q⟩
          rw [upd_ne (ne_of ec e (fun z => nomatch z))]
          exact ec
end L2

namespace L2.Pv
open PySem PySem.Spec PyProof.Rows
theorem kV_inj : Function.Injective kV := fun x y h => by
  cases x with
  | inl i => cases y with
    | inl j => exact congrArg Sum.inl (by injection h)
    | inr j => exact nomatch h
  | inr i => cases y with
    | inl j => exact nomatch h
    | inr j => exact congrArg Sum.inr (by injection h)
theorem mapKV : ∀ {a b : List Key}, a.map kV = b.map kV → a = b
  | [], [], _ => rfl
  | [], _ :: _, h => by simp at h
  | _ :: _, [], h => by simp at h
  | x :: a, y :: b, h => by
    simp only [List.map_cons, List.cons.injEq] at h
    rw [kV_inj h.1, mapKV h.2]
theorem T.wk_self (t : T) : t.wk t.kids = t := by cases t <;> rfl
theorem T.upd_self : ∀ {pi : List Nat} {w u : T}, T.at w pi = some u → T.upd w pi u = w
  | [], w, u, h => by cases h; rfl
  | k :: pi, w, u, h => by
    unfold T.at at h
    unfold T.upd
    cases hk : w.kids[k]? with
    | none => rfl
    | some x =>
      rw [hk] at h
      dsimp only at h ⊢
      rw [T.upd_self h]
      have e : w.kids.set k x = w.kids := by
        refine List.ext_getElem? fun i => ?_
        by_cases q : k = i
        · subst q
          rw [List.getElem?_set_self (List.getElem?_eq_some_iff.mp hk).1, hk]
        · rw [List.getElem?_set_ne q]
      rw [e, T.wk_self]
theorem set_self {α : Type} {l : List α} {j : Nat} {x : α} (h : l[j]? = some x) : l.set j x = l := by
  refine List.ext_getElem? fun i => ?_
  by_cases q : j = i
  · subst q
    rw [List.getElem?_set_self (List.getElem?_eq_some_iff.mp h).1, h]
  · rw [List.getElem?_set_ne q]
def mSdT : Mg := fun n ds => match n, ds with
  | .dic true (.t ks) xs, [k, v] => match k.keyT with
    | some kk => if xs.length < sizeLine then (match posOf ks kk with
      | some i => (xs[i]?).bind fun d => if nOwn d then some (.dic true (.t ks) xs, d) else none
      | none => if nOwn v then some (.dic true (.t (ks ++ [kk])) (xs ++ [v]), v) else none) else none
    | none => none
  | _, _ => none
section
variable {X : Cx} {Γ : Gm}
theorem m_sdT (hu : X.A.units + 8 < cLine) : MtG X Γ "dict.setdefault" mSdT := fun hK => by
  refine ⟨_, mt_sdT hu, ?_⟩
  intro F σ H G sl tm ts w u j pi nd rd Q A hj hu hg q
  have gu := (node_at A hj hu).2
  unfold mSdT at hg
  split at hg
  · rename_i ks xs k v en ed
    cases ts with
    | nil => cases ed
    | cons tk ts =>
      cases ts with
      | nil => cases ed
      | cons tv ts =>
        cases ts with
        | cons t3 ts => cases ed
        | nil =>
          cases ed
          cases hk : tk.d.keyT with
          | none => rw [hk] at hg; cases hg
          | some kk =>
            rw [hk] at hg
            dsimp only at hg
            split at hg
            · rename_i hz
              have A0 : Abs Γ F σ H G sl (tk :: tv :: tm) := A
              have gk : Good Γ G H tk := A0.goodT tk List.mem_cons_self
              obtain ⟨b, ev, eb⟩ := keyT_v A.sub gk hk
              obtain ⟨p, us, eu, ets, hH, hz2, hl, hnd⟩ := node_dic gu en
              subst eu ets
              rw [List.length_map] at hz
              have hl : ks.length = us.length := hl
              have hlv : ks.length = (us.map T.v).length := by rw [List.length_map]; exact hl
              cases hp : posOf ks kk with
              | some i =>
                rw [hp] at hg
                dsimp only at hg
                rw [List.getElem?_map] at hg
                cases hx : us[i]? with
                | none => rw [hx] at hg; cases hg
                | some c =>
                  rw [hx] at hg
                  have hg : (if nOwn c.d = true then some (D.dic true (.t ks) (us.map T.d), c.d) else none) = some (nd, rd) := hg
                  split at hg
                  · rename_i ho
                    cases hg
                    have gc : Good Γ G H c := Goods_iff.mp gu.2 c (List.mem_of_getElem? hx)
                    have el := leaf_of_own gc (by simpa [nOwn] using ho)
                    have hv : valV (ks.zip (us.map T.v)) kk = some c.v := by
                      rw [valV_zip hlv, hp]
                      show (us.map T.v)[i]? = _
                      rw [List.getElem?_map, hx]
                      rfl
                    refine ⟨p, tk.v, tv.v, _, kk, b, rfl, rfl, ev, hH, A.sub _ _ eb, by rw [List.length_zip, List.length_map]; omega, .inl ⟨c.v, hv, ?_⟩⟩
                    rw [el] at gc
                    have A1 := (A0.drop.drop).leaf gc
                    refine q H G (.dic p (.t ks) us) (.leaf c.v c.d) ?_ (Sub.refl G) (by rw [T.d, T.ds_map]) rfl
                    rw [T.upd_self hu, set_self hj]
                    exact A1
                  · cases hg
              | none =>
                rw [hp] at hg
                dsimp only at hg
                split at hg
                · rename_i ho
                  cases hg
                  have gt : Good Γ G H tv := A0.goodT tv (List.mem_cons_of_mem _ List.mem_cons_self)
                  have el := leaf_of_own gt (by simpa [nOwn] using ho)
                  have hv : valV (ks.zip (us.map T.v)) kk = none := by
                    rw [valV_zip hlv, hp]
                    rfl
                  refine ⟨p, tk.v, tv.v, _, kk, b, rfl, rfl, ev, hH, A.sub _ _ eb, by rw [List.length_zip, List.length_map]; omega, .inr ⟨hv, ?_⟩⟩
                  have hpd : putD (T.dic p (.t ks) us).d tk.d tv.d = some (.dic true (.t (ks ++ [kk])) (us.map T.d ++ [tv.d])) := by
                    have hx : (DKs.t ks).ix tk.d = some none := by unfold DKs.ix; dsimp only; rw [hk, Option.map_some, hp]
                    show putD (D.dic true (.t ks) (T.ds us)) tk.d tv.d = _
                    unfold putD
                    dsimp only
                    simp only [hx, T.ds_map, List.length_map, if_pos hz, DKs.snoc, hk, Option.map_some]
                  obtain ⟨p', o, n, e1, e2, B, hput⟩ := Abs.put A0.drop hj hu gk hpd
                  have e1 : V.ref p = V.ref p' := e1
                  cases e1
                  have ho2 : upd H p o = upd H p (.dT (putK (ks.zip (us.map T.v)) kk tv.v)) := by
                    rcases hput with ⟨xs, i, k, _, h2, _⟩ | hput
                    · rw [hH] at h2; cases h2
                    · rcases hput with ⟨kvs, k, h1, _⟩ | ⟨kvs, k, b', h1, h2, h3, _, h5⟩
                      · rw [hH] at h1; cases h1
                      · rw [hH] at h1
                        cases h1
                        rw [ev] at h2
                        cases h2
                        have := A.sub _ _ eb
                        rw [h3] at this
                        have hkk : k = kk := by
                          injection this with z
                          injection z with z
                          exact mapKV z
                        subst hkk
                        exact h5
                  rw [ho2] at B
                  rw [el] at gt
                  have rt : Rep Γ G tv.v tv.d := gt
                  exact q _ G n (.leaf tv.v tv.d) (B.leaf rt) (Sub.refl G) (by rw [e2]) rfl
                · cases hg
            · cases hg
  · cases hg
end
end L2.Pv
end
section
set_option Elab.async false
set_option linter.all false
set_option autoImplicit false
set_option maxRecDepth 100000
namespace L2
open PySem PySem.Spec PyProof.Rows
/-! ### dict([(t, v), ..]), the keys tuples -/
def mergeT (acc kvs : List (List Key × V)) : List (List Key × V) := kvs.foldl (fun acc kv => putK acc kv.1 kv.2) acc
theorem length_mergeT : ∀ (kvs acc : List (List Key × V)), (mergeT acc kvs).length ≤ acc.length + kvs.length
  | [], acc => by show acc.length ≤ _; simp
  | kv :: kvs, acc => by
    have h1 := length_mergeT kvs (putK acc kv.1 kv.2)
    have h2 := length_putK acc kv.1 kv.2
    show (mergeT (putK acc kv.1 kv.2) kvs).length ≤ _
    rw [List.length_cons]
    omega
theorem KT_merge {H : Hp} : ∀ {kvs : List (List Key × V)} {prs : List (List Key × Addr × Value)}, KT H kvs prs → ∀ {acc : List (List Key × V)} {xs : List (List Key × Addr × Value)}, KT H acc xs → KT H (mergeT acc kvs) (storedAllH xs prs)
  | _, _, .nil, _, _, a => a
  | _, _, .cons (a := p) (b := q) h t, acc, xs, a => by
    obtain ⟨h1, h2, h3⟩ := h
    have z := KT_merge t (KT.put a p.1 (b := q.2.1) h2 h3)
    rw [h1] at z
    show KT H (mergeT (putK acc p.1 p.2) _) (storedAllH (storedH xs q.1 q.2.1 q.2.2) _)
    rw [h1]
    exact z
section
variable {X : Cx}
theorem pairsT_of {pins : List (Addr × Obj)} {σ : St} {H : Hp} {s : Shared} (I : Inv X pins σ H s) : ∀ {ps : List Addr} {kvs : List (List Key × V)}, Paired (fun p kv => ∃ b, SqT X.K H p [.ref b, kv.2] ∧ H b = some (.tup (kv.1.map kV))) ps kvs →
    ∃ prs : List (List Key × Addr × Value), KT H kvs prs ∧ prs.length = ps.length ∧ ∀ (j : Nat) (q : List Key × Addr × Value), prs[j]? = some q → ∃ T, ps[j]? = some T ∧ s.heap.IsTuple T #[.ref q.2.1, q.2.2]
  | _, _, .nil => ⟨[], .nil, rfl, fun j q e => by simp at e⟩
  | _, _, .cons (a := p) (b := kv) h t => by
    obtain ⟨prs, r, hl, hp⟩ := pairsT_of I t
    obtain ⟨b, hq, hb⟩ := h
    obtain ⟨its, rv, ht, _⟩ := I.tuple hq
    obtain ⟨u, y, ei, ru, ry⟩ := vals2 rv
    subst ei
    obtain rfl : u = Value.ref b := ru
    refine ⟨(kv.1, b, y) :: prs, .cons ⟨rfl, hb, ry⟩ r, by rw [List.length_cons, List.length_cons, hl], fun j q e => ?_⟩
    cases j with
    | zero =>
      have e' : (kv.1, b, y) = q := Option.some.inj e
      subst e'
      exact ⟨p, rfl, ht⟩
    | succ j =>
      obtain ⟨T, e1, e2⟩ := hp j q (by simpa using e)
      exact ⟨T, by simpa using e1, e2⟩
theorem call_dictPT (hcalm : X.calm = true) (hu : X.A.units + 8 < cLine) : CallR X (.type "dict") (fun xs H Q => ∃ (a : Addr) (ps : List Addr) (kvs : List (List Key × V)), xs = [.ref a] ∧ SqL X.K H a (ps.map V.ref) ∧ Paired (fun p kv => ∃ b, SqT X.K H p [.ref b, kv.2] ∧ H b = some (.tup (kv.1.map kV))) ps kvs ∧
    ∀ p, H p = none → Q (.ref p) (upd H p (.dT (mergeT [] kvs)))) := by
  intro pins s σ H xs us Q I r q
  obtain ⟨a, ps, kvs, ex, hq, hp, q⟩ := q
  subst ex
  obtain ⟨u, eu, rx⟩ := vals1 r
  subst eu
  cases rx
  obtain ⟨its, rv, pl, hz⟩ := I.list hq
  have ei := refs_at rv
  subst ei
  rw [List.length_map] at hz
  obtain ⟨prs, rel, hl, hpr⟩ := pairsT_of I hp
  obtain ⟨o, n, ho, hc, hd, hdat⟩ := pl
  refine call_dict_pairsH (knd := tupleKind (mixKind X.prog X.w)) (ps := prs) (PairArg.list a (ps.map Value.ref).toArray (fun j => ps[j]?.getD 0) (prs.map fun q => (Value.ref q.2.1, q.2.2))) (I.ok.hd hcalm) (tupleKind_room_in1 (by show X.A.in1.units + 1 < cLine; have : X.A.in1.units = X.A.units + 1 := rfl; omega))
    ⟨⟨o, n, ho, hc, hd, hdat⟩, ⟨by simp [hl], fun j k v hj => ?_⟩⟩ ⟨by simp, fun i key v hr => ?_⟩ (fun h' hk x hx => ?_) (by simp [hl]; exact hz) fun h' tk hd' k => ?_
  · rw [List.getElem?_map] at hj
    cases hx : prs[j]? with
    | none => rw [hx] at hj; cases hj
    | some q =>
      rw [hx] at hj
      cases hj
      obtain ⟨T, e1, e2⟩ := hpr j q hx
      refine ⟨by simp [e1], .inl ?_⟩
      show s.heap.IsTuple (ps[j]?.getD 0) _
      rw [e1]
      exact e2
  · have hr : (prs.map fun q => (Value.ref q.2.1, q.2.2))[i]? = some (key, v) := hr
    rw [List.getElem?_map] at hr
    cases hx : prs[i]? with
    | none => rw [hx] at hr; cases hr
    | some q =>
      rw [hx] at hr
      cases hr
      exact ⟨q.1, q.2.1, rfl, rfl⟩
  · obtain ⟨j, hj⟩ := List.getElem?_of_mem hx
    have hb : H x.2.1 = some (.tup (x.1.map kV)) := by
      have hjl := (List.getElem?_eq_some_iff.mp hj).1
      have hjk : j < kvs.length := by rw [Paired.length rel]; exact hjl
      obtain ⟨y, e0, e1, e2, _⟩ := paired_get rel (List.getElem?_eq_getElem hjk)
      rw [hj] at e0
      cases e0
      rw [← e1]
      exact e2
    have ky := key_of I.hok hb
    obtain ⟨o, its, n, h1, h2, h3, h4⟩ := ky
    refine ⟨o, its, n, hk _ _ (Nat.ne_of_lt (Heap.lt_size h1)) (by simp) h1, h2, h3, h4⟩
  · have hm : (s.heap.objs.size == sysModules) = false := beq_eq_false_iff_ne.mpr (Nat.ne_of_gt I.big)
    have hlen : (mergeT [] kvs).length ≤ sizeLine := by
      refine Nat.le_trans (length_mergeT kvs []) ?_
      rw [List.length_nil, Nat.zero_add, Paired.length rel, hl]
      exact hz
    have fr : H s.heap.objs.size = none := I.hok.fresh (Nat.le_refl _)
    have kt : KT H (mergeT [] kvs) (storedAllH [] prs) := KT_merge rel .nil
    obtain ⟨qq, es, ep, hq2, h2, h3, h4, hhh, h5⟩ := hd'
    have kt2 : KT (upd H s.heap.objs.size (.dT (mergeT [] kvs))) (mergeT [] kvs) (storedAllH [] prs) := KT.keeps kt fun c ys ec => by
      rw [upd_ne (ne_of_none ec fr)]
      exact ec
    exact ⟨.ref s.heap.objs.size, upd H s.heap.objs.size (.dT (mergeT [] kvs)), I.laid (t' := tk) (fun b o e => k b o (by simp) e) (Nat.le_refl _) (show ObjOk X.prog X.w _ _ _ (.dT (mergeT [] kvs)) from ⟨hlen, hm, _, kt2, qq, es, ep, hq2, h2, h3, h4, h5⟩), rfl, q _ fr⟩
end
end L2
end
section
set_option Elab.async false
set_option linter.all false
set_option autoImplicit false
set_option maxRecDepth 100000
namespace L2.Pv
open PySem PySem.Spec PyProof.Rows
/-! ### dict([(t, v), ..]) -/
def mergeD : List (List Key) → List D → List (List Key × D) → List (List Key) × List D
  | ks, xs, [] => (ks, xs)
  | ks, xs, (k, d) :: r => match posOf ks k with
    | some i => mergeD ks (xs.set i d) r
    | none => mergeD (ks ++ [k]) (xs ++ [d]) r
/-- a list of pairs: tuple key, value -/
def pairsD : List D → Option (List (List Key × D))
  | [] => some []
  | .tup [k, v] :: r => match k.keyT, pairsD r with
    | some kk, some ps => if nOwn v then some ((kk, v) :: ps) else none
    | _, _ => none
  | _ => none
def dDictP (a : D) : Option D := match a with
  | .lst _ xs => match pairsD xs with
    | some ps => some (.dic true (.t (mergeD [] [] ps).1) (mergeD [] [] ps).2)
    | none => none
  | _ => none
section
variable {Γ : Gm}
theorem Reps.set {G : Hp} {v : V} {d : D} (r : Rep Γ G v d) : ∀ {vs : List V} {ds : List D} (i : Nat), Reps Γ G vs ds → Reps Γ G (vs.set i v) (ds.set i d)
  | _, [], i, h => by rw [show _ = [] from h]; simp [Reps]
  | _, x :: ds, 0, h => by
    obtain ⟨u, t, e, h1, h2⟩ := h
    subst e
    exact ⟨v, t, rfl, r, h2⟩
  | _, x :: ds, i + 1, h => by
    obtain ⟨u, t, e, h1, h2⟩ := h
    subst e
    exact ⟨u, t.set i v, rfl, h1, Reps.set r i h2⟩
theorem mergeT_D {G : Hp} : ∀ {kvs : List (List Key × V)} {kds : List (List Key × D)} {ks : List (List Key)} {vs : List V} {ds : List D}, Paired (fun p q => p.1 = q.1 ∧ Rep Γ G p.2 q.2) kvs kds → ks.length = vs.length → ks.Nodup → Reps Γ G vs ds →
    ∃ vs', mergeT (ks.zip vs) kvs = (mergeD ks ds kds).1.zip vs' ∧ (mergeD ks ds kds).1.length = vs'.length ∧ (mergeD ks ds kds).1.Nodup ∧ Reps Γ G vs' (mergeD ks ds kds).2 ∧ vs'.length ≤ vs.length + kvs.length
  | _, _, ks, vs, ds, .nil, hl, nd, r => ⟨vs, rfl, hl, nd, r, by simp⟩
  | _, _, ks, vs, ds, .cons (a := p) (b := q) h t, hl, nd, r => by
    obtain ⟨h1, h2⟩ := h
    obtain ⟨kk, d⟩ := q
    have h1 : p.1 = kk := h1
    cases hp : posOf ks kk with
    | some i =>
      obtain ⟨vs', e1, e2, e3, e4, e5⟩ := mergeT_D t (ks := ks) (vs := vs.set i p.2) (ds := ds.set i d) (by rw [List.length_set]; exact hl) nd (Reps.set h2 i r)
      have em : ∀ r, mergeD ks ds ((kk, d) :: r) = mergeD ks (ds.set i d) r := fun r => by rw [mergeD, hp]
      refine ⟨vs', ?_, ?_⟩
      · rw [em]
        show mergeT (putK (ks.zip vs) p.1 p.2) _ = _
        rw [h1, putK_there p.2 hp hl nd]
        exact e1
      · rw [em]
        exact ⟨e2, e3, e4, by rw [List.length_set] at e5; rw [List.length_cons]; omega⟩
    | none =>
      obtain ⟨vs', e1, e2, e3, e4, e5⟩ := mergeT_D t (ks := ks ++ [kk]) (vs := vs ++ [p.2]) (ds := ds ++ [d]) (by rw [List.length_append, List.length_append, hl]; rfl) (nd_snoc nd (posOf_none hp)) (r.append ⟨p.2, [], rfl, h2, rfl⟩)
      have em : ∀ r, mergeD ks ds ((kk, d) :: r) = mergeD (ks ++ [kk]) (ds ++ [d]) r := fun r => by rw [mergeD, hp]
      refine ⟨vs', ?_, ?_⟩
      · rw [em]
        show mergeT (putK (ks.zip vs) p.1 p.2) _ = _
        rw [h1, putK_not p.2 hp hl]
        exact e1
      · rw [em]
        exact ⟨e2, e3, e4, by rw [List.length_append] at e5; rw [List.length_cons]; simp at e5; omega⟩
theorem pairs_views {K : PySem.W.Frag} (hK : K = Γ.K) {G H : Hp} (s : Sub G H) : ∀ {xs : List D} {vs : List V} {kds : List (List Key × D)}, Reps Γ G vs xs → pairsD xs = some kds →
    ∃ (ps : List Addr) (kvs : List (List Key × V)), vs = ps.map V.ref ∧ Paired (fun p kv => ∃ b, SqT K H p [.ref b, kv.2] ∧ H b = some (.tup (kv.1.map kV))) ps kvs ∧ Paired (fun p q => p.1 = q.1 ∧ Rep Γ G p.2 q.2) kvs kds
  | [], vs, kds, r, h => by
    cases h
    exact ⟨[], [], r, .nil, .nil⟩
  | x :: xs, vs, kds, r, h => by
    obtain ⟨v0, rest, e, r1, r2⟩ := r
    subst e
    unfold pairsD at h
    split at h
    · cases ‹_ :: _ = []›
    · rename_i k v r' heq
      cases heq
      split at h
      · rename_i kk ps hk hps
        split at h
        · rename_i ho
          cases h
          obtain ⟨ps', kvs, e1, p1, p2⟩ := pairs_views hK s r2 hps
          obtain ⟨z, a, ws, ev, q, rw'⟩ := r1
          obtain ⟨vk, rk, e2, rk1, rk2⟩ := rw'
          obtain ⟨vv, rv, e3, rv1, rv2⟩ := rk2
          have e4 : rv = [] := rv2
          subst e4 e3 e2
          obtain ⟨b, eb, hb⟩ := keyT_v s (t := .leaf vk k) (Γ := Γ) (G := G) (H := H) rk1 hk
          have eb : vk = .ref b := eb
          subst eb
          exact ⟨a :: ps', (kk, vv) :: kvs, by rw [ev, e1]; rfl, .cons ⟨b, by rw [hK]; exact sqT_of s q, s _ _ hb⟩ p1, .cons ⟨rfl, rv1⟩ p2⟩
        · cases h
      · cases h
    · cases h
theorem leaves_of {G : Hp} : ∀ {vs : List V} {ds : List D}, Reps Γ G vs ds → ∃ ts : List T, ts.map T.v = vs ∧ ts.map T.d = ds ∧ ∀ t ∈ ts, ∃ v d, t = .leaf v d ∧ Rep Γ G v d
  | vs, [], h => ⟨[], by rw [show vs = [] from h]; rfl, rfl, fun t ht => absurd ht (by simp)⟩
  | _, d :: ds, ⟨v, r, e, h1, h2⟩ => by
    subst e
    obtain ⟨ts, e1, e2, e3⟩ := leaves_of h2
    refine ⟨.leaf v d :: ts, by rw [List.map_cons, e1]; rfl, by rw [List.map_cons, e2]; rfl, fun t ht => ?_⟩
    rcases List.mem_cons.mp ht with rfl | ht
    · exact ⟨v, d, rfl, h1⟩
    · exact e3 t ht
theorem cnts_leaves {a : Addr} {G : Hp} : ∀ {ts : List T}, (∀ t ∈ ts, ∃ v d, t = .leaf v d ∧ Rep Γ G v d) → T.cnts a ts = 0
  | [], _ => rfl
  | t :: ts, h => by
    obtain ⟨v, d, e, _⟩ := h t List.mem_cons_self
    subst e
    rw [T.cnts, T.cnt, cnts_leaves fun t ht => h t (List.mem_cons_of_mem _ ht)]
theorem Abs.newDicT {F : Fr} {σ : St} {H G : Hp} {sl : TS'} {tm : List T} (A : Abs Γ F σ H G sl tm) {p : Addr} (hp : H p = none) {ks : List (List Key)} {vs : List V} {ds : List D} (hl : ks.length = vs.length) (nd : ks.Nodup) (hz : vs.length ≤ sizeLine) (r : Reps Γ G vs ds) :
    ∃ ts, T.ds ts = ds ∧ Abs Γ F σ (upd H p (.dT (ks.zip vs))) G sl (.dic p (.t ks) ts :: tm) := by
  obtain ⟨ts, e1, e2, e3⟩ := leaves_of r
  refine ⟨ts, by rw [T.ds_map]; exact e2, ?_⟩
  have B := A.grow (o := .dT (ks.zip vs)) hp
  obtain ⟨n1, n2⟩ := A.new0 hp
  have c0 : cS p sl + T.cnts p tm = 0 := by
    by_cases e : 0 < cS p sl + T.cnts p tm
    · exact absurd hp (A.sep p e).2.1
    · omega
  have cl : ∀ a, T.cnts a ts = 0 := fun a => cnts_leaves e3
  have ec : ∀ a, T.cnts a (T.dic p (.t ks) ts :: tm) = (if p = a then 1 else 0) + T.cnts a tm := fun a => by rw [T.cnts, T.cnt, cl]; omega
  have hlt : ts.length = vs.length := by rw [← e1, List.length_map]
  refine ⟨B.len, B.val, B.sub, B.keep, B.dom, B.g0, B.goodS, fun u hu => ?_, fun a => ?_, fun a ha => ?_, B.fresh, B.tabs⟩
  · rcases List.mem_cons.mp hu with rfl | hu
    · refine ⟨⟨by rw [upd_same, e1]; rfl, by omega, ⟨by rw [hlt]; exact hl, nd⟩⟩, Goods_iff.mpr fun t ht => ?_⟩
      obtain ⟨v, d, e, q⟩ := e3 t ht
      subst e
      exact q
    · exact B.goodT u hu
  · rw [ec]
    by_cases e : p = a
    · subst e; rw [if_pos rfl]; omega
    · rw [if_neg e]; have := A.one a; omega
  · rw [ec] at ha
    by_cases e : p = a
    · subst e
      refine ⟨n1, ?_, .inl n2⟩
      rw [upd_same]
      exact fun z => nomatch z
    · rw [if_neg e] at ha
      exact B.sep a (by omega)
theorem k_dictP {X : Cx} (hc : X.calm = true) (hu : X.A.units + 8 < cLine) : Cal1 X Γ (.type "dict") dDictP := fun hK => by
  refine ⟨_, call_dictPT hc hu, ?_⟩
  rintro F σ H G sl tm t d Q A g hg h
  unfold dDictP at hg
  split at hg
  · rename_i o xs e
    split at hg
    · rename_i ps hps
      cases hg
      have ho : xs.all nOwn = true := by
        have : ∀ {xs : List D} {ps : List (List Key × D)}, pairsD xs = some ps → xs.all nOwn = true := by
          intro xs
          induction xs with
          | nil => intro ps _; rfl
          | cons x xs ih =>
            intro ps h
            unfold pairsD at h
            split at h
            · cases ‹_ :: _ = []›
            · rename_i k v r heq
              cases heq
              split at h
              · rename_i kk ps' hk hps'
                rw [List.all_cons, ih hps']
                rfl
              · cases h
            · cases h
        exact this hps
      obtain ⟨z, a, vs, ev, q, r⟩ := lst_of A.sub g e ho
      obtain ⟨as, kvs, e1, p1, p2⟩ := pairs_views hK A.sub r hps
      refine ⟨a, as, kvs, by rw [ev], ?_, p1, fun p hp => ?_⟩
      · rw [← e1]; exact SqL.of q
      · obtain ⟨vs', f1, f2, f3, f4, f5⟩ := mergeT_D p2 (ks := []) (vs := []) (ds := []) rfl List.nodup_nil rfl
        have hlen : vs'.length ≤ sizeLine := by
          have l1 := p1.length
          have l2 : vs.length = as.length := by rw [e1, List.length_map]
          have l3 := r.len
          simp at f5
          omega
        obtain ⟨ts, et, B⟩ := A.newDicT hp f2 f3 hlen f4
        have f1 : mergeT [] kvs = _ := f1
        rw [f1]
        refine h _ G (.dic p _ ts) B (Sub.refl G) ?_
        rw [T.d, et]
    · cases hg
  · cases hg
end
end L2.Pv
end
section
set_option Elab.async false
set_option linter.all false
set_option autoImplicit false
set_option maxRecDepth 100000
namespace L2.Pv
open PySem PySem.Spec PyProof.Rows
/-! ### repr -/
mutual
def D.pyR : D → PyData
  | .non => .none
  | .bl b => .bool b
  | .int i => .int i
  | .str x => .str x
  | .tup xs => .tuple (D.pyRs xs)
  | .lst _ xs => .list (D.pyRs xs)
  | .scr _ => .none
  | .fn _ => .none
  | .rf _ => .none
  | .lam _ _ _ => .none
  | .ldc _ _ => .none
  | .dic _ _ _ => .dict []
  | .obj _ _ _ => .none
def D.pyRs : List D → List PyData
  | [] => []
  | x :: xs => D.pyR x :: D.pyRs xs
end
mutual
def D.repOk : D → Bool
  | .non => true
  | .bl _ => true
  | .int _ => true
  | .str _ => true
  | .tup xs => D.repOks xs
  | .lst _ xs => D.repOks xs
  | .dic _ (.k []) [] => true
  | _ => false
def D.repOks : List D → Bool
  | [] => true
  | x :: xs => D.repOk x && D.repOks xs
end
section
variable {X : Cx} {Γ : Gm} {pins : List (Addr × Obj)} {σ : St} {H : Hp} {s : Shared}
mutual
theorem View.reads (I : Inv X pins σ H s) (hK : X.K = Γ.K) (h1 : ∃ o u, H sysModules = some (.frz o u)) : ∀ {v : V} {u : Value} (d : D), View Γ H v d → d.repOk = true → RelV v u → ∃ as, Reads s.heap u d.pyR as ∧ sysModules ∉ as
  | _, _, .non, h, _, r => by
    rw [show _ = V.non from h] at r
    cases r
    exact ⟨_, Reads.none, by simp⟩
  | _, _, .bl b, h, _, r => by
    rw [show _ = V.bl b from h] at r
    cases r
    exact ⟨_, Reads.bool b, by simp⟩
  | _, _, .int i, h, _, r => by
    rw [show _ = V.int i from h] at r
    obtain ⟨t, rfl⟩ := r
    exact ⟨_, Reads.int i t, by simp⟩
  | _, _, .str x, h, _, r => by
    rw [show _ = V.str x from h] at r
    obtain ⟨t, rfl⟩ := r
    exact ⟨_, Reads.str x t, by simp⟩
  | _, _, .tup xs, ⟨z, a, vs, e, q, w⟩, k, r => by
    subst e
    cases r
    obtain ⟨its, rv, ⟨o, ho, hc, n, hd⟩, _⟩ := I.tuple (by rw [hK]; exact q)
    obtain ⟨as, hr, hn⟩ := Views.reads I hK h1 xs w k rv
    exact ⟨_, Reads.tuple ho hc hd hr, hn⟩
  | _, _, .lst ow xs, ⟨z, a, vs, e, q, w⟩, k, r => by
    subst e
    cases r
    obtain ⟨its, rv, ⟨o, n, ho, hc, _, hd⟩, _⟩ := I.list (SqL.of q)
    obtain ⟨as, hr, hn⟩ := Views.reads I hK h1 xs w k rv
    refine ⟨_, Reads.list ho hc hd hr, fun hm => ?_⟩
    rcases List.mem_cons.mp hm with e | hm
    · obtain ⟨o1, u1, hφ⟩ := h1
      rw [e, q] at hφ
      cases hφ
    · exact hn hm
  | _, _, .dic ow (.k []) [], ⟨z, a, vs, e, q, w⟩, _, r => by
    subst e
    cases r
    have q : H a = some (.dK []) := q
    obtain ⟨_, hd, prs, rel, o, es, ep, ho, hx, hdt, _, pr, _⟩ := dk_of I.hok q
    cases rel
    have e0 : es.toList = [] := by
      cases hes : es.toList with
      | nil => rfl
      | cons x xs => rw [hes] at pr; cases pr
    have hr : Reads s.heap (.ref a) (.dict []) (a :: [] ++ []) := Reads.dict (kvs := []) ho hx.1 hdt (by rw [e0]; exact .nil) (by rw [e0]; exact .nil)
    refine ⟨_, hr, fun hm => ?_⟩
    have : sysModules = a := by simpa using hm
    subst this
    simp at hd
  | _, _, .scr _, _, k, _ => nomatch k
  | _, _, .fn _, _, k, _ => nomatch k
  | _, _, .rf _, _, k, _ => nomatch k
  | _, _, .lam _ _ _, _, k, _ => nomatch k
  | _, _, .ldc _ _, _, k, _ => nomatch k
  | _, _, .dic _ (.k []) (_ :: _), _, k, _ => nomatch k
  | _, _, .dic _ (.k (_ :: _)) _, _, k, _ => nomatch k
  | _, _, .dic _ (.t _) _, _, k, _ => nomatch k
  | _, _, .obj _ _ _, _, k, _ => nomatch k
theorem Views.reads (I : Inv X pins σ H s) (hK : X.K = Γ.K) (h1 : ∃ o u, H sysModules = some (.frz o u)) : ∀ {vs : List V} {us : List Value} (ds : List D), Views Γ H vs ds → D.repOks ds = true → Vals vs us → ∃ as, ReadsAll s.heap us (D.pyRs ds) as ∧ sysModules ∉ as
  | _, _, [], h, _, r => by
    rw [show _ = [] from h] at r
    cases r
    exact ⟨_, ReadsAll.nil, by simp⟩
  | _, _, d :: ds, ⟨v, rest, e, a1, a2⟩, k, r => by
    subst e
    unfold D.repOks at k
    rw [Bool.and_eq_true] at k
    cases r with
    | cons r1 r2 =>
      obtain ⟨as, q1, n1⟩ := View.reads I hK h1 d a1 k.1 r1
      obtain ⟨bs, q2, n2⟩ := Views.reads I hK h1 ds a2 k.2 r2
      exact ⟨_, ReadsAll.cons q1 q2, fun hm => (List.mem_append.mp hm).elim n1 n2⟩
end
theorem call_repr (hK : X.K = Γ.K) (hg : X.A.guards = some []) (hu : X.A.units + 65 < cLine) : CallR X (.builtin "repr") (fun xs H Q => ∃ (a : Addr) (d : D), xs = [.ref a] ∧ View Γ H (.ref a) d ∧ d.repOk = true ∧ (∃ o u, H sysModules = some (.frz o u)) ∧ d.pyR.showable = true ∧ d.pyR.depth + 1 ≤ 65 ∧ d.pyR.shown.length ≤ sizeLine ∧
    Q (.str d.pyR.shown) H) := by
  intro pins s σ H xs us Q I r ⟨a, d, ex, vw, ok, h1, hs, hd, hz, q⟩
  subst ex
  obtain ⟨u, eu, rx⟩ := vals1 r
  subst eu
  obtain rfl : u = Value.ref a := rx
  obtain ⟨as, hr, hn⟩ := View.reads (u := .ref a) I hK h1 d vw ok rfl
  exact repr_of_reads' hr hs (fun _ => hn) hg (by omega) (fun b o e => e) (fun h' u tk k => ⟨.str d.pyR.shown, H, I.kept k, ⟨u, rfl⟩, q⟩) hz
def dRepr (a : D) : Option D := match a with
  | .lst o xs => if ((D.lst o xs).repOk && (D.lst o xs).pyR.showable && decide ((D.lst o xs).pyR.depth + 1 ≤ 65) && decide ((D.lst o xs).pyR.shown.length ≤ sizeLine)) = true then some (.str (D.lst o xs).pyR.shown) else none
  | _ => none
theorem k_repr (hg : X.A.guards = some []) (hu : X.A.units + 65 < cLine) (hgb : ∃ o u, Γ.gb sysModules = some (.frz o u)) : Cal1 X Γ (.builtin "repr") dRepr := fun hK => by
  refine ⟨_, call_repr hK hg hu, ?_⟩
  rintro F σ H G sl tm t d Q A g hg2 h
  unfold dRepr at hg2
  split at hg2
  · rename_i o xs e
    split at hg2
    · rename_i hc
      cases hg2
      simp only [Bool.and_eq_true, decide_eq_true_eq] at hc
      obtain ⟨⟨⟨c1, c2⟩, c3⟩, c4⟩ := hc
      have vw := g.view A.sub
      rw [e] at vw
      obtain ⟨z, a, vs, ev, q, r⟩ := id vw
      obtain ⟨o1, u1, hφ⟩ := hgb
      rw [ev] at vw
      refine ⟨a, D.lst o xs, by rw [ev], vw, c1, ⟨o1, u1, A.sub _ _ (A.g0.2.1 _ _ hφ)⟩, c2, c3, c4, h.here A rfl⟩
    · cases hg2
  · cases hg2
end
end L2.Pv
end
section
set_option Elab.async false
set_option linter.all false
set_option autoImplicit false
set_option maxRecDepth 100000
namespace L2.Pv
open PySem PySem.Spec PyProof.Rows
/-! ### a def's promise where no repr runs -/
structure FnG (P : Program) (w : World) (K : PySem.W.Frag) (mg : Str → Option Value) (base : Heap) (k : Nat) (f : Addr) (fd : FuncData) (ps : List Str) (sp : Sp) : Prop where
  len : ∀ vs H Q E, sp vs H Q E → vs.length = ps.length
  run : ∀ (A : Around) (outer : List Env) (s : Shared) (H : Hp) (args : Args) (us : List Value) (vs : List V) (Q : VK) (E : XK), A.guards = some [] → Room k A → Env0 P w K mg base A outer s H → BindsTo s fd args (ps.zip us) → Vals vs us → sp vs H Q E →
    codeAny (model P w) A (.call (.ref f) args) (CR (L2.CX P w) outer P w H s Q E) s
theorem FnOk.g {P : Program} {w : World} {K : PySem.W.Frag} {mg : Str → Option Value} {base : Heap} {k : Nat} {f : Addr} {fd : FuncData} {ps : List Str} {sp : Sp} (F : FnOk P w K mg base (L2.CX P w) k f fd ps sp) : FnG P w K mg base k f fd ps sp :=
  ⟨F.len, fun A outer s H args us vs Q E _ => F.run A outer s H args us vs Q E⟩
section
variable {P : Program} {w : World} {K : PySem.W.Frag} {mg : Str → Option Value} {base : Heap} {Γ : Gm}
theorem fn_okG {x qual : Str} {st : Stmt} {f : Addr} {fd : FuncData} {N ps : List Str} {k : Nat} {io : List Nat} {m : List D → FOut} {g : Es} (F : Fun K x qual st f fd) (S : FnScope N ps (defScope st)) (hK : K = Γ.K) (hn : io.Nodup) (hio : ∀ i ∈ io, i < ps.length)
    (hm : ∀ ds, m ds = runF io N.length ps.length g ds)
    (body : ∀ (cdv : Value) (A : Around) (outer : List Env) (s : Shared) (H : Hp) (E : XK), A.guards = some [] → Room k (A.deeper (envOfC qual (defScope st) s.heap.objs.size f cdv)) →
      SB (cxOf (L2.CX P w) P w K mg base N qual (defScope st) f cdv A outer s H E) Γ (fun cls d _ H' => E cls d H') io (defBody st) g) : FnG P w K mg base (k + 1) f fd ps (spF Γ io m) := by
  obtain ⟨oc, od, kV, doc, pm, an, cdv, ct, osl, rfl, lk, hcd⟩ := F.ex
  refine ⟨spF_len hm, fun A outer s H args us vs Q E hg hr e0 hb r hsp => ?_⟩
  exact LamX.run_ofS lk hcd S hr e0 hb r (spF_len hm vs H Q E hsp) fun hr' => ⟨_, body cdv A outer s H E hg hr' hK, spF_start hn hio hm hsp⟩
end
end L2.Pv
end
section
set_option Elab.async false
set_option linter.all false
set_option autoImplicit false
set_option maxRecDepth 100000
namespace L2.Pv
open PySem PySem.Spec PyProof.Rows
section
variable {X : Cx} {k : Nat} {f : Addr} {fd : FuncData} {ps : List Str} {sp : Sp} {E : St → XK} {x : Str} {p pos : Pos} {e : Expr} {es : List Expr} {t : TA}
theorem pe_callG (F : FnG X.prog X.w X.K X.mg X.base k f fd ps sp) (hgd : X.A.guards = some []) (hr : Room k X.A) (hg : Gl X x) (hm : X.mg x = some (.ref f)) (hk : PySem.W.keepIn X.K (.ref f) = true) (hb : Binds X.K fd ps []) (hx : ∀ σ, PassesAt (L2.CX X.prog X.w) X σ (E σ))
    (ha : PA X (e :: es) t) (hdb : (x == ("__debug__" : Str)) = false) (he : starEach (e :: es) X.env = (false, eval e X.env) :: starEach es X.env) (hpl : (backTo pos (starEach es X.env)).any (·.1) = false) :
    PE X (.Call (.Name x p) (e :: es) [] pos) (fun σ H Q => t σ H fun vs H1 => sp vs H1 Q (E σ)) := by
  refine ⟨fun pins s σ H Q I h => ?_⟩
  refine wpAny_Call_Name_kw (ld_glob I hg hm ?_ hdb)
  refine PySem.W.callWith_K (h₀ := X.base) I.ok.mod.kin hk (thn (ha.run pos pins s σ H _ I h) fun us s1 ⟨vs, H1, I1, r, q⟩ => ⟨I1.kIn, ?_⟩) he hpl
  have hl : us.length = ps.length := by rw [← r.length]; exact F.len _ _ _ _ q
  have b := hb s1 us I1.kIn (by rw [List.append_nil]; exact hl)
  rw [List.append_nil] at b
  show wpAny _ _ (call (.ref f) ([] ++ us)) _ _ _
  rw [List.nil_append]
  refine wpAny_call (codeAny_mono (F.run X.A X.stack s1 H1 ⟨us, []⟩ us vs Q (E σ) hgd hr I1.env0 b r q) fun r s' hq => ?_)
  cases r with
  | error e => exact hx σ pins H1 s1 e s' I1 hq
  | ok fl =>
    cases fl with
    | ret u => exact I1.after hq
    | next => exact False.elim hq
    | brk => exact False.elim hq
    | cont => exact False.elim hq
end
section
variable {X : Cx} {Γ : Gm} {E : WX} {W : List Nat} {k n : Nat} {f : Addr} {fd : FuncData} {ps : List Str} {m : List D → FOut} {x : Str} {p pos : Pos} {e : Expr} {es : List Expr} {g : EvA}
theorem se_calG (Fo : FnG X.prog X.w X.K X.mg X.base k f fd ps (spF Γ [] m)) (hgd : X.A.guards = some []) (hr : Room k X.A) (hg : Gl X x) (hm : X.mg x = some (.ref f)) (hk : PySem.W.keepIn X.K (.ref f) = true) (hb : Binds X.K fd ps []) (tk : Takes X E)
    (ha : SA X Γ E W n (e :: es) g) (hdb : (x == ("__debug__" : Str)) = false) (he : starEach (e :: es) X.env = (false, eval e X.env) :: starEach es X.env) (hpl : (backTo pos (starEach es X.env)).any (·.1) = false) :
    SE X Γ E W (.Call (.Name x p) (e :: es) [] pos) (calF m g) := fun hK =>
  (pe_callG (E := fun σ cls d H => E cls d σ H) Fo hgd hr hg hm hk hb (fun σ => passAt tk σ) (ha hK) hdb he hpl).imp fun σ H Q h => by
    have q := calF_run (n := n) h
    simpa using q
end
end L2.Pv
namespace L2.Pv
open PySem PySem.Spec PyProof.Rows
section
variable {X : Cx} {Γ : Gm} {E : WX} {W : List Nat} {k n : Nat} {f : Addr} {fd : FuncData} {ps : List Str} {m : List D → FOut} {x : Str} {p pos : Pos} {e : Expr} {es : List Expr} {g : EvA}
theorem se_calHG {j : Nat} {y : Str} {py : Pos} (hj : PE X (.Name y py) (tVar j)) (Fo : FnG X.prog X.w X.K X.mg X.base k f fd ps (spF Γ [0] m)) (hgd : X.A.guards = some []) (hr : Room k X.A) (hg : Gl X x) (hm : X.mg x = some (.ref f)) (hk : PySem.W.keepIn X.K (.ref f) = true) (hb : Binds X.K fd ps []) (tk : Takes X E)
    (ha : SA X Γ E W n es g) (hdb : (x == ("__debug__" : Str)) = false) (he : starEach (.Name y py :: es) X.env = (false, eval (.Name y py) X.env) :: starEach es X.env) (hpl : (backTo pos (starEach es X.env)).any (·.1) = false) :
    SE X Γ E (W ++ [j]) (.Call (.Name x p) (.Name y py :: es) [] pos) (calH m j g) := fun hK =>
  (pe_callG (E := fun σ cls d H => E cls d σ H) Fo hgd hr hg hm hk hb (fun σ => passAt tk σ) (pa_cons hj (ha hK) he) hdb he hpl).imp fun σ H Q h => by
    obtain ⟨v, hv, q⟩ := calH_run (n := n) h
    refine ⟨v, hv, ?_⟩
    simpa using q
end
end L2.Pv
end
section
set_option Elab.async false
set_option linter.all false
set_option maxRecDepth 100000
/-! for x in zip(a, b), x a name: the pair that was given out first may be gone -/
namespace ZN
open PySem PySem.Spec PyProof.Rows PySem.W L2
abbrev ZipF (h : Heap) (z TI TO : Addr) (u : Value) (f : Bool) : Prop :=
  h.get? z = some { cls := .type "zip", dict := none, data := .fields #[u, .bool f, .bool false, .ref TI, .ref TO], slots := #[] }
/-- where the zip stands between two turns -/
def Mid (z TI TO i1 i2 : Addr) (l1 l2 : Addr) (i : Nat) (h : Heap) : Prop :=
  (IsPair h TI (.ref i1) (.ref i2) ∧ (∃ x y, IsPair h TO x y)) ∧ (h.IsTupleIter i1 l1 i ∧ h.IsTupleIter i2 l2 i) ∧ (IsZip h z TI TO .none ∨ ∃ T f, IsZipHeld h z TI TO T f)
section
variable {prog : Program} {w : World} {A : Around} {E : Value → Shared → Prop} {s : Shared} {z TI TO T i1 i2 l1 l2 : Addr} {f : Bool} {k1 k2 : Nat} {xs ys : Array Value} {x y a b : Value}
theorem gone {a : Addr} {Q : Option Obj → Shared → Prop} (ho : s.heap.get? a = none) (h : Q none s) : wpAny (model prog w) A (loadIfAlive a) Q E s := by
  have q : Q (s.heap.get? a) s := by rw [ho]; exact h
  exact fun _ _ _ => q
theorem free_dead {Q : Bool → Shared → Prop} (hz : IsZipHeld s.heap z TI TO T f) (hT : s.heap.get? T = none) (k : Q true s) : wpAny (model prog w) A (Builtin.SmallTypes.ownedTupleIsFree (.ref z)) Q E s := by
  unfold Builtin.SmallTypes.ownedTupleIsFree
  refine wpAny_bind (wpAny_field hz rfl (x := rawInt T) rfl ?_); show wpAny _ _ (loadIfAlive ((T : Int).toNat) >>= _) _ _ _
  rw [Int.toNat_natCast]
  exact wpAny_bind (gone hT (by simp only [Option.isNone_none, if_true]; exact wpAny_pure k))
/-- an item, the tuple gone -/
theorem item_dead {Q : Value → Shared → Prop} (D : ZipApart z TI TO i1 i2 l1 l2) (hz : IsZipHeld s.heap z TI TO T f) (hT : s.heap.get? T = none) (hTI : IsPair s.heap TI (.ref i1) (.ref i2)) (hTO : IsPair s.heap TO a b)
    (h1 : s.heap.IsTupleIter i1 l1 k1) (h2 : s.heap.IsTupleIter i2 l2 k2) (q1 : s.heap.IsTuple l1 xs) (q2 : s.heap.IsTuple l2 ys) (hx : xs[k1]? = some x) (hy : ys[k2]? = some y)
    (hQ : ∀ h', IsZipHeld h' z TI TO s.heap.objs.size false → IsPair h' TO x y → h'.IsTupleIter i1 l1 (k1 + 1) → h'.IsTupleIter i2 l2 (k2 + 1) → IsPair h' s.heap.objs.size x y → h'.objs.size = s.heap.objs.size + 1 →
      (∀ c o, c ≠ z → c ≠ TO → c ≠ i1 → c ≠ i2 → s.heap.get? c = some o → h'.get? c = some o) → Q (.ref s.heap.objs.size) { s with heap := h' }) :
    wpAny (model prog w) A (Builtin.«zip.__next__» ⟨[.ref z], []⟩) (fun fin s' => ∃ v, fin = .done (.ret v) ∧ Q v s') E s := by
  show wpAny _ _ (field (.ref z) 2 >>= _) _ _ _
  refine wpAny_bind (wpAny_field hz rfl (x := .bool false) rfl ?_); show wpAny _ _ (field (.ref z) 3 >>= _) _ _ _
  refine wpAny_bind (wpAny_field hz rfl (x := .ref TI) rfl (wpAny_bind (wpAny_seqItems hTI rfl ?_)))
  show wpAny _ _ (Builtin.SmallTypes.ownedTupleIsFree (.ref z) >>= _) _ _ _
  refine wpAny_bind (free_dead hz hT ?_)
  simp only [if_true]
  refine wpAny_bind (wpAny_rule (wpAny_bind (wpAny_field hz rfl (x := .ref TO) rfl (wpAny_bind (wpAny_setField_rec hz (by simp) fun g1 z1 s1 => ?_)))))
  have z1 : ZipF g1 z TI TO .ellipsis f := z1
  refine wpAny_bind ?_
  simp only [List.zipIdx_cons, List.zipIdx_nil, List.forIn_cons, List.forIn_nil]
  refine wpAny_bind (wpAny_bind (wpAny_onRaise ?_)); show wpAny _ _ (Builtin.SmallTypes.nextOf (.ref i1) >>= _) _ _ _
  refine wpAny_bind (RZ.nextOf_tuple_item (h1.extBut s1.extBut D.i1z) (q1.extBut s1.extBut D.l1z) hx fun g2 a2 s2 => wpAny_pure ?_)
  have t2 : IsPair g2 TO a b := s2.extBut _ _ D.TOi1 (s1.extBut _ _ D.TOz hTO)
  refine wpAny_bind (wpAny_seqItems t2 rfl (wpAny_bind (wpAny_updateSeq_pair t2 fun g3 t3 s3 => ?_)))
  have t3 : IsPair g3 TO x b := t3
  refine wpAny_bind (wpAny_letGo (wpAny_pure (wpAny_bind (wpAny_bind (wpAny_onRaise ?_))))); show wpAny _ _ (Builtin.SmallTypes.nextOf (.ref i2) >>= _) _ _ _
  refine wpAny_bind (RZ.nextOf_tuple_item (((h2.extBut s1.extBut D.i2z).extBut s2.extBut D.i12.symm).extBut s3.extBut D.TOi2.symm) (((q2.extBut s1.extBut D.l2z).extBut s2.extBut D.l2i1).extBut s3.extBut D.l2TO) hy fun g4 a4 s4 => wpAny_pure ?_)
  have t4 : IsPair g4 TO x b := s4.extBut _ _ D.TOi2 t3
  refine wpAny_bind (wpAny_seqItems t4 rfl (wpAny_bind (wpAny_updateSeq_pair t4 fun g5 t5 s5 => ?_)))
  have t5 : IsPair g5 TO x y := t5
  refine wpAny_bind (wpAny_letGo (wpAny_pure (wpAny_pure (wpAny_bind (wpAny_seqItems t5 rfl (wpAny_bind (wpAny_newTuple ?_)))))))
  have sz : g5.objs.size = s.heap.objs.size := by rw [s5.1, s4.1, s3.1, s2.1, s1.1]
  have z5 : ZipF g5 z TI TO .ellipsis f := s5.extBut _ _ D.TOz.symm (s4.extBut _ _ D.i2z.symm (s3.extBut _ _ D.TOz.symm (s2.extBut _ _ D.i1z.symm z1)))
  have old : ∀ c o, c ≠ z → c ≠ TO → c ≠ i1 → c ≠ i2 → s.heap.get? c = some o → g5.get? c = some o := fun c o n1 n2 n3 n4 e => s5.extBut _ _ n2 (s4.extBut _ _ n4 (s3.extBut _ _ n2 (s2.extBut _ _ n3 (s1.extBut _ _ n1 e))))
  have b1 : g5.IsTupleIter i1 l1 (k1 + 1) := ((a2.extBut s3.extBut D.TOi1.symm).extBut s4.extBut D.i12).extBut s5.extBut D.TOi1.symm
  have b2 : g5.IsTupleIter i2 l2 (k2 + 1) := a4.extBut s5.extBut D.TOi2.symm
  have zl : z < g5.objs.size := Heap.lt_size z5
  show wpAny _ _ (Builtin.SmallTypes.ownedTupleHandOut (.ref z) (.ref g5.objs.size) >>= _) _ _ _
  refine wpAny_bind ?_
  unfold Builtin.SmallTypes.ownedTupleHandOut
  have z6 : ZipF (g5.push { cls := .type "tuple", data := .seq #[x, y] }) z TI TO .ellipsis f := Heap.get?_push_of_some _ z5
  refine wpAny_bind (wpAny_setField_rec z6 (by simp) fun g7 z7 s7 => ?_)
  have z7 : ZipF g7 z TI TO (rawInt g5.objs.size) f := z7
  refine wpAny_setField_rec z7 (by simp) fun g8 z8 s8 => ?_
  have z8 : ZipF g8 z TI TO (rawInt g5.objs.size) false := z8
  have up : ∀ c o, c ≠ z → g5.get? c = some o → g8.get? c = some o := fun c o n e => s8.extBut _ _ n (s7.extBut _ _ n (Heap.get?_push_of_some _ e))
  have nw : IsPair g8 g5.objs.size x y := s8.extBut _ _ (Nat.ne_of_gt zl) (s7.extBut _ _ (Nat.ne_of_gt zl) (Heap.get?_push_size _ rfl))
  have n8 : g8.objs.size = g5.objs.size + 1 := by rw [s8.1, s7.1, Heap.size_push]
  rw [sz] at z8 nw n8
  refine wpAny_pure ⟨_, rfl, ?_⟩
  show Q (.ref g5.objs.size) _
  rw [sz]
  exact hQ g8 z8 (up _ _ D.TOz t5) (b1.at fun o e => up _ o D.i1z e) (b2.at fun o e => up _ o D.i2z e) nw n8 fun c o n1 n2 n3 n4 e => up c o n1 (old c o n1 n2 n3 n4 e)
/-- the end, the tuple gone -/
theorem end_dead {Q : Fin → Shared → Prop} (hh : A.handled = none) (D : ZipApart z TI TO i1 i2 l1 l2) (hz : IsZipHeld s.heap z TI TO T f) (hT : s.heap.get? T = none) (hTI : IsPair s.heap TI (.ref i1) (.ref i2)) (hTO : IsPair s.heap TO a b)
    (h1 : s.heap.IsTupleIter i1 l1 k1) (h2 : s.heap.IsTupleIter i2 l2 k2) (q1 : s.heap.IsTuple l1 xs) (q2 : s.heap.IsTuple l2 ys) (hend : xs[k1]? = none ∨ ys[k2]? = none)
    (hE : ∀ h' e, (∀ c o, c ≠ z → c ≠ TO → c ≠ i1 → c ≠ i2 → s.heap.get? c = some o → h'.get? c = some o) → (∃ o, h'.get? e = some o ∧ o.cls = .type "StopIteration") → E (.ref e) { s with heap := h' }) :
    wpAny (model prog w) A (Builtin.«zip.__next__» ⟨[.ref z], []⟩) Q E s := by
  show wpAny _ _ (field (.ref z) 2 >>= _) _ _ _
  refine wpAny_bind (wpAny_field hz rfl (x := .bool false) rfl ?_); show wpAny _ _ (field (.ref z) 3 >>= _) _ _ _
  refine wpAny_bind (wpAny_field hz rfl (x := .ref TI) rfl (wpAny_bind (wpAny_seqItems hTI rfl ?_)))
  show wpAny _ _ (Builtin.SmallTypes.ownedTupleIsFree (.ref z) >>= _) _ _ _
  refine wpAny_bind (free_dead hz hT ?_)
  simp only [if_true]
  refine wpAny_bind (wpAny_rule (wpAny_bind (wpAny_field hz rfl (x := .ref TO) rfl (wpAny_bind (wpAny_setField_rec hz (by simp) fun g1 z1 s1 => ?_)))))
  have z1 : ZipF g1 z TI TO .ellipsis f := z1
  refine wpAny_bind ?_
  simp only [List.zipIdx_cons, List.zipIdx_nil, List.forIn_cons, List.forIn_nil]
  refine wpAny_bind (wpAny_bind (wpAny_onRaise ?_)); show wpAny _ _ (Builtin.SmallTypes.nextOf (.ref i1) >>= _) _ _ _
  cases ex : xs[k1]? with
  | none =>
    refine wpAny_bind (RZ.nextOf_tuple_end hh (h1.extBut s1.extBut D.i1z) (q1.extBut s1.extBut D.l1z) ex fun g2 e s2 ⟨oe, e1, e2⟩ => ?_)
    have z2 : ZipF g2 z TI TO .ellipsis f := s2 _ _ D.i1z.symm z1
    have ne : e ≠ z := fun q => by subst q; rw [z2] at e1; cases e1; simp at e2
    exact wpAny_setField_rec z2 (by simp) fun g3 _ s3 => hE g3 e (fun c o n1 _ n3 _ q => s3.extBut _ _ n1 (s2 _ _ n3 (s1.extBut _ _ n1 q))) ⟨oe, s3.extBut _ _ ne e1, e2⟩
  | some x =>
    have ey : ys[k2]? = none := by rcases hend with h | h; rw [ex] at h; cases h; exact h
    refine wpAny_bind (RZ.nextOf_tuple_item (h1.extBut s1.extBut D.i1z) (q1.extBut s1.extBut D.l1z) ex fun g2 a2 s2 => wpAny_pure ?_)
    have t2 : IsPair g2 TO a b := s2.extBut _ _ D.TOi1 (s1.extBut _ _ D.TOz hTO)
    refine wpAny_bind (wpAny_seqItems t2 rfl (wpAny_bind (wpAny_updateSeq_pair t2 fun g3 t3 s3 => ?_)))
    refine wpAny_bind (wpAny_letGo (wpAny_pure (wpAny_bind (wpAny_bind (wpAny_onRaise ?_))))); show wpAny _ _ (Builtin.SmallTypes.nextOf (.ref i2) >>= _) _ _ _
    refine wpAny_bind (RZ.nextOf_tuple_end hh (((h2.extBut s1.extBut D.i2z).extBut s2.extBut D.i12.symm).extBut s3.extBut D.TOi2.symm) (((q2.extBut s1.extBut D.l2z).extBut s2.extBut D.l2i1).extBut s3.extBut D.l2TO) ey fun g4 e s4 ⟨oe, e1, e2⟩ => ?_)
    have z4 : ZipF g4 z TI TO .ellipsis f := s4 _ _ D.i2z.symm (s3.extBut _ _ D.TOz.symm (s2.extBut _ _ D.i1z.symm z1))
    have ne : e ≠ z := fun q => by subst q; rw [z4] at e1; cases e1; simp at e2
    exact wpAny_setField_rec z4 (by simp) fun g5 _ s5 => hE g5 e (fun c o n1 n2 n3 n4 q => s5.extBut _ _ n1 (s4 _ _ n4 (s3.extBut _ _ n2 (s2.extBut _ _ n3 (s1.extBut _ _ n1 q))))) ⟨oe, s5.extBut _ _ ne e1, e2⟩
theorem next_dead {Q : Option Value → Shared → Prop} (D : ZipApart z TI TO i1 i2 l1 l2) (hz : IsZipHeld s.heap z TI TO T f) (hT : s.heap.get? T = none) (hTI : IsPair s.heap TI (.ref i1) (.ref i2)) (hTO : IsPair s.heap TO a b)
    (h1 : s.heap.IsTupleIter i1 l1 k1) (h2 : s.heap.IsTupleIter i2 l2 k2) (q1 : s.heap.IsTuple l1 xs) (q2 : s.heap.IsTuple l2 ys) (hx : xs[k1]? = some x) (hy : ys[k2]? = some y)
    (hQ : ∀ h', IsZipHeld h' z TI TO s.heap.objs.size false → IsPair h' TO x y → h'.IsTupleIter i1 l1 (k1 + 1) → h'.IsTupleIter i2 l2 (k2 + 1) → IsPair h' s.heap.objs.size x y → h'.objs.size = s.heap.objs.size + 1 →
      (∀ c o, c ≠ z → c ≠ TO → c ≠ i1 → c ≠ i2 → s.heap.get? c = some o → h'.get? c = some o) → Q (some (.ref s.heap.objs.size)) { s with heap := h' }) : wpAny (model prog w) A (pyNext (.ref z)) Q E s := by
  have ty : s.TypeIs (.ref z) "zip" := ⟨_, hz, rfl⟩
  unfold pyNext
  exact wpAny_bind (wpAny_attempt (wpAny_callSpecial?_slot (name := Str.ofString "__next__") ty F.slot_zip_next (wpAny_call_entry F.slot_zip_next ty F.entry_zip_next
      (item_dead D hz hT hTI hTO h1 h2 q1 q2 hx hy fun h' r1 r2 r3 r4 r5 r6 r7 => wpAny_pure (hQ h' r1 r2 r3 r4 r5 r6 r7)) (F.args_zip_next_1 _))))
theorem stop_dead {Q : Option Value → Shared → Prop} (hh : A.handled = none) (D : ZipApart z TI TO i1 i2 l1 l2) (hz : IsZipHeld s.heap z TI TO T f) (hT : s.heap.get? T = none) (hTI : IsPair s.heap TI (.ref i1) (.ref i2)) (hTO : IsPair s.heap TO a b)
    (h1 : s.heap.IsTupleIter i1 l1 k1) (h2 : s.heap.IsTupleIter i2 l2 k2) (q1 : s.heap.IsTuple l1 xs) (q2 : s.heap.IsTuple l2 ys) (hend : xs[k1]? = none ∨ ys[k2]? = none)
    (hQ : ∀ h', (∀ c o, c ≠ z → c ≠ TO → c ≠ i1 → c ≠ i2 → s.heap.get? c = some o → h'.get? c = some o) → Q none { s with heap := h' }) : wpAny (model prog w) A (pyNext (.ref z)) Q E s := by
  have ty : s.TypeIs (.ref z) "zip" := ⟨_, hz, rfl⟩
  unfold pyNext
  refine wpAny_bind (wpAny_attempt (wpAny_callSpecial?_slot (name := Str.ofString "__next__") ty F.slot_zip_next (wpAny_call_entry F.slot_zip_next ty F.entry_zip_next
      (end_dead hh D hz hT hTI hTO h1 h2 q1 q2 hend fun h' e hk ⟨o, e1, e2⟩ => ?_) (F.args_zip_next_1 _))))
  exact wpAny_bind (wpAny_isInstance (T := "StopIteration") (b := true) ⟨o, e1, e2⟩ isSubtype_stop (wpAny_pure (hQ _ hk)))
/-- an item, the tuple still there -/
theorem item_held {oT : Obj} {Q : Value → Shared → Prop} (D : ZipApart z TI TO i1 i2 l1 l2) (hz : IsZipHeld s.heap z TI TO T f) (hT : s.heap.get? T = some oT) (hTI : IsPair s.heap TI (.ref i1) (.ref i2))
    (h1 : s.heap.IsTupleIter i1 l1 k1) (h2 : s.heap.IsTupleIter i2 l2 k2) (q1 : s.heap.IsTuple l1 xs) (q2 : s.heap.IsTuple l2 ys) (hx : xs[k1]? = some x) (hy : ys[k2]? = some y)
    (hQ : ∀ h', IsZipHeld h' z TI TO T true → h'.IsTupleIter i1 l1 (k1 + 1) → h'.IsTupleIter i2 l2 (k2 + 1) → IsPair h' s.heap.objs.size x y → h'.objs.size = s.heap.objs.size + 1 →
      (∀ c o, c ≠ z → c ≠ i1 → c ≠ i2 → s.heap.get? c = some o → h'.get? c = some o) → Q (.ref s.heap.objs.size) { s with heap := h' }) :
    wpAny (model prog w) A (Builtin.«zip.__next__» ⟨[.ref z], []⟩) (fun fin s' => ∃ v, fin = .done (.ret v) ∧ Q v s') E s := by
  show wpAny _ _ (field (.ref z) 2 >>= _) _ _ _
  refine wpAny_bind (wpAny_field hz rfl (x := .bool false) rfl ?_); show wpAny _ _ (field (.ref z) 3 >>= _) _ _ _
  refine wpAny_bind (wpAny_field hz rfl (x := .ref TI) rfl (wpAny_bind (wpAny_seqItems hTI rfl ?_)))
  show wpAny _ _ (Builtin.SmallTypes.ownedTupleIsFree (.ref z) >>= _) _ _ _
  refine wpAny_bind (wpAny_tupleHeld_zip hz hT fun g1 z1 s1 => ?_)
  simp only [Bool.false_eq_true, if_false]
  refine wpAny_bind ?_
  rw [← Array.forIn_toList]; simp only [List.forIn_cons, List.forIn_nil]
  refine wpAny_bind (wpAny_bind (wpAny_holding ?_)); show wpAny _ _ (Builtin.SmallTypes.nextOf (.ref i1) >>= _) _ _ _
  refine wpAny_bind (RZ.nextOf_tuple_item (s := { s with heap := g1 }) (h1.extBut s1.extBut D.i1z) (q1.extBut s1.extBut D.l1z) hx fun g2 a2 s2 => wpAny_pure (wpAny_pure (wpAny_bind (wpAny_bind (wpAny_holding ?_)))))
  show wpAny _ _ (Builtin.SmallTypes.nextOf (.ref i2) >>= _) _ _ _
  refine wpAny_bind (RZ.nextOf_tuple_item (s := { s with heap := g2 }) ((h2.extBut s1.extBut D.i2z).extBut s2.extBut D.i12.symm) ((q2.extBut s1.extBut D.l2z).extBut s2.extBut D.l2i1) hy fun g3 a3 s3 => wpAny_pure (wpAny_pure (wpAny_pure ?_)))
  show wpAny _ _ (newTuple [x, y] >>= _) _ _ _
  refine wpAny_bind (wpAny_newTuple ?_)
  have sz : g3.objs.size = s.heap.objs.size := by rw [s3.1, s2.1, s1.1]
  have z3 : IsZipHeld g3 z TI TO T true := s3.extBut _ _ D.i2z.symm (s2.extBut _ _ D.i1z.symm z1)
  have old : ∀ c o, c ≠ z → c ≠ i1 → c ≠ i2 → s.heap.get? c = some o → g3.get? c = some o := fun c o n1 n2 n3 e => s3.extBut _ _ n3 (s2.extBut _ _ n2 (s1.extBut _ _ n1 e))
  have b1 : g3.IsTupleIter i1 l1 (k1 + 1) := a2.extBut s3.extBut D.i12
  refine wpAny_pure ⟨_, rfl, ?_⟩
  show Q (.ref g3.objs.size) _
  have np : IsPair (g3.push { cls := .type "tuple", data := .seq #[x, y] }) g3.objs.size x y := Heap.get?_push_size _ rfl
  have n4 : (g3.push { cls := .type "tuple", data := .seq #[x, y] }).objs.size = g3.objs.size + 1 := Heap.size_push ..
  rw [sz] at np n4 ⊢
  exact hQ _ (Heap.get?_push_of_some _ z3) (b1.at fun o e => Heap.get?_push_of_some _ e) (a3.at fun o e => Heap.get?_push_of_some _ e) np n4 fun c o n1 n2 n3 e => Heap.get?_push_of_some _ (old c o n1 n2 n3 e)
theorem end_held {oT : Obj} {Q : Fin → Shared → Prop} (hh : A.handled = none) (D : ZipApart z TI TO i1 i2 l1 l2) (hz : IsZipHeld s.heap z TI TO T f) (hT : s.heap.get? T = some oT) (hTI : IsPair s.heap TI (.ref i1) (.ref i2))
    (h1 : s.heap.IsTupleIter i1 l1 k1) (h2 : s.heap.IsTupleIter i2 l2 k2) (q1 : s.heap.IsTuple l1 xs) (q2 : s.heap.IsTuple l2 ys) (hend : xs[k1]? = none ∨ ys[k2]? = none)
    (hE : ∀ h' e, (∀ c o, c ≠ z → c ≠ i1 → c ≠ i2 → s.heap.get? c = some o → h'.get? c = some o) → (∃ o, h'.get? e = some o ∧ o.cls = .type "StopIteration") → E (.ref e) { s with heap := h' }) :
    wpAny (model prog w) A (Builtin.«zip.__next__» ⟨[.ref z], []⟩) Q E s := by
  show wpAny _ _ (field (.ref z) 2 >>= _) _ _ _
  refine wpAny_bind (wpAny_field hz rfl (x := .bool false) rfl ?_); show wpAny _ _ (field (.ref z) 3 >>= _) _ _ _
  refine wpAny_bind (wpAny_field hz rfl (x := .ref TI) rfl (wpAny_bind (wpAny_seqItems hTI rfl ?_)))
  show wpAny _ _ (Builtin.SmallTypes.ownedTupleIsFree (.ref z) >>= _) _ _ _
  refine wpAny_bind (wpAny_tupleHeld_zip hz hT fun g1 z1 s1 => ?_)
  simp only [Bool.false_eq_true, if_false]
  refine wpAny_bind ?_
  rw [← Array.forIn_toList]; simp only [List.forIn_cons, List.forIn_nil]
  refine wpAny_bind (wpAny_bind (wpAny_holding ?_)); show wpAny _ _ (Builtin.SmallTypes.nextOf (.ref i1) >>= _) _ _ _
  cases ex : xs[k1]? with
  | none => exact wpAny_bind (RZ.nextOf_tuple_end (s := { s with heap := g1 }) hh (h1.extBut s1.extBut D.i1z) (q1.extBut s1.extBut D.l1z) ex fun g2 e s2 he => hE g2 e (fun c o n1 n2 _ q => s2 _ _ n2 (s1.extBut _ _ n1 q)) he)
  | some x =>
    have ey : ys[k2]? = none := by rcases hend with h | h; rw [ex] at h; cases h; exact h
    refine wpAny_bind (RZ.nextOf_tuple_item (s := { s with heap := g1 }) (h1.extBut s1.extBut D.i1z) (q1.extBut s1.extBut D.l1z) ex fun g2 a2 s2 => wpAny_pure (wpAny_pure (wpAny_bind (wpAny_bind (wpAny_holding ?_)))))
    show wpAny _ _ (Builtin.SmallTypes.nextOf (.ref i2) >>= _) _ _ _
    exact wpAny_bind (RZ.nextOf_tuple_end (s := { s with heap := g2 }) hh ((h2.extBut s1.extBut D.i2z).extBut s2.extBut D.i12.symm) ((q2.extBut s1.extBut D.l2z).extBut s2.extBut D.l2i1) ey fun g3 e s3 he => hE g3 e (fun c o n1 n2 n3 q => s3 _ _ n3 (s2.extBut _ _ n2 (s1.extBut _ _ n1 q))) he)
theorem next_held {oT : Obj} {Q : Option Value → Shared → Prop} (D : ZipApart z TI TO i1 i2 l1 l2) (hz : IsZipHeld s.heap z TI TO T f) (hT : s.heap.get? T = some oT) (hTI : IsPair s.heap TI (.ref i1) (.ref i2))
    (h1 : s.heap.IsTupleIter i1 l1 k1) (h2 : s.heap.IsTupleIter i2 l2 k2) (q1 : s.heap.IsTuple l1 xs) (q2 : s.heap.IsTuple l2 ys) (hx : xs[k1]? = some x) (hy : ys[k2]? = some y)
    (hQ : ∀ h', IsZipHeld h' z TI TO T true → h'.IsTupleIter i1 l1 (k1 + 1) → h'.IsTupleIter i2 l2 (k2 + 1) → IsPair h' s.heap.objs.size x y → h'.objs.size = s.heap.objs.size + 1 →
      (∀ c o, c ≠ z → c ≠ i1 → c ≠ i2 → s.heap.get? c = some o → h'.get? c = some o) → Q (some (.ref s.heap.objs.size)) { s with heap := h' }) : wpAny (model prog w) A (pyNext (.ref z)) Q E s := by
  have ty : s.TypeIs (.ref z) "zip" := ⟨_, hz, rfl⟩
  unfold pyNext
  exact wpAny_bind (wpAny_attempt (wpAny_callSpecial?_slot (name := Str.ofString "__next__") ty F.slot_zip_next (wpAny_call_entry F.slot_zip_next ty F.entry_zip_next
      (item_held D hz hT hTI h1 h2 q1 q2 hx hy fun h' r1 r3 r4 r5 r6 r7 => wpAny_pure (hQ h' r1 r3 r4 r5 r6 r7)) (F.args_zip_next_1 _))))
theorem stop_held {oT : Obj} {Q : Option Value → Shared → Prop} (hh : A.handled = none) (D : ZipApart z TI TO i1 i2 l1 l2) (hz : IsZipHeld s.heap z TI TO T f) (hT : s.heap.get? T = some oT) (hTI : IsPair s.heap TI (.ref i1) (.ref i2))
    (h1 : s.heap.IsTupleIter i1 l1 k1) (h2 : s.heap.IsTupleIter i2 l2 k2) (q1 : s.heap.IsTuple l1 xs) (q2 : s.heap.IsTuple l2 ys) (hend : xs[k1]? = none ∨ ys[k2]? = none)
    (hQ : ∀ h', (∀ c o, c ≠ z → c ≠ i1 → c ≠ i2 → s.heap.get? c = some o → h'.get? c = some o) → Q none { s with heap := h' }) : wpAny (model prog w) A (pyNext (.ref z)) Q E s := by
  have ty : s.TypeIs (.ref z) "zip" := ⟨_, hz, rfl⟩
  unfold pyNext
  refine wpAny_bind (wpAny_attempt (wpAny_callSpecial?_slot (name := Str.ofString "__next__") ty F.slot_zip_next (wpAny_call_entry F.slot_zip_next ty F.entry_zip_next
      (end_held hh D hz hT hTI h1 h2 q1 q2 hend fun h' e hk ⟨o, e1, e2⟩ => ?_) (F.args_zip_next_1 _))))
  exact wpAny_bind (wpAny_isInstance (T := "StopIteration") (b := true) ⟨o, e1, e2⟩ isSubtype_stop (wpAny_pure (hQ _ hk)))
end
theorem mem5 {c z TI TO i1 i2 : Addr} (h : c ∈ [z, TI, TO, i1, i2]) : c = z ∨ c = TI ∨ c = TO ∨ c = i1 ∨ c = i2 := by simpa using h
theorem turnN {P : Program} {w : World} {K : PySem.W.Frag} {nm : Str} {tpos : Pos} {a b z TI TO i1 i2 : Addr} (D : ZipApart z TI TO i1 i2 a b) : Turn P w K (.Name nm tpos) (RZ.ItzT K a b) [z, TI, TO, i1, i2] z (Mid z TI TO i1 i2 a b) where
  mem := by simp
  obj := fun i h st c hc => by
    obtain ⟨⟨hTI, x, y, hTO⟩, ⟨⟨o1, e1, _, d1⟩, ⟨o2, e2, _, d2⟩⟩, hz⟩ := st
    rcases mem5 hc with q | q | q | q | q
    · rcases hz with hz | ⟨T, f, hz⟩
      · rw [q]; exact ⟨_, hz, fun v q => nomatch q⟩
      · rw [q]; exact ⟨_, hz, fun v q => nomatch q⟩
    · rw [q]; exact ⟨_, hTI, fun v q => nomatch q⟩
    · rw [q]; exact ⟨_, hTO, fun v q => nomatch q⟩
    · rw [q]; exact ⟨o1, e1, fun v q => by rw [d1] at q; cases q⟩
    · rw [q]; exact ⟨o2, e2, fun v q => by rw [d2] at q; cases q⟩
  keep := fun i h h' st k => by
    obtain ⟨⟨hTI, x, y, hTO⟩, ⟨h1, h2⟩, hz⟩ := st
    refine ⟨⟨k TI (by simp) _ hTI, x, y, k TO (by simp) _ hTO⟩, ⟨h1.at fun o q => k i1 (by simp) o q, h2.at fun o q => k i2 (by simp) o q⟩, ?_⟩
    rcases hz with hz | ⟨T, f, hz⟩
    · exact .inl (k z (by simp) _ hz)
    · exact .inr ⟨T, f, k z (by simp) _ hz⟩
  item := by
    intro X hP hw hK hc i pins s σ H E I hf st hg
    subst hP hw hK
    obtain ⟨⟨hTI, x0, y0, hTO⟩, ⟨h1, h2⟩, hz⟩ := st
    obtain ⟨xs, ys, x, y, gx, gy, hx, hy⟩ := hg
    obtain ⟨its, rv, p, _⟩ := I.tuple gx
    obtain ⟨its2, rv2, p2, _⟩ := I.tuple gy
    obtain ⟨u, hu, ru⟩ := rv.get hx
    obtain ⟨u2, hu2, ru2⟩ := rv2.get hy
    have fin : ∀ h' : Heap, (IsPair h' TO u u2 ∨ ∃ x y, IsPair h' TO x y) → (∃ T f, IsZipHeld h' z TI TO T f) → h'.IsTupleIter i1 a (i + 1) → h'.IsTupleIter i2 b (i + 1) → IsPair h' s.heap.objs.size u u2 → IsPair h' TI (.ref i1) (.ref i2) →
        (∀ c o, c ≠ z → c ≠ TO → c ≠ i1 → c ≠ i2 → s.heap.get? c = some o → h'.get? c = some o) →
        ∃ v, some (Value.ref s.heap.objs.size) = some v ∧ wpAny (model X.prog X.w) X.A (letOwnedTupleGo (.Name nm tpos) (.ref z) v) (fun _ s2 => ∃ x H', Inv X pins σ H' s2 ∧ RelV x v ∧ (RZ.ItzT X.K a b).yld i H x H' ∧ Mid z TI TO i1 i2 a b (i + 1) s2.heap ∧ ∀ b ∈ [z, TI, TO, i1, i2], H' b = none) E { s with heap := h' } := by
      intro h' tO hz' r1 r2 nT nTI old
      refine ⟨_, rfl, wpAny_pure ?_⟩
      have nob : ObjOk X.prog X.w (upd H s.heap.objs.size (.tup [x, y])) h' s.heap.objs.size (.tup [x, y]) := ⟨by show 2 ≤ sizeLine; decide, [u, u2], .cons ru (.cons ru2 .nil), ⟨_, nT, rfl, _, rfl⟩⟩
      have I1 : Inv X pins σ (upd H s.heap.objs.size (.tup [x, y])) { s with heap := h' } :=
        I.turnedNew (t' := s.toks) (ch := [z, TI, TO, i1, i2]) (fun c o hb q => old c o (fun q' => hb (by simp [q'])) (fun q' => hb (by simp [q'])) (fun q' => hb (by simp [q'])) (fun q' => hb (by simp [q'])) q) hf (Nat.le_refl _) nob
      refine ⟨.ref s.heap.objs.size, _, I1, rfl, ⟨_, x, y, rfl, I.hok.fresh (Nat.le_refl _), rfl, fun l hl => by rw [I.tuple_inj hl gx]; exact hx, fun l hl => by rw [I.tuple_inj hl gy]; exact hy⟩, ⟨⟨nTI, ?_⟩, ⟨r1, r2⟩, .inr hz'⟩, fun c hc => ?_⟩
      · rcases tO with tO | tO
        · exact ⟨_, _, tO⟩
        · exact tO
      · have lt : c < s.heap.objs.size := by
          rcases mem5 hc with q | q | q | q | q
          · rw [q]; rcases hz with hz | ⟨T, f, hz⟩
            · exact Heap.lt_size hz
            · exact Heap.lt_size hz
          · rw [q]; exact Heap.lt_size hTI
          · rw [q]; exact Heap.lt_size hTO
          · rw [q]; obtain ⟨_, e1, _⟩ := h1; exact Heap.lt_size e1
          · rw [q]; obtain ⟨_, e2, _⟩ := h2; exact Heap.lt_size e2
        rw [upd_ne (Nat.ne_of_lt lt)]
        exact (hf c hc).1
    rcases hz with hz | ⟨T, f, hz⟩
    · exact RZ.pyNext_zipT_item D hz hTI hTO h1 h2 p p2 (x := u) (y := u2) (by simpa using hu) (by simpa using hu2) fun h' z' tO r1 r2 nT _ old => fin h' (.inl tO) ⟨_, false, z'⟩ r1 r2 nT (old _ _ D.TIz D.TITO D.TIi1 D.TIi2 hTI) old
    · cases ht : s.heap.get? T with
      | none => exact next_dead D hz ht hTI hTO h1 h2 p p2 (x := u) (y := u2) (by simpa using hu) (by simpa using hu2) fun h' z' tO r1 r2 nT _ old => fin h' (.inl tO) ⟨_, false, z'⟩ r1 r2 nT (old _ _ D.TIz D.TITO D.TIi1 D.TIi2 hTI) old
      | some oT => exact next_held D hz ht hTI h1 h2 p p2 (x := u) (y := u2) (by simpa using hu) (by simpa using hu2) fun h' z' r1 r2 nT _ old => fin h' (.inr ⟨_, _, old _ _ D.TOz D.TOi1 D.TOi2 hTO⟩) ⟨_, true, z'⟩ r1 r2 nT (old _ _ D.TIz D.TIi1 D.TIi2 hTI) fun c o n1 _ n3 n4 e => old c o n1 n3 n4 e
  done := by
    intro X hP hw hK hc i pins s σ H E I hf st hg
    subst hP hw hK
    obtain ⟨⟨hTI, x0, y0, hTO⟩, ⟨h1, h2⟩, hz⟩ := st
    obtain ⟨xs, ys, gx, gy, hend⟩ := hg
    obtain ⟨its, rv, p, _⟩ := I.tuple gx
    obtain ⟨its2, rv2, p2, _⟩ := I.tuple gy
    have l1 := rv.length
    have l2 := rv2.length
    have he : its.toArray[i]? = none ∨ its2.toArray[i]? = none := hend.elim (fun q => .inl (by simp; omega)) fun q => .inr (by simp; omega)
    have fin : ∀ h' : Heap, (∀ c o, c ≠ z → c ≠ TO → c ≠ i1 → c ≠ i2 → s.heap.get? c = some o → h'.get? c = some o) → (none : Option Value) = none ∧ Inv X pins σ H { s with heap := h' } := fun h' hk =>
      ⟨rfl, I.turnedL (t' := s.toks) (ch := [z, TI, TO, i1, i2]) (fun c o hb q => hk c o (fun q' => hb (by simp [q'])) (fun q' => hb (by simp [q'])) (fun q' => hb (by simp [q'])) (fun q' => hb (by simp [q'])) q) hf⟩
    rcases hz with hz | ⟨T, f, hz⟩
    · exact RZ.pyNext_zipT_end (I.ok.hd hc) D hz hTI hTO h1 h2 p p2 he fun h' hk => fin h' hk
    · cases ht : s.heap.get? T with
      | none => exact stop_dead (I.ok.hd hc) D hz ht hTI hTO h1 h2 p p2 he fun h' hk => fin h' hk
      | some oT => exact stop_held (I.ok.hd hc) D hz ht hTI h1 h2 p p2 he fun h' hk => fin h' fun c o n1 _ n3 n4 e => hk c o n1 n3 n4 e
  self := fun A i s Q E st h => by
    obtain ⟨_, _, hz⟩ := st
    rcases hz with hz | ⟨T, f, hz⟩
    · exact wpAny_pyIter_zip hz h
    · have ty : s.TypeIs (.ref z) "zip" := ⟨_, hz, rfl⟩
      refine wpAny_pyIter_slot ty F.slot_zip_iter (wpAny_call_entry F.slot_zip_iter ty F.entry_zip_iter ?_ (F.args_zip_iter_1 _))
      show wpAny _ _ (ret (.ref z)) _ _ s
      exact wpAny_pure ⟨_, rfl, "zip", _, ty, F.slot_zip_next.lookup, h⟩
def iZipN (K : PySem.W.Frag) (ta : TA) : TI := fun σ H R => ta σ H fun vs H1 => ∃ a b xs ys, vs = [.ref a, .ref b] ∧ SqT K H1 a xs ∧ SqT K H1 b ys ∧ R (RZ.ItzT K a b) H1
theorem pi_zipN {X : Cx} {e e2 : Expr} {ta : TA} {p pos tpos : Pos} {nm : Str} (hg : Gl X "zip") (hm : X.mg "zip" = none) (ha : PA X [e, e2] ta)
    (hs : starEach [e, e2] X.env = (false, eval e X.env) :: starEach [e2] X.env) (hpl : (backTo pos (starEach [e2] X.env)).any (·.1) = false) : PI X (.Name nm tpos) (.Call (.Name "zip" p) [e, e2] [] pos) (iZipN X.K ta) := by
  refine ⟨fun pins s σ H R I h => Call_ (ld_blt I hg hm PyProof.Rows.boot_zip (PyProof.Rows.callWith_type1 (thn (ha.run pos pins s σ H _ I h) fun us s1 ⟨vs, H1, I1, r1, q1⟩ => ?_) hs hpl))⟩
  obtain ⟨a, b, xs, ys, ex, gx, gy, q⟩ := q1
  subst ex
  cases r1 with
  | cons r rr =>
    cases rr with
    | cons r' rr =>
      cases rr
      cases r
      cases r'
      obtain ⟨its, rv, p1, _⟩ := I1.tuple gx
      obtain ⟨its2, rv2, p2, _⟩ := I1.tuple gy
      obtain ⟨o1, ho1, _⟩ := id p1
      obtain ⟨o2, ho2, _⟩ := id p2
      refine RZ.call_zipT (show s1.heap.IsTuple a its.toArray from p1) (show s1.heap.IsTuple b its2.toArray from p2) fun h' hz hTI hTO h1 h2 hsz hk => wpAny_pyIter_zip hz ?_
      have I2 : Inv X pins σ H1 { s1 with heap := h' } := I1.kept (t' := s1.toks) hk
      refine ⟨s1.heap.objs.size + 4, [s1.heap.objs.size + 4, s1.heap.objs.size + 2, s1.heap.objs.size + 3, s1.heap.objs.size, s1.heap.objs.size + 1], _, _, H1, rfl, I2, turnN (PySem.W.ktu_apart s1.heap.objs.size a b (Heap.lt_size ho1) (Heap.lt_size ho2)), ⟨⟨hTI, _, _, hTO⟩, ⟨h1, h2⟩, .inl hz⟩, fun c hc => ?_, q⟩
      have le : s1.heap.objs.size ≤ c := by
        rcases mem5 hc with z | z | z | z | z <;> rw [z]
        · exact Nat.le_add_right _ _
        · exact Nat.le_add_right _ _
        · exact Nat.le_add_right _ _
        · exact Nat.le_refl _
        · exact Nat.le_add_right _ _
      exact I1.fpOk le (I1.hok.fresh le)
end ZN
end
section
set_option Elab.async false
set_option linter.all false
set_option autoImplicit false
set_option maxRecDepth 100000
namespace L2
open PySem PySem.Spec PyProof.Rows
theorem Room.units1 {k : Nat} {A : Around} (r : Room k A) : A.units + 1 < cLine := by have := r.un; omega
theorem Room.units8 {k : Nat} {A : Around} (r : Room k A) : A.units + 8 < cLine := by have := r.un; omega
theorem Room.units65 {k : Nat} {A : Around} (r : Room k A) : A.units + 65 < cLine := by have := r.un; omega
/-- room for the C stack alone -/
structure Uok (A : Around) : Prop where
  h : A.units + 100 < cLine
theorem Uok.u1 {A : Around} (r : Uok A) : A.units + 1 < cLine := by have := r.h; omega
theorem Uok.u8 {A : Around} (r : Uok A) : A.units + 8 < cLine := by have := r.h; omega
theorem Uok.u64 {A : Around} (r : Uok A) : A.units + 64 < cLine := by have := r.h; omega
theorem Uok.u65 {A : Around} (r : Uok A) : A.units + 65 < cLine := by have := r.h; omega
theorem Room.uok {k : Nat} {A : Around} (r : Room k A) : Uok A := ⟨by have := r.un; omega⟩
theorem Room.uokd {k : Nat} {A : Around} (r : Room k A) (env : Env) : Uok (A.deeper env) := ⟨by have := r.un; show A.units + 3 + 100 < _; omega⟩
namespace Pv
/-! ### what the printed derivations use -/
section
variable {X : Cx} {Γ : Gm} {E : WX} {W P : List Nat} {e : Expr} {f : Ev} {pos : Pos}
theorem n_P (i : Nat) {x : Str} {pos : Pos} (hN : X.N[i]? = some x := by rfl) (hv : Vis X.env.scope x := by first | exact Or.inl rfl | exact Or.inr (Or.inl rfl) | exact Or.inr (Or.inr rfl)) (hd : (x == ("__debug__" : Str)) = false := by decide)
    (hcd : (x == ("__classdict__" : Str)) = false := by decide) : PE X (.Name x pos) (tVar i) := pe_var hN hv hd hcd
theorem n_E (i : Nat) {x : Str} {pos : Pos} (hN : X.N[i]? = some x := by rfl) (hv : Vis X.env.scope x := by first | exact Or.inl rfl | exact Or.inr (Or.inl rfl) | exact Or.inr (Or.inr rfl)) (hd : (x == ("__debug__" : Str)) = false := by decide)
    (hcd : (x == ("__classdict__" : Str)) = false := by decide) : SE X Γ E [i] (.Name x pos) (eNm i) := se_nm (pe_var hN hv hd hcd)
theorem n_V (i : Nat) {x : Str} {pos : Pos} (hN : X.N[i]? = some x := by rfl) (hv : Vis X.env.scope x := by first | exact Or.inl rfl | exact Or.inr (Or.inl rfl) | exact Or.inr (Or.inr rfl)) (hd : (x == ("__debug__" : Str)) = false := by decide)
    (hcd : (x == ("__classdict__" : Str)) = false := by decide) : SV X Γ E [] (some i) (.Name x pos) (eLk i) := sv_nm (pe_var hN hv hd hcd)
theorem n_G (i : Nat) {x : Str} {pos : Pos} (nd : X.N.Nodup) (hN : X.N[i]? = some x := by rfl) (hl : Loc X.env.scope x := by first | exact Or.inl rfl | exact Or.inr rfl) (hf : X.fn x = true ∨ X.env.scope.names.lookup x = some .local := by first | exact Or.inl rfl | exact Or.inr rfl) :
    SG X Γ [i] (.Name x pos) (gSet i) := sg_nm nd hN hl hf
theorem n_set (i : Nat) {x : Str} {pos' : Pos} (nd : X.N.Nodup) (h : SE X Γ E W e f) (hp : i ∉ P) (hN : X.N[i]? = some x := by rfl) (hl : Loc X.env.scope x := by first | exact Or.inl rfl | exact Or.inr rfl)
    (hs : swapsWith e (some (.Name x pos')) pos.line X.env = pure false := by rfl) (hf : X.fn x = true ∨ X.env.scope.names.lookup x = some .local := by first | exact Or.inl rfl | exact Or.inr rfl) :
    SS X Γ E P (.Assign [.Name x pos'] e pos) (sSet i f) := ss_set nd hN hl h hp hs hf
theorem pe_ty {y : Str} {T : String} (hg : Gl X y) (hm : X.mg y = none) (hv : bootBuiltins y = some (.type T)) (hn : y ≠ "__name__" := by decide) (hd : (y == ("__debug__" : Str)) = false := by decide) : PE X (.Name y pos) (tC (.ty T)) :=
  pe_bltn hg hm hv rfl hn hd
end
def zipTO (ds : List D) : Option (List D) := match ds with
  | [.tup xs, .tup ys] => some (zipD xs ys)
  | _ => none
def iZipTD (fa : EvA) : EvA := fun δ => (fa δ).bd fun ds δ' => lft (zipTO ds) δ'
theorem si_zipN {X : Cx} {Γ : Gm} {E : WX} {W : List Nat} {e e2 : Expr} {fa : EvA} {p pos tpos : Pos} {nm : Str} (hg : Gl X "zip") (hm : X.mg "zip" = none) (ha : SA X Γ E W 2 [e, e2] fa)
    (hs : starEach [e, e2] X.env = (false, eval e X.env) :: starEach [e2] X.env) (hpl : (backTo pos (starEach [e2] X.env)).any (·.1) = false) :
    SI X Γ E W (.Name nm tpos) (.Call (.Name "zip" p) [e, e2] [] pos) (iZipTD fa) := fun hK => (ZN.pi_zipN hg hm (ha hK) hs hpl).imp fun σ H R ⟨F, G, sl, tm, A, q⟩ => by
  refine ⟨F, G, sl, tm, A, ?_⟩
  unfold iZipTD at q
  cases hf : fa (dsl sl) with
  | stuck => rw [hf] at q; exact q
  | exc c fs δ => rw [hf] at q; exact q
  | ok ds δ =>
    rw [hf, bd_ok] at q
    intro H1 G1 sl1 ts A1 s1 hl ets e1 k1
    obtain ⟨t1, t2, rfl⟩ : ∃ t1 t2, ts = [t1, t2] := by
      match ts, hl with
      | [t1, t2], _ => exact ⟨t1, t2, rfl⟩
    have ets : [t1.d, t2.d] = ds := ets
    subst ets
    have inv : ∀ es, zipTO [t1.d, t2.d] = some es → ∃ xs ys, t1.d = .tup xs ∧ t2.d = .tup ys ∧ es = zipD xs ys := fun es h => by
      cases e1 : t1.d <;> cases e2 : t2.d <;> rw [e1, e2] at h <;> first | (cases h; exact ⟨_, _, rfl, rfl, rfl⟩) | cases h
    cases hz : zipTO [t1.d, t2.d] with
    | none => rw [hz] at q; exact q.elim
    | some es =>
      obtain ⟨xs, ys, d1, d2, rfl⟩ := inv es hz
      rw [hz, lft_some] at q
      obtain ⟨z1, a, vs, ev1, q1, r1⟩ := tup_of (A1.goodT t1 (by simp)) d1
      obtain ⟨z2, b, ws, ev2, q2, r2⟩ := tup_of (A1.goodT t2 (by simp)) d2
      have B : Abs Γ F σ H1 G1 sl1 tm := A1.dropN
      refine ⟨a, b, vs, ws, by rw [List.map_cons, List.map_cons, ev1, ev2]; rfl, by rw [hK]; exact sqT_of B.sub q1, by rw [hK]; exact sqT_of B.sub q2, ?_⟩
      rw [hK]
      exact q _ H1 G1 sl1 B s1 e1 k1 (gives_zipT q1 r1 q2 r2) (by unfold zipD; rw [List.length_zipWith]; omega)
theorem takesF {P : Program} {w : World} {K : PySem.W.Frag} {mg : Str → Option Value} {base : Heap} {N : List Str} {qual : Str} {scope : Scope} {f : Addr} {cd : Value} {A : Around} {outer : List Env} {s : Shared} {H : Hp} {E : XK} :
    Takes (cxOf (L2.CX P w) P w K mg base N qual scope f cd A outer s H E) (fun cls d _ H' => E cls d H') := takes_of rfl rfl rfl rfl
theorem ownsF {P : Program} {w : World} {K : PySem.W.Frag} {mg : Str → Option Value} {base : Heap} {N : List Str} {qual : Str} {scope : Scope} {f : Addr} {cd : Value} {A : Around} {outer : List Env} {s : Shared} {H : Hp} {E : XK} :
    PassesOwn (model (cxOf (L2.CX P w) P w K mg base N qual scope f cd A outer s H E).prog (cxOf (L2.CX P w) P w K mg base N qual scope f cd A outer s H E).w) (cxOf (L2.CX P w) P w K mg base N qual scope f cd A outer s H E).A (cxOf (L2.CX P w) P w K mg base N qual scope f cd A outer s H E).env (cxOf (L2.CX P w) P w K mg base N qual scope f cd A outer s H E).xe :=
  passes_of rfl
theorem takes0' {X : Cx} : Takes X E0' := takes0
end Pv
end L2
end
section
set_option Elab.async false
set_option linter.all false
set_option autoImplicit false
set_option maxRecDepth 100000
namespace L2.Pv
open PySem PySem.Spec PyProof.Rows
/-! ### a def whose code object is known (it makes lambdas) -/
def FunC (K : PySem.W.Frag) (x qual : Str) (st : Stmt) (f : Addr) (fd : FuncData) (c : Addr) : Prop :=
  ∃ (oc : Value) (od : Option Addr) (kV doc pm : Value) (an : Option Addr) (ct : Value) (osl : Array (Option Value)),
    fd = PySem.W.fnOf x qual (defArgs st) (defBody st) (defScope st) .none kV doc pm an (.ref c) ct ∧ K.lookup f = some ⟨oc, od, .func fd, osl⟩ ∧ PySem.W.codeIn K (.ref c) qual = true
section
variable {P : Program} {w : World} {K : PySem.W.Frag} {mg : Str → Option Value} {base : Heap} {Γ : Gm}
theorem fn_okC {x qual : Str} {st : Stmt} {f c : Addr} {fd : FuncData} {N ps : List Str} {k : Nat} {io : List Nat} {m : List D → FOut} {g : Es} (F : FunC K x qual st f fd c) (S : FnScope N ps (defScope st)) (hK : K = Γ.K) (hn : io.Nodup) (hio : ∀ i ∈ io, i < ps.length)
    (hm : ∀ ds, m ds = runF io N.length ps.length g ds)
    (body : ∀ (A : Around) (outer : List Env) (s : Shared) (H : Hp) (E : XK), Room k (A.deeper (envOfC qual (defScope st) s.heap.objs.size f (.ref c))) →
      SB (cxOf (L2.CX P w) P w K mg base N qual (defScope st) f (.ref c) A outer s H E) Γ (fun cls d _ H' => E cls d H') io (defBody st) g) : FnOk P w K mg base (L2.CX P w) (k + 1) f fd ps (spF Γ io m) := by
  obtain ⟨oc, od, kV, doc, pm, an, ct, osl, rfl, lk, hcd⟩ := F
  exact fn_of lk hcd S (spF_len hm) fun A outer s H vs Q E hr hsp => ⟨_, body A outer s H E hr hK, spF_start hn hio hm hsp⟩
theorem fn_okCG {x qual : Str} {st : Stmt} {f c : Addr} {fd : FuncData} {N ps : List Str} {k : Nat} {io : List Nat} {m : List D → FOut} {g : Es} (F : FunC K x qual st f fd c) (S : FnScope N ps (defScope st)) (hK : K = Γ.K) (hn : io.Nodup) (hio : ∀ i ∈ io, i < ps.length)
    (hm : ∀ ds, m ds = runF io N.length ps.length g ds)
    (body : ∀ (A : Around) (outer : List Env) (s : Shared) (H : Hp) (E : XK), A.guards = some [] → Room k (A.deeper (envOfC qual (defScope st) s.heap.objs.size f (.ref c))) →
      SB (cxOf (L2.CX P w) P w K mg base N qual (defScope st) f (.ref c) A outer s H E) Γ (fun cls d _ H' => E cls d H') io (defBody st) g) : FnG P w K mg base (k + 1) f fd ps (spF Γ io m) := by
  obtain ⟨oc, od, kV, doc, pm, an, ct, osl, rfl, lk, hcd⟩ := F
  exact ⟨spF_len hm, fun A outer s H args us vs Q E hg hr e0 hb r hsp => LamX.run_ofS lk hcd S hr e0 hb r (spF_len hm vs H Q E hsp) fun hr' => ⟨_, body A outer s H E hg hr' hK, spF_start hn hio hm hsp⟩⟩
end
/-! ### the bodies of try: a() and return a() -/
section
variable {X : Cx} {tb : TE} {e : Expr} {pos : Pos} {f c' : Addr} {q : Str} {tl : XK → Hp → VK → Prop} {W : WX}
theorem tryE (h : ∀ E : XK, (∀ cls d σ' H', E cls d H' → W cls d σ' H') → PE X e (fun σZ HZ Q => σZ[0]? = some (some (.ref f)) ∧ HZ c' = some (LamX.CodeO c' q) ∧ tl E HZ Q)) (hs : swapsWith e none pos.line X.env = pure false) :
    PSs X [.Expr e pos] fun D σ H => ∃ Ech : XK, (∀ cls d σ' H', Ech cls d H' → W cls d σ' H') ∧ σ[0]? = some (some (.ref f)) ∧ H c' = some (LamX.CodeO c' q) ∧ tl Ech H fun v H' => if false = true then D.rt v H' else D.nx σ H' :=
  ⟨fun pins s σ H D I ⟨Ech, hW, h1, h2, h3⟩ => (pss_one (ps_expr (h Ech hW) hs)).run pins s σ H D I ⟨h1, h2, h3⟩⟩
theorem tryR (h : ∀ E : XK, (∀ cls d σ' H', E cls d H' → W cls d σ' H') → PE X e (fun σZ HZ Q => σZ[0]? = some (some (.ref f)) ∧ HZ c' = some (LamX.CodeO c' q) ∧ tl E HZ Q)) :
    PSs X [.Return (some e) pos] fun D σ H => ∃ Ech : XK, (∀ cls d σ' H', Ech cls d H' → W cls d σ' H') ∧ σ[0]? = some (some (.ref f)) ∧ H c' = some (LamX.CodeO c' q) ∧ tl Ech H fun v H' => if true = true then D.rt v H' else D.nx σ H' :=
  ⟨fun pins s σ H D I ⟨Ech, hW, h1, h2, h3⟩ => (pss_one (ps_ret (h Ech hW))).run pins s σ H D I ⟨h1, h2, h3⟩⟩
end
end L2.Pv
end
section
set_option Elab.async false
set_option linter.all false
set_option autoImplicit false
set_option maxRecDepth 100000
set_option maxHeartbeats 2000000
namespace L2.Pv
open PySem PySem.Spec PyProof.Rows
/-! ### the end of a law in the value layer: its def with guards told, code tables, the modules' dict frozen -/
abbrev modsX (om : Obj) : HO := .frz om (.ext fun h => h.get? sysModules = some om)
/-- the heap at the law's entry: the modules' dict, the tables, the script (unless it is written) -/
def entryH (om oa : Obj) (ts : List Addr) (a : Addr) (fr : Bool) (ns : List Int) : Hp := fun b =>
  if b = sysModules then some (modsX om) else if b ∈ ts then some (.tbl #[]) else if fr = true ∧ b = a then some (.frz oa (.lst (ns.map V.int))) else none
def entryG (om oa : Obj) (a : Addr) (fr : Bool) (ns : List Int) : Hp := fun b =>
  if b = sysModules then some (modsX om) else if fr = true ∧ b = a then some (.frz oa (.lst (ns.map V.int))) else none
def groundH (om : Obj) : Hp := fun b => if b = sysModules then some (modsX om) else none
section
variable {om oa : Obj} {ts : List Addr} {a : Addr} {fr : Bool} {ns : List Int}
theorem entry_mods : entryH om oa ts a fr ns sysModules = some (modsX om) := if_pos rfl
theorem entry_tab {b : Addr} (h : b ∈ ts) (n : b ≠ sysModules) : entryH om oa ts a fr ns b = some (.tbl #[]) := by unfold entryH; rw [if_neg n, if_pos h]
theorem entry_none {b : Addr} (h : b ∉ ts) (n : b ≠ sysModules) (k : ¬ (fr = true ∧ b = a)) : entryH om oa ts a fr ns b = none := by unfold entryH; rw [if_neg n, if_neg h, if_neg k]
theorem entry_cases {b : Addr} {o : HO} (e : entryH om oa ts a fr ns b = some o) : (b = sysModules ∧ o = modsX om) ∨ (b ≠ sysModules ∧ b ∈ ts ∧ o = .tbl #[]) ∨ (b ≠ sysModules ∧ b ∉ ts ∧ fr = true ∧ b = a ∧ o = .frz oa (.lst (ns.map V.int))) := by
  unfold entryH at e
  by_cases h1 : b = sysModules
  · rw [if_pos h1] at e; exact .inl ⟨h1, (Option.some.inj e).symm⟩
  · rw [if_neg h1] at e
    by_cases h2 : b ∈ ts
    · rw [if_pos h2] at e; exact .inr (.inl ⟨h1, h2, (Option.some.inj e).symm⟩)
    · rw [if_neg h2] at e
      by_cases h3 : fr = true ∧ b = a
      · rw [if_pos h3] at e; exact .inr (.inr ⟨h1, h2, h3.1, h3.2, (Option.some.inj e).symm⟩)
      · rw [if_neg h3] at e; cases e
theorem entryG_cases {b : Addr} {o : HO} (e : entryG om oa a fr ns b = some o) : (b = sysModules ∧ o = modsX om) ∨ (b ≠ sysModules ∧ fr = true ∧ b = a ∧ o = .frz oa (.lst (ns.map V.int))) := by
  unfold entryG at e
  by_cases h1 : b = sysModules
  · rw [if_pos h1] at e; exact .inl ⟨h1, (Option.some.inj e).symm⟩
  · rw [if_neg h1] at e
    by_cases h3 : fr = true ∧ b = a
    · rw [if_pos h3] at e; exact .inr ⟨h1, h3.1, h3.2, (Option.some.inj e).symm⟩
    · rw [if_neg h3] at e; cases e
theorem entryG_sub (ha : a ∉ ts) : Sub (entryG om oa a fr ns) (entryH om oa ts a fr ns) := fun b o e => by
  rcases entryG_cases e with ⟨e1, e2⟩ | ⟨e1, e2, e3, e4⟩
  · rw [e1, e2]; exact entry_mods
  · rw [e4, e3]; unfold entryH
    rw [if_neg (show a ≠ sysModules from e3 ▸ e1), if_neg ha, if_pos ⟨e2, rfl⟩]
theorem groundH_sub : Sub (groundH om) (entryG om oa a fr ns) := fun b o e => by
  unfold groundH at e
  by_cases h1 : b = sysModules
  · rw [if_pos h1] at e; unfold entryG; rw [if_pos h1]; exact e
  · rw [if_neg h1] at e; cases e
theorem entryG_nt : NT (entryG om oa a fr ns) := fun b o e ps z => by
  rcases entryG_cases e with ⟨_, e2⟩ | ⟨_, _, _, e4⟩
  · rw [e2] at z; cases z
  · rw [e4] at z; cases z
end
/-- the run of the law's def from its entry -/
theorem spF_entry {Γ : Gm} {m : List D → FOut} {om oa : Obj} {ts : List Addr} {a : Addr} {fr : Bool} {ns : List Int} (hgb : Γ.gb = groundH om) (ha : a ∉ ts) (hl : ns.length ≤ sizeLine) (hT : LamX.Tabs Γ.tb (entryH om oa ts a fr ns))
    (hS : fr = false → ∃ its n, Γ.K.lookup a = some { cls := .type "list", data := .seq its n } ∧ its.size ≤ sizeLine ∧ Vals (ns.map V.int) its.toList) (ham : a ≠ sysModules) (hm : ∃ os, m [.scr ns] = .ok (.bl true) os) :
    spF Γ [] m [.ref a] (entryH om oa ts a fr ns) (fun v _ => v = .bl true) fun _ _ _ => False := by
  have A0 : Abs Γ (FrOf (entryH om oa ts a fr ns) (entryG om oa a fr ns) []) [] (entryH om oa ts a fr ns) (entryG om oa a fr ns) [] [] :=
    Abs.fresh0 (slc := []) rfl (fun i t h => by simp at h) (fun i t h => by simp at h) (entryG_sub ha) (by rw [hgb]; exact groundH_sub) entryG_nt hT
  have hr : Rep Γ (entryG om oa a fr ns) (.ref a) (.scr ns) := by
    refine ⟨hl, a, rfl, ?_⟩
    cases fr with
    | true =>
      refine .inl (.inr ⟨oa, ?_⟩)
      unfold entryG
      rw [if_neg ham, if_pos ⟨rfl, rfl⟩]
    | false =>
      obtain ⟨its, n, h1, h2, h3⟩ := hS rfl
      exact .inr ⟨_, its, n, h1, rfl, rfl, rfl, h2, h3⟩
  refine ⟨entryG om oa a fr ns, [.leaf (.ref a) (.scr ns)], rfl, Abs.toCall (ts := [.leaf (.ref a) (.scr ns)]) (tm := []) (A0.leaf hr), ?_⟩
  obtain ⟨os, hm⟩ := hm
  show match m [.scr ns] with | .ok d os => _ | .exc c fs os => _ | .stuck => False
  rw [hm]
  intro H' G' t us B ed _ _
  exact bl_of (B.goodT t List.mem_cons_self) ed
end L2.Pv
end
section
set_option Elab.async false
set_option linter.all false
set_option autoImplicit false
set_option maxRecDepth 100000
set_option maxHeartbeats 2000000
namespace L2.Pv
open PySem PySem.Spec PyProof.Rows
theorem noCX {P : Program} {w : World} {H : Hp} {s : Shared} {e : Value} {s' : Shared} (x : L2.CX P w [] H s (fun _ _ _ => False) e s') : False := by
  obtain ⟨_, _, _, _, _, _, _, _, _, _, _, _, z⟩ := x
  exact z
abbrev emptyTab : Obj := { cls := .none, data := .fields #[] }
abbrev listObj (vs : List Value) : Obj := { cls := .type "list", data := .seq vs.toArray }
section
variable {P : Program} {w : World} {K : PySem.W.Frag} {mg mb : Str → Option Value} {h : Heap} {om : Obj} {a : Addr} {cs : List (Addr × Addr)} {vs : List Value} {ns : List Int} {fr : Bool}
/-- what is known of the heap at the law's entry -/
structure Entry (K : PySem.W.Frag) (mg mb : Str → Option Value) (h : Heap) (om : Obj) (a : Addr) (cs : List (Addr × Addr)) (vs : List Value) (ns : List Int) (fr : Bool) : Prop where
  kin : K.In h
  glob : h.Ns mainGlobals mg
  blt : h.Ns builtinsNs mb
  boot : ∀ x : Str, x ≠ "__name__" → mb x = bootBuiltins x
  lim : h.NoLimit
  tab : ∀ p ∈ cs, h.get? p.2 = some emptyTab
  tabK : ∀ p ∈ cs, K.lookup p.2 = none
  code : ∀ p ∈ cs, PySem.W.CodeHd h p.1 p.2
  main : ∃ (bm : Addr) (ob : Obj), mg "__builtins__" = some (.ref bm) ∧ bm ≠ builtinsNs ∧ h.get? bm = some ob ∧ ob.cls = .type "module" ∧ ob.dict = some builtinsNs ∧ ob.data = .plain
  script : h.get? a = some (listObj vs)
  isInts : IntsAre vs ns
  few : ns.length ≤ sizeLine
  mods : h.get? sysModules = some om
  modsD : ∃ es ep, om.data = .dict es ep
  modsK : K.lookup sysModules = none
  free : fr = true ↔ K.lookup a = none
theorem Entry.noTab (Z : Entry K mg mb h om a cs vs ns fr) {b : Addr} {o : Obj} (e : h.get? b = some o) (n : o.data ≠ .fields #[]) : b ∉ cs.map (·.2) := fun z => by
  obtain ⟨p, hp, ep⟩ := List.mem_map.mp z
  have q := Z.tab p hp
  rw [ep, e] at q
  exact n (by rw [Option.some.inj q])
theorem Entry.noMods (Z : Entry K mg mb h om a cs vs ns fr) {b : Addr} {o : Obj} (e : h.get? b = some o) (n : ∀ es ep, o.data ≠ .dict es ep) : b ≠ sysModules := fun z => by
  have q := Z.mods
  rw [← z, e] at q
  obtain ⟨es, ep, hd⟩ := Z.modsD
  exact n es ep (by rw [Option.some.inj q]; exact hd)
theorem Entry.noScript (Z : Entry K mg mb h om a cs vs ns fr) {b : Addr} {o : Obj} (e : h.get? b = some o) (n : ∀ xs k, o.data ≠ .seq xs k) : b ≠ a := fun z => by
  have q := Z.script
  rw [← z, e] at q
  exact n _ _ (by rw [Option.some.inj q])
theorem Entry.sa (Z : Entry K mg mb h om a cs vs ns fr) : a ∉ cs.map (·.2) := Z.noTab Z.script fun z => nomatch z
theorem Entry.sm (Z : Entry K mg mb h om a cs vs ns fr) : a ≠ sysModules := Z.noMods Z.script fun _ _ z => nomatch z
theorem Entry.tm (Z : Entry K mg mb h om a cs vs ns fr) {b : Addr} (hb : b ∈ cs.map (·.2)) : b ≠ sysModules := by
  obtain ⟨p, hp, ep⟩ := List.mem_map.mp hb
  subst ep
  exact Z.noMods (Z.tab p hp) fun _ _ z => nomatch z
abbrev EH (om : Obj) (a : Addr) (cs : List (Addr × Addr)) (vs : List Value) (ns : List Int) (fr : Bool) : Hp := entryH om (listObj vs) (cs.map (·.2)) a fr ns
theorem Entry.hok (Z : Entry K mg mb h om a cs vs ns fr) : HOk P w (EH om a cs vs ns fr) h := fun b o e => by
  rcases entry_cases e with ⟨rfl, rfl⟩ | ⟨_, hb, rfl⟩ | ⟨_, _, _, rfl, rfl⟩
  · exact ⟨Z.mods, Z.mods, ⟨om, Z.mods⟩, fun h1 h2 p1 p2 => p2 _ p1⟩
  · obtain ⟨p, hp, ep⟩ := List.mem_map.mp hb
    subst ep
    exact Z.tab p hp
  · exact ⟨Z.script, by rw [List.length_map]; exact Z.few, vs, _, vals_ints Z.isInts, Z.script⟩
/-- an object of the heap that is not tracked lies in the base -/
theorem Entry.inBase (Z : Entry K mg mb h om a cs vs ns fr) {b : Addr} {o : Obj} (e : h.get? b = some o) (h1 : b ≠ sysModules) (h2 : b ∉ cs.map (·.2)) (h3 : ¬ (fr = true ∧ b = a)) : (hidT h (EH om a cs vs ns fr)).get? b = some o :=
  hidT_get e (entry_none h2 h1 h3)
theorem Entry.nsB (Z : Entry K mg mb h om a cs vs ns fr) {b : Addr} {m : Str → Option Value} (x : h.Ns b m) (hb : b ≠ sysModules) : (hidT h (EH om a cs vs ns fr)).Ns b m := by
  obtain ⟨o, es, ep, e, d, r⟩ := x
  exact ⟨o, es, ep, Z.inBase e hb (Z.noTab e (by rw [d]; exact fun z => nomatch z)) (fun z => Z.noScript e (by rw [d]; exact fun _ _ z => nomatch z) z.2), d, r⟩
theorem Entry.kinB (Z : Entry K mg mb h om a cs vs ns fr) : K.In (hidT h (EH om a cs vs ns fr)) := fun b o e => by
  refine Z.inBase (Z.kin b o e) (fun z => ?_) (fun z => ?_) fun z => ?_
  · rw [z, Z.modsK] at e; cases e
  · obtain ⟨p, hp, ep⟩ := List.mem_map.mp z
    rw [← ep, Z.tabK p hp] at e; cases e
  · rw [z.2, Z.free.mp z.1] at e; cases e
theorem Entry.tabB (Z : Entry K mg mb h om a cs vs ns fr) : ∀ p ∈ cs, LamX.TabB (hidT h (EH om a cs vs ns fr)) mg p.1 p.2 := fun p hp => by
  have plain : ∀ {b : Addr} {o : Obj}, h.get? b = some o → (∀ es ep, o.data ≠ .dict es ep) → (∀ xs k, o.data ≠ .seq xs k) → o.data ≠ .fields #[] → (hidT h (EH om a cs vs ns fr)).get? b = some o :=
    fun e n1 n2 n3 => Z.inBase e (Z.noMods e n1) (Z.noTab e n3) fun z => Z.noScript e n2 z.2
  obtain ⟨og, esg, epg, eg, dg, _⟩ := Z.glob
  refine ⟨?_, ?_, fun z => ?_⟩
  · obtain ⟨oc, us, fl, tf, flg, tg, inF, txt, tt, c1, c2, c3, c4, c5, c6, c7, c8, c9, c10⟩ := Z.code p hp
    refine ⟨oc, us, fl, tf, flg, tg, inF, txt, tt, plain c1 (fun _ _ z => ?_) (fun _ _ z => ?_) (fun z => ?_), c2, c3, c4, c5, c6, c7, c8, c9, c10⟩
    · rw [c3] at z; cases z
    · rw [c3] at z; cases z
    · rw [c3] at z; cases z; simp at c4
  · obtain ⟨bm, ob, b1, b2, b3, b4, b5, b6⟩ := Z.main
    refine ⟨bm, ob, b1, b2, fun q => ?_, fun q => ?_, plain b3 (fun _ _ z => ?_) (fun _ _ z => ?_) (fun z => ?_), b4, b5, b6⟩
    · rw [q, eg] at b3; cases b3; rw [dg] at b6; cases b6
    · rw [q, Z.tab p hp] at b3; cases b3; cases b6
    · rw [b6] at z; cases z
    · rw [b6] at z; cases z
    · rw [b6] at z; cases z
  · have q := Z.tab p hp
    rw [← z, eg] at q
    rw [Option.some.inj q] at dg
    cases dg
/-- what stood ahead of the call stands behind it -/
theorem Entry.old (Z : Entry K mg mb h om a cs vs ns fr) {h' : Heap} {H' : Hp} (un : Un (frs []) [] (EH om a cs vs ns fr) H' h h') (hok : HOk P w H' h') : OldK h h' := by
  have stays : ∀ b o, b ∉ cs.map (·.2) → h.get? b = some o → h'.get? b = some o := fun b o nb e => by
    cases q : EH om a cs vs ns fr b with
    | none => exact un.keep b o e q (fun z => nomatch (show b ∈ ([] : List Addr) from z)) (fun z => nomatch (show b ∈ ([] : List Addr) from z))
    | some u =>
      rcases entry_cases q with ⟨e1, e2⟩ | ⟨_, e2, _⟩ | ⟨_, _, _, e3, e4⟩
      · rw [e1, Z.mods] at e
        cases e
        rw [e1]
        exact (hok sysModules _ (un.frzs sysModules _ _ (by rw [← e1, q, e2]))).1
      · exact absurd e2 nb
      · subst e3
        rw [Z.script] at e
        cases e
        exact (hok b _ (un.frzs b _ _ (by rw [q, e4]))).1
  have grown : ∀ p ∈ cs, ∃ more : Array Value, h'.get? p.2 = some { cls := .none, data := .fields more } := fun p hp => by
    have hb : p.2 ∈ cs.map (·.2) := List.mem_map.mpr ⟨p, hp, rfl⟩
    obtain ⟨more, z⟩ := un.tbls p.2 #[] (entry_tab hb (Z.tm hb))
    exact ⟨_, hok p.2 _ z⟩
  refine ⟨fun b o e => ?_, fun b o e => ?_⟩
  · by_cases hb : b ∈ cs.map (·.2)
    · obtain ⟨p, hp, ep⟩ := List.mem_map.mp hb
      obtain ⟨more, gm⟩ := grown p hp
      subst ep
      rw [Z.tab p hp] at e
      obtain rfl := Option.some.inj e
      refine .inr (.inl ⟨((Z.code p hp).tab (Z.tab p hp)).isCodeTable, rfl, #[], more, rfl, ?_⟩)
      rw [Array.empty_append]
      exact gm
    · exact .inl (stays b o hb e)
  · by_cases hb : b ∈ cs.map (·.2)
    · obtain ⟨p, hp, ep⟩ := List.mem_map.mp hb
      obtain ⟨more, gm⟩ := grown p hp
      subst ep
      exact ⟨_, gm⟩
    · exact ⟨o, stays b o hb e⟩
end
/-- the call of the law's def -/
theorem law_run {P : Program} {w : World} {K : PySem.W.Frag} {mg mb : Str → Option Value} {om : Obj} {a fa : Addr} {cs : List (Addr × Addr)} {vs : List Value} {ns : List Int} {fr : Bool} {s₁ : Shared} {k : Nat} {fd : FuncData} {x : Str} {Γ : Gm} {m : List D → FOut}
    (Z : Entry K mg mb s₁.heap om a cs vs ns fr) (hg : s₁.gens = #[]) (hr : Room k callerA) (hbind : ∀ (s : Shared) (u : Value), BindsTo s fd ⟨[u], []⟩ [(x, u)])
    (F : ∀ base : Heap, K.In base → base.Ns mainGlobals mg → (∀ p ∈ cs, LamX.TabB base mg p.1 p.2) → FnG P w K mg base k fa fd [x] (spF Γ [] m))
    (hK : K = Γ.K) (hgb : Γ.gb = groundH om) (htb : ∀ p ∈ Γ.tb, p.1 ∈ cs.map (·.2)) (hm : ∃ os, m [.scr ns] = .ok (.bl true) os) :
    codeAny (model P w) callerA (.call (.ref fa) ⟨[.ref a], []⟩) (fun r s' => r = .ok (.ret (.bool true)) ∧ OldK s₁.heap s'.heap ∧ s'.os = s₁.os ∧ AllBare s'.gens) s₁ := by
  have kin := Z.kinB
  have ng : mainGlobals ≠ sysModules := by decide
  have hM : L2.Mod K mg (hidT s₁.heap (EH om a cs vs ns fr)) := ⟨kin, Z.nsB Z.glob ng, ⟨mb, Z.nsB Z.blt (by decide), Z.boot⟩, let ⟨mc, h1, h2⟩ := Z.lim; ⟨mc, Z.nsB h1 (by decide), h2⟩⟩
  have e0 : Env0 P w K mg (hidT s₁.heap (EH om a cs vs ns fr)) callerA [] s₁ (EH om a cs vs ns fr) :=
    ⟨rfl, hM, fun b o e => of_hidT e, Nat.le_of_eq (hidT_size _ _), trivial, (fun b hb => absurd (show b ∈ ([] : List Addr) from hb) List.not_mem_nil), Z.hok, .of_eq hg⟩
  have hT : LamX.Tabs Γ.tb (EH om a cs vs ns fr) := fun p hp => by
    have hb := htb p hp
    exact ⟨#[], entry_tab hb (Z.tm hb), by first | exact trivial | (intro; simp) | decide, fun pos cv hc => by simp [codeAmong] at hc⟩
  have sp := spF_entry (Γ := Γ) (m := m) (oa := listObj vs) hgb Z.sa Z.few hT (fun e => by
    have hk : ¬ K.lookup a = none := fun z => by rw [Z.free.mpr z] at e; cases e
    cases hl : K.lookup a with
    | none => exact absurd hl hk
    | some o =>
      have q := Z.kin a o hl
      rw [Z.script] at q
      obtain rfl := Option.some.inj q
      exact ⟨_, _, by rw [← hK]; exact hl, by rw [List.size_toArray, ← (show ns.length = vs.length from by have := Z.isInts.length; omega)]; exact Z.few, by simpa using vals_ints Z.isInts⟩) Z.sm hm
  refine codeAny_mono ((F _ kin hM.glob Z.tabB).run callerA [] s₁ _ ⟨[.ref a], []⟩ [.ref a] [.ref a] _ _ rfl hr e0 (hbind s₁ (.ref a)) (.cons rfl .nil) sp) fun r s' q => ?_
  cases r with
  | error e => exact (noCX q).elim
  | ok fl =>
    cases fl with
    | ret u =>
      obtain ⟨v, H', os, bare, un, hok', r', qv⟩ := q
      have qv : v = .bl true := qv
      subst qv
      obtain rfl : u = Value.bool true := r'
      exact ⟨rfl, Z.old un hok', os, bare⟩
    | next => exact False.elim q
    | brk => exact False.elim q
    | cont => exact False.elim q
/-- the goal that the head leaves -/
theorem walk_pv {l : PySem.W.OpenLaw} {n k : Nat} {q : Program} {loose : List Str} {XP : (Str → Option Value) → Heap → Prop} {YP : World → Heap → Prop} {d : DefRec} {K : Params → PySem.W.Frag} {x : Str} {cs : List (Addr × Addr)} {tb : List (Addr × Str)} {m : List D → FOut} {fas cas : Nat → Addr} {fls : Nat → List Str}
    (hn : l.most = some n) (hn2 : n ≤ sizeLine) (hdf : d.params.defaults = []) (hr : Room k callerA) (hY : ∀ (w : World) (h : Heap), YP w h → (K w.params).In h)
    (htab : ∀ (w : World) (h : Heap), YP w h → ∀ p ∈ cs, h.get? p.2 = some emptyTab) (hcode : ∀ (w : World) (h : Heap), YP w h → ∀ p ∈ cs, PySem.W.CodeHd h p.1 p.2) (htabK : ∀ w : World, ∀ p ∈ cs, (K w.params).lookup p.2 = none)
    (himp : importsNone q = true) (hmK : ∀ w : World, (K w.params).lookup sysModules = none) (htb : ∀ p ∈ tb, p.1 ∈ cs.map (·.2))
    (F : ∀ (w : World) (mg : Str → Option Value) (fa : Addr) (h : Heap) (g : Hp), YP w h → (K w.params).In h → h.Ns mainGlobals mg → mg d.name = some (.ref fa) → (∃ om, g = groundH om) →
      ∃ fd : FuncData, (∀ (s : Shared) (u : Value), BindsTo s fd ⟨[u], []⟩ [(x, u)]) ∧
        ∀ base : Heap, (K w.params).In base → base.Ns mainGlobals mg → (∀ p ∈ cs, LamX.TabB base mg p.1 p.2) → FnG l.prog w (K w.params) mg base k fa fd [x] (spF ⟨K w.params, fas, cas, fls, tb, g⟩ [] m))
    (hm : ∀ ns : List Int, ns.length ≤ n → (∀ z ∈ ns, Builtin.Int.intBits z ≤ 1048576) → ∃ os, m [.scr ns] = .ok (.bl true) os) :
    PySem.W.WalkO q loose XP YP l.row.toRowW d [] (fun f vs => PySem.call f vs) := by
  refine Att.attach_callB hn hdf fun w s₀ s₁ mg mb fa o pm cd doc a vs ns G Y ho hd hcd hmg hobj hints hlen hbits hg => ?_
  have KX := hY w _ Y
  obtain ⟨mm, ⟨om, es, ep, em, dm, _⟩, _⟩ := (G.T.seer himp).mods
  obtain ⟨fd, hb, hF⟩ := F w mg fa _ (groundH om) Y KX G.T.g hmg ⟨om, rfl⟩
  have Z : Entry (K w.params) mg mb s₁.heap om a cs vs ns (decide ((K w.params).lookup a = none)) :=
    ⟨KX, G.T.g, G.T.b, G.T.builtins, G.T.nolimit, htab w _ Y, htabK w, hcode w _ Y, G.T.bmain, hobj, hints, Nat.le_trans hlen hn2, em, ⟨es, ep, dm⟩, hmK w, decide_eq_true_iff⟩
  exact law_run (Γ := ⟨K w.params, fas, cas, fls, tb, groundH om⟩) Z hg hr hb hF rfl rfl htb (hm ns hlen hbits)
end L2.Pv
end
section
set_option Elab.async false
set_option linter.all false
set_option autoImplicit false
set_option maxRecDepth 100000
namespace L2.Pv
open PySem PySem.Spec PyProof.Rows PySem.W
theorem ex0_mk {K : Frag} {prog : Program} {C fI : Addr} {oc : Value} {od : Option Addr} {osl : Array (Option Value)} {name : Str} {qual : Str} {params : Arguments} {body : List Stmt} {scope : Scope} {dV : Value} {kV : Value} {doc : Value} {pm : Value} {an : Option Addr} {cda : Addr} {ct : Value} {cc : Addr} {msg : Str} {j : Nat} {p0 : Pos} {p1 : Pos} {p2 : Pos} {p3 : Pos} {p4 : Pos} {p5 : Pos} {ccl : Value} {cdd : Option Addr} {vs : Array Value} {ccs : Array (Option Value)} {file : Str} {tf : Tok} {cl : Value} {cld : Option Addr} {csl : Array (Option Value)} {newId : String} {bmB : List Value} {cdC : ClassData} {pl : Addr → Sem Bool}
    (FB : ExcBaseFacts "ValueError" newId "ValueError.__init__" bmB)
    (q : excInitIn K C bmB newId = true)
    (hi : findIn K (.ref C) "__init__" = some (some (.ref fI)))
    (hfn : isFn K (.ref fI) = true)
    (ho : K.lookup fI = some ⟨oc, od, .func (ksFn name qual params body scope dV kV doc pm an (.ref cda) ct cc), osl⟩)
    (hbody : body = [.Expr (.Call (.Attribute (.Call (.Name "super" p0) [] [] p1) "__init__" p2) [.Constant (.str msg) j p3] [] p4) p5])
    (hcd : codeIn K (.ref cda) qual = true)
    (hbind : ∀ v : Value, bindArgs (ksFn name qual params body scope dV kV doc pm an (.ref cda) ct cc) ⟨[v], []⟩ = pure [(("self" : Str), v)])
    (hp : ((params.posonlyargs ++ params.args).head?).map (·.arg) = some ("self" : Str))
    (hcode : K.lookup cda = some ⟨ccl, cdd, .fields vs, ccs⟩)
    (hvs : vs[2]? = some (.str file tf))
    (hfile : ((prog.main.file : Str) == file) = true)
    (hcell : K.lookup cc = some ⟨cl, cld, .cell (some (.ref C)), csl⟩)
    (hD : clsIn K C = some cdC)
    (hsub : mroIn K C (.ref C) = some true)
    (hks : scope.names.lookup ("super" : Str) = some .globalImplicit)
    (hkc : scope.names.lookup ("__class__" : Str) = some .free)
    (hka : scope.names.lookup ("self" : Str) = some .local)
    (hk : scope.kind = .function)
    (hcells : ∀ x ∈ scope.names, x.2 ≠ .cell)
    (hco : scope.isCoroutine = false)
    (hgen : scope.isGenerator = false)
    (htop : (prog.main.scope.names.lookup ("super" : Str)).isSome = false)
    (hno : nsIn K cStatics "thirdparty.any" = some none)
    (hm : ks_superIn K C C "__init__" = some (some (.builtin "ValueError.__init__")))
    (hB : subIn K (.ref C) (.type "ValueError") = some true)
    (hkeep : keepIn K (.ref C) = true)
    (hEx : subIn K (.ref C) (.type "BaseException") = some true)
    (hTy : typeIn K (.ref C) = some (.type "type"))
    (he : ∀ L : Addr, eval (.Call (.Attribute (.Call (.Name "super" p0) [] [] p1) "__init__" p2) [.Constant (.str msg) j p3] [] p4) (ksEnv qual scope L fI (.ref cda) cc) = (do
      let ov ← attributeBase (.Call (.Name "super" p0) [] [] p1) "__init__" (ksEnv qual scope L fI (.ref cda) cc) (eval (.Call (.Name "super" p0) [] [] p1) (ksEnv qual scope L fI (.ref cda) cc))
      standAt p2.atName
      let (f, first) ← holding [ov] (getMethod ov "__init__" (pl L))
      callWith p4 f first (backTo p4 (starEach [.Constant (.str msg) j p3] (ksEnv qual scope L fI (.ref cda) cc))) []))
    (hin : ∀ L : Addr, interactive (ksEnv qual scope L fI (.ref cda) cc) = false)
    (hsw : ∀ L : Addr, swapsWith (.Call (.Attribute (.Call (.Name "super" p0) [] [] p1) "__init__" p2) [.Constant (.str msg) j p3] [] p4) none p5.line (ksEnv qual scope L fI (.ref cda) cc) = pure false) : Nonempty (Ex0 K prog C fI) :=
  ⟨{ oc := oc, od := od, osl := osl, name := name, qual := qual, params := params, body := body, scope := scope, dV := dV, kV := kV, doc := doc, pm := pm, an := an, cda := cda, ct := ct, cc := cc, msg := msg, j := j, p0 := p0, p1 := p1, p2 := p2, p3 := p3, p4 := p4, p5 := p5, ccl := ccl, cdd := cdd, vs := vs, ccs := ccs, file := file, tf := tf, cl := cl, cld := cld, csl := csl, newId := newId, bmB := bmB, cdC := cdC, pl := pl, FB := FB, q := q, hi := hi, hfn := hfn, ho := ho, hbody := hbody, hcd := hcd, hbind := hbind, hp := hp, hcode := hcode, hvs := hvs, hfile := hfile, hcell := hcell, hD := hD, hsub := hsub, hks := hks, hkc := hkc, hka := hka, hk := hk, hcells := hcells, hco := hco, hgen := hgen, htop := htop, hno := hno, hm := hm, hB := hB, hkeep := hkeep, hEx := hEx, hTy := hTy, he := he, hin := hin, hsw := hsw }⟩
end L2.Pv
end
section
set_option Elab.async false
set_option linter.all false
set_option autoImplicit false
set_option maxRecDepth 100000
namespace L2.Pv
open PySem
/-! ### plain runs: each combinator at a state -/
section
variable {α : Type} {δ : DS} {g g' : Es} {f fa fb fc : Ev} {fc' : EvT}
@[simp] theorem sSeq_ap : sSeq g g' δ = (g δ).th g' := rfl
@[simp] theorem sNil_ap : sNil δ = .nx δ := rfl
@[simp] theorem sPass_ap : sPass δ = .nx δ := rfl
@[simp] theorem sBreak_ap : sBreak δ = .bk δ := rfl
@[simp] theorem sCont_ap : sCont δ = .ct δ := rfl
@[simp] theorem sExpr_ap : sExpr f δ = (f δ).st fun _ δ' => .nx δ' := rfl
@[simp] theorem sRet_ap : sRet f δ = (f δ).st fun d δ' => .rt d δ' := rfl
@[simp] theorem sRetN_ap : sRetN δ = .rt .non δ := rfl
@[simp] theorem sSet_ap {i : Nat} : sSet i f δ = (f δ).st fun d δ' => dput i d δ' := rfl
@[simp] theorem dput_ap {i : Nat} {d : D} (h : i < δ.length) : dput i d δ = .nx (δ.set i (some d)) := if_pos h
@[simp] theorem sIf_ap : sIf fc' g g' δ = (fc' δ).st fun b δ' => if b then g δ' else g' δ' := rfl
@[simp] theorem sRaise_ap {c : Nat} : sRaise c δ = .exc c [] δ := rfl
@[simp] theorem sFor_ap {fi : EvA} {ft : Eg} : sFor fi ft g δ = (fi δ).st fun ds δ' => forL ft g ds δ' := rfl
@[simp] theorem forL_nil {ft : Eg} : forL ft g [] δ = .nx δ := rfl
@[simp] theorem sAsg_ap {fg : Eg} : sAsg f fg δ = (f δ).st fun d δ1 => og (fg d δ1) fun δ2 => .nx δ2 := rfl
@[simp] theorem gSet_ap {i : Nat} {d : D} (h : i < δ.length) : gSet i d δ = some (δ.set i (some d)) := if_pos h
@[simp] theorem gNil_ap : gNil' [] δ = some δ := rfl
@[simp] theorem eC_ap {d : D} : eC d δ = .ok d δ := rfl
@[simp] theorem aNil_ap : aNil δ = .ok [] δ := rfl
@[simp] theorem aCons_ap {g : EvA} : aCons f g δ = (f δ).bd fun d δ1 => (g δ1).bd fun ds δ2 => .ok (d :: ds) δ2 := rfl
@[simp] theorem eTup_ap {g : EvA} : eTup g δ = (g δ).bd fun ds δ' => .ok (.tup (D.frzs ds)) δ' := rfl
@[simp] theorem eLst_ap {g : EvA} : eLst g δ = (g δ).bd fun ds δ' => .ok (.lst true ds) δ' := rfl
@[simp] theorem eFrz_ap : eFrz f δ = (f δ).bd fun d δ' => .ok d.frz δ' := rfl
@[simp] theorem ev1_ap {h : D → Option D} : ev1 h f δ = (f δ).bd fun a δ1 => lft (h a) δ1 := rfl
@[simp] theorem ev2_ap {h : D → D → Option D} : ev2 h fa fb δ = (fa δ).bd fun a δ1 => (fb δ1).bd fun b δ2 => lft (h a b) δ2 := rfl
@[simp] theorem eIf_ap : eIf fc' fa fb δ = (fc' δ).bd fun b δ' => if b then fa δ' else fb δ' := rfl
@[simp] theorem cAnd_ap {ca cb : EvT} : cAnd ca cb δ = (ca δ).bd fun b δ' => if b then cb δ' else .ok false δ' := rfl
@[simp] theorem cOr_ap {ca cb : EvT} : cOr ca cb δ = (ca δ).bd fun b δ' => if b then .ok true δ' else cb δ' := rfl
@[simp] theorem cNot_ap {ca : EvT} : cNot ca δ = (ca δ).bd fun b δ' => .ok (!b) δ' := rfl
@[simp] theorem cYes_ap : cYes δ = .ok true δ := rfl
@[simp] theorem oNone_ap : oNone δ = .ok none δ := rfl
@[simp] theorem eSl_ap {fl fh : EvO} : eSl f fl fh δ = (f δ).bd fun a δ1 => (fl δ1).bd fun lo δ2 => (fh δ2).bd fun hi δ3 => lft (dSl a lo hi) δ3 := rfl
@[simp] theorem calF_ap {m : List D → FOut} {g : EvA} : calF m g δ = (g δ).bd fun ds δ' => match m ds with
  | .ok d _ => .ok d δ'
  | .exc c fs _ => .exc c fs δ'
  | .stuck => .stuck := rfl
@[simp] theorem iRng_ap {g : EvA} : iRng g δ = (g δ).bd fun ds δ' => match ds with
  | [.int j] => if j.natAbs ≤ sizeLine then .ok (rangeD 0 j.toNat) δ' else .stuck
  | [.int i, .int j] => if i.natAbs ≤ sizeLine ∧ j.natAbs ≤ sizeLine ∧ (j - i).toNat ≤ sizeLine then .ok (rangeD i (j - i).toNat) δ' else .stuck
  | _ => .stuck := rfl
end
/-! a value for a test, an index: -/
def Out.tb (o : Out D) : Out Bool := o.bd fun d δ' => match d with
  | .bl b => .ok b δ'
  | _ => .stuck
@[simp] theorem tb_ok {b : Bool} {δ : DS} : (Out.ok (.bl b) δ).tb = .ok b δ := rfl
@[simp] theorem tb_exc {c : Nat} {fs : List D} {δ : DS} : (Out.exc c fs δ : Out D).tb = .exc c fs δ := rfl
@[simp] theorem tb_stuck : (Out.stuck : Out D).tb = .stuck := rfl
@[simp] theorem cVal_ap {f : Ev} {δ : DS} : cVal f δ = (f δ).tb := rfl
def Out.ti (o : Out D) : Out (Option Int) := o.bd fun d δ' => match d with
  | .int i => .ok (some i) δ'
  | _ => .stuck
@[simp] theorem ti_ok {i : Int} {δ : DS} : (Out.ok (.int i) δ).ti = .ok (some i) δ := rfl
@[simp] theorem oSome_ap {f : Ev} {δ : DS} : oSome f δ = (f δ).ti := rfl
@[simp] theorem eAnd_ap {f g : Ev} {δ : DS} : eAnd f g δ = (f δ).tb.bd fun b δ' => if b then g δ' else .ok (.bl false) δ' := by
  unfold eAnd
  cases f δ with
  | ok d δ' => cases d with
    | bl b => cases b <;> rfl
    | _ => rfl
  | _ => rfl
@[simp] theorem eOr_ap {f g : Ev} {δ : DS} : eOr f g δ = (f δ).tb.bd fun b δ' => if b then .ok (.bl true) δ' else g δ' := by
  unfold eOr
  cases f δ with
  | ok d δ' => cases d with
    | bl b => cases b <;> rfl
    | _ => rfl
  | _ => rfl
@[simp] theorem eChain_ap {g g' : D → D → Option D} {fa fb fc : Ev} {δ : DS} : eChain g g' fa fb fc δ = (fa δ).bd fun a δ1 => (fb δ1).bd fun b δ2 => (lft (g a b) δ2).tb.bd fun t δ2 => if t then (fc δ2).bd fun c δ3 => lft (g' b c) δ3 else .ok (.bl false) δ2 := by
  unfold eChain
  cases fa δ with
  | ok a δ1 =>
    simp only [bd_ok]
    cases fb δ1 with
    | ok b δ2 =>
      simp only [bd_ok]
      cases h : g a b with
      | none => rfl
      | some d => cases d with
        | bl b => cases b <;> rfl
        | _ => rfl
    | _ => rfl
  | _ => rfl
/-! values -/
@[simp] theorem dAdd_int {i j : Int} : dAdd (.int i) (.int j) = some (.int (i + j)) := rfl
@[simp] theorem dSub_int {i j : Int} : dSub (.int i) (.int j) = some (.int (i - j)) := rfl
theorem dMul_int {i j : Int} (h : mulOk i j = true) : dMul (.int i) (.int j) = some (.int (i * j)) := if_pos h
theorem mulOk_l {i j : Int} (h1 : -(2 ^ 64) < i) (h2 : i < 2 ^ 64) : mulOk i j = true := by
  unfold mulOk; rw [decide_eq_true h1, decide_eq_true h2]; rfl
theorem mulOk_r {i j : Int} (h1 : -(2 ^ 64) < j) (h2 : j < 2 ^ 64) : mulOk i j = true := by
  unfold mulOk; rw [decide_eq_true h1, decide_eq_true h2, Bool.or_comm]; rfl
theorem dFdiv_int {i j : Int} (h : 0 < j ∧ j < 1073741824) : dFdiv (.int i) (.int j) = some (.int (i / j)) := if_pos h
theorem dMod_int {i j : Int} (h : 0 < j) : dMod (.int i) (.int j) = some (.int (i % j)) := if_pos h
@[simp] theorem dNeg_int {i : Int} : dNeg (.int i) = some (.int (-i)) := rfl
@[simp] theorem dLt_int {i j : Int} : dLt (.int i) (.int j) = some (.bl (decide (i < j))) := rfl
@[simp] theorem dLe_int {i j : Int} : dLe (.int i) (.int j) = some (.bl (decide (i ≤ j))) := rfl
@[simp] theorem dGt_int {i j : Int} : dGt (.int i) (.int j) = some (.bl (decide (i > j))) := rfl
@[simp] theorem dGe_int {i j : Int} : dGe (.int i) (.int j) = some (.bl (decide (i ≥ j))) := rfl
@[simp] theorem dEq_int {i j : Int} : dEq (.int i) (.int j) = some (.bl (decide (i = j))) := by
  unfold dEq; by_cases h : i = j <;> simp [D.eqOk, D.eqb, h]
@[simp] theorem dNe_int {i j : Int} : dNe (.int i) (.int j) = some (.bl (!decide (i = j))) := by
  unfold dNe; by_cases h : i = j <;> simp [D.eqOk, D.eqb, h]
@[simp] theorem dInt_int {i : Int} : dInt (.int i) = some (.int i) := rfl
@[simp] theorem dLen_lst {o : Bool} {xs : List D} : dLen (.lst o xs) = some (.int xs.length) := rfl
@[simp] theorem dLen_tup {xs : List D} : dLen (.tup xs) = some (.int xs.length) := rfl
@[simp] theorem dIxA_lst {o : Bool} {xs : List D} {i : Int} : dIxA (.lst o xs) (.int i) = atI xs i := rfl
@[simp] theorem dIxA_tup {xs : List D} {i : Int} : dIxA (.tup xs) (.int i) = atI xs i := rfl
theorem dIx_of {a b d : D} (h : dIxA a b = some d) (n : nOwn d = true) : dIx a b = some d := by unfold dIx; rw [h]; simp [n]
@[simp] theorem nOwn_int {i : Int} : nOwn (.int i) = true := rfl
@[simp] theorem nOwn_bl {i : Bool} : nOwn (.bl i) = true := rfl
@[simp] theorem nOwn_tup {xs : List D} : nOwn (.tup xs) = true := rfl
@[simp] theorem nOwn_non : nOwn .non = true := rfl
@[simp] theorem nOwn_str {s : Str} : nOwn (.str s) = true := rfl
@[simp] theorem nOwn_lst {o : Bool} {xs : List D} : nOwn (.lst o xs) = !o := rfl
@[simp] theorem own_int {i : Int} : (D.int i).own = false := rfl
@[simp] theorem own_bl {i : Bool} : (D.bl i).own = false := rfl
@[simp] theorem own_tup {xs : List D} : (D.tup xs).own = false := rfl
@[simp] theorem own_non : D.non.own = false := rfl
@[simp] theorem own_str {s : Str} : (D.str s).own = false := rfl
@[simp] theorem own_scr {s : List Int} : (D.scr s).own = false := rfl
@[simp] theorem own_fn {j : Nat} : (D.fn j).own = false := rfl
@[simp] theorem own_lst {o : Bool} {xs : List D} : (D.lst o xs).own = o := rfl
/-- places -/
theorem atI_int {α : Type} {xs : List α} {j : Nat} {d : α} (h : xs[j]? = some d) : atI xs (j : Int) = some d := by
  unfold atI ixN
  have hl : j < xs.length := (List.getElem?_eq_some_iff.mp h).1
  rw [if_pos (by omega), if_pos (by omega)]
  simpa using h
@[simp] theorem eLk_ap {i : Nat} {δ : DS} : eLk i δ = (match δ[i]? with | some (some d) => .ok d δ | _ => .stuck) := rfl
@[simp] theorem eNm_ap {i : Nat} {δ : DS} : eNm i δ = (match δ[i]? with | some (some d) => if d.own then .ok d.frz (δ.set i (some d.frz)) else .ok d δ | _ => .stuck) := rfl
@[simp] theorem atI_lit {α : Type} {xs : List α} {n : Nat} : atI xs (no_index (OfNat.ofNat n : Int)) = xs[n]? := by
  have e : (OfNat.ofNat n : Int) = (n : Int) := rfl
  rw [e]
  unfold atI ixN
  rw [if_pos (by omega)]
  by_cases h : n < xs.length
  · rw [if_pos (by omega)]; simp
  · rw [if_neg (by omega)]; simp; omega
@[simp] theorem atI_m1 {α : Type} {xs : List α} : atI xs (-1) = xs[xs.length - 1]? := by
  unfold atI ixN
  rw [if_neg (by omega)]
  by_cases h : 0 < xs.length
  · rw [if_pos (by omega)]
    show xs[(_ : Int).toNat]? = _
    congr 1
    omega
  · rw [if_neg (by omega)]
    cases xs with
    | nil => rfl
    | cons x xs => simp at h
@[simp] theorem sPut_ap {j : Nat} {fe : Ev} {fo : Ep} {fi : Ev} {δ : DS} : sPut j fe fo fi δ = (fe δ).st fun d δ1 => (fo δ1).st fun pi δ2 => (fi δ2).st fun k δ3 => og (updAt j pi (fun n => putD n k d) δ3) fun δ4 => .nx δ4 := rfl
@[simp] theorem pNm_ap {j : Nat} {δ : DS} : pNm j δ = (match δ[j]? with | some (some _) => .ok [] δ | _ => .stuck) := rfl
@[simp] theorem updAt_nil {j : Nat} {g : D → Option D} {δ : DS} : updAt j [] g δ = (match δ[j]? with | some (some w) => (g w).map fun n => δ.set j (some n) | _ => none) := by
  unfold updAt
  cases δ[j]? with
  | none => rfl
  | some o => cases o with
    | none => rfl
    | some w => simp [D.at, D.upd]
@[simp] theorem putD_lit {xs : List D} {n : Nat} {v : D} (h : n < xs.length) : putD (.lst true xs) (.int (no_index (OfNat.ofNat n : Int))) v = some (.lst true (xs.set n v)) := by
  have e : (OfNat.ofNat n : Int) = (n : Int) := rfl
  rw [e]
  unfold putD ixN
  simp only
  rw [if_pos (by omega), if_pos (by omega)]
  simp
@[simp] theorem finF_rt {io : List Nat} {d : D} {δ : DS} : finF io (.rt d δ) = match outsOf io δ with | some os => .ok d os | none => .stuck := rfl
@[simp] theorem finF_nx {io : List Nat} {δ : DS} : finF io (.nx δ) = match outsOf io δ with | some os => .ok .non os | none => .stuck := rfl
@[simp] theorem finF_exc {io : List Nat} {c : Nat} {fs : List D} {δ : DS} : finF io (.exc c fs δ) = match outsOf io δ with | some os => .exc c fs os | none => .stuck := rfl
@[simp] theorem outs_nil {δ : DS} : outsOf [] δ = some [] := rfl
@[simp] theorem outs_0 {h : D} {δ : DS} : outsOf [0] (some h :: δ) = some [h] := rfl
theorem dIx_lst {o : Bool} {xs : List D} {i : Int} {d : D} (h : atI xs i = some d) (n : nOwn d = true) : dIx (.lst o xs) (.int i) = some d := dIx_of h n
theorem dIx_tup {xs : List D} {i : Int} {d : D} (h : atI xs i = some d) (n : nOwn d = true) : dIx (.tup xs) (.int i) = some d := dIx_of h n
@[simp] theorem dPow_int {i j : Int} : dPow (.int i) (.int j) = if 0 ≤ j ∧ j ≤ 1000000 ∧ i.natAbs < 2 ^ 64 then some (.int (i ^ j.toNat)) else none := rfl
theorem lit_cast (n : Nat) : (OfNat.ofNat n : Int) = (n : Int) := rfl
@[simp] theorem dMul_ll {n : Nat} {j : Int} (h : n < 2 ^ 64) : dMul (.int (no_index (OfNat.ofNat n : Int))) (.int j) = some (.int (OfNat.ofNat n * j)) := dMul_int (mulOk_l (by show -(2 ^ 64) < (n : Int); omega) (by show (n : Int) < 2 ^ 64; omega))
@[simp] theorem dMul_lr {n : Nat} {j : Int} (h : n < 2 ^ 64) : dMul (.int j) (.int (no_index (OfNat.ofNat n : Int))) = some (.int (j * OfNat.ofNat n)) := dMul_int (mulOk_r (by show -(2 ^ 64) < (n : Int); omega) (by show (n : Int) < 2 ^ 64; omega))
@[simp] theorem dMod_l {n : Nat} {j : Int} (h : 0 < n) : dMod (.int j) (.int (no_index (OfNat.ofNat n : Int))) = some (.int (j % OfNat.ofNat n)) := dMod_int (by show 0 < (n : Int); omega)
@[simp] theorem dFdiv_l {n : Nat} {j : Int} (h : 0 < n) (h' : n < 1073741824) : dFdiv (.int j) (.int (no_index (OfNat.ofNat n : Int))) = some (.int (j / OfNat.ofNat n)) := dFdiv_int (by show 0 < (n : Int) ∧ (n : Int) < 1073741824; omega)
end L2.Pv
end
section
set_option Elab.async false
set_option linter.all false
set_option autoImplicit false
set_option maxRecDepth 100000
namespace L2.Pv
open PySem
theorem sz_le {n : Nat} (h : n ≤ 1000000) : n ≤ sizeLine := by
  have : sizeLine = 16777216 := by decide
  omega
/-! ### comprehensions as maps -/
section
variable {α : Type} {vs : List Nat} {fi : EvA} {ft : Eg} {fc : EvT} {fe : Ev} {δ δ1 : DS} {ι : α → D} {S : α → DS} {g : α → D} {p : α → Bool}
theorem lcL_filter : ∀ (L : List α), (∀ a ∈ L, ft (ι a) (wipeG δ1 vs) = some (S a)) → (∀ a ∈ L, fc (S a) = .ok (p a) (S a)) → (∀ a ∈ L, p a = true → fe (S a) = .ok (g a) (S a)) → (∀ a ∈ L, wipeG (S a) vs = wipeG δ1 vs) →
    lcL vs ft fc fe (L.map ι) (wipeG δ1 vs) = some ((L.filter p).map g, wipeG δ1 vs)
  | [], _, _, _, _ => rfl
  | a :: L, ht, hc, he, hw => by
    have ih := lcL_filter L (fun b hb => ht b (List.mem_cons_of_mem _ hb)) (fun b hb => hc b (List.mem_cons_of_mem _ hb)) (fun b hb => he b (List.mem_cons_of_mem _ hb)) (fun b hb => hw b (List.mem_cons_of_mem _ hb))
    have m : a ∈ a :: L := List.mem_cons_self
    rw [List.map_cons]
    unfold lcL
    rw [ht a m]
    simp only [Option.bind_some]
    rw [hc a m]
    cases hp : p a with
    | true =>
      simp only
      rw [he a m hp]
      simp only
      rw [hw a m, ih, List.filter_cons, if_pos hp]
      rfl
    | false =>
      simp only
      rw [hw a m, ih, List.filter_cons, if_neg (by rw [hp]; exact Bool.false_ne_true)]
theorem eLc_filter {L : List α} (hi : fi δ = .ok (L.map ι) δ1) (ht : ∀ a ∈ L, ft (ι a) (wipeG δ1 vs) = some (S a)) (hc : ∀ a ∈ L, fc (S a) = .ok (p a) (S a)) (he : ∀ a ∈ L, p a = true → fe (S a) = .ok (g a) (S a)) (hw : ∀ a ∈ L, wipeG (S a) vs = wipeG δ1 vs)
    (hr : restG δ1 (wipeG δ1 vs) vs = δ1) : eLc vs fi ft fc fe δ = .ok (.lst true ((L.filter p).map g)) δ1 := by
  unfold eLc
  rw [hi, bd_ok, lcL_filter L ht hc he hw]
  simp only [hr]
theorem eLc_map {L : List α} (hi : fi δ = .ok (L.map ι) δ1) (ht : ∀ a ∈ L, ft (ι a) (wipeG δ1 vs) = some (S a)) (he : ∀ a ∈ L, fe (S a) = .ok (g a) (S a)) (hw : ∀ a ∈ L, wipeG (S a) vs = wipeG δ1 vs)
    (hr : restG δ1 (wipeG δ1 vs) vs = δ1) : eLc vs fi ft cYes fe δ = .ok (.lst true (L.map g)) δ1 := by
  rw [eLc_filter (fc := cYes) (p := fun _ => true) hi ht (fun _ _ => rfl) (fun a h _ => he a h) hw hr]
  rw [List.filter_eq_self.mpr fun _ _ => rfl]
end
/-! two clauses -/
section
variable {α β : Type} {vs vs1 : List Nat} {fi fi1 : EvA} {ft ft1 : Eg} {fe : Ev} {δ δ1 : DS} {ι : α → D} {S : α → DS} {M : α → List β} {κ : α → β → D} {R : α → β → DS} {g : α → β → D}
theorem lc2L_map : ∀ (L : List α), (∀ a ∈ L, ft (ι a) (wipeG δ1 vs) = some (S a)) → (∀ a ∈ L, fi1 (S a) = .ok ((M a).map (κ a)) (S a)) → (∀ a ∈ L, ∀ b ∈ M a, ft1 (κ a b) (wipeG (S a) vs1) = some (R a b)) → (∀ a ∈ L, ∀ b ∈ M a, fe (R a b) = .ok (g a b) (R a b)) →
    (∀ a ∈ L, ∀ b ∈ M a, wipeG (R a b) vs1 = wipeG (S a) vs1) → (∀ a ∈ L, wipeG (wipeG (S a) vs1) vs = wipeG δ1 vs) →
    lc2L vs vs1 ft cYes fi1 ft1 cYes fe (L.map ι) (wipeG δ1 vs) = some ((L.map fun a => (M a).map (g a)).flatten, wipeG δ1 vs)
  | [], _, _, _, _, _, _ => rfl
  | a :: L, h1, h2, h3, h4, h5, h6 => by
    have ih := lc2L_map L (fun b hb => h1 b (List.mem_cons_of_mem _ hb)) (fun b hb => h2 b (List.mem_cons_of_mem _ hb)) (fun b hb => h3 b (List.mem_cons_of_mem _ hb)) (fun b hb => h4 b (List.mem_cons_of_mem _ hb)) (fun b hb => h5 b (List.mem_cons_of_mem _ hb)) (fun b hb => h6 b (List.mem_cons_of_mem _ hb))
    have m : a ∈ a :: L := List.mem_cons_self
    have inner := lcL_filter (vs := vs1) (fc := cYes) (p := fun _ => true) (δ1 := S a) (M a) (h3 a m) (fun _ _ => rfl) (fun b hb _ => h4 a m b hb) (h5 a m)
    rw [List.map_cons]
    unfold lc2L
    rw [h1 a m]
    simp only [Option.bind_some, cYes_ap]
    rw [h2 a m]
    simp only
    rw [inner]
    simp only [Option.bind_some]
    rw [h6 a m, ih, List.filter_eq_self.mpr fun _ _ => rfl]
    rfl
theorem eLc2_map {L : List α} (hi : fi δ = .ok (L.map ι) δ1) (h1 : ∀ a ∈ L, ft (ι a) (wipeG δ1 vs) = some (S a)) (h2 : ∀ a ∈ L, fi1 (S a) = .ok ((M a).map (κ a)) (S a)) (h3 : ∀ a ∈ L, ∀ b ∈ M a, ft1 (κ a b) (wipeG (S a) vs1) = some (R a b)) (h4 : ∀ a ∈ L, ∀ b ∈ M a, fe (R a b) = .ok (g a b) (R a b))
    (h5 : ∀ a ∈ L, ∀ b ∈ M a, wipeG (R a b) vs1 = wipeG (S a) vs1) (h6 : ∀ a ∈ L, wipeG (wipeG (S a) vs1) vs = wipeG δ1 vs) (hr : restG δ1 (wipeG δ1 vs) vs = δ1) (hz : (L.map fun a => (M a).map (g a)).flatten.length ≤ 1000000) :
    eLc2 vs vs1 fi ft cYes fi1 ft1 cYes fe δ = .ok (.lst true (L.map fun a => (M a).map (g a)).flatten) δ1 := by
  unfold eLc2
  rw [hi, bd_ok, lc2L_map L h1 h2 h3 h4 h5 h6]
  simp only [hr]
  rw [if_pos (sz_le hz)]
end
@[simp] theorem calH_ap {m : List D → FOut} {j : Nat} {g : EvA} {δ : DS} : calH m j g δ = (match δ[j]? with
  | some (some _) => (g δ).bd fun ds δ' => match δ'[j]? with
    | some (some h) => match m (h :: ds) with
      | .ok d [h'] => .ok d (δ'.set j (some h'))
      | .exc c fs [h'] => .exc c fs (δ'.set j (some h'))
      | _ => .stuck
    | _ => .stuck
  | _ => .stuck) := rfl
@[simp] theorem sPar_ap {i j : Nat} {fa : EvA} {δ : DS} : sPar i j fa δ = (fa δ).st fun ds δ1 => match ds with
  | [a, b] => if i < δ1.length ∧ j < δ1.length then .nx ((δ1.set i (some a)).set j (some b)) else .stuck
  | _ => .stuck := rfl
@[simp] theorem gTup_ap {n : Nat} {g : Egs} {ds : List D} {δ : DS} (h : ds.length = n) : gTup' n g (.tup ds) δ = g ds δ := by
  unfold gTup'; simp [h]
@[simp] theorem gCons_ap {f : Eg} {g : Egs} {d : D} {ds : List D} {δ : DS} : gCons' f g (d :: ds) δ = (f d δ).bind (g ds) := by
  rfl
@[simp] theorem iZipD_ap {fa : EvA} {δ : DS} : iZipD fa δ = (fa δ).bd fun ds δ' => lft (zipO ds) δ' := rfl
@[simp] theorem iZipTD_ap {fa : EvA} {δ : DS} : iZipTD fa δ = (fa δ).bd fun ds δ' => lft (zipTO ds) δ' := rfl
@[simp] theorem iEnumD_ap {fa : EvA} {δ : DS} : iEnumD fa δ = (fa δ).bd fun ds δ' => lft (enumO ds) δ' := rfl
@[simp] theorem zipO_tup {xs ys : List D} : zipO [.tup xs, .tup ys] = some (zipD xs ys) := rfl
@[simp] theorem zipTO_tup {xs ys : List D} : zipTO [.tup xs, .tup ys] = some (zipD xs ys) := rfl
@[simp] theorem enumO_tup {xs : List D} : enumO [.tup xs] = some (enumD xs) := rfl
theorem dAdd_tup {xs ys : List D} (h : xs.length + ys.length ≤ 1000000) : dAdd (.tup xs) (.tup ys) = some (.tup (xs ++ ys)) := if_pos (sz_le h)
theorem dAdd_lst {o o' : Bool} {xs ys : List D} (h : xs.length + ys.length ≤ 1000000) (h1 : xs.all nOwn = true) (h2 : ys.all nOwn = true) : dAdd (.lst o xs) (.lst o' ys) = some (.lst true (xs ++ ys)) := if_pos ⟨sz_le h, h1, h2⟩
theorem dTup_lst {o : Bool} {xs : List D} (h : xs.all nOwn = true) : dTup (.lst o xs) = some (.tup xs) := if_pos h
@[simp] theorem dTup_tup {xs : List D} : dTup (.tup xs) = some (.tup xs) := rfl
@[simp] theorem dRev_tup {xs : List D} : dRev (.tup xs) = some (.tup xs.reverse) := rfl
@[simp] theorem frz_int {i : Int} : (D.int i).frz = .int i := rfl
@[simp] theorem frz_bl {i : Bool} : (D.bl i).frz = .bl i := rfl
@[simp] theorem frz_tup {xs : List D} : (D.tup xs).frz = .tup xs := rfl
@[simp] theorem frz_non : D.non.frz = .non := rfl
@[simp] theorem frz_str {x : Str} : (D.str x).frz = .str x := rfl
@[simp] theorem frzs_nil : D.frzs [] = [] := rfl
@[simp] theorem frzs_cons {d : D} {ds : List D} : D.frzs (d :: ds) = d.frz :: D.frzs ds := rfl
@[simp] theorem endsF_rt {d : D} {δ : DS} : endsF (.rt d δ) = some d := rfl
/-! ### sums, flags -/
theorem dSum_map {α : Type} {o : Bool} (L : List α) (f : α → Int) : dSum (.lst o (L.map fun a => D.int (f a))) = some (.int (L.map f).sum) := by
  have e : (L.map fun a => D.int (f a)) = (L.map f).map D.int := by rw [List.map_map]; rfl
  rw [e]; show (intsOf _).map _ = _; rw [intsOf_map]; rfl
theorem dAll_map {α : Type} {o : Bool} (L : List α) (f : α → Bool) : dAll (.lst o (L.map fun a => D.bl (f a))) = some (.bl (L.all f)) := by
  have e : (L.map fun a => D.bl (f a)) = (L.map f).map D.bl := by rw [List.map_map]; rfl
  rw [e]; show (blsOf _).map _ = _; rw [blsOf_map]; simp [List.all_map, Function.comp_def]
theorem dAny_map {α : Type} {o : Bool} (L : List α) (f : α → Bool) : dAny (.lst o (L.map fun a => D.bl (f a))) = some (.bl (L.any f)) := by
  have e : (L.map fun a => D.bl (f a)) = (L.map f).map D.bl := by rw [List.map_map]; rfl
  rw [e]; show (blsOf _).map _ = _; rw [blsOf_map]; simp [List.any_map, Function.comp_def]
theorem allN_int (xs : List Int) : (xs.map D.int).all nOwn = true := by simp [List.all_map]
@[simp] theorem dTup_int {o : Bool} (xs : List Int) : dTup (.lst o (xs.map D.int)) = some (.tup (xs.map D.int)) := by
  unfold dTup; simp only [allN_int, if_true]
@[simp] theorem frzs_int (xs : List Int) : D.frzs (xs.map D.int) = xs.map D.int := by
  rw [D.frzs_map, List.map_map]; rfl
/-- a row of numbers -/
abbrev tR (xs : List Int) : D := .tup (xs.map D.int)
@[simp] theorem iSeq_ap {f : Ev} {δ : DS} : iSeq f δ = (f δ).bd fun d δ' => match d with
  | .lst _ ds => .ok (D.frzs ds) δ'
  | .tup ds => .ok ds δ'
  | _ => .stuck := rfl
theorem rangeD_eq (lo : Int) (n : Nat) : rangeD lo n = (List.range n).map fun (i : Nat) => D.int (lo + i) := rfl
theorem atI_row {xs : List Int} {k : Nat} (h : k < xs.length) : atI (xs.map D.int) (k : Int) = some (.int (xs.getD k 0)) := by
  refine atI_int ?_
  rw [List.getElem?_map, List.getElem?_eq_getElem h, List.getD_eq_getElem?_getD, List.getElem?_eq_getElem h]; rfl
theorem iRng_1 {f : Ev} {δ δ' : DS} {j : Int} (h : f δ = .ok (.int j) δ') (hz : j.natAbs ≤ 1000000) : iRng (aCons f aNil) δ = .ok (rangeD 0 j.toNat) δ' := by
  rw [iRng_ap, aCons_ap, h, bd_ok, aNil_ap, bd_ok, bd_ok]
  show (if j.natAbs ≤ sizeLine then _ else _) = _
  rw [if_pos (sz_le hz)]
theorem iRng_2 {f f' : Ev} {δ δ' δ'' : DS} {i j : Int} (h : f δ = .ok (.int i) δ') (h' : f' δ' = .ok (.int j) δ'') (hi : i.natAbs ≤ 400000) (hz : j.natAbs ≤ 400000) : iRng (aCons f (aCons f' aNil)) δ = .ok (rangeD i (j - i).toNat) δ'' := by
  rw [iRng_ap, aCons_ap, h, bd_ok, aCons_ap, h', bd_ok, aNil_ap, bd_ok, bd_ok, bd_ok]
  show (if i.natAbs ≤ sizeLine ∧ j.natAbs ≤ sizeLine ∧ (j - i).toNat ≤ sizeLine then _ else _) = _
  rw [if_pos ⟨sz_le (by omega), sz_le (by omega), sz_le (by omega)⟩]
/-! ### calls -/
theorem runF_1 {io : List Nat} {n : Nat} {f : Es} {a : D} : runF io n 1 f [a] = finF io (f (some a :: List.replicate (n - 1) none)) := by
  unfold runF; rw [if_pos (by simp)]; rfl
theorem runF_2 {io : List Nat} {n : Nat} {f : Es} {a b : D} : runF io n 2 f [a, b] = finF io (f (some a :: some b :: List.replicate (n - 2) none)) := by
  unfold runF; rw [if_pos (by simp)]; rfl
theorem runF_3 {io : List Nat} {n : Nat} {f : Es} {a b c : D} : runF io n 3 f [a, b, c] = finF io (f (some a :: some b :: some c :: List.replicate (n - 3) none)) := by
  unfold runF; rw [if_pos (by simp)]; rfl
/-! ### kinds -/
def D.isInt : D → Bool
  | .int _ => true
  | _ => false
theorem k_ii : kitB "int" "int" = some true := by decide
end L2.Pv
end
section
set_option Elab.async false
set_option linter.all false
set_option autoImplicit false
set_option maxRecDepth 100000
set_option maxHeartbeats 1000000
namespace L2.Pv
open PySem
theorem seq_set {f : Ev} {g : Es} {i : Nat} {δ δ' : DS} {d : D} (h : f δ = .ok d δ') (hi : i < δ'.length) : sSeq (sSet i f) g δ = g (δ'.set i (some d)) := by
  rw [sSeq_ap, sSet_ap, h]
  simp [dput_ap hi]
theorem seq_asg {f : Ev} {fg : Eg} {g : Es} {δ δ1 δ2 : DS} {d : D} (h : f δ = .ok d δ1) (h2 : fg d δ1 = some δ2) : sSeq (sAsg f fg) g δ = g δ2 := by
  rw [sSeq_ap, sAsg_ap, h]
  simp [h2, og]
theorem seq_no {c : EvT} {g1 g : Es} {δ δ1 : DS} (h : c δ = .ok false δ1) : sSeq (sIf c g1 sNil) g δ = g δ1 := by
  rw [sSeq_ap, sIf_ap, h]
  simp
theorem seq_yes {c : EvT} {f : Ev} {g : Es} {δ δ1 δ2 : DS} {d : D} (h : c δ = .ok true δ1) (h2 : f δ1 = .ok d δ2) : sSeq (sIf c (sRet f) sNil) g δ = .rt d δ2 := by
  rw [sSeq_ap, sIf_ap, h]
  simp [h2]
theorem forL_c {j : Nat} {g : Es} {d : D} {ds : List D} {δ δ' : DS} (hj : j < δ.length) (h : g (δ.set j (some d)) = .nx δ') : forL (gSet j) g (d :: ds) δ = forL (gSet j) g ds δ' := by
  show og (gSet j d δ) (fun δ1 => (g δ1).lp (forL (gSet j) g ds)) = _
  rw [gSet_ap hj]
  show (g (δ.set j (some d))).lp _ = _
  rw [h, lp_nx]
theorem forL_r {j : Nat} {g : Es} {d x : D} {ds : List D} {δ δ' : DS} (hj : j < δ.length) (h : g (δ.set j (some d)) = .rt x δ') : forL (gSet j) g (d :: ds) δ = .rt x δ' := by
  show og (gSet j d δ) (fun δ1 => (g δ1).lp (forL (gSet j) g ds)) = _
  rw [gSet_ap hj]
  show (g (δ.set j (some d))).lp _ = _
  rw [h, lp_rt]
theorem eLam_ok {cs : List Nat} {fb : Ev} {gout : AOut → Option D} {δ : DS} {d : D} (h1 : (capS cs δ).all (fun o => match o with | some d => nOwn d | none => true) = true) (h2 : gout (actOf (fb (capS cs δ))) = some d) : eLam cs fb gout δ = .ok d δ := by
  unfold eLam
  refine (if_pos h1).trans ?_
  rw [h2]
@[simp] theorem dNe_bl {a b : Bool} : dNe (.bl a) (.bl b) = some (.bl (a != b)) := by
  unfold dNe
  rw [if_pos ⟨rfl, rfl⟩]
  cases a <;> cases b <;> rfl
@[simp] theorem dEq_bl {a b : Bool} : dEq (.bl a) (.bl b) = some (.bl (a == b)) := by
  unfold dEq
  rw [if_pos ⟨rfl, rfl⟩]
  cases a <;> cases b <;> rfl
@[simp] theorem dIs_bl {a b : Bool} : dIs (.bl a) (.bl b) = some (.bl (decide (a = b))) := rfl
@[simp] theorem dIsN_bl {a b : Bool} : dIsN (.bl a) (.bl b) = some (.bl (!decide (a = b))) := rfl
theorem eqOks_int (n : Nat) : ∀ xs : List Int, D.eqOks n (xs.map D.int) = true
  | [] => by simp [D.eqOks]
  | x :: xs => by simp [D.eqOks, D.eqOk, eqOks_int n xs]
theorem eqbs_int : ∀ xs ys : List Int, D.eqbs (xs.map D.int) (ys.map D.int) = decide (xs = ys)
  | [], [] => by simp [D.eqbs]
  | [], _ :: _ => by simp [D.eqbs]
  | _ :: _, [] => by simp [D.eqbs]
  | x :: xs, y :: ys => by
    simp only [List.map_cons, D.eqbs, D.eqb, eqbs_int xs ys]
    by_cases h1 : x = y <;> by_cases h2 : xs = ys <;> simp [h1, h2]
theorem dNe_row (xs ys : List Int) : dNe (.tup (xs.map D.int)) (.tup (ys.map D.int)) = some (.bl (!decide (xs = ys))) := by
  unfold dNe
  rw [if_pos ⟨by simp [D.eqOk, eqOks_int], by simp [D.eqOk, eqOks_int]⟩]
  simp [D.eqb, eqbs_int]
theorem dEq_row (xs ys : List Int) : dEq (.tup (xs.map D.int)) (.tup (ys.map D.int)) = some (.bl (decide (xs = ys))) := by
  unfold dEq
  rw [if_pos ⟨by simp [D.eqOk, eqOks_int], by simp [D.eqOk, eqOks_int]⟩]
  simp [D.eqb, eqbs_int]
theorem add_rows {xs ys : List Int} (h : xs.length + ys.length ≤ 1000000) : dAdd (.tup (xs.map D.int)) (.tup (ys.map D.int)) = some (.tup ((xs ++ ys).map D.int)) := by
  rw [dAdd_tup (by simpa using h), ← List.map_append]
theorem sl_to {xs : List D} {n : Nat} : dSl (.tup xs) none (some (n : Int)) = some (.tup (xs.take n)) := by
  unfold dSl dCut
  simp only [HT.sIx_none, HT.sIx_nat]
  rw [Nat.sub_zero, List.drop_zero]
  congr 2
  by_cases h : n ≤ xs.length
  · rw [Nat.min_eq_left h]
  · rw [Nat.min_eq_right (by omega), List.take_of_length_le (Nat.le_refl _), List.take_of_length_le (by omega)]
theorem sl_from {xs : List D} {n : Nat} : dSl (.tup xs) (some (n : Int)) none = some (.tup (xs.drop n)) := by
  unfold dSl dCut
  simp only [HT.sIx_none, HT.sIx_nat]
  congr 2
  by_cases h : n ≤ xs.length
  · rw [Nat.min_eq_left h, List.take_of_length_le (by rw [List.length_drop]; omega)]
  · rw [Nat.min_eq_right (by omega), List.drop_eq_nil_of_le (by omega), List.drop_eq_nil_of_le (by omega)]; simp
theorem sl_mid {xs : List D} {a n : Nat} : dSl (.tup xs) (some (a : Int)) (some ((a + n : Nat) : Int)) = some (.tup ((xs.drop a).take n)) := by
  unfold dSl dCut
  simp only [HT.sIx_nat]
  congr 2
  by_cases h : a ≤ xs.length
  · rw [Nat.min_eq_left h]
    by_cases h2 : a + n ≤ xs.length
    · rw [Nat.min_eq_left h2, show a + n - a = n by omega]
    · rw [Nat.min_eq_right (by omega), List.take_of_length_le (by rw [List.length_drop]; omega), List.take_of_length_le (by rw [List.length_drop]; omega)]
  · rw [List.drop_eq_nil_of_le (show xs.length ≤ min a xs.length by omega), List.drop_eq_nil_of_le (by omega)]; simp
theorem small_get {xs : List Int} {k : Nat} (h : k < xs.length) : atI (xs.map D.int) (k : Int) = some (.int (xs.getD k 0)) := atI_row h
end L2.Pv
namespace L2.Pv.Kd
open PySem
def b_is_integer : Es := sRet (eAnd (ev1 (dIsi "int") (eLk 0)) (ev1 dNot (ev1 (dIsi "bool") (eLk 0))))
def m_is_integer (ds : List D) : FOut := runF [] 1 1 b_is_integer ds
def b_is_within : Es := sRet (eAnd (calF m_is_integer (aCons (eNm 0) (aNil))) (eChain dLe dLe (eLk 1) (eLk 0) (eLk 2)))
def m_is_within (ds : List D) : FOut := runF [] 3 3 b_is_within ds
def b_is_tuple : Es := sRet (eAnd (ev1 (dIsi "tuple") (eLk 0)) (eChain dLe dLe (eLk 1) (ev1 dLen (eLk 0)) (eLk 2)))
def m_is_tuple (ds : List D) : FOut := runF [] 3 3 b_is_tuple ds
/-! ### kinds -/
theorem kits : kitB "int" "int" = some true ∧ kitB "bool" "int" = some true ∧ kitB "NoneType" "int" = some false ∧ kitB "str" "int" = some false ∧ kitB "tuple" "int" = some false ∧ kitB "list" "int" = some false ∧ kitB "dict" "int" = some false := by decide +kernel
theorem kitsB : kitB "int" "bool" = some false ∧ kitB "bool" "bool" = some true ∧ kitB "NoneType" "bool" = some false ∧ kitB "str" "bool" = some false ∧ kitB "tuple" "bool" = some false ∧ kitB "list" "bool" = some false ∧ kitB "dict" "bool" = some false := by decide +kernel
theorem kitsT : kitB "int" "tuple" = some false ∧ kitB "bool" "tuple" = some false ∧ kitB "NoneType" "tuple" = some false ∧ kitB "str" "tuple" = some false ∧ kitB "tuple" "tuple" = some true ∧ kitB "list" "tuple" = some false ∧ kitB "dict" "tuple" = some false := by decide +kernel
/-- what may stand in a row, told apart by its kind -/
def okA : D → Bool
  | .non => true
  | .bl _ => true
  | .int _ => true
  | .str _ => true
  | .tup _ => true
  | .lst o _ => !o
  | .dic o (.k _) _ => !o
  | _ => false
def isTup : D → Bool
  | .tup _ => true
  | _ => false
theorem okA_own {d : D} (h : okA d = true) : d.own = false := by
  cases d with
  | lst o xs => simpa [okA, D.own] using h
  | dic o ks xs => cases ks with
    | k ks => simpa [okA, D.own] using h
    | t ks => exact nomatch h
  | _ => first | rfl | exact nomatch h
theorem isi_int {d : D} (h : okA d = true) : dIsi "int" d = some (.bl (match d with | .int _ => true | .bl _ => true | _ => false)) := by
  obtain ⟨k1, k2, k3, k4, k5, k6, k7⟩ := kits
  unfold dIsi
  cases d with
  | dic o ks xs => cases ks with
    | k ks => simp [D.tyn, k7]
    | t ks => exact nomatch h
  | _ => first | (simp [D.tyn, k1, k2, k3, k4, k5, k6]; done) | exact nomatch h
theorem isi_bool {d : D} (h : okA d = true) : dIsi "bool" d = some (.bl (match d with | .bl _ => true | _ => false)) := by
  obtain ⟨k1, k2, k3, k4, k5, k6, k7⟩ := kitsB
  unfold dIsi
  cases d with
  | dic o ks xs => cases ks with
    | k ks => simp [D.tyn, k7]
    | t ks => exact nomatch h
  | _ => first | (simp [D.tyn, k1, k2, k3, k4, k5, k6]; done) | exact nomatch h
theorem isi_tup {d : D} (h : okA d = true) : dIsi "tuple" d = some (.bl (isTup d)) := by
  obtain ⟨k1, k2, k3, k4, k5, k6, k7⟩ := kitsT
  unfold dIsi
  cases d with
  | dic o ks xs => cases ks with
    | k ks => simp [D.tyn, k7, isTup]
    | t ks => exact nomatch h
  | _ => first | (simp [D.tyn, k1, k2, k3, k4, k5, k6, isTup]; done) | exact nomatch h
@[simp] theorem dNot_bl {b : Bool} : dNot (.bl b) = some (.bl (!b)) := by cases b <;> rfl
theorem is_integer_ok {d : D} (h : okA d = true) : m_is_integer [d] = .ok (.bl d.isInt) [] := by
  unfold m_is_integer
  rw [runF_1]
  simp [b_is_integer, isi_int h, isi_bool h]
  cases d <;> first | rfl | simp [D.isInt]
theorem is_within_ok {d : D} (h : okA d = true) (a b : Int) : m_is_within [d, .int a, .int b] = .ok (.bl (match d with | .int i => decide (a ≤ i) && decide (i ≤ b) | _ => false)) [] := by
  unfold m_is_within
  rw [runF_3]
  simp [b_is_within, okA_own h, is_integer_ok h]
  cases d <;> simp [D.isInt]
  rename_i i
  by_cases h1 : a ≤ i <;> simp [h1]
theorem is_tuple_ok {d : D} (h : okA d = true) (a b : Int) : m_is_tuple [d, .int a, .int b] = .ok (.bl (match d with | .tup xs => decide (a ≤ (xs.length : Int)) && decide ((xs.length : Int) ≤ b) | _ => false)) [] := by
  unfold m_is_tuple
  rw [runF_3]
  simp [b_is_tuple, okA_own h, isi_tup h]
  cases d <;> simp [isTup]
  rename_i xs
  by_cases h1 : a ≤ (xs.length : Int) <;> simp [h1]
end L2.Pv.Kd
end
section
set_option Elab.async false
set_option linter.all false
set_option autoImplicit false
set_option maxRecDepth 100000
set_option maxHeartbeats 1000000
namespace L2.Pv.Dw
open PySem
/-! ### the laws' hand, draws and choices -/
def b__law_draw : Es := sSeq (sIf (cAnd (cVal (ev2 dEq (ev2 dIxA (eLk 0) (eC (.int 2))) (eC (.int 0)))) (cVal (ev2 dLt (ev2 dIxA (eLk 0) (eC (.int 1))) (ev1 dLen (ev2 dIxA (eLk 0) (eC (.int 0))))))) (sSeq (sSet 2 (ev2 dIx (ev2 dIxA (eLk 0) (eC (.int 0))) (ev2 dIxA (eLk 0) (eC (.int 1))))) (sSeq (sPut 0 (ev2 dAdd (ev2 dIxA (eLk 0) (eC (.int 1))) (eC (.int 1))) (pNm 0) (eC (.int 1))) (sSeq (sPut 0 (ev2 dMod (ev1 dInt (ev2 dAdd (ev2 dAdd (ev2 dMul (ev2 dIxA (eLk 0) (eC (.int 3))) (eC (.int 69621))) (ev2 dMul (eLk 2) (eC (.int 40692)))) (eC (.int 107)))) (eC (.int 2147483629))) (pNm 0) (eC (.int 3))) (sIf (cVal (ev2 dGe (eLk 2) (ev2 dPow (eC (.int 10)) (eC (.int 18))))) (sPut 0 (eNm 2) (pNm 0) (eC (.int 2))) (sNil))))) (sNil)) (sSeq (sIf (cVal (ev2 dGt (ev2 dIxA (eLk 0) (eC (.int 2))) (eC (.int 0)))) (sSeq (sSet 3 (ev2 dMod (ev1 dInt (ev2 dIxA (eLk 0) (eC (.int 2)))) (eLk 1))) (sSeq (sPut 0 (ev2 dFdiv (ev2 dIxA (eLk 0) (eC (.int 2))) (eLk 1)) (pNm 0) (eC (.int 2))) (sRet (eNm 3)))) (sNil)) (sSeq (sPut 0 (ev2 dAdd (ev2 dIxA (eLk 0) (eC (.int 4))) (eC (.int 1))) (pNm 0) (eC (.int 4))) (sSeq (sSet 4 (ev2 dMod (ev1 dInt (ev2 dMul (ev1 dInt (ev2 dAdd (ev2 dIxA (eLk 0) (eC (.int 3))) (ev2 dMul (eC (.int 7919)) (ev2 dIxA (eLk 0) (eC (.int 4)))))) (eC (.int 48271)))) (eC (.int 2147483647)))) (sSeq (sSet 4 (ev2 dMod (ev1 dInt (ev2 dMul (eLk 4) (ev2 dAdd (ev2 dFdiv (eLk 4) (eC (.int 1009))) (eC (.int 69621))))) (eC (.int 2147483647)))) (sSeq (sSet 4 (ev2 dMod (ev1 dInt (ev2 dMul (eLk 4) (ev2 dAdd (ev2 dFdiv (eLk 4) (eC (.int 2003))) (eC (.int 40014))))) (eC (.int 2147483563)))) (sRet (ev2 dMod (ev1 dInt (ev2 dFdiv (eLk 4) (eC (.int 16)))) (eLk 1))))))))
def m__law_draw (ds : List D) : FOut := runF [0] 5 2 b__law_draw ds
def b__law_any : Es := sRet (ev2 dIx (eNm 1) (calH m__law_draw 0 (aCons (ev1 dLen (eNm 1)) (aNil))))
def m__law_any (ds : List D) : FOut := runF [0] 2 2 b__law_any ds
def b__law_hand (c : Int) : Es := sSeq (sSet 1 (eLc [2] (iSeq (eSl (eLk 0) (oNone) (oSome (eC (.int 63))))) (gSet 2) (cYes) (ev2 dMod (ev1 dInt (ev1 dAbs (ev1 dInt (eLk 2)))) (ev2 dPow (eC (.int 10)) (eC (.int 36)))))) (sRet (eLst (aCons (eNm 1) (aCons (eC (.int 0)) (aCons (eC (.int 0)) (aCons (ev2 dAdd (eC (.int c)) (ev2 dMul (eC (.int 3)) (ev1 dLen (eLk 1)))) (aCons (eC (.int 0)) (aNil))))))))
def m__law_hand (c : Int) (ds : List D) : FOut := runF [] 3 1 (b__law_hand c) ds
/-- the hand that draws -/
def handD (cs : List Int) (p r m c : Int) : D := .lst true [.lst false (cs.map D.int), .int p, .int r, .int m, .int c]
structure Hand (h : D) : Prop where
  ex : ∃ (cs : List Int) (p r m c : Int), h = handD cs p r m c ∧ (∀ z ∈ cs, 0 ≤ z) ∧ 0 ≤ p ∧ 0 ≤ r ∧ 0 ≤ m ∧ m < 2147483629 ∧ 0 ≤ c
theorem draw_digit {cs : List Int} {p r m c k : Int} (h1 : 0 < k) (h2 : k < 1073741824) (hr : 0 < r) : m__law_draw [handD cs p r m c, .int k] = .ok (.int (r % k)) [handD cs p (r / k) m c] := by
  have hr0 : r ≠ 0 := by omega
  unfold m__law_draw runF handD
  simp [argD, b__law_draw, hr0, hr, dMod_int h1, dFdiv_int ⟨h1, h2⟩]
theorem draw_mix {cs : List Int} {p m c k : Int} (h1 : 0 < k) (hp : ¬ p < cs.length) : ∃ r, m__law_draw [handD cs p 0 m c, .int k] = .ok (.int r) [handD cs p 0 m (c + 1)] ∧ 0 ≤ r ∧ r < k := by
  unfold m__law_draw runF handD
  simp [argD, b__law_draw, hp, dMod_int h1]
  generalize ha : (m + 7919 * (c + 1)) * 48271 % 2147483647 = a
  have a1 : 0 ≤ a := by rw [← ha]; exact Int.emod_nonneg _ (by decide)
  have a2 : a < 2147483647 := by rw [← ha]; exact Int.emod_lt_of_pos _ (by decide)
  simp [dMul_int (mulOk_l (i := a) (j := a / 1009 + 69621) (by omega) (by omega)), dMod_int h1]
  generalize hb : a * (a / 1009 + 69621) % 2147483647 = b
  have b1 : 0 ≤ b := by rw [← hb]; exact Int.emod_nonneg _ (by decide)
  have b2 : b < 2147483647 := by rw [← hb]; exact Int.emod_lt_of_pos _ (by decide)
  simp [dMul_int (mulOk_l (i := b) (j := b / 2003 + 40014) (by omega) (by omega)), dMod_int h1]
  exact ⟨Int.emod_nonneg _ (by omega), Int.emod_lt_of_pos _ h1⟩
theorem draw_more {cs : List Int} {p : Nat} {m c k x : Int} (h1 : 0 < k) (h2 : k < 1073741824) (hx : cs[p]? = some x) (hx0 : 0 ≤ x) (hm : 0 ≤ m ∧ m < 2147483629) : ∃ r r' m' c', m__law_draw [handD cs p 0 m c, .int k] = .ok (.int r) [handD cs (p + 1) r' m' c'] ∧ 0 ≤ r ∧ r < k ∧ 0 ≤ r' ∧ 0 ≤ m' ∧ m' < 2147483629 ∧ (c' = c ∨ c' = c + 1) := by
  have hl : (p : Int) < cs.length := by have := (List.getElem?_eq_some_iff.mp hx).1; omega
  have e1 : dIx (.lst false (cs.map D.int)) (.int p) = some (.int x) := dIx_lst (atI_int (by simp [hx])) rfl
  generalize hm' : (m * 69621 + x * 40692 + 107) % 2147483629 = m'
  have m1 : 0 ≤ m' := by rw [← hm']; exact Int.emod_nonneg _ (by decide)
  have m2 : m' < 2147483629 := by rw [← hm']; exact Int.emod_lt_of_pos _ (by decide)
  by_cases hg : 1000000000000000000 ≤ x
  · have hx1 : 0 < x := by omega
    refine ⟨x % k, x / k, m', c, ?_, Int.emod_nonneg _ (by omega), Int.emod_lt_of_pos _ h1, Int.ediv_nonneg hx0 (by omega), m1, m2, .inl rfl⟩
    unfold m__law_draw runF handD
    simp [argD, b__law_draw, hl, e1, hm', hg, hx1, dMod_int h1, dFdiv_int ⟨h1, h2⟩]
  · have hm2 : ∀ c : Int, (m' + 7919 * c) * 48271 % 2147483647 = (m' + 7919 * c) * 48271 % 2147483647 := fun _ => rfl
    unfold m__law_draw runF handD
    simp [argD, b__law_draw, hl, e1, hm', hg, dMod_int h1]
    generalize ha : (m' + 7919 * (c + 1)) * 48271 % 2147483647 = a
    have a1 : 0 ≤ a := by rw [← ha]; exact Int.emod_nonneg _ (by decide)
    have a2 : a < 2147483647 := by rw [← ha]; exact Int.emod_lt_of_pos _ (by decide)
    simp [dMul_int (mulOk_l (i := a) (j := a / 1009 + 69621) (by omega) (by omega)), dMod_int h1]
    generalize hb : a * (a / 1009 + 69621) % 2147483647 = b
    have b1 : 0 ≤ b := by rw [← hb]; exact Int.emod_nonneg _ (by decide)
    have b2 : b < 2147483647 := by rw [← hb]; exact Int.emod_lt_of_pos _ (by decide)
    simp [dMul_int (mulOk_l (i := b) (j := b / 2003 + 40014) (by omega) (by omega)), dMod_int h1]
    refine ⟨_, _, _, _, ⟨rfl, rfl, rfl, rfl⟩, ?_⟩
    exact ⟨Int.emod_nonneg _ (by omega), Int.emod_lt_of_pos _ h1, by omega, m1, m2, .inr rfl⟩
theorem draw_ok {h : D} (H : Hand h) {k : Int} (h1 : 0 < k) (h2 : k < 1073741824) : ∃ r h', m__law_draw [h, .int k] = .ok (.int r) [h'] ∧ 0 ≤ r ∧ r < k ∧ Hand h' := by
  obtain ⟨cs, p, r, m, c, rfl, hc, hp, hr, hm, hm2, hc0⟩ := H
  by_cases hr0 : 0 < r
  · exact ⟨_, _, draw_digit h1 h2 hr0, Int.emod_nonneg _ (by omega), Int.emod_lt_of_pos _ h1, ⟨_, _, _, _, _, rfl, hc, hp, Int.ediv_nonneg hr (by omega), hm, hm2, hc0⟩⟩
  · obtain rfl : r = 0 := by omega
    by_cases hl : p < cs.length
    · obtain ⟨n, rfl⟩ : ∃ n : Nat, p = n := ⟨p.toNat, by omega⟩
      have hx := List.getElem?_eq_getElem (l := cs) (i := n) (by omega)
      obtain ⟨r, r', m', c', e, q1, q2, q3, q4, q5, q6⟩ := draw_more (m := m) (c := c) h1 h2 hx (hc _ (List.getElem_mem _)) ⟨hm, hm2⟩
      exact ⟨_, _, e, q1, q2, ⟨_, _, _, _, _, rfl, hc, by omega, q3, q4, q5, by omega⟩⟩
    · obtain ⟨r, e, q1, q2⟩ := draw_mix (m := m) (c := c) h1 hl
      exact ⟨_, _, e, q1, q2, ⟨_, _, _, _, _, rfl, hc, hp, by omega, hm, hm2, by omega⟩⟩
theorem frz_nOwn (d : D) : nOwn d.frz = true := by cases d <;> rfl
theorem any_own {h : D} (H : Hand h) {ds : List D} (h0 : 0 < ds.length) (hz : ds.length ≤ 1000000) : ∃ d h', d ∈ ds ∧ m__law_any [h, .lst true ds] = .ok d.frz [h'] ∧ Hand h' := by
  obtain ⟨r, h', e, r0, r1, H'⟩ := draw_ok H (k := (ds.length : Int)) (by omega) (by omega)
  obtain ⟨n, rfl⟩ : ∃ n : Nat, r = n := ⟨r.toNat, by omega⟩
  have hn : n < ds.length := by omega
  refine ⟨ds[n], h', List.getElem_mem _, ?_, H'⟩
  have e2 : dIx (.lst false (D.frzs ds)) (.int n) = some ds[n].frz := dIx_lst (atI_int (by rw [D.frzs_map, List.getElem?_map, List.getElem?_eq_getElem hn]; rfl)) (frz_nOwn _)
  have e3 : (D.frzs ds).length = ds.length := by rw [D.frzs_map, List.length_map]
  unfold m__law_any
  rw [runF_2]
  simp [b__law_any, D.frz, e3, e, e2]
theorem any_frz {h : D} (H : Hand h) {ds : List D} (h0 : 0 < ds.length) (hz : ds.length ≤ 1000000) (hn : ∀ d ∈ ds, nOwn d = true) : ∃ d h', d ∈ ds ∧ m__law_any [h, .lst false ds] = .ok d [h'] ∧ Hand h' := by
  obtain ⟨r, h', e, r0, r1, H'⟩ := draw_ok H (k := (ds.length : Int)) (by omega) (by omega)
  obtain ⟨n, rfl⟩ : ∃ n : Nat, r = n := ⟨r.toNat, by omega⟩
  have hl : n < ds.length := by omega
  refine ⟨ds[n], h', List.getElem_mem _, ?_, H'⟩
  have e2 : dIx (.lst false ds) (.int n) = some ds[n] := dIx_lst (atI_int (List.getElem?_eq_getElem hl)) (hn _ (List.getElem_mem _))
  unfold m__law_any
  rw [runF_2]
  simp [b__law_any, e, e2]
theorem hand_ok {c : Int} (c0 : 0 ≤ c) (c1 : c ≤ 1000) {ns : List Int} (h : ns.length ≤ 63) : ∃ h', m__law_hand c [.scr ns] = .ok h' [] ∧ Hand h' := by
  refine ⟨handD (ns.map fun n => (if n < 0 then -n else n) % 1000000000000000000000000000000000000) 0 0 (c + 3 * ns.length) 0, ?_, ⟨_, _, _, _, _, rfl, ?_, by decide, by decide, by omega, by omega, by decide⟩⟩
  · unfold m__law_hand
    rw [runF_1]
    simp [b__law_hand]
    rw [eLc_map (L := ns) (ι := D.int) (S := fun n => [some (.scr ns), none, some (.int n)]) (g := fun n => D.int ((if n < 0 then -n else n) % 1000000000000000000000000000000000000)) (δ1 := [some (.scr ns), none, none])]
    · have e : (ns.map fun n => D.int ((if n < 0 then -n else n) % 1000000000000000000000000000000000000)) = (ns.map fun n => (if n < 0 then -n else n) % 1000000000000000000000000000000000000).map D.int := by rw [List.map_map]; rfl
      rw [e]
      have hl : (ns.map fun n => (if n < 0 then -n else n) % 1000000000000000000000000000000000000).length = ns.length := List.length_map _
      generalize (ns.map fun n => (if n < 0 then -n else n) % 1000000000000000000000000000000000000) = zs at hl ⊢
      simp [D.frz, handD, hl]
    · have e1 : HT.sIx ns.length ns.length (some 63) = ns.length := by
        have := HT.sIx_nat ns.length ns.length 63
        have e : ((63 : Nat) : Int) = 63 := rfl
        rw [e] at this
        rw [this]; omega
      have e2 : dSl (.scr ns) none (some 63) = some (.lst true (ns.map D.int)) := by
        unfold dSl
        simp [e1, HT.sIx_none]
      simp [e2]
    · intro n _; rfl
    · intro n _
      by_cases hn : n < 0 <;> simp [dAbs, hn]
    · intro n _; rfl
    · rfl
  · intro z hz
    obtain ⟨n, _, rfl⟩ := List.mem_map.mp hz
    exact Int.emod_nonneg _ (by decide)
end L2.Pv.Dw
end
section
set_option Elab.async false
set_option linter.all false
set_option autoImplicit false
set_option maxRecDepth 100000
namespace L2.Pv
open PySem PySem.Spec PyProof.Rows
/-! ### {k: v for x in xs} -/
section
variable {Γ : Gm} {F : Fr} {σ : St} {H G : Hp} {sl : TS'} {tm : List T} {t : T}
theorem cS_snoc (a : Addr) (x : Option T) (sl : TS') : cS a (sl ++ [x]) = cS a sl + cO a x := by
  simp [cS]
theorem Abs.inSlot (A : Abs Γ F σ H G sl (t :: tm)) : Abs Γ F (σ ++ [some t.v]) H G (sl ++ [some t]) tm where
  len := by rw [List.length_append, List.length_append, A.len]; rfl
  val := fun i u h => by
    by_cases e : i < sl.length
    · rw [List.getElem?_append_left e] at h
      rw [List.getElem?_append_left (by rw [← A.len]; exact e)]
      exact A.val i u h
    · rw [List.getElem?_append_right (by omega)] at h
      rw [List.getElem?_append_right (by rw [← A.len]; omega), ← A.len]
      cases e2 : i - sl.length with
      | zero => rw [e2] at h; cases h; rfl
      | succ k => rw [e2] at h; simp at h
  sub := A.sub
  keep := A.keep
  dom := A.dom
  g0 := A.g0
  goodS := fun i u h => by
    by_cases e : i < sl.length
    · rw [List.getElem?_append_left e] at h
      exact A.goodS i u h
    · rw [List.getElem?_append_right (by omega)] at h
      cases e2 : i - sl.length with
      | zero => rw [e2] at h; cases h; exact A.goodT t List.mem_cons_self
      | succ k => rw [e2] at h; simp at h
  goodT := fun u hu => A.goodT u (List.mem_cons_of_mem _ hu)
  one := fun a => by have := A.one a; rw [T.cnts] at this; rw [cS_snoc]; show cS a sl + t.cnt a + _ ≤ 1; omega
  sep := fun a ha => A.sep a (by rw [T.cnts]; rw [cS_snoc] at ha; have ha : 0 < cS a sl + t.cnt a + T.cnts a tm := ha; omega)
  fresh := A.fresh
  tabs := A.tabs
theorem Abs.outSlot {v : V} (A : Abs Γ F (σ ++ [some v]) H G (sl ++ [some t]) tm) (hl : sl.length = σ.length) : Abs Γ F σ H G sl (t :: tm) where
  len := hl
  val := fun i u h => by
    have hi : i < sl.length := (List.getElem?_eq_some_iff.mp h).1
    have := A.val i u (by rw [List.getElem?_append_left hi]; exact h)
    rw [List.getElem?_append_left (by omega)] at this
    exact this
  sub := A.sub
  keep := A.keep
  dom := A.dom
  g0 := A.g0
  goodS := fun i u h => A.goodS i u (by rw [List.getElem?_append_left (List.getElem?_eq_some_iff.mp h).1]; exact h)
  goodT := fun u hu => by
    rcases List.mem_cons.mp hu with rfl | hu
    · exact A.goodS sl.length u (by rw [List.getElem?_append_right (Nat.le_refl _), Nat.sub_self]; rfl)
    · exact A.goodT u hu
  one := fun a => by have := A.one a; rw [cS_snoc] at this; have this : cS a sl + t.cnt a + T.cnts a tm ≤ 1 := this; rw [T.cnts]; omega
  sep := fun a ha => A.sep a (by rw [T.cnts] at ha; rw [cS_snoc]; show 0 < cS a sl + t.cnt a + T.cnts a tm; omega)
  fresh := A.fresh
  tabs := A.tabs
/-- d[k] = v, d a temp -/
theorem Abs.putT {u kt : T} {nd : D} {D' : Addr} {kvs : List (Key × V)} (A : Abs Γ F σ H G sl (t :: kt :: u :: tm)) (hv : u.v = .ref D') (hD : H D' = some (.dK kvs)) (h : putD u.d kt.d t.d = some nd) :
    ∃ k n, kt.v = kV k ∧ kvs.length < sizeLine ∧ n.d = nd ∧ n.v = .ref D' ∧ Abs Γ F σ (upd H D' (.dK (putK kvs k t.v))) G sl (n :: tm) := by
  have gk : Good Γ G H kt := A.goodT kt (by simp)
  have A1 : Abs Γ F σ H G sl (u :: t :: tm) := A.temps (fun x hx => by
    simp only [List.mem_cons] at hx ⊢
    rcases hx with h | h | h
    · exact .inr (.inr (.inl h))
    · exact .inl h
    · exact .inr (.inr (.inr h))) fun a => by rw [T.cnts, T.cnts, T.cnts, T.cnts, T.cnts]; omega
  have hj : (sl ++ [some u])[sl.length]? = some (some u) := by rw [List.getElem?_append_right (Nat.le_refl _), Nat.sub_self]; rfl
  obtain ⟨p, o, n, ev, en, B, hc⟩ := A1.inSlot.put hj (pi := []) (u := u) rfl gk h
  obtain rfl : D' = p := V.ref.inj (hv.symm.trans ev)
  have es : (sl ++ [some u]).set sl.length (some (T.upd u [] n)) = sl ++ [some n] := by
    rw [List.set_append_right _ _ (Nat.le_refl _), Nat.sub_self]; rfl
  rw [es] at B
  have nv : n.v = .ref D' := by
    have := B.val sl.length n (by rw [List.getElem?_append_right (Nat.le_refl _), Nat.sub_self]; rfl)
    rw [A.len, List.getElem?_append_right (Nat.le_refl _), Nat.sub_self] at this
    have : some (some u.v) = some (some n.v) := this
    rw [← hv]
    exact (Option.some.inj (Option.some.inj this)).symm
  rcases hc with ⟨xs, i, k, _, hH, _⟩ | hc
  · rw [hD] at hH; cases hH
  · rcases hc with ⟨kvs', k, hH, hk, hz, hu⟩ | ⟨kvs', k, b, hH, _⟩
    · rw [hD] at hH
      cases hH
      rw [hu] at B
      exact ⟨k, n, hk, hz, en, nv, B.outSlot A.len⟩
    · rw [hD] at hH; cases hH
theorem putD_dic {o : Bool} {ks : DKs} {ds : List D} {y z nd : D} (h : putD (.dic o ks ds) y z = some nd) : ∃ ks' ds', nd = .dic true ks' ds' := by
  unfold putD at h
  split at h
  · rename_i e; cases e
  · rename_i ks xs e
    cases e
    split at h
    · split at h
      · cases h; exact ⟨_, _, rfl⟩
      · cases h
    · split at h
      · cases hs : ks.snoc y with
        | none => rw [hs] at h; cases h
        | some w => rw [hs] at h; cases h; exact ⟨_, _, rfl⟩
      · cases h
    · cases h
  · cases h
theorem Abs.isDic {n : T} {D' : Addr} {kvs : List (Key × V)} (A : Abs Γ F σ (upd H D' (.dK kvs)) G sl (n :: tm)) (hv : n.v = .ref D') (h : ∃ ks ds, n.d = .dic true ks ds) : ∃ ks ts, n = .dic D' (.k ks) ts := by
  obtain ⟨ks, ds, e⟩ := h
  obtain ⟨p, xs, en, _, hH, _⟩ := node_dic (A.goodT n List.mem_cons_self) e
  subst en
  obtain rfl : p = D' := V.ref.inj hv
  rw [upd_same] at hH
  cases ks with
  | k ks => exact ⟨_, _, rfl⟩
  | t ks => cases hH
end
/-- the turns of a dict comprehension -/
def dcL (vs : List Nat) (ft : Eg) (fc : EvT) (fk fv : Ev) : List D → D → DS → Option (D × DS)
  | [], acc, δ => some (acc, δ)
  | d :: ds, acc, δ => (ft d δ).bind fun δ1 => match fc δ1 with
    | .ok true δ2 => match fk δ2 with
      | .ok y δ3 => match fv δ3 with
        | .ok z δ4 => (putD acc y z).bind fun acc' => dcL vs ft fc fk fv ds acc' (wipeG δ4 vs)
        | _ => none
      | _ => none
    | .ok false δ2 => dcL vs ft fc fk fv ds acc (wipeG δ2 vs)
    | _ => none
def eDc (vs : List Nat) (fi : EvA) (ft : Eg) (fc : EvT) (fk fv : Ev) : Ev := fun δ => (fi δ).bd fun ds δ1 => match dcL vs ft fc fk fv ds (.dic true (.k []) []) (wipeG δ1 vs) with
  | some (d, δ2) => .ok d (restG δ1 δ2 vs)
  | none => .stuck
section
variable {X : Cx} {Γ : Gm} {E : WX} {Wi Wc Wk We S : List Nat} {kx vx tg iter : Expr} {ifs : List Expr} {scope : Scope} {own : List (Str × Nat)} {pos : Pos} {fi : EvA} {ft : Eg} {fc : EvT} {fk fv : Ev}
theorem dc_run {vs : List Nat} {σ : St} {H : Hp} {Q : VK} (hS : ∀ i ∈ S, i ∈ vs) (q : tE Γ E (Wi ++ (vs ++ (Wc ++ (Wk ++ We)))) (eDc vs fi ft fc fk fv) σ H Q) :
    tDc (tI Γ E Wi fi) (tG Γ S ft) (tT Γ E0' Wc fc) (tE Γ E0' Wk fk) (tE Γ E0' We fv) vs σ H Q := by
  obtain ⟨F, G, sl, tm, A, q⟩ := q
  refine ⟨F, G, sl, tm, A, ?_⟩
  unfold eDc at q
  cases hf : fi (dsl sl) with
  | stuck => rw [hf] at q; exact q
  | exc c fs δ => rw [hf] at q; exact q
  | ok ds δ1 =>
    rw [hf, bd_ok] at q
    intro J H1 G1 sl1 A1 s1 e1 k1 gv hz D hD
    cases hl : dcL vs ft fc fk fv ds (.dic true (.k []) []) (wipeG δ1 vs) with
    | none => rw [hl] at q; exact q.elim
    | some r =>
      obtain ⟨dT, δT⟩ := r
      rw [hl] at q
      dsimp only at q
      obtain ⟨hsT, B, R⟩ := A1.hide vs
      have B2 : Abs Γ F (wipe σ vs) (upd H1 D (.dK [])) G1 (wipeG sl1 vs) (.dic D (.k []) [] :: (hsT ++ tm)) := Abs.newDic B hD (.k []) (.inl rfl)
      refine ⟨fun i m H' => m = ds.length - i ∧ ∃ G' sl' u, Abs Γ F (wipe σ vs) H' G' sl' (u :: (hsT ++ tm)) ∧ (∃ ks ts, u = .dic D (.k ks) ts) ∧ Sub G1 G' ∧ Keep (vs ++ (Wc ++ (Wk ++ We))) (wipeG sl1 vs) sl' ∧
        dcL vs ft fc fk fv (ds.drop i) u.d (dsl sl') = some (dT, δT),
        ⟨_, rfl, G1, wipeG sl1 vs, .dic D (.k []) [], B2, ⟨_, _, rfl⟩, Sub.refl _, Keep.refl _ _, by rw [dsl_wipe, e1]; exact hl⟩, ?_⟩
      rintro i m H' ⟨rfl, G', sl', u, A', ⟨ku, xu, eu⟩, s', k', hL⟩
      have uv : u.v = .ref D := by rw [eu]; rfl
      obtain ⟨hgo, hst⟩ := gv F _ H' G' sl' _ A' s' i
      cases hd : ds[i]? with
      | none =>
        refine .inl ⟨hst hd, ?_⟩
        rw [show ds.drop i = [] from List.drop_eq_nil_iff.mpr (List.getElem?_eq_none_iff.mp hd)] at hL
        have hL : some (u.d, dsl sl') = some (dT, δT) := hL
        cases hL
        have C := R H' G' sl' (u :: tm) A'.swap'
        rw [← uv]
        refine q H' G' _ u C (s1.trans s') rfl (by rw [dsl_rest, e1]) (k1.trans ?_)
        intro j hj
        have hjv : j ∉ vs := fun z => hj (List.mem_append_left _ z)
        rw [Keep.rest (W := vs) sl1 sl' vs (fun _ h => h) j hjv, k' j hj, wipeG_get, if_neg fun z => hjv z.1]
      | some d =>
        obtain ⟨h1, h2⟩ := hgo d hd
        have hlt : i < ds.length := (List.getElem?_eq_some_iff.mp hd).1
        rw [drop_cons hd] at hL
        refine .inr ⟨h1, fun H'' => ∃ G' sl' u, Abs Γ F (wipe σ vs) H'' G' sl' (u :: (hsT ++ tm)) ∧ (∃ ks ts, u = .dic D (.k ks) ts) ∧ Sub G1 G' ∧ Keep (vs ++ (Wc ++ (Wk ++ We))) (wipeG sl1 vs) sl' ∧
          dcL vs ft fc fk fv (ds.drop (i + 1)) u.d (dsl sl') = some (dT, δT), fun H'' w => ⟨ds.length - (i + 1), by omega, rfl, w⟩, fun x H3 y => ?_⟩
        obtain ⟨G3, t, A3, s3, ev, ed⟩ := h2 x H3 y
        refine ⟨F, G3, sl', _, t, A3, ev, ?_⟩
        rw [ed]
        unfold dcL at hL
        cases hft : ft d (dsl sl') with
        | none => rw [hft] at hL; cases hL
        | some δ2 =>
          rw [hft] at hL
          intro σ4 H4 G4 sl4 A4 s4 o4 k4 e4
          refine ⟨wipe_only o4 hS, F, G4, sl4, _, A4, ?_⟩
          rw [e4]
          have hL : (match fc δ2 with
            | .ok true δ2 => match fk δ2 with
              | .ok y δ3 => match fv δ3 with
                | .ok z δ4 => (putD u.d y z).bind fun acc' => dcL vs ft fc fk fv (ds.drop (i + 1)) acc' (wipeG δ4 vs)
                | _ => none
              | _ => none
            | .ok false δ2 => dcL vs ft fc fk fv (ds.drop (i + 1)) u.d (wipeG δ2 vs)
            | _ => none) = some (dT, δT) := hL
          have fin : ∀ {H6 G6 : Hp} {sl6 : TS'} {u' : T}, Abs Γ F σ4 H6 G6 sl6 (u' :: (hsT ++ tm)) → Abs Γ F (wipe σ vs) H6 G6 (wipeG sl6 vs) (u' :: (hsT ++ tm)) := fun {H6 G6 sl6 u'} A6 => by
            have := A6.wipeS vs
            rw [wipe_only o4 hS] at this
            exact this
          have inW : ∀ v ∈ vs, v ∈ vs ++ (Wc ++ (Wk ++ We)) := fun v h => List.mem_append_left _ h
          have k4' : Keep (vs ++ (Wc ++ (Wk ++ We))) sl' sl4 := k4.mono fun i h => inW i (hS i h)
          -- the dict stands where it stood
          have dicAt : ∀ {H6 G6 : Hp} {σ6 : St} {sl6 : TS'} {tm6 : List T}, Abs Γ F σ6 H6 G6 sl6 tm6 → u ∈ tm6 → ∃ kvs, H6 D = some (.dK kvs) := fun {H6 G6 σ6 sl6 tm6} A6 hm => by
            have g6 := A6.goodT u hm
            rw [eu] at g6
            exact ⟨_, g6.1.1⟩
          cases hfc : fc δ2 with
          | stuck => rw [hfc] at hL; cases hL
          | exc c fs δ => rw [hfc] at hL; cases hL
          | ok b δ3 =>
            rw [hfc] at hL
            intro H5 G5 sl5 A5 s5 e5 k5
            have k5' : Keep (vs ++ (Wc ++ (Wk ++ We))) sl4 sl5 := k5.mono fun i h => List.mem_append_right _ (List.mem_append_left _ h)
            cases b with
            | false =>
              rw [if_neg Bool.false_ne_true]
              exact ⟨G5, wipeG sl5 vs, u, fin A5, ⟨_, _, eu⟩, s'.trans (s3.trans (s4.trans s5)), ((k'.tr k4').tr k5').tr (Keep.wipe _ _ inW), by rw [dsl_wipe, e5]; exact hL⟩
            | true =>
              rw [if_pos rfl]
              refine ⟨F, G5, sl5, _, A5, ?_⟩
              rw [e5]
              have hL : (match fk δ3 with
                | .ok y δ3 => match fv δ3 with
                  | .ok z δ4 => (putD u.d y z).bind fun acc' => dcL vs ft fc fk fv (ds.drop (i + 1)) acc' (wipeG δ4 vs)
                  | _ => none
                | _ => none) = some (dT, δT) := hL
              cases hfk : fk δ3 with
              | stuck => rw [hfk] at hL; cases hL
              | exc c fs δ => rw [hfk] at hL; cases hL
              | ok yk δ4 =>
                rw [hfk] at hL
                intro H6 G6 sl6 t6 A6 s6 e6 e6' k6
                have k6' : Keep (vs ++ (Wc ++ (Wk ++ We))) sl5 sl6 := k6.mono fun i h => List.mem_append_right _ (List.mem_append_right _ (List.mem_append_left _ h))
                refine ⟨F, G6, sl6, _, A6, ?_⟩
                rw [e6']
                have hL : (match fv δ4 with
                  | .ok z δ4 => (putD u.d yk z).bind fun acc' => dcL vs ft fc fk fv (ds.drop (i + 1)) acc' (wipeG δ4 vs)
                  | _ => none) = some (dT, δT) := hL
                cases hfv : fv δ4 with
                | stuck => rw [hfv] at hL; cases hL
                | exc c fs δ => rw [hfv] at hL; cases hL
                | ok zv δ5 =>
                  rw [hfv] at hL
                  intro H7 G7 sl7 t7 A7 s7 e7 e7' k7
                  have k7' : Keep (vs ++ (Wc ++ (Wk ++ We))) sl6 sl7 := k7.mono fun i h => List.mem_append_right _ (List.mem_append_right _ (List.mem_append_right _ h))
                  have hL : (putD u.d yk zv).bind (fun acc' => dcL vs ft fc fk fv (ds.drop (i + 1)) acc' (wipeG δ5 vs)) = some (dT, δT) := hL
                  cases hp : putD u.d yk zv with
                  | none => rw [hp] at hL; cases hL
                  | some nd =>
                    rw [hp] at hL
                    obtain ⟨kvs7, hk7⟩ := dicAt A7 (by simp)
                    obtain ⟨k, n, ek, hz7, en, nv, A8⟩ := A7.putT uv hk7 (by rw [e6, e7]; exact hp)
                    refine ⟨kvs7, k, ek, hk7, hz7, ?_⟩
                    refine ⟨G7, wipeG sl7 vs, n, fin A8, A8.isDic nv (by rw [en]; rw [eu] at hp; exact putD_dic hp), s'.trans (s3.trans (s4.trans (s5.trans (s6.trans s7)))), ((((k'.tr k4').tr k5').tr k6').tr k7').tr (Keep.wipe _ _ inW), ?_⟩
                    rw [dsl_wipe, e7', en]
                    exact hL
theorem se_dc (hc : X.calm = true) (hN : X.N.Nodup) (hi : SI X Γ E Wi tg iter fi) (ok : BlkOk X.N X.env.scope scope own)
    (hg : ∀ (s : Shared) (H : Hp) (C : Addr) (cl : List (Str × Addr)) (fp : List Addr), SG (X.blk s H scope (compEnvC scope cl C X.env) fp) Γ S tg ft)
    (ht : ∀ (s : Shared) (H : Hp) (C : Addr) (cl : List (Str × Addr)) (fp : List Addr), STs (X.blk s H scope (compEnvC scope cl C X.env) fp) Γ E0' Wc ifs fc)
    (hk : ∀ (s : Shared) (H : Hp) (C : Addr) (cl : List (Str × Addr)) (fp : List Addr), SE (X.blk s H scope (compEnvC scope cl C X.env) fp) Γ E0' Wk kx fk)
    (he : ∀ (s : Shared) (H : Hp) (C : Addr) (cl : List (Str × Addr)) (fp : List Addr), SE (X.blk s H scope (compEnvC scope cl C X.env) fp) Γ E0' We vx fv) (hs : ∀ x, foldedSetIterable iter X.env x = pure x)
    (hS : ∀ i ∈ S, i ∈ own.map (·.2)) :
    SE X Γ E (Wi ++ (own.map (·.2) ++ (Wc ++ (Wk ++ We)))) (.DictComp kx vx [⟨tg, iter, ifs, 0⟩] scope pos) (eDc (own.map (·.2)) fi ft fc fk fv) := fun hK =>
  (pe_dc hc hN (hi hK) ok (fun s H C cl fp => hg s H C cl fp hK) (fun s H C cl fp => ht s H C cl fp hK) (fun s H C cl fp => hk s H C cl fp hK) (fun s H C cl fp => he s H C cl fp hK) hs).imp fun σ H Q q => dc_run hS q
end
end L2.Pv
namespace L2.Pv
open PySem PySem.Spec PyProof.Rows
/-! ### what is never reached -/
def sStuck : Es := fun _ => .stuck
theorem ss_stuck {X : Cx} {Γ : Gm} {E : WX} {P : List Nat} {st : Stmt} : SS X Γ E P st sStuck := fun _ => ⟨fun pins s σ H D I ⟨F, G, sl, tm, A, q⟩ => q.elim⟩
def eStuck : Ev := fun _ => .stuck
theorem se_stuck {X : Cx} {Γ : Gm} {E : WX} {e : Expr} : SE X Γ E [] e eStuck := fun _ => ⟨fun pins s σ H Q I ⟨F, G, sl, tm, A, q⟩ => q.elim⟩
end L2.Pv
end
section
set_option Elab.async false
set_option linter.all false
set_option autoImplicit false
set_option maxRecDepth 100000
set_option maxHeartbeats 4000000
namespace L2.Pv.K77
open PySem PySem.Spec PyProof.Rows
def topS (i : Nat) : Stmt := PySem.Challenge.pw_pairblocks_k77_whole_rows_by_rules.main.body.getD i (.Pass ⟨0, 0, 0, 0⟩)
def csB (c : Nat) : Option Bool := if c ∈ ([2, 3] : List Nat) then some true else none
theorem csB_mem {c : Nat} (h : csB c = some true) : c = 2 ∨ c = 3 := by
  unfold csB at h
  split at h
  · rename_i hm; simpa using hm
  · cases h
def kB_NoSequence (c : Nat) : Bool := c ∈ ([3] : List Nat)
def kB_NoNumber (c : Nat) : Bool := c ∈ ([2] : List Nat)
def kB_ValueError (c : Nat) : Bool := c ∈ ([2, 3] : List Nat)
abbrev s_is_integer : Stmt := topS 1
theorem sc_is_integer : FnScope ["thing"] ["thing"] (defScope s_is_integer) := ⟨rfl, rfl, rfl, by decide +kernel, rfl, by decide +kernel, by decide +kernel⟩
def b_is_integer : Es := sRet (eAnd (ev1 (dIsi "int") (eLk 0)) (ev1 dNot (ev1 (dIsi "bool") (eLk 0))))
def m_is_integer (ds : List D) : FOut := runF [] 1 1 b_is_integer ds
abbrev s_is_within : Stmt := topS 2
theorem sc_is_within : FnScope ["thing", "least", "most"] ["thing", "least", "most"] (defScope s_is_within) := ⟨rfl, rfl, rfl, by decide +kernel, rfl, by decide +kernel, by decide +kernel⟩
def b_is_within : Es := sRet (eAnd (calF m_is_integer (aCons (eNm 0) (aNil))) (eChain dLe dLe (eLk 1) (eLk 0) (eLk 2)))
def m_is_within (ds : List D) : FOut := runF [] 3 3 b_is_within ds
abbrev s_is_tuple : Stmt := topS 3
theorem sc_is_tuple : FnScope ["thing", "least", "most"] ["thing", "least", "most"] (defScope s_is_tuple) := ⟨rfl, rfl, rfl, by decide +kernel, rfl, by decide +kernel, by decide +kernel⟩
def b_is_tuple : Es := sRet (eAnd (ev1 (dIsi "tuple") (eLk 0)) (eChain dLe dLe (eLk 1) (ev1 dLen (eLk 0)) (eLk 2)))
def m_is_tuple (ds : List D) : FOut := runF [] 3 3 b_is_tuple ds
abbrev s_raised_to : Stmt := topS 4
theorem sc_raised_to : FnScope ["number", "power", "found", "turn"] ["number", "power"] (defScope s_raised_to) := ⟨rfl, rfl, rfl, by decide +kernel, rfl, by decide +kernel, by decide +kernel⟩
def b_raised_to : Es := sSeq (sSet 2 (eC (.int 1))) (sSeq (sFor (iRng (aCons (eNm 1) (aNil))) (gSet 3) (sSet 2 (ev2 dMul (eLk 2) (eLk 0)))) (sRet (eNm 2)))
def m_raised_to (ds : List D) : FOut := runF [] 4 2 b_raised_to ds
abbrev s_is_row : Stmt := topS 13
theorem sc_is_row : FnScope ["thing", "one"] ["thing"] (defScope s_is_row) := ⟨rfl, rfl, rfl, by decide +kernel, rfl, by decide +kernel, by decide +kernel⟩
def b_is_row : Es := sSeq (sIf (cNot (cVal (calF m_is_tuple (aCons (eNm 0) (aCons (eC (.int 1)) (aCons (eC (.int 64)) (aNil))))))) (sRet (eC (.bl false))) (sNil)) (sRet (ev1 dAll (eLc [1] (iSeq (eNm 0)) (gSet 1) (cYes) (eAnd (calF m_is_within (aCons (eNm 1) (aCons (ev1 dNeg (eC (.int 1))) (aCons (eC (.int 1)) (aNil))))) (ev2 dNe (eLk 1) (eC (.int 0)))))))
def m_is_row (ds : List D) : FOut := runF [] 2 1 b_is_row ds
abbrev s_check_rows : Stmt := topS 14
theorem sc_check_rows : FnScope ["rows", "row"] ["rows"] (defScope s_check_rows) := ⟨rfl, rfl, rfl, by decide +kernel, rfl, by decide +kernel, by decide +kernel⟩
def b_check_rows : Es := sIf (cNot (cVal (ev1 dAll (eLc [1] (iSeq (eNm 0)) (gSet 1) (cYes) (calF m_is_row (aCons (eNm 1) (aNil))))))) (sRaise 3) (sNil)
def m_check_rows (ds : List D) : FOut := runF [] 2 1 b_check_rows ds
abbrev s_ring_sums_of : Stmt := topS 15
theorem sc_ring_sums_of : FnScope ["row", "many", "far", "at"] ["row"] (defScope s_ring_sums_of) := ⟨rfl, rfl, rfl, by decide +kernel, rfl, by decide +kernel, by decide +kernel⟩
def b_ring_sums_of : Es := sSeq (sSet 1 (ev1 dLen (eLk 0))) (sRet (eLc [2] (iRng (aCons (eNm 1) (aNil))) (gSet 2) (cYes) (ev1 dSum (eLc [3] (iRng (aCons (eNm 1) (aNil))) (gSet 3) (cYes) (ev2 dMul (ev2 dIxA (eLk 0) (eLk 3)) (ev2 dIxA (eLk 0) (ev2 dMod (ev2 dAdd (eLk 3) (eLk 2)) (eLk 1))))))))
def m_ring_sums_of (ds : List D) : FOut := runF [] 4 1 b_ring_sums_of ds
abbrev s_ring_sums : Stmt := topS 16
theorem sc_ring_sums : FnScope ["row"] ["row"] (defScope s_ring_sums) := ⟨rfl, rfl, rfl, by decide +kernel, rfl, by decide +kernel, by decide +kernel⟩
def b_ring_sums : Es := sSeq (sExpr (calF m_check_rows (aCons (eTup (aCons (eNm 0) (aNil))) (aNil)))) (sRet (calF m_ring_sums_of (aCons (eNm 0) (aNil))))
def m_ring_sums (ds : List D) : FOut := runF [] 1 1 b_ring_sums ds
abbrev s_check_rule : Stmt := topS 18
theorem sc_check_rule : FnScope ["rule", "begin", "one", "a", "b"] ["rule", "begin"] (defScope s_check_rule) := ⟨rfl, rfl, rfl, by decide +kernel, rfl, by decide +kernel, by decide +kernel⟩
def b_check_rule : Es := sSeq (sIf (cOr (cNot (cVal (calF m_is_tuple (aCons (eNm 1) (aCons (eC (.int 1)) (aCons (eC (.int 16)) (aNil))))))) (cNot (cVal (ev1 dAll (eLc [2] (iSeq (eNm 1)) (gSet 2) (cYes) (calF m_is_within (aCons (eNm 2) (aCons (eC (.int 0)) (aCons (eC (.int 1)) (aNil)))))))))) (sRaise 3) (sNil)) (sSeq (sIf (cOr (cNot (cVal (calF m_is_tuple (aCons (eNm 0) (aCons (eC (.int 1)) (aCons (ev1 dLen (eLk 1)) (aNil))))))) (cNot (cVal (ev1 dAll (eLc [2] (iSeq (eNm 0)) (gSet 2) (cYes) (calF m_is_within (aCons (eNm 2) (aCons (eC (.int 1)) (aCons (ev1 dLen (eLk 1)) (aNil)))))))))) (sRaise 3) (sNil)) (sIf (cOr (cNot (cVal (ev1 dAll (eLc [3, 4] (iZipD (aCons (eNm 0) (aCons (eSl (eLk 0) (oSome (eC (.int 1))) (oNone)) (aNil)))) (gTup' 2 (gCons' (gSet 3) (gCons' (gSet 4) (gNil')))) (cYes) (ev2 dLt (eLk 3) (eLk 4)))))) (cVal (ev2 dNe (ev2 dIxA (eLk 0) (ev1 dNeg (eC (.int 1)))) (ev1 dLen (eLk 1))))) (sRaise 3) (sNil)))
def m_check_rule (ds : List D) : FOut := runF [] 5 2 b_check_rule ds
abbrev s_bits_by : Stmt := topS 19
theorem sc_bits_by : FnScope ["rule", "begin", "many", "found", "back"] ["rule", "begin", "many"] (defScope s_bits_by) := ⟨rfl, rfl, rfl, by decide +kernel, rfl, by decide +kernel, by decide +kernel⟩
def b_bits_by : Es := sSeq (sSet 3 (ev1 dList (eLk 1))) (sSeq (sWhile (cVal (ev2 dLt (ev1 dLen (eLk 3)) (eLk 2))) (sExpr (eMeth "list" 3 (pNm 3) (aCons (ev2 dMod (ev1 dSum (eLc [4] (iSeq (eNm 0)) (gSet 4) (cYes) (ev2 dIx (eLk 3) (ev1 dNeg (eLk 4))))) (eC (.int 2))) (aNil)) mAppend)) 100000) (sRet (eSl (eLk 3) (oNone) (oSome (eLk 2)))))
def m_bits_by (ds : List D) : FOut := runF [] 5 3 b_bits_by ds
abbrev s_by_rule : Stmt := topS 17
theorem sc_by_rule : FnScope ["rule", "begin", "many"] ["rule", "begin", "many"] (defScope s_by_rule) := ⟨rfl, rfl, rfl, by decide +kernel, rfl, by decide +kernel, by decide +kernel⟩
def b_by_rule : Es := sSeq (sExpr (calF m_check_rule (aCons (eNm 0) (aCons (eNm 1) (aNil))))) (sSeq (sIf (cNot (cVal (calF m_is_within (aCons (eNm 2) (aCons (eC (.int 0)) (aCons (eC (.int 5000)) (aNil))))))) (sRaise 2) (sNil)) (sRet (ev1 dTup (calF m_bits_by (aCons (eNm 0) (aCons (eNm 1) (aCons (eNm 2) (aNil))))))))
def m_by_rule (ds : List D) : FOut := runF [] 3 3 b_by_rule ds
abbrev s_period : Stmt := topS 20
theorem sc_period : FnScope ["rule", "begin", "here", "many", "back"] ["rule", "begin"] (defScope s_period) := ⟨rfl, rfl, rfl, by decide +kernel, rfl, by decide +kernel, by decide +kernel⟩
def b_period : Es := sSeq (sExpr (calF m_check_rule (aCons (eNm 0) (aCons (eNm 1) (aNil))))) (sSeq (sParT 2 (aCons (ev2 dAdd (eSl (eLk 1) (oSome (eC (.int 1))) (oNone)) (eTup (aCons (ev2 dMod (ev1 dSum (eLc [4] (iSeq (eNm 0)) (gSet 4) (cYes) (ev2 dIx (eLk 1) (ev1 dNeg (eLk 4))))) (eC (.int 2))) (aNil)))) (aCons (eC (.int 1)) (aNil))) (gCons' (gSet 2) (gCons' (gSet 3) (gNil')))) (sSeq (sWhile (cVal (ev2 dNe (eLk 2) (eLk 1))) (sSeq (sSet 2 (ev2 dAdd (eSl (eLk 2) (oSome (eC (.int 1))) (oNone)) (eTup (aCons (ev2 dMod (ev1 dSum (eLc [4] (iSeq (eNm 0)) (gSet 4) (cYes) (ev2 dIx (eLk 2) (ev1 dNeg (eLk 4))))) (eC (.int 2))) (aNil))))) (sSeq (sAugI (· + ·) 3 (eC (.int 1))) (sIf (cVal (ev2 dGt (eLk 3) (eC (.int 70000)))) (sStuck) (sNil)))) 100000) (sRet (eNm 3))))
def m_period (ds : List D) : FOut := runF [] 5 2 b_period ds
abbrev s_is_longest : Stmt := topS 21
theorem sc_is_longest : FnScope ["rule", "size", "begin"] ["rule", "size"] (defScope s_is_longest) := ⟨rfl, rfl, rfl, by decide +kernel, rfl, by decide +kernel, by decide +kernel⟩
def b_is_longest : Es := sSeq (sSet 2 (eIf (cVal (calF m_is_within (aCons (eNm 1) (aCons (eC (.int 1)) (aCons (eC (.int 16)) (aNil)))))) (ev1 dTup (ev2 dAdd (ev2 dMul (eLst (aCons (eC (.int 0)) (aNil))) (ev2 dSub (eLk 1) (eC (.int 1)))) (eLst (aCons (eC (.int 1)) (aNil))))) (eTup (aNil)))) (sSeq (sExpr (calF m_check_rule (aCons (eNm 0) (aCons (eNm 2) (aNil))))) (sRet (ev2 dEq (calF m_period (aCons (eNm 0) (aCons (eNm 2) (aNil)))) (ev2 dSub (calF m_raised_to (aCons (eC (.int 2)) (aCons (eNm 1) (aNil)))) (eC (.int 1))))))
def m_is_longest (ds : List D) : FOut := runF [] 3 2 b_is_longest ds
abbrev s_first_longest : Stmt := topS 22
theorem sc_first_longest : FnScope ["size", "begin", "number", "rule", "at"] ["size"] (defScope s_first_longest) := ⟨rfl, rfl, rfl, by decide +kernel, rfl, by decide +kernel, by decide +kernel⟩
def b_first_longest : Es := sSeq (sIf (cNot (cVal (calF m_is_within (aCons (eNm 0) (aCons (eC (.int 1)) (aCons (eC (.int 10)) (aNil))))))) (sRaise 2) (sNil)) (sSeq (sSet 1 (ev1 dTup (ev2 dAdd (ev2 dMul (eLst (aCons (eC (.int 0)) (aNil))) (ev2 dSub (eLk 0) (eC (.int 1)))) (eLst (aCons (eC (.int 1)) (aNil)))))) (sSeq (sFor (iRng (aCons (calF m_raised_to (aCons (eC (.int 2)) (aCons (ev2 dSub (eLk 0) (eC (.int 1))) (aNil)))) (aNil))) (gSet 2) (sSeq (sSet 3 (ev1 dTup (ev2 dAdd (eLc [4] (iRng (aCons (ev2 dSub (eLk 0) (eC (.int 1))) (aNil))) (gSet 4) (cVal (ev2 dEq (ev2 dMod (ev2 dFdiv (eLk 2) (calF m_raised_to (aCons (eC (.int 2)) (aCons (eNm 4) (aNil))))) (eC (.int 2))) (eC (.int 1)))) (ev2 dAdd (eLk 4) (eC (.int 1)))) (eLst (aCons (eNm 0) (aNil)))))) (sIf (cVal (ev2 dEq (calF m_period (aCons (eNm 3) (aCons (eNm 1) (aNil)))) (ev2 dSub (calF m_raised_to (aCons (eC (.int 2)) (aCons (eNm 0) (aNil)))) (eC (.int 1))))) (sRet (eNm 3)) (sNil)))) (sRet (eC .non))))
def m_first_longest (ds : List D) : FOut := runF [] 5 1 b_first_longest ds
abbrev s_is_even_round : Stmt := topS 23
theorem sc_is_even_round : FnScope ["row", "one"] ["row"] (defScope s_is_even_round) := ⟨rfl, rfl, rfl, by decide +kernel, rfl, by decide +kernel, by decide +kernel⟩
def b_is_even_round : Es := sSeq (sExpr (calF m_check_rows (aCons (eTup (aCons (eNm 0) (aNil))) (aNil)))) (sRet (ev2 dLe (ev1 dLen (eDc [1] (iSeq (eSl (calF m_ring_sums_of (aCons (eNm 0) (aNil))) (oSome (eC (.int 1))) (oNone))) (gSet 1) (cYes) (eNm 1) (eC (.bl true)))) (eC (.int 1))))
def m_is_even_round (ds : List D) : FOut := runF [] 2 1 b_is_even_round ds
abbrev s_signs_of : Stmt := topS 24
theorem sc_signs_of : FnScope ["bits", "one"] ["bits"] (defScope s_signs_of) := ⟨rfl, rfl, rfl, by decide +kernel, rfl, by decide +kernel, by decide +kernel⟩
def b_signs_of : Es := sSeq (sIf (cOr (cNot (cVal (calF m_is_tuple (aCons (eNm 0) (aCons (eC (.int 1)) (aCons (eC (.int 64)) (aNil))))))) (cNot (cVal (ev1 dAll (eLc [1] (iSeq (eNm 0)) (gSet 1) (cYes) (calF m_is_within (aCons (eNm 1) (aCons (eC (.int 0)) (aCons (eC (.int 1)) (aNil)))))))))) (sRaise 3) (sNil)) (sRet (ev1 dTup (eLc [1] (iSeq (eNm 0)) (gSet 1) (cYes) (eIf (cVal (ev2 dEq (eLk 1) (eC (.int 0)))) (eC (.int 1)) (ev1 dNeg (eC (.int 1)))))))
def m_signs_of (ds : List D) : FOut := runF [] 2 1 b_signs_of ds
abbrev s__law_hand : Stmt := topS 26
theorem sc__law_hand : FnScope ["script", "cells", "cell"] ["script"] (defScope s__law_hand) := ⟨rfl, rfl, rfl, by decide +kernel, rfl, by decide +kernel, by decide +kernel⟩
def b__law_hand : Es := sSeq (sSet 1 (eLc [2] (iSeq (eSl (eLk 0) (oNone) (oSome (eC (.int 63))))) (gSet 2) (cYes) (ev2 dMod (ev1 dInt (ev1 dAbs (ev1 dInt (eLk 2)))) (ev2 dPow (eC (.int 10)) (eC (.int 36)))))) (sRet (eLst (aCons (eNm 1) (aCons (eC (.int 0)) (aCons (eC (.int 0)) (aCons (ev2 dAdd (eC (.int 77)) (ev2 dMul (eC (.int 3)) (ev1 dLen (eLk 1)))) (aCons (eC (.int 0)) (aNil))))))))
def m__law_hand (ds : List D) : FOut := runF [] 3 1 b__law_hand ds
abbrev s__law_draw : Stmt := topS 27
theorem sc__law_draw : FnScope ["hand", "many", "cell", "digit", "number"] ["hand", "many"] (defScope s__law_draw) := ⟨rfl, rfl, rfl, by decide +kernel, rfl, by decide +kernel, by decide +kernel⟩
def b__law_draw : Es := sSeq (sIf (cAnd (cVal (ev2 dEq (ev2 dIxA (eLk 0) (eC (.int 2))) (eC (.int 0)))) (cVal (ev2 dLt (ev2 dIxA (eLk 0) (eC (.int 1))) (ev1 dLen (ev2 dIxA (eLk 0) (eC (.int 0))))))) (sSeq (sSet 2 (ev2 dIx (ev2 dIxA (eLk 0) (eC (.int 0))) (ev2 dIxA (eLk 0) (eC (.int 1))))) (sSeq (sPut 0 (ev2 dAdd (ev2 dIxA (eLk 0) (eC (.int 1))) (eC (.int 1))) (pNm 0) (eC (.int 1))) (sSeq (sPut 0 (ev2 dMod (ev1 dInt (ev2 dAdd (ev2 dAdd (ev2 dMul (ev2 dIxA (eLk 0) (eC (.int 3))) (eC (.int 69621))) (ev2 dMul (eLk 2) (eC (.int 40692)))) (eC (.int 107)))) (eC (.int 2147483629))) (pNm 0) (eC (.int 3))) (sIf (cVal (ev2 dGe (eLk 2) (ev2 dPow (eC (.int 10)) (eC (.int 18))))) (sPut 0 (eNm 2) (pNm 0) (eC (.int 2))) (sNil))))) (sNil)) (sSeq (sIf (cVal (ev2 dGt (ev2 dIxA (eLk 0) (eC (.int 2))) (eC (.int 0)))) (sSeq (sSet 3 (ev2 dMod (ev1 dInt (ev2 dIxA (eLk 0) (eC (.int 2)))) (eLk 1))) (sSeq (sPut 0 (ev2 dFdiv (ev2 dIxA (eLk 0) (eC (.int 2))) (eLk 1)) (pNm 0) (eC (.int 2))) (sRet (eNm 3)))) (sNil)) (sSeq (sPut 0 (ev2 dAdd (ev2 dIxA (eLk 0) (eC (.int 4))) (eC (.int 1))) (pNm 0) (eC (.int 4))) (sSeq (sSet 4 (ev2 dMod (ev1 dInt (ev2 dMul (ev1 dInt (ev2 dAdd (ev2 dIxA (eLk 0) (eC (.int 3))) (ev2 dMul (eC (.int 7919)) (ev2 dIxA (eLk 0) (eC (.int 4)))))) (eC (.int 48271)))) (eC (.int 2147483647)))) (sSeq (sSet 4 (ev2 dMod (ev1 dInt (ev2 dMul (eLk 4) (ev2 dAdd (ev2 dFdiv (eLk 4) (eC (.int 1009))) (eC (.int 69621))))) (eC (.int 2147483647)))) (sSeq (sSet 4 (ev2 dMod (ev1 dInt (ev2 dMul (eLk 4) (ev2 dAdd (ev2 dFdiv (eLk 4) (eC (.int 2003))) (eC (.int 40014))))) (eC (.int 2147483563)))) (sRet (ev2 dMod (ev1 dInt (ev2 dFdiv (eLk 4) (eC (.int 16)))) (eLk 1))))))))
def m__law_draw (ds : List D) : FOut := runF [0] 5 2 b__law_draw ds
abbrev s__law_any : Stmt := topS 28
theorem sc__law_any : FnScope ["hand", "some"] ["hand", "some"] (defScope s__law_any) := ⟨rfl, rfl, rfl, by decide +kernel, rfl, by decide +kernel, by decide +kernel⟩
def b__law_any : Es := sRet (ev2 dIx (eNm 1) (calH m__law_draw 0 (aCons (ev1 dLen (eNm 1)) (aNil))))
def m__law_any (ds : List D) : FOut := runF [0] 2 2 b__law_any ds
abbrev s__law_rule : Stmt := topS 29
theorem sc__law_rule : FnScope ["hand", "top", "last", "k"] ["hand", "top"] (defScope s__law_rule) := ⟨rfl, rfl, rfl, by decide +kernel, rfl, by decide +kernel, by decide +kernel⟩
def b__law_rule : Es := sSeq (sSet 2 (ev2 dAdd (eC (.int 1)) (calH m__law_draw 0 (aCons (eNm 1) (aNil))))) (sRet (ev1 dTup (ev2 dAdd (eLc [3] (iRng (aCons (eC (.int 1)) (aCons (eNm 2) (aNil)))) (gSet 3) (cVal (ev2 dEq (calH m__law_draw 0 (aCons (eC (.int 2)) (aNil))) (eC (.int 0)))) (eNm 3)) (eLst (aCons (eNm 2) (aNil))))))
def m__law_rule (ds : List D) : FOut := runF [0] 4 2 b__law_rule ds
abbrev s__law_bits : Stmt := topS 30
theorem sc__law_bits : FnScope ["hand", "many", "k"] ["hand", "many"] (defScope s__law_bits) := ⟨rfl, rfl, rfl, by decide +kernel, rfl, by decide +kernel, by decide +kernel⟩
def b__law_bits : Es := sRet (ev1 dTup (eLc [2] (iRng (aCons (eNm 1) (aNil))) (gSet 2) (cYes) (calH m__law_draw 0 (aCons (eC (.int 2)) (aNil)))))
def m__law_bits (ds : List D) : FOut := runF [0] 3 2 b__law_bits ds
abbrev s__law_on : Stmt := topS 31
theorem sc__law_on : FnScope ["rule", "begin", "many", "found", "turn", "k"] ["rule", "begin", "many"] (defScope s__law_on) := ⟨rfl, rfl, rfl, by decide +kernel, rfl, by decide +kernel, by decide +kernel⟩
def b__law_on : Es := sSeq (sSet 3 (ev1 dList (eLk 1))) (sSeq (sFor (iRng (aCons (eNm 2) (aNil))) (gSet 4) (sExpr (eMeth "list" 3 (pNm 3) (aCons (ev2 dMod (ev1 dInt (ev1 dSum (eLc [5] (iSeq (eNm 0)) (gSet 5) (cYes) (ev2 dIx (eLk 3) (ev2 dSub (ev1 dLen (eLk 3)) (eLk 5)))))) (eC (.int 2))) (aNil)) mAppend))) (sRet (ev1 dTup (eLk 3))))
def m__law_on (ds : List D) : FOut := runF [] 6 3 b__law_on ds
abbrev s__law_period : Stmt := topS 32
theorem sc__law_period : FnScope ["rule", "begin", "row", "size", "step"] ["rule", "begin"] (defScope s__law_period) := ⟨rfl, rfl, rfl, by decide +kernel, rfl, by decide +kernel, by decide +kernel⟩
def b__law_period : Es := sSeq (sPar 2 3 (aCons (calF m__law_on (aCons (eNm 0) (aCons (eNm 1) (aCons (eC (.int 300)) (aNil))))) (aCons (ev1 dLen (eLk 1)) (aNil)))) (sSeq (sFor (iRng (aCons (eC (.int 1)) (aCons (eC (.int 300)) (aNil)))) (gSet 4) (sIf (cVal (ev2 dEq (eSl (eLk 2) (oSome (eLk 4)) (oSome (ev2 dAdd (eLk 4) (eLk 3)))) (ev1 dTup (eLk 1)))) (sRet (eNm 4)) (sNil))) (sRet (eC .non)))
def m__law_period (ds : List D) : FOut := runF [] 5 2 b__law_period ds
abbrev s__law_is_bits_right : Stmt := topS 33
theorem sc__law_is_bits_right : FnScope ["told", "rule", "begin", "many"] ["told", "rule", "begin", "many"] (defScope s__law_is_bits_right) := ⟨rfl, rfl, rfl, by decide +kernel, rfl, by decide +kernel, by decide +kernel⟩
def b__law_is_bits_right : Es := sRet (ev2 dEq (ev1 dTup (eLk 0)) (eSl (calF m__law_on (aCons (eNm 1) (aCons (eNm 2) (aCons (eNm 3) (aNil))))) (oNone) (oSome (eLk 3))))
def m__law_is_bits_right (ds : List D) : FOut := runF [] 4 4 b__law_is_bits_right ds
abbrev s__law_is_rule_right : Stmt := topS 34
theorem sc__law_is_rule_right : FnScope ["hand", "rule", "size", "many", "one", "other", "first", "second", "both", "step", "later", "a", "b"] ["hand", "rule"] (defScope s__law_is_rule_right) := ⟨rfl, rfl, rfl, by decide +kernel, rfl, by decide +kernel, by decide +kernel⟩
def b__law_is_rule_right : Es := sSeq (sPar 2 3 (aCons (ev2 dIx (eLk 1) (ev1 dNeg (eC (.int 1)))) (aCons (ev2 dAdd (eC (.int 20)) (calH m__law_draw 0 (aCons (eC (.int 20)) (aNil)))) (aNil)))) (sSeq (sPar 4 5 (aCons (calH m__law_bits 0 (aCons (eNm 2) (aNil))) (aCons (calH m__law_bits 0 (aCons (eNm 2) (aNil))) (aNil)))) (sSeq (sPar 6 7 (aCons (calF m_by_rule (aCons (eNm 1) (aCons (eNm 4) (aCons (eNm 3) (aNil))))) (aCons (calF m_by_rule (aCons (eNm 1) (aCons (eNm 5) (aCons (eNm 3) (aNil))))) (aNil)))) (sSeq (sIf (cOr (cNot (cVal (calF m__law_is_bits_right (aCons (eNm 6) (aCons (eNm 1) (aCons (eNm 4) (aCons (eNm 3) (aNil)))))))) (cNot (cVal (calF m__law_is_bits_right (aCons (eNm 7) (aCons (eNm 1) (aCons (eNm 5) (aCons (eNm 3) (aNil))))))))) (sRet (eC (.bl false))) (sNil)) (sSeq (sSet 8 (ev1 dTup (eLc [11, 12] (iZipD (aCons (eNm 4) (aCons (eNm 5) (aNil)))) (gTup' 2 (gCons' (gSet 11) (gCons' (gSet 12) (gNil')))) (cYes) (ev2 dMod (ev1 dInt (ev2 dAdd (eLk 11) (eLk 12))) (eC (.int 2)))))) (sSeq (sIf (cVal (ev2 dNe (ev1 dTup (calF m_by_rule (aCons (eNm 1) (aCons (eNm 8) (aCons (eNm 3) (aNil)))))) (ev1 dTup (eLc [11, 12] (iZipD (aCons (eNm 6) (aCons (eNm 7) (aNil)))) (gTup' 2 (gCons' (gSet 11) (gCons' (gSet 12) (gNil')))) (cYes) (ev2 dMod (ev1 dInt (ev2 dAdd (eLk 11) (eLk 12))) (eC (.int 2))))))) (sRet (eC (.bl false))) (sNil)) (sSeq (sIf (cOr (cVal (ev2 dNe (calF m_period (aCons (eNm 1) (aCons (eNm 4) (aNil)))) (calF m__law_period (aCons (eNm 1) (aCons (eNm 4) (aNil)))))) (cVal (ev2 dNe (calF m_period (aCons (eNm 1) (aCons (ev2 dMul (eTup (aCons (eC (.int 0)) (aNil))) (eLk 2)) (aNil)))) (eC (.int 1))))) (sRet (eC (.bl false))) (sNil)) (sSeq (sSet 9 (calH m__law_draw 0 (aCons (eC (.int 10)) (aNil)))) (sSeq (sSet 10 (eSl (calF m__law_on (aCons (eNm 1) (aCons (eNm 4) (aCons (eNm 9) (aNil))))) (oSome (eLk 9)) (oSome (ev2 dAdd (eLk 9) (eLk 2))))) (sRet (ev2 dEq (calF m_period (aCons (eNm 1) (aCons (eNm 10) (aNil)))) (calF m_period (aCons (eNm 1) (aCons (eNm 4) (aNil))))))))))))))
def m__law_is_rule_right (ds : List D) : FOut := runF [0] 13 2 b__law_is_rule_right ds
abbrev s__law_all : Stmt := topS 36
theorem sc__law_all : FnScope ["size", "found", "turn"] ["size"] (defScope s__law_all) := ⟨rfl, rfl, rfl, by decide +kernel, rfl, by decide +kernel, by decide +kernel⟩
def b__law_all : Es := sSeq (sSet 1 (eC (.int 1))) (sSeq (sFor (iRng (aCons (eNm 0) (aNil))) (gSet 2) (sSet 1 (ev2 dMul (eLk 1) (eC (.int 2))))) (sRet (ev2 dSub (eLk 1) (eC (.int 1)))))
def m__law_all (ds : List D) : FOut := runF [] 3 1 b__law_all ds
abbrev s__law_is_longest : Stmt := topS 35
theorem sc__law_is_longest : FnScope ["rule", "size"] ["rule"] (defScope s__law_is_longest) := ⟨rfl, rfl, rfl, by decide +kernel, rfl, by decide +kernel, by decide +kernel⟩
def b__law_is_longest : Es := sSeq (sSet 1 (ev2 dIx (eLk 0) (ev1 dNeg (eC (.int 1))))) (sRet (ev2 dEq (calF m__law_period (aCons (eNm 0) (aCons (ev2 dAdd (ev2 dMul (eTup (aCons (eC (.int 0)) (aNil))) (ev2 dSub (eLk 1) (eC (.int 1)))) (eTup (aCons (eC (.int 1)) (aNil)))) (aNil)))) (calF m__law_all (aCons (eNm 1) (aNil)))))
def m__law_is_longest (ds : List D) : FOut := runF [] 2 1 b__law_is_longest ds
abbrev s__law_rules : Stmt := topS 37
theorem sc__law_rules : FnScope ["size", "found", "step", "rule"] ["size"] (defScope s__law_rules) := ⟨rfl, rfl, rfl, by decide +kernel, rfl, by decide +kernel, by decide +kernel⟩
def b__law_rules : Es := sSeq (sSet 1 (eLst (aCons (eTup (aNil)) (aNil)))) (sSeq (sFor (iRng (aCons (eC (.int 1)) (aCons (eNm 0) (aNil)))) (gSet 2) (sSet 1 (ev2 dAdd (eNm 1) (eLc [3] (iSeq (eNm 1)) (gSet 3) (cYes) (ev2 dAdd (eLk 3) (eTup (aCons (eNm 2) (aNil)))))))) (sRet (eLc [3] (iSeq (eNm 1)) (gSet 3) (cYes) (ev2 dAdd (eLk 3) (eTup (aCons (eNm 0) (aNil)))))))
def m__law_rules (ds : List D) : FOut := runF [] 4 1 b__law_rules ds
abbrev s__law_is_round_right : Stmt := topS 38
theorem sc__law_is_round_right : FnScope ["hand", "rule", "size", "due", "begin", "many", "row", "wide", "windows_here", "signs_here", "k"] ["hand", "rule"] (defScope s__law_is_round_right) := ⟨rfl, rfl, rfl, by decide +kernel, rfl, by decide +kernel, by decide +kernel⟩
def b__law_is_round_right : Es := sSeq (sSet 2 (ev2 dIx (eLk 1) (ev1 dNeg (eC (.int 1))))) (sSeq (sSet 3 (calF m__law_is_longest (aCons (eNm 1) (aNil)))) (sSeq (sIf (cVal (ev2 dNe (calF m_is_longest (aCons (eNm 1) (aCons (eNm 2) (aNil)))) (eLk 3))) (sRet (eC (.bl false))) (sNil)) (sSeq (sIf (cNot (cVal (eNm 3))) (sRet (eC (.bl true))) (sNil)) (sSeq (sSet 4 (ev2 dAdd (ev2 dMul (eTup (aCons (eC (.int 0)) (aNil))) (ev2 dSub (eLk 2) (eC (.int 1)))) (eTup (aCons (eC (.int 1)) (aNil))))) (sSeq (sSet 5 (calF m__law_all (aCons (eNm 2) (aNil)))) (sSeq (sSet 6 (eSl (calF m__law_on (aCons (eNm 1) (aCons (eNm 4) (aCons (eNm 5) (aNil))))) (oNone) (oSome (eLk 5)))) (sSeq (sIf (cOr (cVal (ev2 dNe (calF m_period (aCons (eNm 1) (aCons (eNm 4) (aNil)))) (eLk 5))) (cVal (ev2 dNe (ev1 dSum (eLk 6)) (ev2 dFdiv (ev2 dAdd (eLk 5) (eC (.int 1))) (eC (.int 2)))))) (sRet (eC (.bl false))) (sNil)) (sSeq (sSet 7 (ev2 dAdd (eLk 6) (eSl (eLk 6) (oNone) (oSome (eLk 2))))) (sSeq (sSet 8 (ev1 dDictP (eLc [10] (iRng (aCons (eNm 5) (aNil))) (gSet 10) (cYes) (eTup (aCons (eSl (eLk 7) (oSome (eLk 10)) (oSome (ev2 dAdd (eLk 10) (eLk 2)))) (aCons (eC (.bl true)) (aNil))))))) (sSeq (sIf (cOr (cVal (ev2 dNe (ev1 dLen (eLk 8)) (eLk 5))) (cVal (ev2 dInX (ev2 dMul (eTup (aCons (eC (.int 0)) (aNil))) (eLk 2)) (eLk 8)))) (sRet (eC (.bl false))) (sNil)) (sSeq (sIf (cVal (ev2 dGt (eLk 5) (eC (.int 64)))) (sRet (eC (.bl true))) (sNil)) (sSeq (sSet 9 (calF m_signs_of (aCons (eNm 6) (aNil)))) (sRet (eAnd (ev2 dEq (calF m_ring_sums (aCons (eNm 9) (aNil))) (ev2 dAdd (eLst (aCons (eNm 5) (aNil))) (ev2 dMul (eLst (aCons (ev1 dNeg (eC (.int 1))) (aNil))) (ev2 dSub (eLk 5) (eC (.int 1)))))) (ev2 dIs (calF m_is_even_round (aCons (eNm 9) (aNil))) (eC (.bl true)))))))))))))))))
def m__law_is_round_right (ds : List D) : FOut := runF [0] 11 2 b__law_is_round_right ds
abbrev s__law_is_first_right : Stmt := topS 39
theorem sc__law_is_first_right : FnScope ["hand", "size", "told", "every", "rule"] ["hand"] (defScope s__law_is_first_right) := ⟨rfl, rfl, rfl, by decide +kernel, rfl, by decide +kernel, by decide +kernel⟩
def b__law_is_first_right : Es := sSeq (sSet 1 (ev2 dAdd (eC (.int 1)) (calH m__law_draw 0 (aCons (eC (.int 6)) (aNil))))) (sSeq (sPar 2 3 (aCons (calF m_first_longest (aCons (eNm 1) (aNil))) (aCons (eLc [4] (iSeq (calF m__law_rules (aCons (eNm 1) (aNil)))) (gSet 4) (cVal (calF m__law_is_longest (aCons (eNm 4) (aNil)))) (eNm 4)) (aNil)))) (sRet (eAnd (ev2 dIs (calF m_is_longest (aCons (eNm 2) (aCons (eNm 1) (aNil)))) (eC (.bl true))) (ev2 dEq (eLk 2) (ev2 dIxA (eLk 3) (eC (.int 0)))))))
def m__law_is_first_right (ds : List D) : FOut := runF [0] 5 1 b__law_is_first_right ds
abbrev s__law_word : Stmt := topS 40
theorem sc__law_word : FnScope ["call", "fault", "flags"] ["call"] (defScope s__law_word) := ⟨rfl, rfl, rfl, by decide +kernel, rfl, by decide +kernel, by decide +kernel⟩
def gh__law_word (a : Addr) (c : Nat) : Es := sSeq (sSet 2 (eLst (aCons (eIsF 1 a (kB_NoSequence c)) (aCons (eIsF 1 a (kB_NoNumber c)) (aNil))))) (sSeq (sIf (cOr (cVal (ev2 dNe (eRm "list" dCount (eLk 2) (eC (.bl true))) (eC (.int 1)))) (cNot (cVal (eIsF 1 a (kB_ValueError c))))) (sRet (eC (.str "other"))) (sNil)) (sRet (eIf (cVal (ev2 dIx (eLk 2) (eC (.int 0)))) (eC (.str "row")) (eC (.str "number")))))
def gw__law_word (f : Addr) (act : AOut) : Es := sSeq (sTryA false f act 3 1 csB gh__law_word) (sRet (eC (.str "told")))
def go__law_word (act : AOut) : Option D := endsF (gw__law_word 0 act (argD 3 [.rf 0]))
abbrev s__law_two : Stmt := topS 42
theorem sc__law_two : FnScope ["rule", "begin"] ["rule", "begin"] (defScope s__law_two) := ⟨rfl, rfl, rfl, by decide +kernel, rfl, by decide +kernel, by decide +kernel⟩
def b__law_two : Es := sRet (eLam [0, 1] (calF m_period (aCons (eNm 0) (aCons (eNm 1) (aNil)))) go__law_word)
def m__law_two (ds : List D) : FOut := runF [] 2 2 b__law_two ds
abbrev s__law_are_refused : Stmt := topS 41
theorem sc__law_are_refused : FnScope ["hand", "bad", "begin", "size", "words"] ["hand"] (defScope s__law_are_refused) := ⟨rfl, rfl, rfl, by decide +kernel, rfl, by decide +kernel, by decide +kernel⟩
def b__law_are_refused : Es := sSeq (sSet 1 (calH m__law_any 0 (aCons (eLst (aCons (eC .non) (aCons (eC (.int 0)) (aCons (eLst (aCons (eC (.int 1)) (aCons (eC (.int 2)) (aNil)))) (aCons (eTup (aNil)) (aCons (eTup (aCons (eC (.int 2)) (aCons (eC (.int 1)) (aNil)))) (aCons (eTup (aCons (eC (.int 1)) (aCons (eC (.int 1)) (aNil)))) (aCons (eTup (aCons (eC (.int 0)) (aCons (eC (.int 1)) (aNil)))) (aCons (eTup (aCons (eC (.int 17)) (aNil))) (aCons (eTup (aCons (eC (.bl true)) (aCons (eC (.int 2)) (aNil)))) (aCons (eTup (aCons (eC (.int 1)) (aCons (eC .non) (aNil)))) (aCons (eC (.str "12")) (aCons (eDicK) (aCons (eTup (aCons (ev1 dNeg (eC (.int 1))) (aCons (eC (.int 2)) (aNil)))) (aNil))))))))))))))) (aNil)))) (sSeq (sSet 2 (calH m__law_any 0 (aCons (eLst (aCons (eC .non) (aCons (eC (.int 0)) (aCons (eLst (aCons (eC (.int 1)) (aCons (eC (.int 0)) (aNil)))) (aCons (eTup (aCons (eC (.int 1)) (aNil))) (aCons (eTup (aCons (eC (.int 1)) (aCons (eC (.int 0)) (aCons (eC (.int 1)) (aNil))))) (aCons (eTup (aCons (eC (.int 1)) (aCons (eC (.int 2)) (aNil)))) (aCons (eTup (aCons (eC (.int 1)) (aCons (eC (.bl true)) (aNil)))) (aCons (eC (.str "10")) (aCons (eDicK) (aNil))))))))))) (aNil)))) (sSeq (sSet 3 (calH m__law_any 0 (aCons (eLst (aCons (eC (.int 0)) (aCons (eC (.int 11)) (aCons (ev1 dNeg (eC (.int 1))) (aCons (eC .non) (aCons (eC (.bl true)) (aCons (eC (.str "3")) (aCons (eTup (aCons (eC (.int 3)) (aNil))) (aCons (eLst (aCons (eC (.int 3)) (aNil))) (aCons (eDicK) (aNil))))))))))) (aNil)))) (sSeq (sSet 4 (eLst (aCons (eLam [1] (calF m_by_rule (aCons (eNm 1) (aCons (eTup (aCons (eC (.int 1)) (aCons (eC (.int 0)) (aNil)))) (aCons (eC (.int 5)) (aNil))))) go__law_word) (aCons (calF m__law_two (aCons (eNm 1) (aCons (eTup (aCons (eC (.int 1)) (aCons (eC (.int 0)) (aNil)))) (aNil)))) (aCons (calF m__law_two (aCons (eTup (aCons (eC (.int 1)) (aCons (eC (.int 2)) (aNil)))) (aCons (eNm 2) (aNil)))) (aNil)))))) (sSeq (sExpr (eMeth "list" 4 (pNm 4) (aCons (eLam [3] (calF m_first_longest (aCons (eNm 3) (aNil))) go__law_word) (aNil)) mAppend)) (sRet (ev2 dEq (eLk 4) (eLst (aCons (eC (.str "row")) (aCons (eC (.str "row")) (aCons (eC (.str "row")) (aCons (eC (.str "number")) (aNil))))))))))))
def m__law_are_refused (ds : List D) : FOut := runF [0] 5 1 b__law_are_refused ds
abbrev s_law : Stmt := topS 43
theorem sc_law : FnScope ["script", "hand", "told", "some", "top", "rule"] ["script"] (defScope s_law) := ⟨rfl, rfl, rfl, by decide +kernel, rfl, by decide +kernel, by decide +kernel⟩
def b_law : Es := sSeq (sSet 1 (calF m__law_hand (aCons (eNm 0) (aNil)))) (sSeq (sSet 2 (eLst (aCons (calF m_period (aCons (eTup (aCons (eC (.int 1)) (aCons (eC (.int 3)) (aNil)))) (aCons (eTup (aCons (eC (.int 0)) (aCons (eC (.int 0)) (aCons (eC (.int 1)) (aNil))))) (aNil)))) (aCons (calF m_period (aCons (eTup (aCons (eC (.int 1)) (aNil))) (aCons (eTup (aCons (eC (.int 1)) (aNil))) (aNil)))) (aCons (calF m_is_longest (aCons (eTup (aCons (eC (.int 1)) (aCons (eC (.int 2)) (aNil)))) (aCons (eC (.int 2)) (aNil)))) (aCons (calF m_is_longest (aCons (eTup (aCons (eC (.int 2)) (aNil))) (aCons (eC (.int 2)) (aNil)))) (aCons (calF m_first_longest (aCons (eC (.int 2)) (aNil))) (aNil)))))))) (sSeq (sIf (cOr (cVal (ev2 dNe (eLk 2) (eLst (aCons (eC (.int 7)) (aCons (eC (.int 1)) (aCons (eC (.bl true)) (aCons (eC (.bl false)) (aCons (eTup (aCons (eC (.int 1)) (aCons (eC (.int 2)) (aNil)))) (aNil))))))))) (cNot (cVal (calF m__law_is_bits_right (aCons (calF m_by_rule (aCons (eTup (aCons (eC (.int 1)) (aCons (eC (.int 2)) (aNil)))) (aCons (eTup (aCons (eC (.int 0)) (aCons (eC (.int 1)) (aNil)))) (aCons (eC (.int 6)) (aNil))))) (aCons (eTup (aCons (eC (.int 1)) (aCons (eC (.int 2)) (aNil)))) (aCons (eTup (aCons (eC (.int 0)) (aCons (eC (.int 1)) (aNil)))) (aCons (eC (.int 6)) (aNil))))))))) (sRet (eC (.bl false))) (sNil)) (sSeq (sSet 3 (eLst (aCons (eTup (aCons (eC (.int 1)) (aCons (eC (.int 4)) (aNil)))) (aCons (eTup (aCons (eC (.int 1)) (aCons (eC (.int 5)) (aCons (eC (.int 6)) (aCons (eC (.int 7)) (aNil)))))) (aCons (eTup (aCons (eC (.int 2)) (aCons (eC (.int 5)) (aNil)))) (aCons (eTup (aCons (eC (.int 1)) (aCons (eC (.int 6)) (aNil)))) (aCons (eTup (aCons (eC (.int 1)) (aCons (eC (.int 7)) (aNil)))) (aCons (eTup (aCons (eC (.int 3)) (aCons (eC (.int 7)) (aNil)))) (aCons (eTup (aCons (eC (.int 4)) (aCons (eC (.int 5)) (aCons (eC (.int 6)) (aCons (eC (.int 8)) (aNil)))))) (aNil)))))))))) (sSeq (sFor (iSeq (eTup (aCons (eC (.int 3)) (aCons (eC (.int 5)) (aCons (eC (.int 8)) (aNil)))))) (gSet 4) (sSeq (sSet 5 (calH m__law_rule 1 (aCons (eNm 4) (aNil)))) (sSeq (sIf (cOr (cNot (cVal (calH m__law_is_rule_right 1 (aCons (eNm 5) (aNil))))) (cNot (cVal (calH m__law_is_round_right 1 (aCons (eNm 5) (aNil)))))) (sRet (eC (.bl false))) (sNil)) (sIf (cNot (cVal (calH m__law_is_round_right 1 (aCons (calH m__law_any 1 (aCons (eNm 3) (aNil))) (aNil))))) (sRet (eC (.bl false))) (sNil))))) (sRet (eAnd (calH m__law_is_first_right 1 (aNil)) (calH m__law_are_refused 1 (aNil))))))))
def m_law (ds : List D) : FOut := runF [] 6 1 b_law ds
structure Tx (K : PySem.W.Frag) (prog : Program) (mg : Str → Option Value) (Γ : Gm) where
  hK : K = Γ.K
  a_is_integer : Addr
  d_is_integer : FuncData
  F_is_integer : Fun K "is_integer" "is_integer" s_is_integer a_is_integer d_is_integer
  B_is_integer : Binds K d_is_integer ["thing"] []
  g_is_integer : mg "is_integer" = some (.ref a_is_integer)
  a_is_within : Addr
  d_is_within : FuncData
  F_is_within : Fun K "is_within" "is_within" s_is_within a_is_within d_is_within
  B_is_within : Binds K d_is_within ["thing", "least", "most"] []
  g_is_within : mg "is_within" = some (.ref a_is_within)
  a_is_tuple : Addr
  d_is_tuple : FuncData
  F_is_tuple : Fun K "is_tuple" "is_tuple" s_is_tuple a_is_tuple d_is_tuple
  B_is_tuple : Binds K d_is_tuple ["thing", "least", "most"] []
  g_is_tuple : mg "is_tuple" = some (.ref a_is_tuple)
  a_raised_to : Addr
  d_raised_to : FuncData
  F_raised_to : Fun K "raised_to" "raised_to" s_raised_to a_raised_to d_raised_to
  B_raised_to : Binds K d_raised_to ["number", "power"] []
  g_raised_to : mg "raised_to" = some (.ref a_raised_to)
  a_is_row : Addr
  d_is_row : FuncData
  F_is_row : Fun K "is_row" "is_row" s_is_row a_is_row d_is_row
  B_is_row : Binds K d_is_row ["thing"] []
  g_is_row : mg "is_row" = some (.ref a_is_row)
  a_check_rows : Addr
  d_check_rows : FuncData
  F_check_rows : Fun K "check_rows" "check_rows" s_check_rows a_check_rows d_check_rows
  B_check_rows : Binds K d_check_rows ["rows"] []
  g_check_rows : mg "check_rows" = some (.ref a_check_rows)
  a_ring_sums_of : Addr
  d_ring_sums_of : FuncData
  F_ring_sums_of : Fun K "ring_sums_of" "ring_sums_of" s_ring_sums_of a_ring_sums_of d_ring_sums_of
  B_ring_sums_of : Binds K d_ring_sums_of ["row"] []
  g_ring_sums_of : mg "ring_sums_of" = some (.ref a_ring_sums_of)
  a_ring_sums : Addr
  d_ring_sums : FuncData
  F_ring_sums : Fun K "ring_sums" "ring_sums" s_ring_sums a_ring_sums d_ring_sums
  B_ring_sums : Binds K d_ring_sums ["row"] []
  g_ring_sums : mg "ring_sums" = some (.ref a_ring_sums)
  a_check_rule : Addr
  d_check_rule : FuncData
  F_check_rule : Fun K "check_rule" "check_rule" s_check_rule a_check_rule d_check_rule
  B_check_rule : Binds K d_check_rule ["rule", "begin"] []
  g_check_rule : mg "check_rule" = some (.ref a_check_rule)
  a_bits_by : Addr
  d_bits_by : FuncData
  F_bits_by : Fun K "bits_by" "bits_by" s_bits_by a_bits_by d_bits_by
  B_bits_by : Binds K d_bits_by ["rule", "begin", "many"] []
  g_bits_by : mg "bits_by" = some (.ref a_bits_by)
  a_by_rule : Addr
  d_by_rule : FuncData
  F_by_rule : Fun K "by_rule" "by_rule" s_by_rule a_by_rule d_by_rule
  B_by_rule : Binds K d_by_rule ["rule", "begin", "many"] []
  g_by_rule : mg "by_rule" = some (.ref a_by_rule)
  a_period : Addr
  d_period : FuncData
  F_period : Fun K "period" "period" s_period a_period d_period
  B_period : Binds K d_period ["rule", "begin"] []
  g_period : mg "period" = some (.ref a_period)
  a_is_longest : Addr
  d_is_longest : FuncData
  F_is_longest : Fun K "is_longest" "is_longest" s_is_longest a_is_longest d_is_longest
  B_is_longest : Binds K d_is_longest ["rule", "size"] []
  g_is_longest : mg "is_longest" = some (.ref a_is_longest)
  a_first_longest : Addr
  d_first_longest : FuncData
  F_first_longest : Fun K "first_longest" "first_longest" s_first_longest a_first_longest d_first_longest
  B_first_longest : Binds K d_first_longest ["size"] []
  g_first_longest : mg "first_longest" = some (.ref a_first_longest)
  a_is_even_round : Addr
  d_is_even_round : FuncData
  F_is_even_round : Fun K "is_even_round" "is_even_round" s_is_even_round a_is_even_round d_is_even_round
  B_is_even_round : Binds K d_is_even_round ["row"] []
  g_is_even_round : mg "is_even_round" = some (.ref a_is_even_round)
  a_signs_of : Addr
  d_signs_of : FuncData
  F_signs_of : Fun K "signs_of" "signs_of" s_signs_of a_signs_of d_signs_of
  B_signs_of : Binds K d_signs_of ["bits"] []
  g_signs_of : mg "signs_of" = some (.ref a_signs_of)
  a__law_hand : Addr
  d__law_hand : FuncData
  F__law_hand : Fun K "_law_hand" "_law_hand" s__law_hand a__law_hand d__law_hand
  B__law_hand : Binds K d__law_hand ["script"] []
  g__law_hand : mg "_law_hand" = some (.ref a__law_hand)
  a__law_draw : Addr
  d__law_draw : FuncData
  F__law_draw : Fun K "_law_draw" "_law_draw" s__law_draw a__law_draw d__law_draw
  B__law_draw : Binds K d__law_draw ["hand", "many"] []
  g__law_draw : mg "_law_draw" = some (.ref a__law_draw)
  a__law_any : Addr
  d__law_any : FuncData
  F__law_any : Fun K "_law_any" "_law_any" s__law_any a__law_any d__law_any
  B__law_any : Binds K d__law_any ["hand", "some"] []
  g__law_any : mg "_law_any" = some (.ref a__law_any)
  a__law_rule : Addr
  d__law_rule : FuncData
  F__law_rule : Fun K "_law_rule" "_law_rule" s__law_rule a__law_rule d__law_rule
  B__law_rule : Binds K d__law_rule ["hand", "top"] []
  g__law_rule : mg "_law_rule" = some (.ref a__law_rule)
  a__law_bits : Addr
  d__law_bits : FuncData
  F__law_bits : Fun K "_law_bits" "_law_bits" s__law_bits a__law_bits d__law_bits
  B__law_bits : Binds K d__law_bits ["hand", "many"] []
  g__law_bits : mg "_law_bits" = some (.ref a__law_bits)
  a__law_on : Addr
  d__law_on : FuncData
  F__law_on : Fun K "_law_on" "_law_on" s__law_on a__law_on d__law_on
  B__law_on : Binds K d__law_on ["rule", "begin", "many"] []
  g__law_on : mg "_law_on" = some (.ref a__law_on)
  a__law_period : Addr
  d__law_period : FuncData
  F__law_period : Fun K "_law_period" "_law_period" s__law_period a__law_period d__law_period
  B__law_period : Binds K d__law_period ["rule", "begin"] []
  g__law_period : mg "_law_period" = some (.ref a__law_period)
  a__law_is_bits_right : Addr
  d__law_is_bits_right : FuncData
  F__law_is_bits_right : Fun K "_law_is_bits_right" "_law_is_bits_right" s__law_is_bits_right a__law_is_bits_right d__law_is_bits_right
  B__law_is_bits_right : Binds K d__law_is_bits_right ["told", "rule", "begin", "many"] []
  g__law_is_bits_right : mg "_law_is_bits_right" = some (.ref a__law_is_bits_right)
  a__law_is_rule_right : Addr
  d__law_is_rule_right : FuncData
  F__law_is_rule_right : Fun K "_law_is_rule_right" "_law_is_rule_right" s__law_is_rule_right a__law_is_rule_right d__law_is_rule_right
  B__law_is_rule_right : Binds K d__law_is_rule_right ["hand", "rule"] []
  g__law_is_rule_right : mg "_law_is_rule_right" = some (.ref a__law_is_rule_right)
  a__law_all : Addr
  d__law_all : FuncData
  F__law_all : Fun K "_law_all" "_law_all" s__law_all a__law_all d__law_all
  B__law_all : Binds K d__law_all ["size"] []
  g__law_all : mg "_law_all" = some (.ref a__law_all)
  a__law_is_longest : Addr
  d__law_is_longest : FuncData
  F__law_is_longest : Fun K "_law_is_longest" "_law_is_longest" s__law_is_longest a__law_is_longest d__law_is_longest
  B__law_is_longest : Binds K d__law_is_longest ["rule"] []
  g__law_is_longest : mg "_law_is_longest" = some (.ref a__law_is_longest)
  a__law_rules : Addr
  d__law_rules : FuncData
  F__law_rules : Fun K "_law_rules" "_law_rules" s__law_rules a__law_rules d__law_rules
  B__law_rules : Binds K d__law_rules ["size"] []
  g__law_rules : mg "_law_rules" = some (.ref a__law_rules)
  a__law_is_round_right : Addr
  d__law_is_round_right : FuncData
  F__law_is_round_right : Fun K "_law_is_round_right" "_law_is_round_right" s__law_is_round_right a__law_is_round_right d__law_is_round_right
  B__law_is_round_right : Binds K d__law_is_round_right ["hand", "rule"] []
  g__law_is_round_right : mg "_law_is_round_right" = some (.ref a__law_is_round_right)
  a__law_is_first_right : Addr
  d__law_is_first_right : FuncData
  F__law_is_first_right : Fun K "_law_is_first_right" "_law_is_first_right" s__law_is_first_right a__law_is_first_right d__law_is_first_right
  B__law_is_first_right : Binds K d__law_is_first_right ["hand"] []
  g__law_is_first_right : mg "_law_is_first_right" = some (.ref a__law_is_first_right)
  a__law_word : Addr
  d__law_word : FuncData
  F__law_word : Fun K "_law_word" "_law_word" s__law_word a__law_word d__law_word
  B__law_word : Binds K d__law_word ["call"] []
  g__law_word : mg "_law_word" = some (.ref a__law_word)
  a__law_two : Addr
  d__law_two : FuncData
  F__law_two : Fun K "_law_two" "_law_two" s__law_two a__law_two d__law_two
  B__law_two : Binds K d__law_two ["rule", "begin"] []
  g__law_two : mg "_law_two" = some (.ref a__law_two)
  a__law_are_refused : Addr
  d__law_are_refused : FuncData
  F__law_are_refused : Fun K "_law_are_refused" "_law_are_refused" s__law_are_refused a__law_are_refused d__law_are_refused
  B__law_are_refused : Binds K d__law_are_refused ["hand"] []
  g__law_are_refused : mg "_law_are_refused" = some (.ref a__law_are_refused)
  a_law : Addr
  d_law : FuncData
  F_law : Fun K "law" "law" s_law a_law d_law
  B_law : Binds K d_law ["script"] []
  g_law : mg "law" = some (.ref a_law)
  n_ValueError : mg "ValueError" = none
  n_abs : mg "abs" = none
  n_all : mg "all" = none
  n_bool : mg "bool" = none
  n_dict : mg "dict" = none
  n_int : mg "int" = none
  n_isinstance : mg "isinstance" = none
  n_len : mg "len" = none
  n_list : mg "list" = none
  n_range : mg "range" = none
  n_sum : mg "sum" = none
  n_tuple : mg "tuple" = none
  n_zip : mg "zip" = none
  n_super : mg "super" = none
  t_MOST_LENGTH : Tok
  c_MOST_LENGTH : mg "MOST_LENGTH" = some (.int 64 t_MOST_LENGTH)
  t_MOST_TRIED : Tok
  c_MOST_TRIED : mg "MOST_TRIED" = some (.int 70000 t_MOST_TRIED)
  k_BlockError : Addr
  g_BlockError : mg "BlockError" = some (.ref k_BlockError)
  ca_BlockError : Γ.ca 0 = k_BlockError
  k_TooMany : Addr
  g_TooMany : mg "TooMany" = some (.ref k_TooMany)
  ca_TooMany : Γ.ca 1 = k_TooMany
  k_NoNumber : Addr
  g_NoNumber : mg "NoNumber" = some (.ref k_NoNumber)
  ca_NoNumber : Γ.ca 2 = k_NoNumber
  fI_NoNumber : Addr
  Z_NoNumber : PySem.W.Ex0 K prog k_NoNumber fI_NoNumber
  fl_NoNumber : Γ.fl 2 = []
  k_NoSequence : Addr
  g_NoSequence : mg "NoSequence" = some (.ref k_NoSequence)
  ca_NoSequence : Γ.ca 3 = k_NoSequence
  fI_NoSequence : Addr
  Z_NoSequence : PySem.W.Ex0 K prog k_NoSequence fI_NoSequence
  fl_NoSequence : Γ.fl 3 = []
  kit_NoSequence : ∀ c, csB c = some true → PySem.W.kitOne Γ.K (.ref (Γ.ca c)) (.ref k_NoSequence) = some (kB_NoSequence c)
  kit_NoNumber : ∀ c, csB c = some true → PySem.W.kitOne Γ.K (.ref (Γ.ca c)) (.ref k_NoNumber) = some (kB_NoNumber c)
  kit_ValueError : ∀ c, csB c = some true → PySem.W.kitOne Γ.K (.ref (Γ.ca c)) (.type "ValueError") = some (kB_ValueError c)
  ex_ok : ∀ c, csB c = some true → ExcC Γ.K (Γ.ca c)
  ex_fl : ∀ c, csB c = some true → Γ.fl c = []
  ex_m : ∀ c, csB c = some true → PySem.W.exmOne Γ.K (.ref (Γ.ca c)) (.ref k_BlockError) = some true
  c__law_two : Addr
  P__law_two : Addr
  FC__law_two : FunC K "_law_two" "_law_two" s__law_two a__law_two d__law_two c__law_two
  tbm__law_two : (P__law_two, ("_law_two" : Str) ++ ".<locals>." ++ "<lambda>") ∈ Γ.tb
  tbu__law_two : ∀ p ∈ Γ.tb, p.1 = P__law_two → p.2 = ("_law_two" : Str) ++ ".<locals>." ++ "<lambda>"
  c__law_are_refused : Addr
  P__law_are_refused : Addr
  FC__law_are_refused : FunC K "_law_are_refused" "_law_are_refused" s__law_are_refused a__law_are_refused d__law_are_refused c__law_are_refused
  tbm__law_are_refused : (P__law_are_refused, ("_law_are_refused" : Str) ++ ".<locals>." ++ "<lambda>") ∈ Γ.tb
  tbu__law_are_refused : ∀ p ∈ Γ.tb, p.1 = P__law_are_refused → p.2 = ("_law_are_refused" : Str) ++ ".<locals>." ++ "<lambda>"
structure TxB {K : PySem.W.Frag} {prog : Program} {mg : Str → Option Value} {Γ : Gm} (T : Tx K prog mg Γ) (base : Heap) : Prop where
  tb__law_two : LamX.TabB base mg T.c__law_two T.P__law_two
  tb__law_are_refused : LamX.TabB base mg T.c__law_are_refused T.P__law_are_refused
section
variable {P : Program} {w : World} {K : PySem.W.Frag} {mg : Str → Option Value} {base : Heap} {Γ : Gm}
theorem ok_is_integer (T : Tx K P mg Γ) : FnOk P w K mg base (L2.CX P w) 1 T.a_is_integer T.d_is_integer ["thing"] (spF Γ [] m_is_integer) :=
  fn_ok T.F_is_integer sc_is_integer T.hK (by decide) (by decide) (fun _ => rfl) fun cdv A outer s H E hr => by
    have ND := sc_is_integer.nd
    have hu := hr.uok
    have tk := takesF (P := P) (w := w) (K := K) (mg := mg) (base := base) (N := ["thing"]) (qual := "is_integer") (scope := defScope s_is_integer) (f := T.a_is_integer) (cd := cdv) (A := A) (outer := outer) (s := s) (H := H) (E := E)
    have po := ownsF (P := P) (w := w) (K := K) (mg := mg) (base := base) (N := ["thing"]) (qual := "is_integer") (scope := defScope s_is_integer) (f := T.a_is_integer) (cd := cdv) (A := A) (outer := outer) (s := s) (H := H) (E := E)
    exact (sb_one (ss_ret (se_and ((se_isi (by rfl) T.n_isinstance (by rfl) ((n_V 0)) (by decide) (by decide) (pe_ty (by rfl) T.n_int (by rfl)) (by rfl) (by rfl) (by rfl))) ((se_one (se_not ((sv_of (se_isi (by rfl) T.n_isinstance (by rfl) ((n_V 0)) (by decide) (by decide) (pe_ty (by rfl) T.n_bool (by rfl)) (by rfl) (by rfl) (by rfl))))))))))
theorem ok_is_within (T : Tx K P mg Γ) : FnOk P w K mg base (L2.CX P w) 2 T.a_is_within T.d_is_within ["thing", "least", "most"] (spF Γ [] m_is_within) :=
  fn_ok T.F_is_within sc_is_within T.hK (by decide) (by decide) (fun _ => rfl) fun cdv A outer s H E hr => by
    have ND := sc_is_within.nd
    have hu := hr.uok
    have tk := takesF (P := P) (w := w) (K := K) (mg := mg) (base := base) (N := ["thing", "least", "most"]) (qual := "is_within") (scope := defScope s_is_within) (f := T.a_is_within) (cd := cdv) (A := A) (outer := outer) (s := s) (H := H) (E := E)
    have po := ownsF (P := P) (w := w) (K := K) (mg := mg) (base := base) (N := ["thing", "least", "most"]) (qual := "is_within") (scope := defScope s_is_within) (f := T.a_is_within) (cd := cdv) (A := A) (outer := outer) (s := s) (H := H) (E := E)
    exact (sb_one (ss_ret (se_and ((se_cal (ok_is_integer T) (hr.mono (by decide)) (by rfl) T.g_is_integer T.F_is_integer.kp T.B_is_integer tk (sa_cons ((n_E 0)) (sa_nil) (by rfl)) (by decide) (by rfl) (by rfl))) ((se_one (se_chain o_le o_le ((n_V 1)) ((n_V 0)) ((n_V 2)) (fun _ h => by cases h; decide) (fun _ h => by cases h; decide) (by rfl)))))))
theorem ok_is_tuple (T : Tx K P mg Γ) : FnOk P w K mg base (L2.CX P w) 1 T.a_is_tuple T.d_is_tuple ["thing", "least", "most"] (spF Γ [] m_is_tuple) :=
  fn_ok T.F_is_tuple sc_is_tuple T.hK (by decide) (by decide) (fun _ => rfl) fun cdv A outer s H E hr => by
    have ND := sc_is_tuple.nd
    have hu := hr.uok
    have tk := takesF (P := P) (w := w) (K := K) (mg := mg) (base := base) (N := ["thing", "least", "most"]) (qual := "is_tuple") (scope := defScope s_is_tuple) (f := T.a_is_tuple) (cd := cdv) (A := A) (outer := outer) (s := s) (H := H) (E := E)
    have po := ownsF (P := P) (w := w) (K := K) (mg := mg) (base := base) (N := ["thing", "least", "most"]) (qual := "is_tuple") (scope := defScope s_is_tuple) (f := T.a_is_tuple) (cd := cdv) (A := A) (outer := outer) (s := s) (H := H) (E := E)
    exact (sb_one (ss_ret (se_and ((se_isi (by rfl) T.n_isinstance (by rfl) ((n_V 0)) (by decide) (by decide) (pe_ty (by rfl) T.n_tuple (by rfl)) (by rfl) (by rfl) (by rfl))) ((se_one (se_chain o_le o_le ((n_V 1)) ((sv_of (se_callB1 k_len (by rfl) T.n_len (by rfl) ((n_V 0)) (by decide) (by decide) (by rfl) (by rfl)))) ((n_V 2)) (fun _ h => by cases h; decide) (fun _ h => nomatch h) (by rfl)))))))
theorem ok_raised_to (T : Tx K P mg Γ) : FnOk P w K mg base (L2.CX P w) 1 T.a_raised_to T.d_raised_to ["number", "power"] (spF Γ [] m_raised_to) :=
  fn_ok T.F_raised_to sc_raised_to T.hK (by decide) (by decide) (fun _ => rfl) fun cdv A outer s H E hr => by
    have ND := sc_raised_to.nd
    have hu := hr.uok
    have tk := takesF (P := P) (w := w) (K := K) (mg := mg) (base := base) (N := ["number", "power", "found", "turn"]) (qual := "raised_to") (scope := defScope s_raised_to) (f := T.a_raised_to) (cd := cdv) (A := A) (outer := outer) (s := s) (H := H) (E := E)
    have po := ownsF (P := P) (w := w) (K := K) (mg := mg) (base := base) (N := ["number", "power", "found", "turn"]) (qual := "raised_to") (scope := defScope s_raised_to) (f := T.a_raised_to) (cd := cdv) (A := A) (outer := outer) (s := s) (H := H) (E := E)
    exact (sb_cons (n_set 2 ND se_int (by decide))
    (sb_cons (ss_for po rfl (si_rng1 (by rfl) T.n_range (sa_cons ((n_E 1)) (sa_nil) (by rfl)) (by rfl)) (n_G 3 ND) (sb_one (n_set 2 ND (se_op o_mul ((n_V 2)) ((n_V 0)) (fun _ h => by cases h; decide)) (by decide))) (by decide) (fun _ => rfl))
    (sb_one (ss_ret (n_E 2)))))
theorem ok_is_row (T : Tx K P mg Γ) : FnOk P w K mg base (L2.CX P w) 3 T.a_is_row T.d_is_row ["thing"] (spF Γ [] m_is_row) :=
  fn_ok T.F_is_row sc_is_row T.hK (by decide) (by decide) (fun _ => rfl) fun cdv A outer s H E hr => by
    have ND := sc_is_row.nd
    have hu := hr.uok
    have tk := takesF (P := P) (w := w) (K := K) (mg := mg) (base := base) (N := ["thing", "one"]) (qual := "is_row") (scope := defScope s_is_row) (f := T.a_is_row) (cd := cdv) (A := A) (outer := outer) (s := s) (H := H) (E := E)
    have po := ownsF (P := P) (w := w) (K := K) (mg := mg) (base := base) (N := ["thing", "one"]) (qual := "is_row") (scope := defScope s_is_row) (f := T.a_is_row) (cd := cdv) (A := A) (outer := outer) (s := s) (H := H) (E := E)
    exact (sb_cons (ss_if (sc_not (sc_val (se_cal (ok_is_tuple T) (hr.mono (by decide)) (by rfl) T.g_is_tuple T.F_is_tuple.kp T.B_is_tuple tk (sa_cons ((n_E 0)) ((sa_cons (se_int) ((sa_cons ((se_glob (v := .int 64) (by rfl) T.c_MOST_LENGTH ⟨_, rfl⟩ (fun _ => rfl) (by decide))) (sa_nil) (by rfl))) (by rfl))) (by rfl)) (by decide) (by rfl) (by rfl)) (fun _ => rfl))) (sb_one (ss_ret se_bl)) sb_nil)
    (sb_one (ss_ret (se_callB1 (k_all rfl) (by rfl) T.n_all (by rfl) ((sv_of (se_lc (own := [("one", 1)]) rfl ND (si_seq (n_E 0)) (blkOk_by (by kernel_rfl)) (fun _ _ _ _ _ => (n_G 1 ND)) (fun _ _ _ _ _ => sts_nil) (fun _ _ _ _ _ => (se_and ((se_cal (ok_is_within T) (hr.mono (by decide)) (by rfl) T.g_is_within T.F_is_within.kp T.B_is_within takes0 (sa_cons ((n_E 1)) ((sa_cons ((se_un o_neg ((sv_of se_int)))) ((sa_cons (se_int) (sa_nil) (by rfl))) (by rfl))) (by rfl)) (by decide) (by rfl) (by rfl))) ((se_one (se_cmp (o_ne hu.u64) ((n_V 1)) ((sv_of se_int)) (fun _ h => by cases h; decide) (by rfl)))))) (fun _ => rfl) (by decide)))) (by decide) (by decide) (by rfl) (by rfl)))))
theorem ok_check_rows (T : Tx K P mg Γ) : FnOk P w K mg base (L2.CX P w) 4 T.a_check_rows T.d_check_rows ["rows"] (spF Γ [] m_check_rows) :=
  fn_ok T.F_check_rows sc_check_rows T.hK (by decide) (by decide) (fun _ => rfl) fun cdv A outer s H E hr => by
    have ND := sc_check_rows.nd
    have hu := hr.uok
    have tk := takesF (P := P) (w := w) (K := K) (mg := mg) (base := base) (N := ["rows", "row"]) (qual := "check_rows") (scope := defScope s_check_rows) (f := T.a_check_rows) (cd := cdv) (A := A) (outer := outer) (s := s) (H := H) (E := E)
    have po := ownsF (P := P) (w := w) (K := K) (mg := mg) (base := base) (N := ["rows", "row"]) (qual := "check_rows") (scope := defScope s_check_rows) (f := T.a_check_rows) (cd := cdv) (A := A) (outer := outer) (s := s) (H := H) (E := E)
    exact (sb_one (ss_if (sc_not (sc_val (se_callB1 (k_all rfl) (by rfl) T.n_all (by rfl) ((sv_of (se_lc (own := [("row", 1)]) rfl ND (si_seq (n_E 0)) (blkOk_by (by kernel_rfl)) (fun _ _ _ _ _ => (n_G 1 ND)) (fun _ _ _ _ _ => sts_nil) (fun _ _ _ _ _ => (se_cal (ok_is_row T) (hr.mono (by decide)) (by rfl) T.g_is_row T.F_is_row.kp T.B_is_row takes0 (sa_cons ((n_E 1)) (sa_nil) (by rfl)) (by decide) (by rfl) (by rfl))) (fun _ => rfl) (by decide)))) (by decide) (by decide) (by rfl) (by rfl)) (fun _ => rfl))) (sb_one (ss_raise rfl tk T.fl_NoSequence (by rw [T.ca_NoSequence]; exact pmk_super0 (k := 0) T.Z_NoSequence (hr.mono (by decide)) (by rfl) T.g_NoSequence T.n_super))) sb_nil))
theorem ok_ring_sums_of (T : Tx K P mg Γ) : FnOk P w K mg base (L2.CX P w) 1 T.a_ring_sums_of T.d_ring_sums_of ["row"] (spF Γ [] m_ring_sums_of) :=
  fn_ok T.F_ring_sums_of sc_ring_sums_of T.hK (by decide) (by decide) (fun _ => rfl) fun cdv A outer s H E hr => by
    have ND := sc_ring_sums_of.nd
    have hu := hr.uok
    have tk := takesF (P := P) (w := w) (K := K) (mg := mg) (base := base) (N := ["row", "many", "far", "at"]) (qual := "ring_sums_of") (scope := defScope s_ring_sums_of) (f := T.a_ring_sums_of) (cd := cdv) (A := A) (outer := outer) (s := s) (H := H) (E := E)
    have po := ownsF (P := P) (w := w) (K := K) (mg := mg) (base := base) (N := ["row", "many", "far", "at"]) (qual := "ring_sums_of") (scope := defScope s_ring_sums_of) (f := T.a_ring_sums_of) (cd := cdv) (A := A) (outer := outer) (s := s) (H := H) (E := E)
    exact (sb_cons (n_set 1 ND (se_callB1 k_len (by rfl) T.n_len (by rfl) ((n_V 0)) (by decide) (by decide) (by rfl) (by rfl)) (by decide))
    (sb_one (ss_ret (se_lc (own := [("far", 2)]) rfl ND (si_rng1 (by rfl) T.n_range (sa_cons ((n_E 1)) (sa_nil) (by rfl)) (by rfl)) (blkOk_by (by kernel_rfl)) (fun _ _ _ _ _ => (n_G 2 ND)) (fun _ _ _ _ _ => sts_nil) (fun _ _ _ _ _ => (se_callB1 (k_sum rfl) (by rfl) T.n_sum (by rfl) ((sv_of (se_lc (own := [("at", 3)]) rfl ND (si_rng1 (by rfl) T.n_range (sa_cons ((n_E 1)) (sa_nil) (by rfl)) (by rfl)) (blkOk_by (by kernel_rfl)) (fun _ _ _ _ _ => (n_G 3 ND)) (fun _ _ _ _ _ => sts_nil) (fun _ _ _ _ _ => (se_op o_mul ((sv_ix hu.u1 ((n_V 0)) ((n_V 3)) (by decide) (fun _ _ => rfl))) ((sv_ix hu.u1 ((n_V 0)) ((sv_of (se_op o_mod ((sv_of (se_op o_add ((n_V 3)) ((n_V 2)) (fun _ h => by cases h; decide)))) ((n_V 1)) (fun _ h => nomatch h)))) (by decide) (fun _ _ => rfl))) (fun _ h => by cases h; decide))) (fun _ => rfl) (by decide)))) (by decide) (by decide) (by rfl) (by rfl))) (fun _ => rfl) (by decide)))))
theorem ok_ring_sums (T : Tx K P mg Γ) : FnOk P w K mg base (L2.CX P w) 5 T.a_ring_sums T.d_ring_sums ["row"] (spF Γ [] m_ring_sums) :=
  fn_ok T.F_ring_sums sc_ring_sums T.hK (by decide) (by decide) (fun _ => rfl) fun cdv A outer s H E hr => by
    have ND := sc_ring_sums.nd
    have hu := hr.uok
    have tk := takesF (P := P) (w := w) (K := K) (mg := mg) (base := base) (N := ["row"]) (qual := "ring_sums") (scope := defScope s_ring_sums) (f := T.a_ring_sums) (cd := cdv) (A := A) (outer := outer) (s := s) (H := H) (E := E)
    have po := ownsF (P := P) (w := w) (K := K) (mg := mg) (base := base) (N := ["row"]) (qual := "ring_sums") (scope := defScope s_ring_sums) (f := T.a_ring_sums) (cd := cdv) (A := A) (outer := outer) (s := s) (H := H) (E := E)
    exact (sb_cons (ss_expr (se_cal (ok_check_rows T) (hr.mono (by decide)) (by rfl) T.g_check_rows T.F_check_rows.kp T.B_check_rows tk (sa_cons ((se_tup ((sa_cons ((n_E 0)) (sa_nil) (by rfl))) (by decide))) (sa_nil) (by rfl)) (by decide) (by rfl) (by rfl)) (by rfl))
    (sb_one (ss_ret (se_cal (ok_ring_sums_of T) (hr.mono (by decide)) (by rfl) T.g_ring_sums_of T.F_ring_sums_of.kp T.B_ring_sums_of tk (sa_cons ((n_E 0)) (sa_nil) (by rfl)) (by decide) (by rfl) (by rfl)))))
theorem ok_check_rule (T : Tx K P mg Γ) : FnOk P w K mg base (L2.CX P w) 3 T.a_check_rule T.d_check_rule ["rule", "begin"] (spF Γ [] m_check_rule) :=
  fn_ok T.F_check_rule sc_check_rule T.hK (by decide) (by decide) (fun _ => rfl) fun cdv A outer s H E hr => by
    have ND := sc_check_rule.nd
    have hu := hr.uok
    have tk := takesF (P := P) (w := w) (K := K) (mg := mg) (base := base) (N := ["rule", "begin", "one", "a", "b"]) (qual := "check_rule") (scope := defScope s_check_rule) (f := T.a_check_rule) (cd := cdv) (A := A) (outer := outer) (s := s) (H := H) (E := E)
    have po := ownsF (P := P) (w := w) (K := K) (mg := mg) (base := base) (N := ["rule", "begin", "one", "a", "b"]) (qual := "check_rule") (scope := defScope s_check_rule) (f := T.a_check_rule) (cd := cdv) (A := A) (outer := outer) (s := s) (H := H) (E := E)
    exact (sb_cons (ss_if (sc_w (sw_or (sc_not (sc_val (se_cal (ok_is_tuple T) (hr.mono (by decide)) (by rfl) T.g_is_tuple T.F_is_tuple.kp T.B_is_tuple tk (sa_cons ((n_E 1)) ((sa_cons (se_int) ((sa_cons (se_int) (sa_nil) (by rfl))) (by rfl))) (by rfl)) (by decide) (by rfl) (by rfl)) (fun _ => rfl))) (sw_or1 (sc_not (sc_val (se_callB1 (k_all rfl) (by rfl) T.n_all (by rfl) ((sv_of (se_lc (own := [("one", 2)]) rfl ND (si_seq (n_E 1)) (blkOk_by (by kernel_rfl)) (fun _ _ _ _ _ => (n_G 2 ND)) (fun _ _ _ _ _ => sts_nil) (fun _ _ _ _ _ => (se_cal (ok_is_within T) (hr.mono (by decide)) (by rfl) T.g_is_within T.F_is_within.kp T.B_is_within takes0 (sa_cons ((n_E 2)) ((sa_cons (se_int) ((sa_cons (se_int) (sa_nil) (by rfl))) (by rfl))) (by rfl)) (by decide) (by rfl) (by rfl))) (fun _ => rfl) (by decide)))) (by decide) (by decide) (by rfl) (by rfl)) (fun _ => rfl)))))) (sb_one (ss_raise rfl tk T.fl_NoSequence (by rw [T.ca_NoSequence]; exact pmk_super0 (k := 0) T.Z_NoSequence (hr.mono (by decide)) (by rfl) T.g_NoSequence T.n_super))) sb_nil)
    (sb_cons (ss_if (sc_w (sw_or (sc_not (sc_val (se_cal (ok_is_tuple T) (hr.mono (by decide)) (by rfl) T.g_is_tuple T.F_is_tuple.kp T.B_is_tuple tk (sa_cons ((n_E 0)) ((sa_cons (se_int) ((sa_cons ((se_callB1 k_len (by rfl) T.n_len (by rfl) ((n_V 1)) (by decide) (by decide) (by rfl) (by rfl))) (sa_nil) (by rfl))) (by rfl))) (by rfl)) (by decide) (by rfl) (by rfl)) (fun _ => rfl))) (sw_or1 (sc_not (sc_val (se_callB1 (k_all rfl) (by rfl) T.n_all (by rfl) ((sv_of (se_lc (own := [("one", 2)]) rfl ND (si_seq (n_E 0)) (blkOk_by (by kernel_rfl)) (fun _ _ _ _ _ => (n_G 2 ND)) (fun _ _ _ _ _ => sts_nil) (fun _ _ _ _ _ => (se_cal (ok_is_within T) (hr.mono (by decide)) (by rfl) T.g_is_within T.F_is_within.kp T.B_is_within takes0 (sa_cons ((n_E 2)) ((sa_cons (se_int) ((sa_cons ((se_callB1 k_len (by rfl) T.n_len (by rfl) ((n_V 1)) (by decide) (by decide) (by rfl) (by rfl))) (sa_nil) (by rfl))) (by rfl))) (by rfl)) (by decide) (by rfl) (by rfl))) (fun _ => rfl) (by decide)))) (by decide) (by decide) (by rfl) (by rfl)) (fun _ => rfl)))))) (sb_one (ss_raise rfl tk T.fl_NoSequence (by rw [T.ca_NoSequence]; exact pmk_super0 (k := 0) T.Z_NoSequence (hr.mono (by decide)) (by rfl) T.g_NoSequence T.n_super))) sb_nil)
    (sb_one (ss_if (sc_w (sw_or (sc_not (sc_val (se_callB1 (k_all rfl) (by rfl) T.n_all (by rfl) ((sv_of (se_lc (own := [("a", 3), ("b", 4)]) rfl ND (si_zip (by rfl) T.n_zip (sa_cons ((n_E 0)) ((sa_cons ((se_slice ((n_V 0)) ((so_some ((sv_of se_int)))) (so_none) (fun _ h => by cases h; decide))) (sa_nil) (by rfl))) (by rfl)) (by rfl) (by rfl)) (blkOk_by (by kernel_rfl)) (fun _ _ _ _ _ => (sg_tup rfl (sgs_cons (n_G 3 ND) (sgs_cons (n_G 4 ND) sgs_nil (by rfl)) (by rfl)) (by rfl) (by rfl))) (fun _ _ _ _ _ => sts_nil) (fun _ _ _ _ _ => (se_cmp o_lt ((n_V 3)) ((n_V 4)) (fun _ h => by cases h; decide) (by rfl))) (fun _ => rfl) (by decide)))) (by decide) (by decide) (by rfl) (by rfl)) (fun _ => rfl))) (sw_or1 (sc_cmp (o_ne hu.u64) ((sv_ix hu.u1 ((n_V 0)) ((sv_of (se_un o_neg ((sv_of se_int))))) (by decide) (fun _ _ => rfl))) ((sv_of (se_callB1 k_len (by rfl) T.n_len (by rfl) ((n_V 1)) (by decide) (by decide) (by rfl) (by rfl)))) (fun _ h => by cases h; decide) (by rfl))))) (sb_one (ss_raise rfl tk T.fl_NoSequence (by rw [T.ca_NoSequence]; exact pmk_super0 (k := 0) T.Z_NoSequence (hr.mono (by decide)) (by rfl) T.g_NoSequence T.n_super))) sb_nil))))
theorem ok_bits_by (T : Tx K P mg Γ) : FnOk P w K mg base (L2.CX P w) 1 T.a_bits_by T.d_bits_by ["rule", "begin", "many"] (spF Γ [] m_bits_by) :=
  fn_ok T.F_bits_by sc_bits_by T.hK (by decide) (by decide) (fun _ => rfl) fun cdv A outer s H E hr => by
    have ND := sc_bits_by.nd
    have hu := hr.uok
    have tk := takesF (P := P) (w := w) (K := K) (mg := mg) (base := base) (N := ["rule", "begin", "many", "found", "back"]) (qual := "bits_by") (scope := defScope s_bits_by) (f := T.a_bits_by) (cd := cdv) (A := A) (outer := outer) (s := s) (H := H) (E := E)
    have po := ownsF (P := P) (w := w) (K := K) (mg := mg) (base := base) (N := ["rule", "begin", "many", "found", "back"]) (qual := "bits_by") (scope := defScope s_bits_by) (f := T.a_bits_by) (cd := cdv) (A := A) (outer := outer) (s := s) (H := H) (E := E)
    exact (sb_cons (n_set 3 ND (se_callT1 k_list (by rfl) T.n_list (by rfl) ((n_V 1)) (by decide) (by decide) (by rfl) (by rfl)) (by decide))
    (sb_cons (ss_while 100000 po (sc_cmp o_lt ((sv_of (se_callB1 k_len (by rfl) T.n_len (by rfl) ((n_V 3)) (by decide) (by decide) (by rfl) (by rfl)))) ((n_V 2)) (fun _ h => nomatch h) (by rfl)) (sb_one (ss_expr (se_meth m_append PySem.F.plainAttrs_list PySem.F.slot_list_append PySem.F.type_list_append (sp_nm (n_P 3)) (sa_cons ((se_op o_mod ((sv_of (se_callB1 (k_sum rfl) (by rfl) T.n_sum (by rfl) ((sv_of (se_lc (own := [("back", 4)]) rfl ND (si_seq (n_E 0)) (blkOk_by (by kernel_rfl)) (fun _ _ _ _ _ => (n_G 4 ND)) (fun _ _ _ _ _ => sts_nil) (fun _ _ _ _ _ => (se_ix hu.u1 ((n_V 3)) ((sv_of (se_un o_neg ((n_V 4))))) (fun _ h => by cases h; decide) (fun _ _ => rfl))) (fun _ => rfl) (by decide)))) (by decide) (by decide) (by rfl) (by rfl)))) ((sv_of se_int)) (fun _ h => nomatch h))) (sa_nil) (by rfl)) (by decide) (by rfl) (by rfl) (by rfl) (by rfl) (by rfl)) (by rfl))))
    (sb_one (ss_ret (se_slice ((n_V 3)) (so_none) ((so_some ((n_V 2)))) (fun _ h => by cases h; decide))))))
theorem ok_by_rule (T : Tx K P mg Γ) : FnOk P w K mg base (L2.CX P w) 4 T.a_by_rule T.d_by_rule ["rule", "begin", "many"] (spF Γ [] m_by_rule) :=
  fn_ok T.F_by_rule sc_by_rule T.hK (by decide) (by decide) (fun _ => rfl) fun cdv A outer s H E hr => by
    have ND := sc_by_rule.nd
    have hu := hr.uok
    have tk := takesF (P := P) (w := w) (K := K) (mg := mg) (base := base) (N := ["rule", "begin", "many"]) (qual := "by_rule") (scope := defScope s_by_rule) (f := T.a_by_rule) (cd := cdv) (A := A) (outer := outer) (s := s) (H := H) (E := E)
    have po := ownsF (P := P) (w := w) (K := K) (mg := mg) (base := base) (N := ["rule", "begin", "many"]) (qual := "by_rule") (scope := defScope s_by_rule) (f := T.a_by_rule) (cd := cdv) (A := A) (outer := outer) (s := s) (H := H) (E := E)
    exact (sb_cons (ss_expr (se_cal (ok_check_rule T) (hr.mono (by decide)) (by rfl) T.g_check_rule T.F_check_rule.kp T.B_check_rule tk (sa_cons ((n_E 0)) ((sa_cons ((n_E 1)) (sa_nil) (by rfl))) (by rfl)) (by decide) (by rfl) (by rfl)) (by rfl))
    (sb_cons (ss_if (sc_not (sc_val (se_cal (ok_is_within T) (hr.mono (by decide)) (by rfl) T.g_is_within T.F_is_within.kp T.B_is_within tk (sa_cons ((n_E 2)) ((sa_cons (se_int) ((sa_cons (se_int) (sa_nil) (by rfl))) (by rfl))) (by rfl)) (by decide) (by rfl) (by rfl)) (fun _ => rfl))) (sb_one (ss_raise rfl tk T.fl_NoNumber (by rw [T.ca_NoNumber]; exact pmk_super0 (k := 0) T.Z_NoNumber (hr.mono (by decide)) (by rfl) T.g_NoNumber T.n_super))) sb_nil)
    (sb_one (ss_ret (se_callT1 k_tup (by rfl) T.n_tuple (by rfl) ((sv_of (se_cal (ok_bits_by T) (hr.mono (by decide)) (by rfl) T.g_bits_by T.F_bits_by.kp T.B_bits_by tk (sa_cons ((n_E 0)) ((sa_cons ((n_E 1)) ((sa_cons ((n_E 2)) (sa_nil) (by rfl))) (by rfl))) (by rfl)) (by decide) (by rfl) (by rfl)))) (by decide) (by decide) (by rfl) (by rfl))))))
theorem ok_period (T : Tx K P mg Γ) : FnOk P w K mg base (L2.CX P w) 4 T.a_period T.d_period ["rule", "begin"] (spF Γ [] m_period) :=
  fn_ok T.F_period sc_period T.hK (by decide) (by decide) (fun _ => rfl) fun cdv A outer s H E hr => by
    have ND := sc_period.nd
    have hu := hr.uok
    have tk := takesF (P := P) (w := w) (K := K) (mg := mg) (base := base) (N := ["rule", "begin", "here", "many", "back"]) (qual := "period") (scope := defScope s_period) (f := T.a_period) (cd := cdv) (A := A) (outer := outer) (s := s) (H := H) (E := E)
    have po := ownsF (P := P) (w := w) (K := K) (mg := mg) (base := base) (N := ["rule", "begin", "here", "many", "back"]) (qual := "period") (scope := defScope s_period) (f := T.a_period) (cd := cdv) (A := A) (outer := outer) (s := s) (H := H) (E := E)
    exact (sb_cons (ss_expr (se_cal (ok_check_rule T) (hr.mono (by decide)) (by rfl) T.g_check_rule T.F_check_rule.kp T.B_check_rule tk (sa_cons ((n_E 0)) ((sa_cons ((n_E 1)) (sa_nil) (by rfl))) (by rfl)) (by decide) (by rfl) (by rfl)) (by rfl))
    (sb_cons (ss_parT rfl (sa_cons ((se_op o_add ((sv_of (se_slice ((n_V 1)) ((so_some ((sv_of se_int)))) (so_none) (fun _ h => by cases h; decide)))) ((sv_of (se_tup ((sa_cons ((se_op o_mod ((sv_of (se_callB1 (k_sum rfl) (by rfl) T.n_sum (by rfl) ((sv_of (se_lc (own := [("back", 4)]) rfl ND (si_seq (n_E 0)) (blkOk_by (by kernel_rfl)) (fun _ _ _ _ _ => (n_G 4 ND)) (fun _ _ _ _ _ => sts_nil) (fun _ _ _ _ _ => (se_ix hu.u1 ((n_V 1)) ((sv_of (se_un o_neg ((n_V 4))))) (fun _ h => by cases h; decide) (fun _ _ => rfl))) (fun _ => rfl) (by decide)))) (by decide) (by decide) (by rfl) (by rfl)))) ((sv_of se_int)) (fun _ h => nomatch h))) (sa_nil) (by rfl))) (by decide)))) (fun _ h => nomatch h))) ((sa_cons (se_int) (sa_nil) (by rfl))) (by rfl)) (sgs_cons (n_G 2 ND) (sgs_cons (n_G 3 ND) sgs_nil (by rfl)) (by rfl)) (by decide) (by decide) (by rfl) (by rfl) (by rfl) (by rfl) (by rfl))
    (sb_cons (ss_while 100000 po (sc_cmp (o_ne hu.u64) ((n_V 2)) ((n_V 1)) (fun _ h => by cases h; decide) (by rfl)) (sb_cons (n_set 2 ND (se_op o_add ((sv_of (se_slice ((n_V 2)) ((so_some ((sv_of se_int)))) (so_none) (fun _ h => by cases h; decide)))) ((sv_of (se_tup ((sa_cons ((se_op o_mod ((sv_of (se_callB1 (k_sum rfl) (by rfl) T.n_sum (by rfl) ((sv_of (se_lc (own := [("back", 4)]) rfl ND (si_seq (n_E 0)) (blkOk_by (by kernel_rfl)) (fun _ _ _ _ _ => (n_G 4 ND)) (fun _ _ _ _ _ => sts_nil) (fun _ _ _ _ _ => (se_ix hu.u1 ((n_V 2)) ((sv_of (se_un o_neg ((n_V 4))))) (fun _ h => by cases h; decide) (fun _ _ => rfl))) (fun _ => rfl) (by decide)))) (by decide) (by decide) (by rfl) (by rfl)))) ((sv_of se_int)) (fun _ h => nomatch h))) (sa_nil) (by rfl))) (by decide)))) (fun _ h => nomatch h)) (by decide))
    (sb_cons (ss_aug (i := 3) ND (by rfl) (by first | exact Or.inl rfl | exact Or.inr rfl) se_int ip_add (by decide) (by first | exact .inl rfl | exact .inr rfl))
    (sb_one (ss_if (sc_cmp o_gt ((n_V 3)) ((sv_of (se_glob (v := .int 70000) (by rfl) T.c_MOST_TRIED ⟨_, rfl⟩ (fun _ => rfl) (by decide)))) (fun _ h => by cases h; decide) (by rfl)) (sb_one ss_stuck) sb_nil)))))
    (sb_one (ss_ret (n_E 3))))))
theorem ok_is_longest (T : Tx K P mg Γ) : FnOk P w K mg base (L2.CX P w) 5 T.a_is_longest T.d_is_longest ["rule", "size"] (spF Γ [] m_is_longest) :=
  fn_ok T.F_is_longest sc_is_longest T.hK (by decide) (by decide) (fun _ => rfl) fun cdv A outer s H E hr => by
    have ND := sc_is_longest.nd
    have hu := hr.uok
    have tk := takesF (P := P) (w := w) (K := K) (mg := mg) (base := base) (N := ["rule", "size", "begin"]) (qual := "is_longest") (scope := defScope s_is_longest) (f := T.a_is_longest) (cd := cdv) (A := A) (outer := outer) (s := s) (H := H) (E := E)
    have po := ownsF (P := P) (w := w) (K := K) (mg := mg) (base := base) (N := ["rule", "size", "begin"]) (qual := "is_longest") (scope := defScope s_is_longest) (f := T.a_is_longest) (cd := cdv) (A := A) (outer := outer) (s := s) (H := H) (E := E)
    exact (sb_cons (n_set 2 ND (se_if ((sc_val (se_cal (ok_is_within T) (hr.mono (by decide)) (by rfl) T.g_is_within T.F_is_within.kp T.B_is_within tk (sa_cons ((n_E 1)) ((sa_cons (se_int) ((sa_cons (se_int) (sa_nil) (by rfl))) (by rfl))) (by rfl)) (by decide) (by rfl) (by rfl)) (fun _ => rfl))) ((se_callT1 k_tup (by rfl) T.n_tuple (by rfl) ((sv_of (se_op o_add ((sv_of (se_op o_mul ((sv_of (se_lst ((sa_cons (se_int) (sa_nil) (by rfl))) (by decide)))) ((sv_of (se_op o_sub ((n_V 1)) ((sv_of se_int)) (fun _ h => by cases h; decide)))) (fun _ h => nomatch h)))) ((sv_of (se_lst ((sa_cons (se_int) (sa_nil) (by rfl))) (by decide)))) (fun _ h => nomatch h)))) (by decide) (by decide) (by rfl) (by rfl))) ((se_tup (sa_nil) (by decide)))) (by decide))
    (sb_cons (ss_expr (se_cal (ok_check_rule T) (hr.mono (by decide)) (by rfl) T.g_check_rule T.F_check_rule.kp T.B_check_rule tk (sa_cons ((n_E 0)) ((sa_cons ((n_E 2)) (sa_nil) (by rfl))) (by rfl)) (by decide) (by rfl) (by rfl)) (by rfl))
    (sb_one (ss_ret (se_cmp (o_eq hu.u64) ((sv_of (se_cal (ok_period T) (hr.mono (by decide)) (by rfl) T.g_period T.F_period.kp T.B_period tk (sa_cons ((n_E 0)) ((sa_cons ((n_E 2)) (sa_nil) (by rfl))) (by rfl)) (by decide) (by rfl) (by rfl)))) ((sv_of (se_op o_sub ((sv_of (se_cal (ok_raised_to T) (hr.mono (by decide)) (by rfl) T.g_raised_to T.F_raised_to.kp T.B_raised_to tk (sa_cons (se_int) ((sa_cons ((n_E 1)) (sa_nil) (by rfl))) (by rfl)) (by decide) (by rfl) (by rfl)))) ((sv_of se_int)) (fun _ h => nomatch h)))) (fun _ h => nomatch h) (by rfl))))))
theorem ok_first_longest (T : Tx K P mg Γ) : FnOk P w K mg base (L2.CX P w) 5 T.a_first_longest T.d_first_longest ["size"] (spF Γ [] m_first_longest) :=
  fn_ok T.F_first_longest sc_first_longest T.hK (by decide) (by decide) (fun _ => rfl) fun cdv A outer s H E hr => by
    have ND := sc_first_longest.nd
    have hu := hr.uok
    have tk := takesF (P := P) (w := w) (K := K) (mg := mg) (base := base) (N := ["size", "begin", "number", "rule", "at"]) (qual := "first_longest") (scope := defScope s_first_longest) (f := T.a_first_longest) (cd := cdv) (A := A) (outer := outer) (s := s) (H := H) (E := E)
    have po := ownsF (P := P) (w := w) (K := K) (mg := mg) (base := base) (N := ["size", "begin", "number", "rule", "at"]) (qual := "first_longest") (scope := defScope s_first_longest) (f := T.a_first_longest) (cd := cdv) (A := A) (outer := outer) (s := s) (H := H) (E := E)
    exact (sb_cons (ss_if (sc_not (sc_val (se_cal (ok_is_within T) (hr.mono (by decide)) (by rfl) T.g_is_within T.F_is_within.kp T.B_is_within tk (sa_cons ((n_E 0)) ((sa_cons (se_int) ((sa_cons (se_int) (sa_nil) (by rfl))) (by rfl))) (by rfl)) (by decide) (by rfl) (by rfl)) (fun _ => rfl))) (sb_one (ss_raise rfl tk T.fl_NoNumber (by rw [T.ca_NoNumber]; exact pmk_super0 (k := 0) T.Z_NoNumber (hr.mono (by decide)) (by rfl) T.g_NoNumber T.n_super))) sb_nil)
    (sb_cons (n_set 1 ND (se_callT1 k_tup (by rfl) T.n_tuple (by rfl) ((sv_of (se_op o_add ((sv_of (se_op o_mul ((sv_of (se_lst ((sa_cons (se_int) (sa_nil) (by rfl))) (by decide)))) ((sv_of (se_op o_sub ((n_V 0)) ((sv_of se_int)) (fun _ h => by cases h; decide)))) (fun _ h => nomatch h)))) ((sv_of (se_lst ((sa_cons (se_int) (sa_nil) (by rfl))) (by decide)))) (fun _ h => nomatch h)))) (by decide) (by decide) (by rfl) (by rfl)) (by decide))
    (sb_cons (ss_for po rfl (si_rng1 (by rfl) T.n_range (sa_cons ((se_cal (ok_raised_to T) (hr.mono (by decide)) (by rfl) T.g_raised_to T.F_raised_to.kp T.B_raised_to tk (sa_cons (se_int) ((sa_cons ((se_op o_sub ((n_V 0)) ((sv_of se_int)) (fun _ h => by cases h; decide))) (sa_nil) (by rfl))) (by rfl)) (by decide) (by rfl) (by rfl))) (sa_nil) (by rfl)) (by rfl)) (n_G 2 ND) (sb_cons (n_set 3 ND (se_callT1 k_tup (by rfl) T.n_tuple (by rfl) ((sv_of (se_op o_add ((sv_of (se_lc (own := [("at", 4)]) rfl ND (si_rng1 (by rfl) T.n_range (sa_cons ((se_op o_sub ((n_V 0)) ((sv_of se_int)) (fun _ h => by cases h; decide))) (sa_nil) (by rfl)) (by rfl)) (blkOk_by (by kernel_rfl)) (fun _ _ _ _ _ => (n_G 4 ND)) (fun _ _ _ _ _ => (sts_one (sc_cmp (o_eq hu.u64) ((sv_of (se_op o_mod ((sv_of (se_op o_fdiv ((n_V 2)) ((sv_of (se_cal (ok_raised_to T) (hr.mono (by decide)) (by rfl) T.g_raised_to T.F_raised_to.kp T.B_raised_to takes0 (sa_cons (se_int) ((sa_cons ((n_E 4)) (sa_nil) (by rfl))) (by rfl)) (by decide) (by rfl) (by rfl)))) (fun _ h => by cases h; decide)))) ((sv_of se_int)) (fun _ h => nomatch h)))) ((sv_of se_int)) (fun _ h => nomatch h) (by rfl)))) (fun _ _ _ _ _ => (se_op o_add ((n_V 4)) ((sv_of se_int)) (fun _ h => by cases h; decide))) (fun _ => rfl) (by decide)))) ((sv_of (se_lst ((sa_cons ((n_E 0)) (sa_nil) (by rfl))) (by decide)))) (fun _ h => nomatch h)))) (by decide) (by decide) (by rfl) (by rfl)) (by decide))
    (sb_one (ss_if (sc_cmp (o_eq hu.u64) ((sv_of (se_cal (ok_period T) (hr.mono (by decide)) (by rfl) T.g_period T.F_period.kp T.B_period tk (sa_cons ((n_E 3)) ((sa_cons ((n_E 1)) (sa_nil) (by rfl))) (by rfl)) (by decide) (by rfl) (by rfl)))) ((sv_of (se_op o_sub ((sv_of (se_cal (ok_raised_to T) (hr.mono (by decide)) (by rfl) T.g_raised_to T.F_raised_to.kp T.B_raised_to tk (sa_cons (se_int) ((sa_cons ((n_E 0)) (sa_nil) (by rfl))) (by rfl)) (by decide) (by rfl) (by rfl)))) ((sv_of se_int)) (fun _ h => nomatch h)))) (fun _ h => nomatch h) (by rfl)) (sb_one (ss_ret (n_E 3))) sb_nil))) (by decide) (fun _ => rfl))
    (sb_one (ss_ret se_non)))))
theorem ok_is_even_round (T : Tx K P mg Γ) : FnOk P w K mg base (L2.CX P w) 5 T.a_is_even_round T.d_is_even_round ["row"] (spF Γ [] m_is_even_round) :=
  fn_ok T.F_is_even_round sc_is_even_round T.hK (by decide) (by decide) (fun _ => rfl) fun cdv A outer s H E hr => by
    have ND := sc_is_even_round.nd
    have hu := hr.uok
    have tk := takesF (P := P) (w := w) (K := K) (mg := mg) (base := base) (N := ["row", "one"]) (qual := "is_even_round") (scope := defScope s_is_even_round) (f := T.a_is_even_round) (cd := cdv) (A := A) (outer := outer) (s := s) (H := H) (E := E)
    have po := ownsF (P := P) (w := w) (K := K) (mg := mg) (base := base) (N := ["row", "one"]) (qual := "is_even_round") (scope := defScope s_is_even_round) (f := T.a_is_even_round) (cd := cdv) (A := A) (outer := outer) (s := s) (H := H) (E := E)
    exact (sb_cons (ss_expr (se_cal (ok_check_rows T) (hr.mono (by decide)) (by rfl) T.g_check_rows T.F_check_rows.kp T.B_check_rows tk (sa_cons ((se_tup ((sa_cons ((n_E 0)) (sa_nil) (by rfl))) (by decide))) (sa_nil) (by rfl)) (by decide) (by rfl) (by rfl)) (by rfl))
    (sb_one (ss_ret (se_cmp o_le ((sv_of (se_callB1 k_len (by rfl) T.n_len (by rfl) ((sv_of (se_dc (own := [("one", 1)]) rfl ND (si_seq (se_slice ((sv_of (se_cal (ok_ring_sums_of T) (hr.mono (by decide)) (by rfl) T.g_ring_sums_of T.F_ring_sums_of.kp T.B_ring_sums_of tk (sa_cons ((n_E 0)) (sa_nil) (by rfl)) (by decide) (by rfl) (by rfl)))) ((so_some ((sv_of se_int)))) (so_none) (fun _ h => nomatch h))) (blkOk_by (by kernel_rfl)) (fun _ _ _ _ _ => (n_G 1 ND)) (fun _ _ _ _ _ => sts_nil) (fun _ _ _ _ _ => (n_E 1)) (fun _ _ _ _ _ => se_bl) (fun _ => rfl) (by decide)))) (by decide) (by decide) (by rfl) (by rfl)))) ((sv_of se_int)) (fun _ h => nomatch h) (by rfl)))))
theorem ok_signs_of (T : Tx K P mg Γ) : FnOk P w K mg base (L2.CX P w) 3 T.a_signs_of T.d_signs_of ["bits"] (spF Γ [] m_signs_of) :=
  fn_ok T.F_signs_of sc_signs_of T.hK (by decide) (by decide) (fun _ => rfl) fun cdv A outer s H E hr => by
    have ND := sc_signs_of.nd
    have hu := hr.uok
    have tk := takesF (P := P) (w := w) (K := K) (mg := mg) (base := base) (N := ["bits", "one"]) (qual := "signs_of") (scope := defScope s_signs_of) (f := T.a_signs_of) (cd := cdv) (A := A) (outer := outer) (s := s) (H := H) (E := E)
    have po := ownsF (P := P) (w := w) (K := K) (mg := mg) (base := base) (N := ["bits", "one"]) (qual := "signs_of") (scope := defScope s_signs_of) (f := T.a_signs_of) (cd := cdv) (A := A) (outer := outer) (s := s) (H := H) (E := E)
    exact (sb_cons (ss_if (sc_w (sw_or (sc_not (sc_val (se_cal (ok_is_tuple T) (hr.mono (by decide)) (by rfl) T.g_is_tuple T.F_is_tuple.kp T.B_is_tuple tk (sa_cons ((n_E 0)) ((sa_cons (se_int) ((sa_cons ((se_glob (v := .int 64) (by rfl) T.c_MOST_LENGTH ⟨_, rfl⟩ (fun _ => rfl) (by decide))) (sa_nil) (by rfl))) (by rfl))) (by rfl)) (by decide) (by rfl) (by rfl)) (fun _ => rfl))) (sw_or1 (sc_not (sc_val (se_callB1 (k_all rfl) (by rfl) T.n_all (by rfl) ((sv_of (se_lc (own := [("one", 1)]) rfl ND (si_seq (n_E 0)) (blkOk_by (by kernel_rfl)) (fun _ _ _ _ _ => (n_G 1 ND)) (fun _ _ _ _ _ => sts_nil) (fun _ _ _ _ _ => (se_cal (ok_is_within T) (hr.mono (by decide)) (by rfl) T.g_is_within T.F_is_within.kp T.B_is_within takes0 (sa_cons ((n_E 1)) ((sa_cons (se_int) ((sa_cons (se_int) (sa_nil) (by rfl))) (by rfl))) (by rfl)) (by decide) (by rfl) (by rfl))) (fun _ => rfl) (by decide)))) (by decide) (by decide) (by rfl) (by rfl)) (fun _ => rfl)))))) (sb_one (ss_raise rfl tk T.fl_NoSequence (by rw [T.ca_NoSequence]; exact pmk_super0 (k := 0) T.Z_NoSequence (hr.mono (by decide)) (by rfl) T.g_NoSequence T.n_super))) sb_nil)
    (sb_one (ss_ret (se_callT1 k_tup (by rfl) T.n_tuple (by rfl) ((sv_of (se_lc (own := [("one", 1)]) rfl ND (si_seq (n_E 0)) (blkOk_by (by kernel_rfl)) (fun _ _ _ _ _ => (n_G 1 ND)) (fun _ _ _ _ _ => sts_nil) (fun _ _ _ _ _ => (se_if ((sc_cmp (o_eq hu.u64) ((n_V 1)) ((sv_of se_int)) (fun _ h => by cases h; decide) (by rfl))) (se_int) ((se_un o_neg ((sv_of se_int)))))) (fun _ => rfl) (by decide)))) (by decide) (by decide) (by rfl) (by rfl)))))
theorem ok__law_hand (T : Tx K P mg Γ) : FnOk P w K mg base (L2.CX P w) 1 T.a__law_hand T.d__law_hand ["script"] (spF Γ [] m__law_hand) :=
  fn_ok T.F__law_hand sc__law_hand T.hK (by decide) (by decide) (fun _ => rfl) fun cdv A outer s H E hr => by
    have ND := sc__law_hand.nd
    have hu := hr.uok
    have tk := takesF (P := P) (w := w) (K := K) (mg := mg) (base := base) (N := ["script", "cells", "cell"]) (qual := "_law_hand") (scope := defScope s__law_hand) (f := T.a__law_hand) (cd := cdv) (A := A) (outer := outer) (s := s) (H := H) (E := E)
    have po := ownsF (P := P) (w := w) (K := K) (mg := mg) (base := base) (N := ["script", "cells", "cell"]) (qual := "_law_hand") (scope := defScope s__law_hand) (f := T.a__law_hand) (cd := cdv) (A := A) (outer := outer) (s := s) (H := H) (E := E)
    exact (sb_cons (ss_setLc (own := [("cell", 2)]) rfl ND (by rfl) (by rfl) (sw_true rfl rfl rfl (by decide +kernel)) (si_seq (se_slice ((n_V 0)) (so_none) ((so_some ((sv_of se_int)))) (fun _ h => by cases h; decide))) (blkOk_by (by kernel_rfl)) (fun _ _ _ _ _ => (n_G 2 ND)) (fun _ _ _ _ _ => sts_nil) (fun _ _ _ _ _ => (se_op o_mod ((sv_of (se_callT1 k_int (by rfl) T.n_int (by rfl) ((sv_of (se_callB1 k_abs (by rfl) T.n_abs (by rfl) ((sv_of (se_callT1 k_int (by rfl) T.n_int (by rfl) ((n_V 2)) (by decide) (by decide) (by rfl) (by rfl)))) (by decide) (by decide) (by rfl) (by rfl)))) (by decide) (by decide) (by rfl) (by rfl)))) ((sv_of (se_op o_pow ((sv_of se_int)) ((sv_of se_int)) (fun _ h => nomatch h)))) (fun _ h => nomatch h))) (fun _ => rfl) (by decide) (by decide))
    (sb_one (ss_ret (se_lst ((sa_cons ((n_E 1)) ((sa_cons (se_int) ((sa_cons (se_int) ((sa_cons ((se_op o_add ((sv_of se_int)) ((sv_of (se_op o_mul ((sv_of se_int)) ((sv_of (se_callB1 k_len (by rfl) T.n_len (by rfl) ((n_V 1)) (by decide) (by decide) (by rfl) (by rfl)))) (fun _ h => nomatch h)))) (fun _ h => nomatch h))) ((sa_cons (se_int) (sa_nil) (by rfl))) (by rfl))) (by rfl))) (by rfl))) (by rfl))) (by decide)))))
theorem ok__law_draw (T : Tx K P mg Γ) : FnOk P w K mg base (L2.CX P w) 1 T.a__law_draw T.d__law_draw ["hand", "many"] (spF Γ [0] m__law_draw) :=
  fn_ok T.F__law_draw sc__law_draw T.hK (by decide) (by decide) (fun _ => rfl) fun cdv A outer s H E hr => by
    have ND := sc__law_draw.nd
    have hu := hr.uok
    have tk := takesF (P := P) (w := w) (K := K) (mg := mg) (base := base) (N := ["hand", "many", "cell", "digit", "number"]) (qual := "_law_draw") (scope := defScope s__law_draw) (f := T.a__law_draw) (cd := cdv) (A := A) (outer := outer) (s := s) (H := H) (E := E)
    have po := ownsF (P := P) (w := w) (K := K) (mg := mg) (base := base) (N := ["hand", "many", "cell", "digit", "number"]) (qual := "_law_draw") (scope := defScope s__law_draw) (f := T.a__law_draw) (cd := cdv) (A := A) (outer := outer) (s := s) (H := H) (E := E)
    exact (sb_cons (ss_if (sc_w (sw_and (sc_cmp (o_eq hu.u64) ((sv_ix hu.u1 ((n_V 0)) ((sv_of se_int)) (by decide) (fun _ _ => rfl))) ((sv_of se_int)) (fun _ h => by cases h; decide) (by rfl)) (sw_and1 (sc_cmp o_lt ((sv_ix hu.u1 ((n_V 0)) ((sv_of se_int)) (by decide) (fun _ _ => rfl))) ((sv_of (se_callB1 k_len (by rfl) T.n_len (by rfl) ((sv_ix hu.u1 ((n_V 0)) ((sv_of se_int)) (by decide) (fun _ _ => rfl))) (by decide) (by decide) (by rfl) (by rfl)))) (fun _ h => by cases h; decide) (by rfl))))) (sb_cons (n_set 2 ND (se_ix hu.u1 ((sv_ix hu.u1 ((n_V 0)) ((sv_of se_int)) (by decide) (fun _ _ => rfl))) ((sv_ix hu.u1 ((n_V 0)) ((sv_of se_int)) (by decide) (fun _ _ => rfl))) (fun _ h => by cases h; decide) (fun _ _ => rfl)) (by decide))
    (sb_cons (ss_put hu.u1 (se_op o_add ((sv_ix hu.u1 ((n_V 0)) ((sv_of se_int)) (by decide) (fun _ _ => rfl))) ((sv_of se_int)) (fun _ h => by cases h; decide)) (sp_nm (n_P 0)) ((sv_of se_int)) (by decide) (fun _ => rfl) (by rfl) (by rfl) (by rfl))
    (sb_cons (ss_put hu.u1 (se_op o_mod ((sv_of (se_callT1 k_int (by rfl) T.n_int (by rfl) ((sv_of (se_op o_add ((sv_of (se_op o_add ((sv_of (se_op o_mul ((sv_ix hu.u1 ((n_V 0)) ((sv_of se_int)) (by decide) (fun _ _ => rfl))) ((sv_of se_int)) (fun _ h => by cases h; decide)))) ((sv_of (se_op o_mul ((n_V 2)) ((sv_of se_int)) (fun _ h => by cases h; decide)))) (fun _ h => nomatch h)))) ((sv_of se_int)) (fun _ h => nomatch h)))) (by decide) (by decide) (by rfl) (by rfl)))) ((sv_of se_int)) (fun _ h => nomatch h)) (sp_nm (n_P 0)) ((sv_of se_int)) (by decide) (fun _ => rfl) (by rfl) (by rfl) (by rfl))
    (sb_one (ss_if (sc_cmp o_ge ((n_V 2)) ((sv_of (se_op o_pow ((sv_of se_int)) ((sv_of se_int)) (fun _ h => nomatch h)))) (fun _ h => by cases h; decide) (by rfl)) (sb_one (ss_put hu.u1 (n_E 2) (sp_nm (n_P 0)) ((sv_of se_int)) (by decide) (fun _ => rfl) (by rfl) (by rfl) (by rfl))) sb_nil))))) sb_nil)
    (sb_cons (ss_if (sc_cmp o_gt ((sv_ix hu.u1 ((n_V 0)) ((sv_of se_int)) (by decide) (fun _ _ => rfl))) ((sv_of se_int)) (fun _ h => by cases h; decide) (by rfl)) (sb_cons (n_set 3 ND (se_op o_mod ((sv_of (se_callT1 k_int (by rfl) T.n_int (by rfl) ((sv_ix hu.u1 ((n_V 0)) ((sv_of se_int)) (by decide) (fun _ _ => rfl))) (by decide) (by decide) (by rfl) (by rfl)))) ((n_V 1)) (fun _ h => nomatch h)) (by decide))
    (sb_cons (ss_put hu.u1 (se_op o_fdiv ((sv_ix hu.u1 ((n_V 0)) ((sv_of se_int)) (by decide) (fun _ _ => rfl))) ((n_V 1)) (fun _ h => by cases h; decide)) (sp_nm (n_P 0)) ((sv_of se_int)) (by decide) (fun _ => rfl) (by rfl) (by rfl) (by rfl))
    (sb_one (ss_ret (n_E 3))))) sb_nil)
    (sb_cons (ss_put hu.u1 (se_op o_add ((sv_ix hu.u1 ((n_V 0)) ((sv_of se_int)) (by decide) (fun _ _ => rfl))) ((sv_of se_int)) (fun _ h => by cases h; decide)) (sp_nm (n_P 0)) ((sv_of se_int)) (by decide) (fun _ => rfl) (by rfl) (by rfl) (by rfl))
    (sb_cons (n_set 4 ND (se_op o_mod ((sv_of (se_callT1 k_int (by rfl) T.n_int (by rfl) ((sv_of (se_op o_mul ((sv_of (se_callT1 k_int (by rfl) T.n_int (by rfl) ((sv_of (se_op o_add ((sv_ix hu.u1 ((n_V 0)) ((sv_of se_int)) (by decide) (fun _ _ => rfl))) ((sv_of (se_op o_mul ((sv_of se_int)) ((sv_ix hu.u1 ((n_V 0)) ((sv_of se_int)) (by decide) (fun _ _ => rfl))) (fun _ h => nomatch h)))) (fun _ h => by cases h; decide)))) (by decide) (by decide) (by rfl) (by rfl)))) ((sv_of se_int)) (fun _ h => nomatch h)))) (by decide) (by decide) (by rfl) (by rfl)))) ((sv_of se_int)) (fun _ h => nomatch h)) (by decide))
    (sb_cons (n_set 4 ND (se_op o_mod ((sv_of (se_callT1 k_int (by rfl) T.n_int (by rfl) ((sv_of (se_op o_mul ((n_V 4)) ((sv_of (se_op o_add ((sv_of (se_op o_fdiv ((n_V 4)) ((sv_of se_int)) (fun _ h => by cases h; decide)))) ((sv_of se_int)) (fun _ h => nomatch h)))) (fun _ h => by cases h; decide)))) (by decide) (by decide) (by rfl) (by rfl)))) ((sv_of se_int)) (fun _ h => nomatch h)) (by decide))
    (sb_cons (n_set 4 ND (se_op o_mod ((sv_of (se_callT1 k_int (by rfl) T.n_int (by rfl) ((sv_of (se_op o_mul ((n_V 4)) ((sv_of (se_op o_add ((sv_of (se_op o_fdiv ((n_V 4)) ((sv_of se_int)) (fun _ h => by cases h; decide)))) ((sv_of se_int)) (fun _ h => nomatch h)))) (fun _ h => by cases h; decide)))) (by decide) (by decide) (by rfl) (by rfl)))) ((sv_of se_int)) (fun _ h => nomatch h)) (by decide))
    (sb_one (ss_ret (se_op o_mod ((sv_of (se_callT1 k_int (by rfl) T.n_int (by rfl) ((sv_of (se_op o_fdiv ((n_V 4)) ((sv_of se_int)) (fun _ h => by cases h; decide)))) (by decide) (by decide) (by rfl) (by rfl)))) ((n_V 1)) (fun _ h => nomatch h))))))))))
theorem ok__law_any (T : Tx K P mg Γ) : FnOk P w K mg base (L2.CX P w) 2 T.a__law_any T.d__law_any ["hand", "some"] (spF Γ [0] m__law_any) :=
  fn_ok T.F__law_any sc__law_any T.hK (by decide) (by decide) (fun _ => rfl) fun cdv A outer s H E hr => by
    have ND := sc__law_any.nd
    have hu := hr.uok
    have tk := takesF (P := P) (w := w) (K := K) (mg := mg) (base := base) (N := ["hand", "some"]) (qual := "_law_any") (scope := defScope s__law_any) (f := T.a__law_any) (cd := cdv) (A := A) (outer := outer) (s := s) (H := H) (E := E)
    have po := ownsF (P := P) (w := w) (K := K) (mg := mg) (base := base) (N := ["hand", "some"]) (qual := "_law_any") (scope := defScope s__law_any) (f := T.a__law_any) (cd := cdv) (A := A) (outer := outer) (s := s) (H := H) (E := E)
    exact (sb_one (ss_ret (se_ix hu.u1 ((sv_of (n_E 1))) ((sv_of (se_calH (n_P 0) (ok__law_draw T) (hr.mono (by decide)) (by rfl) T.g__law_draw T.F__law_draw.kp T.B__law_draw tk (sa_cons ((se_callB1 k_len (by rfl) T.n_len (by rfl) ((sv_of (n_E 1))) (by decide) (by decide) (by rfl) (by rfl))) (sa_nil) (by rfl)) (by decide) (by rfl) (by rfl)))) (fun _ h => nomatch h) (fun _ _ => rfl))))
theorem ok__law_rule (T : Tx K P mg Γ) : FnOk P w K mg base (L2.CX P w) 2 T.a__law_rule T.d__law_rule ["hand", "top"] (spF Γ [0] m__law_rule) :=
  fn_ok T.F__law_rule sc__law_rule T.hK (by decide) (by decide) (fun _ => rfl) fun cdv A outer s H E hr => by
    have ND := sc__law_rule.nd
    have hu := hr.uok
    have tk := takesF (P := P) (w := w) (K := K) (mg := mg) (base := base) (N := ["hand", "top", "last", "k"]) (qual := "_law_rule") (scope := defScope s__law_rule) (f := T.a__law_rule) (cd := cdv) (A := A) (outer := outer) (s := s) (H := H) (E := E)
    have po := ownsF (P := P) (w := w) (K := K) (mg := mg) (base := base) (N := ["hand", "top", "last", "k"]) (qual := "_law_rule") (scope := defScope s__law_rule) (f := T.a__law_rule) (cd := cdv) (A := A) (outer := outer) (s := s) (H := H) (E := E)
    exact (sb_cons (n_set 2 ND (se_op o_add ((sv_of se_int)) ((sv_of (se_calH (n_P 0) (ok__law_draw T) (hr.mono (by decide)) (by rfl) T.g__law_draw T.F__law_draw.kp T.B__law_draw tk (sa_cons ((n_E 1)) (sa_nil) (by rfl)) (by decide) (by rfl) (by rfl)))) (fun _ h => nomatch h)) (by decide))
    (sb_one (ss_ret (se_callT1 k_tup (by rfl) T.n_tuple (by rfl) ((sv_of (se_op o_add ((sv_of (se_lc (own := [("k", 3)]) rfl ND (si_rng2 (by rfl) T.n_range (sa_cons (se_int) ((sa_cons ((n_E 2)) (sa_nil) (by rfl))) (by rfl)) (by rfl) (by rfl)) (blkOk_by (by kernel_rfl)) (fun _ _ _ _ _ => (n_G 3 ND)) (fun _ _ _ _ _ => (sts_one (sc_cmp (o_eq hu.u64) ((sv_of (se_calH (n_P 0) (ok__law_draw T) (hr.mono (by decide)) (by rfl) T.g__law_draw T.F__law_draw.kp T.B__law_draw takes0 (sa_cons (se_int) (sa_nil) (by rfl)) (by decide) (by rfl) (by rfl)))) ((sv_of se_int)) (fun _ h => nomatch h) (by rfl)))) (fun _ _ _ _ _ => (n_E 3)) (fun _ => rfl) (by decide)))) ((sv_of (se_lst ((sa_cons ((n_E 2)) (sa_nil) (by rfl))) (by decide)))) (fun _ h => nomatch h)))) (by decide) (by decide) (by rfl) (by rfl)))))
theorem ok__law_bits (T : Tx K P mg Γ) : FnOk P w K mg base (L2.CX P w) 2 T.a__law_bits T.d__law_bits ["hand", "many"] (spF Γ [0] m__law_bits) :=
  fn_ok T.F__law_bits sc__law_bits T.hK (by decide) (by decide) (fun _ => rfl) fun cdv A outer s H E hr => by
    have ND := sc__law_bits.nd
    have hu := hr.uok
    have tk := takesF (P := P) (w := w) (K := K) (mg := mg) (base := base) (N := ["hand", "many", "k"]) (qual := "_law_bits") (scope := defScope s__law_bits) (f := T.a__law_bits) (cd := cdv) (A := A) (outer := outer) (s := s) (H := H) (E := E)
    have po := ownsF (P := P) (w := w) (K := K) (mg := mg) (base := base) (N := ["hand", "many", "k"]) (qual := "_law_bits") (scope := defScope s__law_bits) (f := T.a__law_bits) (cd := cdv) (A := A) (outer := outer) (s := s) (H := H) (E := E)
    exact (sb_one (ss_ret (se_callT1 k_tup (by rfl) T.n_tuple (by rfl) ((sv_of (se_lc (own := [("k", 2)]) rfl ND (si_rng1 (by rfl) T.n_range (sa_cons ((n_E 1)) (sa_nil) (by rfl)) (by rfl)) (blkOk_by (by kernel_rfl)) (fun _ _ _ _ _ => (n_G 2 ND)) (fun _ _ _ _ _ => sts_nil) (fun _ _ _ _ _ => (se_calH (n_P 0) (ok__law_draw T) (hr.mono (by decide)) (by rfl) T.g__law_draw T.F__law_draw.kp T.B__law_draw takes0 (sa_cons (se_int) (sa_nil) (by rfl)) (by decide) (by rfl) (by rfl))) (fun _ => rfl) (by decide)))) (by decide) (by decide) (by rfl) (by rfl))))
theorem ok__law_on (T : Tx K P mg Γ) : FnOk P w K mg base (L2.CX P w) 1 T.a__law_on T.d__law_on ["rule", "begin", "many"] (spF Γ [] m__law_on) :=
  fn_ok T.F__law_on sc__law_on T.hK (by decide) (by decide) (fun _ => rfl) fun cdv A outer s H E hr => by
    have ND := sc__law_on.nd
    have hu := hr.uok
    have tk := takesF (P := P) (w := w) (K := K) (mg := mg) (base := base) (N := ["rule", "begin", "many", "found", "turn", "k"]) (qual := "_law_on") (scope := defScope s__law_on) (f := T.a__law_on) (cd := cdv) (A := A) (outer := outer) (s := s) (H := H) (E := E)
    have po := ownsF (P := P) (w := w) (K := K) (mg := mg) (base := base) (N := ["rule", "begin", "many", "found", "turn", "k"]) (qual := "_law_on") (scope := defScope s__law_on) (f := T.a__law_on) (cd := cdv) (A := A) (outer := outer) (s := s) (H := H) (E := E)
    exact (sb_cons (n_set 3 ND (se_callT1 k_list (by rfl) T.n_list (by rfl) ((n_V 1)) (by decide) (by decide) (by rfl) (by rfl)) (by decide))
    (sb_cons (ss_for po rfl (si_rng1 (by rfl) T.n_range (sa_cons ((n_E 2)) (sa_nil) (by rfl)) (by rfl)) (n_G 4 ND) (sb_one (ss_expr (se_meth m_append PySem.F.plainAttrs_list PySem.F.slot_list_append PySem.F.type_list_append (sp_nm (n_P 3)) (sa_cons ((se_op o_mod ((sv_of (se_callT1 k_int (by rfl) T.n_int (by rfl) ((sv_of (se_callB1 (k_sum rfl) (by rfl) T.n_sum (by rfl) ((sv_of (se_lc (own := [("k", 5)]) rfl ND (si_seq (n_E 0)) (blkOk_by (by kernel_rfl)) (fun _ _ _ _ _ => (n_G 5 ND)) (fun _ _ _ _ _ => sts_nil) (fun _ _ _ _ _ => (se_ix hu.u1 ((n_V 3)) ((sv_of (se_op o_sub ((sv_of (se_callB1 k_len (by rfl) T.n_len (by rfl) ((n_V 3)) (by decide) (by decide) (by rfl) (by rfl)))) ((n_V 5)) (fun _ h => nomatch h)))) (fun _ h => by cases h; decide) (fun _ _ => rfl))) (fun _ => rfl) (by decide)))) (by decide) (by decide) (by rfl) (by rfl)))) (by decide) (by decide) (by rfl) (by rfl)))) ((sv_of se_int)) (fun _ h => nomatch h))) (sa_nil) (by rfl)) (by decide) (by rfl) (by rfl) (by rfl) (by rfl) (by rfl)) (by rfl))) (by decide) (fun _ => rfl))
    (sb_one (ss_ret (se_callT1 k_tup (by rfl) T.n_tuple (by rfl) ((n_V 3)) (by decide) (by decide) (by rfl) (by rfl))))))
theorem ok__law_period (T : Tx K P mg Γ) : FnOk P w K mg base (L2.CX P w) 2 T.a__law_period T.d__law_period ["rule", "begin"] (spF Γ [] m__law_period) :=
  fn_ok T.F__law_period sc__law_period T.hK (by decide) (by decide) (fun _ => rfl) fun cdv A outer s H E hr => by
    have ND := sc__law_period.nd
    have hu := hr.uok
    have tk := takesF (P := P) (w := w) (K := K) (mg := mg) (base := base) (N := ["rule", "begin", "row", "size", "step"]) (qual := "_law_period") (scope := defScope s__law_period) (f := T.a__law_period) (cd := cdv) (A := A) (outer := outer) (s := s) (H := H) (E := E)
    have po := ownsF (P := P) (w := w) (K := K) (mg := mg) (base := base) (N := ["rule", "begin", "row", "size", "step"]) (qual := "_law_period") (scope := defScope s__law_period) (f := T.a__law_period) (cd := cdv) (A := A) (outer := outer) (s := s) (H := H) (E := E)
    exact (sb_cons (ss_par (i := 2) (j := 3) rfl ND (by rfl) (by rfl) (by decide) (by rfl) (by rfl) (sa_cons ((se_cal (ok__law_on T) (hr.mono (by decide)) (by rfl) T.g__law_on T.F__law_on.kp T.B__law_on tk (sa_cons ((n_E 0)) ((sa_cons ((n_E 1)) ((sa_cons (se_int) (sa_nil) (by rfl))) (by rfl))) (by rfl)) (by decide) (by rfl) (by rfl))) ((sa_cons ((se_callB1 k_len (by rfl) T.n_len (by rfl) ((n_V 1)) (by decide) (by decide) (by rfl) (by rfl))) (sa_nil) (by rfl))) (by rfl)) (by decide) (by decide) (by rfl) (by rfl))
    (sb_cons (ss_for po rfl (si_rng2 (by rfl) T.n_range (sa_cons (se_int) ((sa_cons (se_int) (sa_nil) (by rfl))) (by rfl)) (by rfl) (by rfl)) (n_G 4 ND) (sb_one (ss_if (sc_cmp (o_eq hu.u64) ((sv_of (se_slice ((n_V 2)) ((so_some ((n_V 4)))) ((so_some ((sv_of (se_op o_add ((n_V 4)) ((n_V 3)) (fun _ h => by cases h; decide)))))) (fun _ h => by cases h; decide)))) ((sv_of (se_callT1 k_tup (by rfl) T.n_tuple (by rfl) ((n_V 1)) (by decide) (by decide) (by rfl) (by rfl)))) (fun _ h => nomatch h) (by rfl)) (sb_one (ss_ret (n_E 4))) sb_nil)) (by decide) (fun _ => rfl))
    (sb_one (ss_ret se_non))))
theorem ok__law_is_bits_right (T : Tx K P mg Γ) : FnOk P w K mg base (L2.CX P w) 2 T.a__law_is_bits_right T.d__law_is_bits_right ["told", "rule", "begin", "many"] (spF Γ [] m__law_is_bits_right) :=
  fn_ok T.F__law_is_bits_right sc__law_is_bits_right T.hK (by decide) (by decide) (fun _ => rfl) fun cdv A outer s H E hr => by
    have ND := sc__law_is_bits_right.nd
    have hu := hr.uok
    have tk := takesF (P := P) (w := w) (K := K) (mg := mg) (base := base) (N := ["told", "rule", "begin", "many"]) (qual := "_law_is_bits_right") (scope := defScope s__law_is_bits_right) (f := T.a__law_is_bits_right) (cd := cdv) (A := A) (outer := outer) (s := s) (H := H) (E := E)
    have po := ownsF (P := P) (w := w) (K := K) (mg := mg) (base := base) (N := ["told", "rule", "begin", "many"]) (qual := "_law_is_bits_right") (scope := defScope s__law_is_bits_right) (f := T.a__law_is_bits_right) (cd := cdv) (A := A) (outer := outer) (s := s) (H := H) (E := E)
    exact (sb_one (ss_ret (se_cmp (o_eq hu.u64) ((sv_of (se_callT1 k_tup (by rfl) T.n_tuple (by rfl) ((n_V 0)) (by decide) (by decide) (by rfl) (by rfl)))) ((sv_of (se_slice ((sv_of (se_cal (ok__law_on T) (hr.mono (by decide)) (by rfl) T.g__law_on T.F__law_on.kp T.B__law_on tk (sa_cons ((n_E 1)) ((sa_cons ((n_E 2)) ((sa_cons ((n_E 3)) (sa_nil) (by rfl))) (by rfl))) (by rfl)) (by decide) (by rfl) (by rfl)))) (so_none) ((so_some ((n_V 3)))) (fun _ h => nomatch h)))) (fun _ h => nomatch h) (by rfl))))
theorem ok__law_is_rule_right (T : Tx K P mg Γ) : FnOk P w K mg base (L2.CX P w) 5 T.a__law_is_rule_right T.d__law_is_rule_right ["hand", "rule"] (spF Γ [0] m__law_is_rule_right) :=
  fn_ok T.F__law_is_rule_right sc__law_is_rule_right T.hK (by decide) (by decide) (fun _ => rfl) fun cdv A outer s H E hr => by
    have ND := sc__law_is_rule_right.nd
    have hu := hr.uok
    have tk := takesF (P := P) (w := w) (K := K) (mg := mg) (base := base) (N := ["hand", "rule", "size", "many", "one", "other", "first", "second", "both", "step", "later", "a", "b"]) (qual := "_law_is_rule_right") (scope := defScope s__law_is_rule_right) (f := T.a__law_is_rule_right) (cd := cdv) (A := A) (outer := outer) (s := s) (H := H) (E := E)
    have po := ownsF (P := P) (w := w) (K := K) (mg := mg) (base := base) (N := ["hand", "rule", "size", "many", "one", "other", "first", "second", "both", "step", "later", "a", "b"]) (qual := "_law_is_rule_right") (scope := defScope s__law_is_rule_right) (f := T.a__law_is_rule_right) (cd := cdv) (A := A) (outer := outer) (s := s) (H := H) (E := E)
    exact (sb_cons (ss_par (i := 2) (j := 3) rfl ND (by rfl) (by rfl) (by decide) (by rfl) (by rfl) (sa_cons ((se_ix hu.u1 ((n_V 1)) ((sv_of (se_un o_neg ((sv_of se_int))))) (fun _ h => by cases h; decide) (fun _ _ => rfl))) ((sa_cons ((se_op o_add ((sv_of se_int)) ((sv_of (se_calH (n_P 0) (ok__law_draw T) (hr.mono (by decide)) (by rfl) T.g__law_draw T.F__law_draw.kp T.B__law_draw tk (sa_cons (se_int) (sa_nil) (by rfl)) (by decide) (by rfl) (by rfl)))) (fun _ h => nomatch h))) (sa_nil) (by rfl))) (by rfl)) (by decide) (by decide) (by rfl) (by rfl))
    (sb_cons (ss_par (i := 4) (j := 5) rfl ND (by rfl) (by rfl) (by decide) (by rfl) (by rfl) (sa_cons ((se_calH (n_P 0) (ok__law_bits T) (hr.mono (by decide)) (by rfl) T.g__law_bits T.F__law_bits.kp T.B__law_bits tk (sa_cons ((n_E 2)) (sa_nil) (by rfl)) (by decide) (by rfl) (by rfl))) ((sa_cons ((se_calH (n_P 0) (ok__law_bits T) (hr.mono (by decide)) (by rfl) T.g__law_bits T.F__law_bits.kp T.B__law_bits tk (sa_cons ((n_E 2)) (sa_nil) (by rfl)) (by decide) (by rfl) (by rfl))) (sa_nil) (by rfl))) (by rfl)) (by decide) (by decide) (by rfl) (by rfl))
    (sb_cons (ss_par (i := 6) (j := 7) rfl ND (by rfl) (by rfl) (by decide) (by rfl) (by rfl) (sa_cons ((se_cal (ok_by_rule T) (hr.mono (by decide)) (by rfl) T.g_by_rule T.F_by_rule.kp T.B_by_rule tk (sa_cons ((n_E 1)) ((sa_cons ((n_E 4)) ((sa_cons ((n_E 3)) (sa_nil) (by rfl))) (by rfl))) (by rfl)) (by decide) (by rfl) (by rfl))) ((sa_cons ((se_cal (ok_by_rule T) (hr.mono (by decide)) (by rfl) T.g_by_rule T.F_by_rule.kp T.B_by_rule tk (sa_cons ((n_E 1)) ((sa_cons ((n_E 5)) ((sa_cons ((n_E 3)) (sa_nil) (by rfl))) (by rfl))) (by rfl)) (by decide) (by rfl) (by rfl))) (sa_nil) (by rfl))) (by rfl)) (by decide) (by decide) (by rfl) (by rfl))
    (sb_cons (ss_if (sc_w (sw_or (sc_not (sc_val (se_cal (ok__law_is_bits_right T) (hr.mono (by decide)) (by rfl) T.g__law_is_bits_right T.F__law_is_bits_right.kp T.B__law_is_bits_right tk (sa_cons ((n_E 6)) ((sa_cons ((n_E 1)) ((sa_cons ((n_E 4)) ((sa_cons ((n_E 3)) (sa_nil) (by rfl))) (by rfl))) (by rfl))) (by rfl)) (by decide) (by rfl) (by rfl)) (fun _ => rfl))) (sw_or1 (sc_not (sc_val (se_cal (ok__law_is_bits_right T) (hr.mono (by decide)) (by rfl) T.g__law_is_bits_right T.F__law_is_bits_right.kp T.B__law_is_bits_right tk (sa_cons ((n_E 7)) ((sa_cons ((n_E 1)) ((sa_cons ((n_E 5)) ((sa_cons ((n_E 3)) (sa_nil) (by rfl))) (by rfl))) (by rfl))) (by rfl)) (by decide) (by rfl) (by rfl)) (fun _ => rfl)))))) (sb_one (ss_ret se_bl)) sb_nil)
    (sb_cons (n_set 8 ND (se_callT1 k_tup (by rfl) T.n_tuple (by rfl) ((sv_of (se_lc (own := [("a", 11), ("b", 12)]) rfl ND (si_zip (by rfl) T.n_zip (sa_cons ((n_E 4)) ((sa_cons ((n_E 5)) (sa_nil) (by rfl))) (by rfl)) (by rfl) (by rfl)) (blkOk_by (by kernel_rfl)) (fun _ _ _ _ _ => (sg_tup rfl (sgs_cons (n_G 11 ND) (sgs_cons (n_G 12 ND) sgs_nil (by rfl)) (by rfl)) (by rfl) (by rfl))) (fun _ _ _ _ _ => sts_nil) (fun _ _ _ _ _ => (se_op o_mod ((sv_of (se_callT1 k_int (by rfl) T.n_int (by rfl) ((sv_of (se_op o_add ((n_V 11)) ((n_V 12)) (fun _ h => by cases h; decide)))) (by decide) (by decide) (by rfl) (by rfl)))) ((sv_of se_int)) (fun _ h => nomatch h))) (fun _ => rfl) (by decide)))) (by decide) (by decide) (by rfl) (by rfl)) (by decide))
    (sb_cons (ss_if (sc_cmp (o_ne hu.u64) ((sv_of (se_callT1 k_tup (by rfl) T.n_tuple (by rfl) ((sv_of (se_cal (ok_by_rule T) (hr.mono (by decide)) (by rfl) T.g_by_rule T.F_by_rule.kp T.B_by_rule tk (sa_cons ((n_E 1)) ((sa_cons ((n_E 8)) ((sa_cons ((n_E 3)) (sa_nil) (by rfl))) (by rfl))) (by rfl)) (by decide) (by rfl) (by rfl)))) (by decide) (by decide) (by rfl) (by rfl)))) ((sv_of (se_callT1 k_tup (by rfl) T.n_tuple (by rfl) ((sv_of (se_lc (own := [("a", 11), ("b", 12)]) rfl ND (si_zip (by rfl) T.n_zip (sa_cons ((n_E 6)) ((sa_cons ((n_E 7)) (sa_nil) (by rfl))) (by rfl)) (by rfl) (by rfl)) (blkOk_by (by kernel_rfl)) (fun _ _ _ _ _ => (sg_tup rfl (sgs_cons (n_G 11 ND) (sgs_cons (n_G 12 ND) sgs_nil (by rfl)) (by rfl)) (by rfl) (by rfl))) (fun _ _ _ _ _ => sts_nil) (fun _ _ _ _ _ => (se_op o_mod ((sv_of (se_callT1 k_int (by rfl) T.n_int (by rfl) ((sv_of (se_op o_add ((n_V 11)) ((n_V 12)) (fun _ h => by cases h; decide)))) (by decide) (by decide) (by rfl) (by rfl)))) ((sv_of se_int)) (fun _ h => nomatch h))) (fun _ => rfl) (by decide)))) (by decide) (by decide) (by rfl) (by rfl)))) (fun _ h => nomatch h) (by rfl)) (sb_one (ss_ret se_bl)) sb_nil)
    (sb_cons (ss_if (sc_w (sw_or (sc_cmp (o_ne hu.u64) ((sv_of (se_cal (ok_period T) (hr.mono (by decide)) (by rfl) T.g_period T.F_period.kp T.B_period tk (sa_cons ((n_E 1)) ((sa_cons ((n_E 4)) (sa_nil) (by rfl))) (by rfl)) (by decide) (by rfl) (by rfl)))) ((sv_of (se_cal (ok__law_period T) (hr.mono (by decide)) (by rfl) T.g__law_period T.F__law_period.kp T.B__law_period tk (sa_cons ((n_E 1)) ((sa_cons ((n_E 4)) (sa_nil) (by rfl))) (by rfl)) (by decide) (by rfl) (by rfl)))) (fun _ h => nomatch h) (by rfl)) (sw_or1 (sc_cmp (o_ne hu.u64) ((sv_of (se_cal (ok_period T) (hr.mono (by decide)) (by rfl) T.g_period T.F_period.kp T.B_period tk (sa_cons ((n_E 1)) ((sa_cons ((se_op o_mul ((sv_of (se_tup ((sa_cons (se_int) (sa_nil) (by rfl))) (by decide)))) ((n_V 2)) (fun _ h => nomatch h))) (sa_nil) (by rfl))) (by rfl)) (by decide) (by rfl) (by rfl)))) ((sv_of se_int)) (fun _ h => nomatch h) (by rfl))))) (sb_one (ss_ret se_bl)) sb_nil)
    (sb_cons (n_set 9 ND (se_calH (n_P 0) (ok__law_draw T) (hr.mono (by decide)) (by rfl) T.g__law_draw T.F__law_draw.kp T.B__law_draw tk (sa_cons (se_int) (sa_nil) (by rfl)) (by decide) (by rfl) (by rfl)) (by decide))
    (sb_cons (n_set 10 ND (se_slice ((sv_of (se_cal (ok__law_on T) (hr.mono (by decide)) (by rfl) T.g__law_on T.F__law_on.kp T.B__law_on tk (sa_cons ((n_E 1)) ((sa_cons ((n_E 4)) ((sa_cons ((n_E 9)) (sa_nil) (by rfl))) (by rfl))) (by rfl)) (by decide) (by rfl) (by rfl)))) ((so_some ((n_V 9)))) ((so_some ((sv_of (se_op o_add ((n_V 9)) ((n_V 2)) (fun _ h => by cases h; decide)))))) (fun _ h => nomatch h)) (by decide))
    (sb_one (ss_ret (se_cmp (o_eq hu.u64) ((sv_of (se_cal (ok_period T) (hr.mono (by decide)) (by rfl) T.g_period T.F_period.kp T.B_period tk (sa_cons ((n_E 1)) ((sa_cons ((n_E 10)) (sa_nil) (by rfl))) (by rfl)) (by decide) (by rfl) (by rfl)))) ((sv_of (se_cal (ok_period T) (hr.mono (by decide)) (by rfl) T.g_period T.F_period.kp T.B_period tk (sa_cons ((n_E 1)) ((sa_cons ((n_E 4)) (sa_nil) (by rfl))) (by rfl)) (by decide) (by rfl) (by rfl)))) (fun _ h => nomatch h) (by rfl)))))))))))))
theorem ok__law_all (T : Tx K P mg Γ) : FnOk P w K mg base (L2.CX P w) 1 T.a__law_all T.d__law_all ["size"] (spF Γ [] m__law_all) :=
  fn_ok T.F__law_all sc__law_all T.hK (by decide) (by decide) (fun _ => rfl) fun cdv A outer s H E hr => by
    have ND := sc__law_all.nd
    have hu := hr.uok
    have tk := takesF (P := P) (w := w) (K := K) (mg := mg) (base := base) (N := ["size", "found", "turn"]) (qual := "_law_all") (scope := defScope s__law_all) (f := T.a__law_all) (cd := cdv) (A := A) (outer := outer) (s := s) (H := H) (E := E)
    have po := ownsF (P := P) (w := w) (K := K) (mg := mg) (base := base) (N := ["size", "found", "turn"]) (qual := "_law_all") (scope := defScope s__law_all) (f := T.a__law_all) (cd := cdv) (A := A) (outer := outer) (s := s) (H := H) (E := E)
    exact (sb_cons (n_set 1 ND se_int (by decide))
    (sb_cons (ss_for po rfl (si_rng1 (by rfl) T.n_range (sa_cons ((n_E 0)) (sa_nil) (by rfl)) (by rfl)) (n_G 2 ND) (sb_one (n_set 1 ND (se_op o_mul ((n_V 1)) ((sv_of se_int)) (fun _ h => by cases h; decide)) (by decide))) (by decide) (fun _ => rfl))
    (sb_one (ss_ret (se_op o_sub ((n_V 1)) ((sv_of se_int)) (fun _ h => by cases h; decide))))))
theorem ok__law_is_longest (T : Tx K P mg Γ) : FnOk P w K mg base (L2.CX P w) 3 T.a__law_is_longest T.d__law_is_longest ["rule"] (spF Γ [] m__law_is_longest) :=
  fn_ok T.F__law_is_longest sc__law_is_longest T.hK (by decide) (by decide) (fun _ => rfl) fun cdv A outer s H E hr => by
    have ND := sc__law_is_longest.nd
    have hu := hr.uok
    have tk := takesF (P := P) (w := w) (K := K) (mg := mg) (base := base) (N := ["rule", "size"]) (qual := "_law_is_longest") (scope := defScope s__law_is_longest) (f := T.a__law_is_longest) (cd := cdv) (A := A) (outer := outer) (s := s) (H := H) (E := E)
    have po := ownsF (P := P) (w := w) (K := K) (mg := mg) (base := base) (N := ["rule", "size"]) (qual := "_law_is_longest") (scope := defScope s__law_is_longest) (f := T.a__law_is_longest) (cd := cdv) (A := A) (outer := outer) (s := s) (H := H) (E := E)
    exact (sb_cons (n_set 1 ND (se_ix hu.u1 ((n_V 0)) ((sv_of (se_un o_neg ((sv_of se_int))))) (fun _ h => by cases h; decide) (fun _ _ => rfl)) (by decide))
    (sb_one (ss_ret (se_cmp (o_eq hu.u64) ((sv_of (se_cal (ok__law_period T) (hr.mono (by decide)) (by rfl) T.g__law_period T.F__law_period.kp T.B__law_period tk (sa_cons ((n_E 0)) ((sa_cons ((se_op o_add ((sv_of (se_op o_mul ((sv_of (se_tup ((sa_cons (se_int) (sa_nil) (by rfl))) (by decide)))) ((sv_of (se_op o_sub ((n_V 1)) ((sv_of se_int)) (fun _ h => by cases h; decide)))) (fun _ h => nomatch h)))) ((sv_of (se_tup ((sa_cons (se_int) (sa_nil) (by rfl))) (by decide)))) (fun _ h => nomatch h))) (sa_nil) (by rfl))) (by rfl)) (by decide) (by rfl) (by rfl)))) ((sv_of (se_cal (ok__law_all T) (hr.mono (by decide)) (by rfl) T.g__law_all T.F__law_all.kp T.B__law_all tk (sa_cons ((n_E 1)) (sa_nil) (by rfl)) (by decide) (by rfl) (by rfl)))) (fun _ h => nomatch h) (by rfl)))))
theorem ok__law_rules (T : Tx K P mg Γ) : FnOk P w K mg base (L2.CX P w) 1 T.a__law_rules T.d__law_rules ["size"] (spF Γ [] m__law_rules) :=
  fn_ok T.F__law_rules sc__law_rules T.hK (by decide) (by decide) (fun _ => rfl) fun cdv A outer s H E hr => by
    have ND := sc__law_rules.nd
    have hu := hr.uok
    have tk := takesF (P := P) (w := w) (K := K) (mg := mg) (base := base) (N := ["size", "found", "step", "rule"]) (qual := "_law_rules") (scope := defScope s__law_rules) (f := T.a__law_rules) (cd := cdv) (A := A) (outer := outer) (s := s) (H := H) (E := E)
    have po := ownsF (P := P) (w := w) (K := K) (mg := mg) (base := base) (N := ["size", "found", "step", "rule"]) (qual := "_law_rules") (scope := defScope s__law_rules) (f := T.a__law_rules) (cd := cdv) (A := A) (outer := outer) (s := s) (H := H) (E := E)
    exact (sb_cons (n_set 1 ND (se_lst ((sa_cons ((se_tup (sa_nil) (by decide))) (sa_nil) (by rfl))) (by decide)) (by decide))
    (sb_cons (ss_for po rfl (si_rng2 (by rfl) T.n_range (sa_cons (se_int) ((sa_cons ((n_E 0)) (sa_nil) (by rfl))) (by rfl)) (by rfl) (by rfl)) (n_G 2 ND) (sb_one (n_set 1 ND (se_op o_add ((sv_of (n_E 1))) ((sv_of (se_lc (own := [("rule", 3)]) rfl ND (si_seq (n_E 1)) (blkOk_by (by kernel_rfl)) (fun _ _ _ _ _ => (n_G 3 ND)) (fun _ _ _ _ _ => sts_nil) (fun _ _ _ _ _ => (se_op o_add ((n_V 3)) ((sv_of (se_tup ((sa_cons ((n_E 2)) (sa_nil) (by rfl))) (by decide)))) (fun _ h => by cases h; decide))) (fun _ => rfl) (by decide)))) (fun _ h => nomatch h)) (by decide))) (by decide) (fun _ => rfl))
    (sb_one (ss_ret (se_lc (own := [("rule", 3)]) rfl ND (si_seq (n_E 1)) (blkOk_by (by kernel_rfl)) (fun _ _ _ _ _ => (n_G 3 ND)) (fun _ _ _ _ _ => sts_nil) (fun _ _ _ _ _ => (se_op o_add ((n_V 3)) ((sv_of (se_tup ((sa_cons ((n_E 0)) (sa_nil) (by rfl))) (by decide)))) (fun _ h => by cases h; decide))) (fun _ => rfl) (by decide))))))
theorem ok__law_is_round_right (T : Tx K P mg Γ) : FnOk P w K mg base (L2.CX P w) 6 T.a__law_is_round_right T.d__law_is_round_right ["hand", "rule"] (spF Γ [0] m__law_is_round_right) :=
  fn_ok T.F__law_is_round_right sc__law_is_round_right T.hK (by decide) (by decide) (fun _ => rfl) fun cdv A outer s H E hr => by
    have ND := sc__law_is_round_right.nd
    have hu := hr.uok
    have tk := takesF (P := P) (w := w) (K := K) (mg := mg) (base := base) (N := ["hand", "rule", "size", "due", "begin", "many", "row", "wide", "windows_here", "signs_here", "k"]) (qual := "_law_is_round_right") (scope := defScope s__law_is_round_right) (f := T.a__law_is_round_right) (cd := cdv) (A := A) (outer := outer) (s := s) (H := H) (E := E)
    have po := ownsF (P := P) (w := w) (K := K) (mg := mg) (base := base) (N := ["hand", "rule", "size", "due", "begin", "many", "row", "wide", "windows_here", "signs_here", "k"]) (qual := "_law_is_round_right") (scope := defScope s__law_is_round_right) (f := T.a__law_is_round_right) (cd := cdv) (A := A) (outer := outer) (s := s) (H := H) (E := E)
    exact (sb_cons (n_set 2 ND (se_ix hu.u1 ((n_V 1)) ((sv_of (se_un o_neg ((sv_of se_int))))) (fun _ h => by cases h; decide) (fun _ _ => rfl)) (by decide))
    (sb_cons (n_set 3 ND (se_cal (ok__law_is_longest T) (hr.mono (by decide)) (by rfl) T.g__law_is_longest T.F__law_is_longest.kp T.B__law_is_longest tk (sa_cons ((n_E 1)) (sa_nil) (by rfl)) (by decide) (by rfl) (by rfl)) (by decide))
    (sb_cons (ss_if (sc_cmp (o_ne hu.u64) ((sv_of (se_cal (ok_is_longest T) (hr.mono (by decide)) (by rfl) T.g_is_longest T.F_is_longest.kp T.B_is_longest tk (sa_cons ((n_E 1)) ((sa_cons ((n_E 2)) (sa_nil) (by rfl))) (by rfl)) (by decide) (by rfl) (by rfl)))) ((n_V 3)) (fun _ h => nomatch h) (by rfl)) (sb_one (ss_ret se_bl)) sb_nil)
    (sb_cons (ss_if (sc_not (sc_val (n_E 3) (fun _ => rfl))) (sb_one (ss_ret se_bl)) sb_nil)
    (sb_cons (n_set 4 ND (se_op o_add ((sv_of (se_op o_mul ((sv_of (se_tup ((sa_cons (se_int) (sa_nil) (by rfl))) (by decide)))) ((sv_of (se_op o_sub ((n_V 2)) ((sv_of se_int)) (fun _ h => by cases h; decide)))) (fun _ h => nomatch h)))) ((sv_of (se_tup ((sa_cons (se_int) (sa_nil) (by rfl))) (by decide)))) (fun _ h => nomatch h)) (by decide))
    (sb_cons (n_set 5 ND (se_cal (ok__law_all T) (hr.mono (by decide)) (by rfl) T.g__law_all T.F__law_all.kp T.B__law_all tk (sa_cons ((n_E 2)) (sa_nil) (by rfl)) (by decide) (by rfl) (by rfl)) (by decide))
    (sb_cons (n_set 6 ND (se_slice ((sv_of (se_cal (ok__law_on T) (hr.mono (by decide)) (by rfl) T.g__law_on T.F__law_on.kp T.B__law_on tk (sa_cons ((n_E 1)) ((sa_cons ((n_E 4)) ((sa_cons ((n_E 5)) (sa_nil) (by rfl))) (by rfl))) (by rfl)) (by decide) (by rfl) (by rfl)))) (so_none) ((so_some ((n_V 5)))) (fun _ h => nomatch h)) (by decide))
    (sb_cons (ss_if (sc_w (sw_or (sc_cmp (o_ne hu.u64) ((sv_of (se_cal (ok_period T) (hr.mono (by decide)) (by rfl) T.g_period T.F_period.kp T.B_period tk (sa_cons ((n_E 1)) ((sa_cons ((n_E 4)) (sa_nil) (by rfl))) (by rfl)) (by decide) (by rfl) (by rfl)))) ((n_V 5)) (fun _ h => nomatch h) (by rfl)) (sw_or1 (sc_cmp (o_ne hu.u64) ((sv_of (se_callB1 (k_sum rfl) (by rfl) T.n_sum (by rfl) ((n_V 6)) (by decide) (by decide) (by rfl) (by rfl)))) ((sv_of (se_op o_fdiv ((sv_of (se_op o_add ((n_V 5)) ((sv_of se_int)) (fun _ h => by cases h; decide)))) ((sv_of se_int)) (fun _ h => nomatch h)))) (fun _ h => nomatch h) (by rfl))))) (sb_one (ss_ret se_bl)) sb_nil)
    (sb_cons (n_set 7 ND (se_op o_add ((n_V 6)) ((sv_of (se_slice ((n_V 6)) (so_none) ((so_some ((n_V 2)))) (fun _ h => by cases h; decide)))) (fun _ h => by cases h; decide)) (by decide))
    (sb_cons (n_set 8 ND (se_callT1 (k_dictP rfl hu.u8) (by rfl) T.n_dict (by rfl) ((sv_of (se_lc (own := [("k", 10)]) rfl ND (si_rng1 (by rfl) T.n_range (sa_cons ((n_E 5)) (sa_nil) (by rfl)) (by rfl)) (blkOk_by (by kernel_rfl)) (fun _ _ _ _ _ => (n_G 10 ND)) (fun _ _ _ _ _ => sts_nil) (fun _ _ _ _ _ => (se_tup ((sa_cons ((se_slice ((n_V 7)) ((so_some ((n_V 10)))) ((so_some ((sv_of (se_op o_add ((n_V 10)) ((n_V 2)) (fun _ h => by cases h; decide)))))) (fun _ h => by cases h; decide))) ((sa_cons (se_bl) (sa_nil) (by rfl))) (by rfl))) (by decide))) (fun _ => rfl) (by decide)))) (by decide) (by decide) (by rfl) (by rfl)) (by decide))
    (sb_cons (ss_if (sc_w (sw_or (sc_cmp (o_ne hu.u64) ((sv_of (se_callB1 k_len (by rfl) T.n_len (by rfl) ((n_V 8)) (by decide) (by decide) (by rfl) (by rfl)))) ((n_V 5)) (fun _ h => nomatch h) (by rfl)) (sw_or1 (sc_cmp (o_inX hu.u65) ((sv_of (se_op o_mul ((sv_of (se_tup ((sa_cons (se_int) (sa_nil) (by rfl))) (by decide)))) ((n_V 2)) (fun _ h => nomatch h)))) ((n_V 8)) (fun _ h => nomatch h) (by rfl))))) (sb_one (ss_ret se_bl)) sb_nil)
    (sb_cons (ss_if (sc_cmp o_gt ((n_V 5)) ((sv_of se_int)) (fun _ h => by cases h; decide) (by rfl)) (sb_one (ss_ret se_bl)) sb_nil)
    (sb_cons (n_set 9 ND (se_cal (ok_signs_of T) (hr.mono (by decide)) (by rfl) T.g_signs_of T.F_signs_of.kp T.B_signs_of tk (sa_cons ((n_E 6)) (sa_nil) (by rfl)) (by decide) (by rfl) (by rfl)) (by decide))
    (sb_one (ss_ret (se_and ((se_cmp (o_eq hu.u64) ((sv_of (se_cal (ok_ring_sums T) (hr.mono (by decide)) (by rfl) T.g_ring_sums T.F_ring_sums.kp T.B_ring_sums tk (sa_cons ((n_E 9)) (sa_nil) (by rfl)) (by decide) (by rfl) (by rfl)))) ((sv_of (se_op o_add ((sv_of (se_lst ((sa_cons ((n_E 5)) (sa_nil) (by rfl))) (by decide)))) ((sv_of (se_op o_mul ((sv_of (se_lst ((sa_cons ((se_un o_neg ((sv_of se_int)))) (sa_nil) (by rfl))) (by decide)))) ((sv_of (se_op o_sub ((n_V 5)) ((sv_of se_int)) (fun _ h => by cases h; decide)))) (fun _ h => nomatch h)))) (fun _ h => nomatch h)))) (fun _ h => nomatch h) (by rfl))) ((se_one (se_cmp o_is ((sv_of (se_cal (ok_is_even_round T) (hr.mono (by decide)) (by rfl) T.g_is_even_round T.F_is_even_round.kp T.B_is_even_round tk (sa_cons ((n_E 9)) (sa_nil) (by rfl)) (by decide) (by rfl) (by rfl)))) ((sv_of se_bl)) (fun _ h => nomatch h) (by rfl))))))))))))))))))))
theorem ok__law_is_first_right (T : Tx K P mg Γ) : FnOk P w K mg base (L2.CX P w) 6 T.a__law_is_first_right T.d__law_is_first_right ["hand"] (spF Γ [0] m__law_is_first_right) :=
  fn_ok T.F__law_is_first_right sc__law_is_first_right T.hK (by decide) (by decide) (fun _ => rfl) fun cdv A outer s H E hr => by
    have ND := sc__law_is_first_right.nd
    have hu := hr.uok
    have tk := takesF (P := P) (w := w) (K := K) (mg := mg) (base := base) (N := ["hand", "size", "told", "every", "rule"]) (qual := "_law_is_first_right") (scope := defScope s__law_is_first_right) (f := T.a__law_is_first_right) (cd := cdv) (A := A) (outer := outer) (s := s) (H := H) (E := E)
    have po := ownsF (P := P) (w := w) (K := K) (mg := mg) (base := base) (N := ["hand", "size", "told", "every", "rule"]) (qual := "_law_is_first_right") (scope := defScope s__law_is_first_right) (f := T.a__law_is_first_right) (cd := cdv) (A := A) (outer := outer) (s := s) (H := H) (E := E)
    exact (sb_cons (n_set 1 ND (se_op o_add ((sv_of se_int)) ((sv_of (se_calH (n_P 0) (ok__law_draw T) (hr.mono (by decide)) (by rfl) T.g__law_draw T.F__law_draw.kp T.B__law_draw tk (sa_cons (se_int) (sa_nil) (by rfl)) (by decide) (by rfl) (by rfl)))) (fun _ h => nomatch h)) (by decide))
    (sb_cons (ss_par (i := 2) (j := 3) rfl ND (by rfl) (by rfl) (by decide) (by rfl) (by rfl) (sa_cons ((se_cal (ok_first_longest T) (hr.mono (by decide)) (by rfl) T.g_first_longest T.F_first_longest.kp T.B_first_longest tk (sa_cons ((n_E 1)) (sa_nil) (by rfl)) (by decide) (by rfl) (by rfl))) ((sa_cons ((se_lc (own := [("rule", 4)]) rfl ND (si_seq (se_cal (ok__law_rules T) (hr.mono (by decide)) (by rfl) T.g__law_rules T.F__law_rules.kp T.B__law_rules tk (sa_cons ((n_E 1)) (sa_nil) (by rfl)) (by decide) (by rfl) (by rfl))) (blkOk_by (by kernel_rfl)) (fun _ _ _ _ _ => (n_G 4 ND)) (fun _ _ _ _ _ => (sts_one (sc_val (se_cal (ok__law_is_longest T) (hr.mono (by decide)) (by rfl) T.g__law_is_longest T.F__law_is_longest.kp T.B__law_is_longest takes0 (sa_cons ((n_E 4)) (sa_nil) (by rfl)) (by decide) (by rfl) (by rfl)) (fun _ => rfl)))) (fun _ _ _ _ _ => (n_E 4)) (fun _ => rfl) (by decide))) (sa_nil) (by rfl))) (by rfl)) (by decide) (by decide) (by rfl) (by rfl))
    (sb_one (ss_ret (se_and ((se_cmp o_is ((sv_of (se_cal (ok_is_longest T) (hr.mono (by decide)) (by rfl) T.g_is_longest T.F_is_longest.kp T.B_is_longest tk (sa_cons ((n_E 2)) ((sa_cons ((n_E 1)) (sa_nil) (by rfl))) (by rfl)) (by decide) (by rfl) (by rfl)))) ((sv_of se_bl)) (fun _ h => nomatch h) (by rfl))) ((se_one (se_cmp (o_eq hu.u64) ((n_V 2)) ((sv_ix hu.u1 ((n_V 3)) ((sv_of se_int)) (by decide) (fun _ _ => rfl))) (fun _ h => by cases h; decide) (by rfl)))))))))
theorem hdo__law_word : ∀ f act, endsF (gw__law_word f act (argD 3 [.rf f])) = go__law_word act := fun f act => by
  cases act <;> simp [gw__law_word, go__law_word, sTryA, argD, sSeq, sNil, sPass, sBreak, sCont, sExpr, sRet, sRetN, sSet, dput, sIf, sAsg, sPar, gSet, gTup', gCons', gNil', aNil, aCons, eTup, eLst, eC, eNm, eLk, ev1, ev2, eIf, eAnd, eOr, eChain, cVal, cAnd, cOr, cNot, eSl, oNone, oSome, eRm, lft, SOut.unset, endsF]
theorem hind__law_word : ∀ (a : Addr) (c : Nat), csB c = some true → (gh__law_word a c ((List.replicate 3 none).set 1 (some (.rf a)))).unset 1 = (gh__law_word 0 c ((List.replicate 3 none).set 1 (some (.rf 0)))).unset 1 := by
  intro a c hc
  rcases csB_mem hc with rfl | rfl <;> simp [gh__law_word, eIsF, kB_NoSequence, kB_NoNumber, kB_ValueError, sSeq, sNil, sPass, sBreak, sCont, sExpr, sRet, sRetN, sSet, dput, sIf, sAsg, sPar, gSet, gTup', gCons', gNil', aNil, aCons, eTup, eLst, eC, eNm, eLk, ev1, ev2, eIf, eAnd, eOr, eChain, cVal, cAnd, cOr, cNot, eSl, oNone, oSome, eRm, lft, SOut.unset, endsF, dCount, D.fls, D.fl1, dIx, dIxA, nOwn, D.own, tyR, List.countP_cons, List.countP_nil, eqV, eqU, dNe, dEq, D.eqOk, D.eqb, atI, ixN]
theorem gv__law_word {X : Cx} {Γ : Gm} (T : Tx X.K X.prog X.mg Γ) {g : Addr} {cdg : Value} {q : Str} {k : Nat} (hrX : Room k X.A) (hK : X.K = Γ.K) : LamX.GivesTo X ["call", "fault", "flags"] "_law_word" (defScope s__law_word) g cdg (defBody s__law_word) "call" q (TTpv Γ go__law_word) :=
  gives_pv (gw := gw__law_word) (by decide) hdo__law_word hK fun f c' s H fb Wb σm slc gr tl hsub hcode C htl act => by
    have ND := sc__law_word.nd
    have hu := hrX.uokd (envOfC "_law_word" (defScope s__law_word) s.heap.objs.size g cdg)
    exact sb_cons (try_core (k := false) (n := 3) (i := 1) (cs := csB) (gh := gh__law_word) (x := "BlockError") (cv := .ref T.k_BlockError) rfl rfl ND rfl rfl ⟨by rfl, by decide, .inl T.g_BlockError⟩ takes0 rfl (fun c hc => ⟨T.ex_m c hc, T.ex_fl c hc⟩) hsub hcode C htl (fun W pn xe tk => (tryE (fun E hW => act W pn xe E _ _ tk hW) (by rfl))) (fun a oe c pn hc hz hf => (sb_cons (n_set 2 ND (se_lst ((sa_cons ((se_isF (cv := .ref T.k_NoSequence) (T.ex_ok c hc) hz hf (by rfl) T.n_isinstance (by rfl) (by decide) (by decide) (n_P 1) (pe_glob (v := .ref T.k_NoSequence) (by rfl) T.g_NoSequence rfl) (fun _ h => h) (T.kit_NoSequence c hc) (by rfl) (by rfl) (by rfl))) ((sa_cons ((se_isF (cv := .ref T.k_NoNumber) (T.ex_ok c hc) hz hf (by rfl) T.n_isinstance (by rfl) (by decide) (by decide) (n_P 1) (pe_glob (v := .ref T.k_NoNumber) (by rfl) T.g_NoNumber rfl) (fun _ h => h) (T.kit_NoNumber c hc) (by rfl) (by rfl) (by rfl))) (sa_nil) (by rfl))) (by rfl))) (by decide)) (by decide))
    (sb_cons (ss_if (sc_w (sw_or (sc_cmp (o_ne hu.u64) ((sv_of (se_rm r_count PySem.F.plainAttrs_list PySem.F.slot_list_count PySem.F.type_list_count ((n_V 2)) ((sv_of se_bl)) (fun _ h => by cases h; decide) (by rfl) (by rfl) (by rfl) (by rfl) (by rfl)))) ((sv_of se_int)) (fun _ h => nomatch h) (by rfl)) (sw_or1 (sc_not (sc_val (se_isF (cv := .type "ValueError") (T.ex_ok c hc) hz hf (by rfl) T.n_isinstance (by rfl) (by decide) (by decide) (n_P 1) (pe_ty (by rfl) T.n_ValueError (by rfl)) (fun _ h => h) (T.kit_ValueError c hc) (by rfl) (by rfl) (by rfl)) (fun _ => rfl)))))) (sb_one (ss_ret se_str)) sb_nil)
    (sb_one (ss_ret (se_if ((sc_val (se_ix hu.u1 ((n_V 2)) ((sv_of se_int)) (fun _ h => by cases h; decide) (fun _ _ => rfl)) (fun _ => rfl))) (se_str) (se_str))))))) hind__law_word) (sb_one (ss_ret se_str))
theorem ok__law_two (T : Tx K P mg Γ) (TB : TxB T base) : FnOk P w K mg base (L2.CX P w) 7 T.a__law_two T.d__law_two ["rule", "begin"] (spF Γ [] m__law_two) :=
  fn_okC T.FC__law_two sc__law_two T.hK (by decide) (by decide) (fun _ => rfl) fun A outer s H E hr => by
    let cdv : Value := .ref T.c__law_two
    obtain ⟨oc__law_word, od__law_word, kV__law_word, doc__law_word, pm__law_word, an__law_word, cdv__law_word, ct__law_word, osl__law_word, efd__law_word, lk__law_word, hcg__law_word⟩ := T.F__law_word.ex
    have bW__law_word := T.B__law_word
    rw [efd__law_word] at lk__law_word bW__law_word
    have ND := sc__law_two.nd
    have hu := hr.uok
    have tk := takesF (P := P) (w := w) (K := K) (mg := mg) (base := base) (N := ["rule", "begin"]) (qual := "_law_two") (scope := defScope s__law_two) (f := T.a__law_two) (cd := .ref T.c__law_two) (A := A) (outer := outer) (s := s) (H := H) (E := E)
    have po := ownsF (P := P) (w := w) (K := K) (mg := mg) (base := base) (N := ["rule", "begin"]) (qual := "_law_two") (scope := defScope s__law_two) (f := T.a__law_two) (cd := .ref T.c__law_two) (A := A) (outer := outer) (s := s) (H := H) (E := E)
    exact (sb_one (ss_ret (se_lam (cs := [0, 1]) (gout := go__law_word) (k := 4) (by rfl) T.g__law_word T.F__law_word.kp lk__law_word hcg__law_word bW__law_word sc__law_word (by rfl) (by first | exact Or.inl rfl | exact Or.inr (Or.inl rfl)) (fun hK => gv__law_word T hr hK) TB.tb__law_two rfl T.tbm__law_two T.tbu__law_two (hr.mono (by decide)) (LamX.lamS_by (by kernel_rfl)) (by rfl) (fun _ _ _ _ _ => by rfl) (fun A outer s H E f c hr => have hu := hr.uok; (se_cal (ok_period T) (hr.mono (by decide)) (by rfl) T.g_period T.F_period.kp T.B_period takes_lam (sa_cons ((n_E 0)) ((sa_cons ((n_E 1)) (sa_nil) (by rfl))) (by rfl)) (by decide) (by rfl) (by rfl))))))
theorem ok__law_are_refused (T : Tx K P mg Γ) (TB : TxB T base) : FnOk P w K mg base (L2.CX P w) 10 T.a__law_are_refused T.d__law_are_refused ["hand"] (spF Γ [0] m__law_are_refused) :=
  fn_okC T.FC__law_are_refused sc__law_are_refused T.hK (by decide) (by decide) (fun _ => rfl) fun A outer s H E hr => by
    let cdv : Value := .ref T.c__law_are_refused
    obtain ⟨oc__law_word, od__law_word, kV__law_word, doc__law_word, pm__law_word, an__law_word, cdv__law_word, ct__law_word, osl__law_word, efd__law_word, lk__law_word, hcg__law_word⟩ := T.F__law_word.ex
    have bW__law_word := T.B__law_word
    rw [efd__law_word] at lk__law_word bW__law_word
    have ND := sc__law_are_refused.nd
    have hu := hr.uok
    have tk := takesF (P := P) (w := w) (K := K) (mg := mg) (base := base) (N := ["hand", "bad", "begin", "size", "words"]) (qual := "_law_are_refused") (scope := defScope s__law_are_refused) (f := T.a__law_are_refused) (cd := .ref T.c__law_are_refused) (A := A) (outer := outer) (s := s) (H := H) (E := E)
    have po := ownsF (P := P) (w := w) (K := K) (mg := mg) (base := base) (N := ["hand", "bad", "begin", "size", "words"]) (qual := "_law_are_refused") (scope := defScope s__law_are_refused) (f := T.a__law_are_refused) (cd := .ref T.c__law_are_refused) (A := A) (outer := outer) (s := s) (H := H) (E := E)
    exact (sb_cons (n_set 1 ND (se_calH (n_P 0) (ok__law_any T) (hr.mono (by decide)) (by rfl) T.g__law_any T.F__law_any.kp T.B__law_any tk (sa_cons ((se_lst ((sa_cons (se_non) ((sa_cons (se_int) ((sa_cons ((se_lst ((sa_cons (se_int) ((sa_cons (se_int) (sa_nil) (by rfl))) (by rfl))) (by decide))) ((sa_cons ((se_tup (sa_nil) (by decide))) ((sa_cons ((se_tup ((sa_cons (se_int) ((sa_cons (se_int) (sa_nil) (by rfl))) (by rfl))) (by decide))) ((sa_cons ((se_tup ((sa_cons (se_int) ((sa_cons (se_int) (sa_nil) (by rfl))) (by rfl))) (by decide))) ((sa_cons ((se_tup ((sa_cons (se_int) ((sa_cons (se_int) (sa_nil) (by rfl))) (by rfl))) (by decide))) ((sa_cons ((se_tup ((sa_cons (se_int) (sa_nil) (by rfl))) (by decide))) ((sa_cons ((se_tup ((sa_cons (se_bl) ((sa_cons (se_int) (sa_nil) (by rfl))) (by rfl))) (by decide))) ((sa_cons ((se_tup ((sa_cons (se_int) ((sa_cons (se_non) (sa_nil) (by rfl))) (by rfl))) (by decide))) ((sa_cons (se_str) ((sa_cons (se_dicK) ((sa_cons ((se_tup ((sa_cons ((se_un o_neg ((sv_of se_int)))) ((sa_cons (se_int) (sa_nil) (by rfl))) (by rfl))) (by decide))) (sa_nil) (by rfl))) (by rfl))) (by rfl))) (by rfl))) (by rfl))) (by rfl))) (by rfl))) (by rfl))) (by rfl))) (by rfl))) (by rfl))) (by rfl))) (by rfl))) (by decide))) (sa_nil) (by rfl)) (by decide) (by rfl) (by rfl)) (by decide))
    (sb_cons (n_set 2 ND (se_calH (n_P 0) (ok__law_any T) (hr.mono (by decide)) (by rfl) T.g__law_any T.F__law_any.kp T.B__law_any tk (sa_cons ((se_lst ((sa_cons (se_non) ((sa_cons (se_int) ((sa_cons ((se_lst ((sa_cons (se_int) ((sa_cons (se_int) (sa_nil) (by rfl))) (by rfl))) (by decide))) ((sa_cons ((se_tup ((sa_cons (se_int) (sa_nil) (by rfl))) (by decide))) ((sa_cons ((se_tup ((sa_cons (se_int) ((sa_cons (se_int) ((sa_cons (se_int) (sa_nil) (by rfl))) (by rfl))) (by rfl))) (by decide))) ((sa_cons ((se_tup ((sa_cons (se_int) ((sa_cons (se_int) (sa_nil) (by rfl))) (by rfl))) (by decide))) ((sa_cons ((se_tup ((sa_cons (se_int) ((sa_cons (se_bl) (sa_nil) (by rfl))) (by rfl))) (by decide))) ((sa_cons (se_str) ((sa_cons (se_dicK) (sa_nil) (by rfl))) (by rfl))) (by rfl))) (by rfl))) (by rfl))) (by rfl))) (by rfl))) (by rfl))) (by rfl))) (by decide))) (sa_nil) (by rfl)) (by decide) (by rfl) (by rfl)) (by decide))
    (sb_cons (n_set 3 ND (se_calH (n_P 0) (ok__law_any T) (hr.mono (by decide)) (by rfl) T.g__law_any T.F__law_any.kp T.B__law_any tk (sa_cons ((se_lst ((sa_cons (se_int) ((sa_cons (se_int) ((sa_cons ((se_un o_neg ((sv_of se_int)))) ((sa_cons (se_non) ((sa_cons (se_bl) ((sa_cons (se_str) ((sa_cons ((se_tup ((sa_cons (se_int) (sa_nil) (by rfl))) (by decide))) ((sa_cons ((se_lst ((sa_cons (se_int) (sa_nil) (by rfl))) (by decide))) ((sa_cons (se_dicK) (sa_nil) (by rfl))) (by rfl))) (by rfl))) (by rfl))) (by rfl))) (by rfl))) (by rfl))) (by rfl))) (by rfl))) (by decide))) (sa_nil) (by rfl)) (by decide) (by rfl) (by rfl)) (by decide))
    (sb_cons (n_set 4 ND (se_lst ((sa_cons ((se_lam (cs := [1]) (gout := go__law_word) (k := 4) (by rfl) T.g__law_word T.F__law_word.kp lk__law_word hcg__law_word bW__law_word sc__law_word (by rfl) (by first | exact Or.inl rfl | exact Or.inr (Or.inl rfl)) (fun hK => gv__law_word T hr hK) TB.tb__law_are_refused rfl T.tbm__law_are_refused T.tbu__law_are_refused (hr.mono (by decide)) (LamX.lamS_by (by kernel_rfl)) (by rfl) (fun _ _ _ _ _ => by rfl) (fun A outer s H E f c hr => have hu := hr.uok; (se_cal (ok_by_rule T) (hr.mono (by decide)) (by rfl) T.g_by_rule T.F_by_rule.kp T.B_by_rule takes_lam (sa_cons ((n_E 1)) ((sa_cons ((se_tup ((sa_cons (se_int) ((sa_cons (se_int) (sa_nil) (by rfl))) (by rfl))) (by decide))) ((sa_cons (se_int) (sa_nil) (by rfl))) (by rfl))) (by rfl)) (by decide) (by rfl) (by rfl))))) ((sa_cons ((se_cal (ok__law_two T TB) (hr.mono (by decide)) (by rfl) T.g__law_two T.F__law_two.kp T.B__law_two tk (sa_cons ((n_E 1)) ((sa_cons ((se_tup ((sa_cons (se_int) ((sa_cons (se_int) (sa_nil) (by rfl))) (by rfl))) (by decide))) (sa_nil) (by rfl))) (by rfl)) (by decide) (by rfl) (by rfl))) ((sa_cons ((se_cal (ok__law_two T TB) (hr.mono (by decide)) (by rfl) T.g__law_two T.F__law_two.kp T.B__law_two tk (sa_cons ((se_tup ((sa_cons (se_int) ((sa_cons (se_int) (sa_nil) (by rfl))) (by rfl))) (by decide))) ((sa_cons ((n_E 2)) (sa_nil) (by rfl))) (by rfl)) (by decide) (by rfl) (by rfl))) (sa_nil) (by rfl))) (by rfl))) (by rfl))) (by decide)) (by decide))
    (sb_cons (ss_expr (se_meth m_append PySem.F.plainAttrs_list PySem.F.slot_list_append PySem.F.type_list_append (sp_nm (n_P 4)) (sa_cons ((se_lam (cs := [3]) (gout := go__law_word) (k := 5) (by rfl) T.g__law_word T.F__law_word.kp lk__law_word hcg__law_word bW__law_word sc__law_word (by rfl) (by first | exact Or.inl rfl | exact Or.inr (Or.inl rfl)) (fun hK => gv__law_word T hr hK) TB.tb__law_are_refused rfl T.tbm__law_are_refused T.tbu__law_are_refused (hr.mono (by decide)) (LamX.lamS_by (by kernel_rfl)) (by rfl) (fun _ _ _ _ _ => by rfl) (fun A outer s H E f c hr => have hu := hr.uok; (se_cal (ok_first_longest T) (hr.mono (by decide)) (by rfl) T.g_first_longest T.F_first_longest.kp T.B_first_longest takes_lam (sa_cons ((n_E 3)) (sa_nil) (by rfl)) (by decide) (by rfl) (by rfl))))) (sa_nil) (by rfl)) (by decide) (by rfl) (by rfl) (by rfl) (by rfl) (by rfl)) (by rfl))
    (sb_one (ss_ret (se_cmp (o_eq hu.u64) ((n_V 4)) ((sv_of (se_lst ((sa_cons (se_str) ((sa_cons (se_str) ((sa_cons (se_str) ((sa_cons (se_str) (sa_nil) (by rfl))) (by rfl))) (by rfl))) (by rfl))) (by decide)))) (fun _ h => by cases h; decide) (by rfl)))))))))
theorem ok_law (T : Tx K P mg Γ) (TB : TxB T base) : FnOk P w K mg base (L2.CX P w) 11 T.a_law T.d_law ["script"] (spF Γ [] m_law) :=
  fn_ok T.F_law sc_law T.hK (by decide) (by decide) (fun _ => rfl) fun cdv A outer s H E hr => by
    have ND := sc_law.nd
    have hu := hr.uok
    have tk := takesF (P := P) (w := w) (K := K) (mg := mg) (base := base) (N := ["script", "hand", "told", "some", "top", "rule"]) (qual := "law") (scope := defScope s_law) (f := T.a_law) (cd := cdv) (A := A) (outer := outer) (s := s) (H := H) (E := E)
    have po := ownsF (P := P) (w := w) (K := K) (mg := mg) (base := base) (N := ["script", "hand", "told", "some", "top", "rule"]) (qual := "law") (scope := defScope s_law) (f := T.a_law) (cd := cdv) (A := A) (outer := outer) (s := s) (H := H) (E := E)
    exact (sb_cons (n_set 1 ND (se_cal (ok__law_hand T) (hr.mono (by decide)) (by rfl) T.g__law_hand T.F__law_hand.kp T.B__law_hand tk (sa_cons ((n_E 0)) (sa_nil) (by rfl)) (by decide) (by rfl) (by rfl)) (by decide))
    (sb_cons (n_set 2 ND (se_lst ((sa_cons ((se_cal (ok_period T) (hr.mono (by decide)) (by rfl) T.g_period T.F_period.kp T.B_period tk (sa_cons ((se_tup ((sa_cons (se_int) ((sa_cons (se_int) (sa_nil) (by rfl))) (by rfl))) (by decide))) ((sa_cons ((se_tup ((sa_cons (se_int) ((sa_cons (se_int) ((sa_cons (se_int) (sa_nil) (by rfl))) (by rfl))) (by rfl))) (by decide))) (sa_nil) (by rfl))) (by rfl)) (by decide) (by rfl) (by rfl))) ((sa_cons ((se_cal (ok_period T) (hr.mono (by decide)) (by rfl) T.g_period T.F_period.kp T.B_period tk (sa_cons ((se_tup ((sa_cons (se_int) (sa_nil) (by rfl))) (by decide))) ((sa_cons ((se_tup ((sa_cons (se_int) (sa_nil) (by rfl))) (by decide))) (sa_nil) (by rfl))) (by rfl)) (by decide) (by rfl) (by rfl))) ((sa_cons ((se_cal (ok_is_longest T) (hr.mono (by decide)) (by rfl) T.g_is_longest T.F_is_longest.kp T.B_is_longest tk (sa_cons ((se_tup ((sa_cons (se_int) ((sa_cons (se_int) (sa_nil) (by rfl))) (by rfl))) (by decide))) ((sa_cons (se_int) (sa_nil) (by rfl))) (by rfl)) (by decide) (by rfl) (by rfl))) ((sa_cons ((se_cal (ok_is_longest T) (hr.mono (by decide)) (by rfl) T.g_is_longest T.F_is_longest.kp T.B_is_longest tk (sa_cons ((se_tup ((sa_cons (se_int) (sa_nil) (by rfl))) (by decide))) ((sa_cons (se_int) (sa_nil) (by rfl))) (by rfl)) (by decide) (by rfl) (by rfl))) ((sa_cons ((se_cal (ok_first_longest T) (hr.mono (by decide)) (by rfl) T.g_first_longest T.F_first_longest.kp T.B_first_longest tk (sa_cons (se_int) (sa_nil) (by rfl)) (by decide) (by rfl) (by rfl))) (sa_nil) (by rfl))) (by rfl))) (by rfl))) (by rfl))) (by rfl))) (by decide)) (by decide))
    (sb_cons (ss_if (sc_w (sw_or (sc_cmp (o_ne hu.u64) ((n_V 2)) ((sv_of (se_lst ((sa_cons (se_int) ((sa_cons (se_int) ((sa_cons (se_bl) ((sa_cons (se_bl) ((sa_cons ((se_tup ((sa_cons (se_int) ((sa_cons (se_int) (sa_nil) (by rfl))) (by rfl))) (by decide))) (sa_nil) (by rfl))) (by rfl))) (by rfl))) (by rfl))) (by rfl))) (by decide)))) (fun _ h => by cases h; decide) (by rfl)) (sw_or1 (sc_not (sc_val (se_cal (ok__law_is_bits_right T) (hr.mono (by decide)) (by rfl) T.g__law_is_bits_right T.F__law_is_bits_right.kp T.B__law_is_bits_right tk (sa_cons ((se_cal (ok_by_rule T) (hr.mono (by decide)) (by rfl) T.g_by_rule T.F_by_rule.kp T.B_by_rule tk (sa_cons ((se_tup ((sa_cons (se_int) ((sa_cons (se_int) (sa_nil) (by rfl))) (by rfl))) (by decide))) ((sa_cons ((se_tup ((sa_cons (se_int) ((sa_cons (se_int) (sa_nil) (by rfl))) (by rfl))) (by decide))) ((sa_cons (se_int) (sa_nil) (by rfl))) (by rfl))) (by rfl)) (by decide) (by rfl) (by rfl))) ((sa_cons ((se_tup ((sa_cons (se_int) ((sa_cons (se_int) (sa_nil) (by rfl))) (by rfl))) (by decide))) ((sa_cons ((se_tup ((sa_cons (se_int) ((sa_cons (se_int) (sa_nil) (by rfl))) (by rfl))) (by decide))) ((sa_cons (se_int) (sa_nil) (by rfl))) (by rfl))) (by rfl))) (by rfl)) (by decide) (by rfl) (by rfl)) (fun _ => rfl)))))) (sb_one (ss_ret se_bl)) sb_nil)
    (sb_cons (n_set 3 ND (se_lst ((sa_cons ((se_tup ((sa_cons (se_int) ((sa_cons (se_int) (sa_nil) (by rfl))) (by rfl))) (by decide))) ((sa_cons ((se_tup ((sa_cons (se_int) ((sa_cons (se_int) ((sa_cons (se_int) ((sa_cons (se_int) (sa_nil) (by rfl))) (by rfl))) (by rfl))) (by rfl))) (by decide))) ((sa_cons ((se_tup ((sa_cons (se_int) ((sa_cons (se_int) (sa_nil) (by rfl))) (by rfl))) (by decide))) ((sa_cons ((se_tup ((sa_cons (se_int) ((sa_cons (se_int) (sa_nil) (by rfl))) (by rfl))) (by decide))) ((sa_cons ((se_tup ((sa_cons (se_int) ((sa_cons (se_int) (sa_nil) (by rfl))) (by rfl))) (by decide))) ((sa_cons ((se_tup ((sa_cons (se_int) ((sa_cons (se_int) (sa_nil) (by rfl))) (by rfl))) (by decide))) ((sa_cons ((se_tup ((sa_cons (se_int) ((sa_cons (se_int) ((sa_cons (se_int) ((sa_cons (se_int) (sa_nil) (by rfl))) (by rfl))) (by rfl))) (by rfl))) (by decide))) (sa_nil) (by rfl))) (by rfl))) (by rfl))) (by rfl))) (by rfl))) (by rfl))) (by rfl))) (by decide)) (by decide))
    (sb_cons (ss_for po rfl (si_seq (se_tup ((sa_cons (se_int) ((sa_cons (se_int) ((sa_cons (se_int) (sa_nil) (by rfl))) (by rfl))) (by rfl))) (by decide))) (n_G 4 ND) (sb_cons (n_set 5 ND (se_calH (n_P 1) (ok__law_rule T) (hr.mono (by decide)) (by rfl) T.g__law_rule T.F__law_rule.kp T.B__law_rule tk (sa_cons ((n_E 4)) (sa_nil) (by rfl)) (by decide) (by rfl) (by rfl)) (by decide))
    (sb_cons (ss_if (sc_w (sw_or (sc_not (sc_val (se_calH (n_P 1) (ok__law_is_rule_right T) (hr.mono (by decide)) (by rfl) T.g__law_is_rule_right T.F__law_is_rule_right.kp T.B__law_is_rule_right tk (sa_cons ((n_E 5)) (sa_nil) (by rfl)) (by decide) (by rfl) (by rfl)) (fun _ => rfl))) (sw_or1 (sc_not (sc_val (se_calH (n_P 1) (ok__law_is_round_right T) (hr.mono (by decide)) (by rfl) T.g__law_is_round_right T.F__law_is_round_right.kp T.B__law_is_round_right tk (sa_cons ((n_E 5)) (sa_nil) (by rfl)) (by decide) (by rfl) (by rfl)) (fun _ => rfl)))))) (sb_one (ss_ret se_bl)) sb_nil)
    (sb_one (ss_if (sc_not (sc_val (se_calH (n_P 1) (ok__law_is_round_right T) (hr.mono (by decide)) (by rfl) T.g__law_is_round_right T.F__law_is_round_right.kp T.B__law_is_round_right tk (sa_cons ((se_calH (n_P 1) (ok__law_any T) (hr.mono (by decide)) (by rfl) T.g__law_any T.F__law_any.kp T.B__law_any tk (sa_cons ((n_E 3)) (sa_nil) (by rfl)) (by decide) (by rfl) (by rfl))) (sa_nil) (by rfl)) (by decide) (by rfl) (by rfl)) (fun _ => rfl))) (sb_one (ss_ret se_bl)) sb_nil)))) (by decide) (fun _ => rfl))
    (sb_one (ss_ret (se_and ((se_calH (n_P 1) (ok__law_is_first_right T) (hr.mono (by decide)) (by rfl) T.g__law_is_first_right T.F__law_is_first_right.kp T.B__law_is_first_right tk sa_nil (by decide) (by rfl) (by rfl))) ((se_one (se_calH (n_P 1) (ok__law_are_refused T TB) (hr.mono (by decide)) (by rfl) T.g__law_are_refused T.F__law_are_refused.kp T.B__law_are_refused tk sa_nil (by decide) (by rfl) (by rfl))))))))))))
end
theorem tx_all {K : PySem.W.Frag} {prog : Program} {mg : Str → Option Value} {h : Heap} {tb : List (Addr × Str)} {gb : Hp} (X : K.In h) (G : h.Ns mainGlobals mg)
    {f_is_integer : Addr} {od_is_integer an_is_integer : Option Addr} {sl_is_integer : Array (Option Value)} {oc_is_integer kV_is_integer dc_is_integer pm_is_integer ct_is_integer : Value} {cd_is_integer : Value}
    {f_is_within : Addr} {od_is_within an_is_within : Option Addr} {sl_is_within : Array (Option Value)} {oc_is_within kV_is_within dc_is_within pm_is_within ct_is_within : Value} {cd_is_within : Value}
    {f_is_tuple : Addr} {od_is_tuple an_is_tuple : Option Addr} {sl_is_tuple : Array (Option Value)} {oc_is_tuple kV_is_tuple dc_is_tuple pm_is_tuple ct_is_tuple : Value} {cd_is_tuple : Value}
    {f_raised_to : Addr} {od_raised_to an_raised_to : Option Addr} {sl_raised_to : Array (Option Value)} {oc_raised_to kV_raised_to dc_raised_to pm_raised_to ct_raised_to : Value} {cd_raised_to : Value}
    {f_is_row : Addr} {od_is_row an_is_row : Option Addr} {sl_is_row : Array (Option Value)} {oc_is_row kV_is_row dc_is_row pm_is_row ct_is_row : Value} {cd_is_row : Value}
    {f_check_rows : Addr} {od_check_rows an_check_rows : Option Addr} {sl_check_rows : Array (Option Value)} {oc_check_rows kV_check_rows dc_check_rows pm_check_rows ct_check_rows : Value} {cd_check_rows : Value}
    {f_ring_sums_of : Addr} {od_ring_sums_of an_ring_sums_of : Option Addr} {sl_ring_sums_of : Array (Option Value)} {oc_ring_sums_of kV_ring_sums_of dc_ring_sums_of pm_ring_sums_of ct_ring_sums_of : Value} {cd_ring_sums_of : Value}
    {f_ring_sums : Addr} {od_ring_sums an_ring_sums : Option Addr} {sl_ring_sums : Array (Option Value)} {oc_ring_sums kV_ring_sums dc_ring_sums pm_ring_sums ct_ring_sums : Value} {cd_ring_sums : Value}
    {f_check_rule : Addr} {od_check_rule an_check_rule : Option Addr} {sl_check_rule : Array (Option Value)} {oc_check_rule kV_check_rule dc_check_rule pm_check_rule ct_check_rule : Value} {cd_check_rule : Value}
    {f_bits_by : Addr} {od_bits_by an_bits_by : Option Addr} {sl_bits_by : Array (Option Value)} {oc_bits_by kV_bits_by dc_bits_by pm_bits_by ct_bits_by : Value} {cd_bits_by : Value}
    {f_by_rule : Addr} {od_by_rule an_by_rule : Option Addr} {sl_by_rule : Array (Option Value)} {oc_by_rule kV_by_rule dc_by_rule pm_by_rule ct_by_rule : Value} {cd_by_rule : Value}
    {f_period : Addr} {od_period an_period : Option Addr} {sl_period : Array (Option Value)} {oc_period kV_period dc_period pm_period ct_period : Value} {cd_period : Value}
    {f_is_longest : Addr} {od_is_longest an_is_longest : Option Addr} {sl_is_longest : Array (Option Value)} {oc_is_longest kV_is_longest dc_is_longest pm_is_longest ct_is_longest : Value} {cd_is_longest : Value}
    {f_first_longest : Addr} {od_first_longest an_first_longest : Option Addr} {sl_first_longest : Array (Option Value)} {oc_first_longest kV_first_longest dc_first_longest pm_first_longest ct_first_longest : Value} {cd_first_longest : Value}
    {f_is_even_round : Addr} {od_is_even_round an_is_even_round : Option Addr} {sl_is_even_round : Array (Option Value)} {oc_is_even_round kV_is_even_round dc_is_even_round pm_is_even_round ct_is_even_round : Value} {cd_is_even_round : Value}
    {f_signs_of : Addr} {od_signs_of an_signs_of : Option Addr} {sl_signs_of : Array (Option Value)} {oc_signs_of kV_signs_of dc_signs_of pm_signs_of ct_signs_of : Value} {cd_signs_of : Value}
    {f__law_hand : Addr} {od__law_hand an__law_hand : Option Addr} {sl__law_hand : Array (Option Value)} {oc__law_hand kV__law_hand dc__law_hand pm__law_hand ct__law_hand : Value} {cd__law_hand : Value}
    {f__law_draw : Addr} {od__law_draw an__law_draw : Option Addr} {sl__law_draw : Array (Option Value)} {oc__law_draw kV__law_draw dc__law_draw pm__law_draw ct__law_draw : Value} {cd__law_draw : Value}
    {f__law_any : Addr} {od__law_any an__law_any : Option Addr} {sl__law_any : Array (Option Value)} {oc__law_any kV__law_any dc__law_any pm__law_any ct__law_any : Value} {cd__law_any : Value}
    {f__law_rule : Addr} {od__law_rule an__law_rule : Option Addr} {sl__law_rule : Array (Option Value)} {oc__law_rule kV__law_rule dc__law_rule pm__law_rule ct__law_rule : Value} {cd__law_rule : Value}
    {f__law_bits : Addr} {od__law_bits an__law_bits : Option Addr} {sl__law_bits : Array (Option Value)} {oc__law_bits kV__law_bits dc__law_bits pm__law_bits ct__law_bits : Value} {cd__law_bits : Value}
    {f__law_on : Addr} {od__law_on an__law_on : Option Addr} {sl__law_on : Array (Option Value)} {oc__law_on kV__law_on dc__law_on pm__law_on ct__law_on : Value} {cd__law_on : Value}
    {f__law_period : Addr} {od__law_period an__law_period : Option Addr} {sl__law_period : Array (Option Value)} {oc__law_period kV__law_period dc__law_period pm__law_period ct__law_period : Value} {cd__law_period : Value}
    {f__law_is_bits_right : Addr} {od__law_is_bits_right an__law_is_bits_right : Option Addr} {sl__law_is_bits_right : Array (Option Value)} {oc__law_is_bits_right kV__law_is_bits_right dc__law_is_bits_right pm__law_is_bits_right ct__law_is_bits_right : Value} {cd__law_is_bits_right : Value}
    {f__law_is_rule_right : Addr} {od__law_is_rule_right an__law_is_rule_right : Option Addr} {sl__law_is_rule_right : Array (Option Value)} {oc__law_is_rule_right kV__law_is_rule_right dc__law_is_rule_right pm__law_is_rule_right ct__law_is_rule_right : Value} {cd__law_is_rule_right : Value}
    {f__law_all : Addr} {od__law_all an__law_all : Option Addr} {sl__law_all : Array (Option Value)} {oc__law_all kV__law_all dc__law_all pm__law_all ct__law_all : Value} {cd__law_all : Value}
    {f__law_is_longest : Addr} {od__law_is_longest an__law_is_longest : Option Addr} {sl__law_is_longest : Array (Option Value)} {oc__law_is_longest kV__law_is_longest dc__law_is_longest pm__law_is_longest ct__law_is_longest : Value} {cd__law_is_longest : Value}
    {f__law_rules : Addr} {od__law_rules an__law_rules : Option Addr} {sl__law_rules : Array (Option Value)} {oc__law_rules kV__law_rules dc__law_rules pm__law_rules ct__law_rules : Value} {cd__law_rules : Value}
    {f__law_is_round_right : Addr} {od__law_is_round_right an__law_is_round_right : Option Addr} {sl__law_is_round_right : Array (Option Value)} {oc__law_is_round_right kV__law_is_round_right dc__law_is_round_right pm__law_is_round_right ct__law_is_round_right : Value} {cd__law_is_round_right : Value}
    {f__law_is_first_right : Addr} {od__law_is_first_right an__law_is_first_right : Option Addr} {sl__law_is_first_right : Array (Option Value)} {oc__law_is_first_right kV__law_is_first_right dc__law_is_first_right pm__law_is_first_right ct__law_is_first_right : Value} {cd__law_is_first_right : Value}
    {f__law_word : Addr} {od__law_word an__law_word : Option Addr} {sl__law_word : Array (Option Value)} {oc__law_word kV__law_word dc__law_word pm__law_word ct__law_word : Value} {cd__law_word : Value}
    {f__law_two : Addr} {od__law_two an__law_two : Option Addr} {sl__law_two : Array (Option Value)} {oc__law_two kV__law_two dc__law_two pm__law_two ct__law_two : Value} {cc__law_two : Addr}
    {f__law_are_refused : Addr} {od__law_are_refused an__law_are_refused : Option Addr} {sl__law_are_refused : Array (Option Value)} {oc__law_are_refused kV__law_are_refused dc__law_are_refused pm__law_are_refused ct__law_are_refused : Value} {cc__law_are_refused : Addr}
    {f_law : Addr} {od_law an_law : Option Addr} {sl_law : Array (Option Value)} {oc_law kV_law dc_law pm_law ct_law : Value} {cd_law : Value}
    {t_MOST_LENGTH : Tok}
    {t_MOST_TRIED : Tok}
    {C_BlockError : Addr}
    {C_TooMany : Addr}
    {C_NoNumber : Addr}
    {C_NoSequence : Addr}
    {fI_NoNumber : Addr}
    {fI_NoSequence : Addr}
    {P__law_two : Addr}
    {P__law_are_refused : Addr}
    (a_is_integer : PySem.W.nsIn K mainGlobals "is_integer" = some (some (.ref f_is_integer)))
    (l_is_integer : K.lookup f_is_integer = some ⟨oc_is_integer, od_is_integer, .func (PySem.W.fnOf "is_integer" "is_integer" (defArgs s_is_integer) (defBody s_is_integer) (defScope s_is_integer) .none kV_is_integer dc_is_integer pm_is_integer an_is_integer cd_is_integer ct_is_integer), sl_is_integer⟩)
    (c_is_integer : PySem.W.codeIn K cd_is_integer "is_integer" = true)
    (k_is_integer : PySem.W.keepIn K (.ref f_is_integer) = true)
    (a_is_within : PySem.W.nsIn K mainGlobals "is_within" = some (some (.ref f_is_within)))
    (l_is_within : K.lookup f_is_within = some ⟨oc_is_within, od_is_within, .func (PySem.W.fnOf "is_within" "is_within" (defArgs s_is_within) (defBody s_is_within) (defScope s_is_within) .none kV_is_within dc_is_within pm_is_within an_is_within cd_is_within ct_is_within), sl_is_within⟩)
    (c_is_within : PySem.W.codeIn K cd_is_within "is_within" = true)
    (k_is_within : PySem.W.keepIn K (.ref f_is_within) = true)
    (a_is_tuple : PySem.W.nsIn K mainGlobals "is_tuple" = some (some (.ref f_is_tuple)))
    (l_is_tuple : K.lookup f_is_tuple = some ⟨oc_is_tuple, od_is_tuple, .func (PySem.W.fnOf "is_tuple" "is_tuple" (defArgs s_is_tuple) (defBody s_is_tuple) (defScope s_is_tuple) .none kV_is_tuple dc_is_tuple pm_is_tuple an_is_tuple cd_is_tuple ct_is_tuple), sl_is_tuple⟩)
    (c_is_tuple : PySem.W.codeIn K cd_is_tuple "is_tuple" = true)
    (k_is_tuple : PySem.W.keepIn K (.ref f_is_tuple) = true)
    (a_raised_to : PySem.W.nsIn K mainGlobals "raised_to" = some (some (.ref f_raised_to)))
    (l_raised_to : K.lookup f_raised_to = some ⟨oc_raised_to, od_raised_to, .func (PySem.W.fnOf "raised_to" "raised_to" (defArgs s_raised_to) (defBody s_raised_to) (defScope s_raised_to) .none kV_raised_to dc_raised_to pm_raised_to an_raised_to cd_raised_to ct_raised_to), sl_raised_to⟩)
    (c_raised_to : PySem.W.codeIn K cd_raised_to "raised_to" = true)
    (k_raised_to : PySem.W.keepIn K (.ref f_raised_to) = true)
    (a_is_row : PySem.W.nsIn K mainGlobals "is_row" = some (some (.ref f_is_row)))
    (l_is_row : K.lookup f_is_row = some ⟨oc_is_row, od_is_row, .func (PySem.W.fnOf "is_row" "is_row" (defArgs s_is_row) (defBody s_is_row) (defScope s_is_row) .none kV_is_row dc_is_row pm_is_row an_is_row cd_is_row ct_is_row), sl_is_row⟩)
    (c_is_row : PySem.W.codeIn K cd_is_row "is_row" = true)
    (k_is_row : PySem.W.keepIn K (.ref f_is_row) = true)
    (a_check_rows : PySem.W.nsIn K mainGlobals "check_rows" = some (some (.ref f_check_rows)))
    (l_check_rows : K.lookup f_check_rows = some ⟨oc_check_rows, od_check_rows, .func (PySem.W.fnOf "check_rows" "check_rows" (defArgs s_check_rows) (defBody s_check_rows) (defScope s_check_rows) .none kV_check_rows dc_check_rows pm_check_rows an_check_rows cd_check_rows ct_check_rows), sl_check_rows⟩)
    (c_check_rows : PySem.W.codeIn K cd_check_rows "check_rows" = true)
    (k_check_rows : PySem.W.keepIn K (.ref f_check_rows) = true)
    (a_ring_sums_of : PySem.W.nsIn K mainGlobals "ring_sums_of" = some (some (.ref f_ring_sums_of)))
    (l_ring_sums_of : K.lookup f_ring_sums_of = some ⟨oc_ring_sums_of, od_ring_sums_of, .func (PySem.W.fnOf "ring_sums_of" "ring_sums_of" (defArgs s_ring_sums_of) (defBody s_ring_sums_of) (defScope s_ring_sums_of) .none kV_ring_sums_of dc_ring_sums_of pm_ring_sums_of an_ring_sums_of cd_ring_sums_of ct_ring_sums_of), sl_ring_sums_of⟩)
    (c_ring_sums_of : PySem.W.codeIn K cd_ring_sums_of "ring_sums_of" = true)
    (k_ring_sums_of : PySem.W.keepIn K (.ref f_ring_sums_of) = true)
    (a_ring_sums : PySem.W.nsIn K mainGlobals "ring_sums" = some (some (.ref f_ring_sums)))
    (l_ring_sums : K.lookup f_ring_sums = some ⟨oc_ring_sums, od_ring_sums, .func (PySem.W.fnOf "ring_sums" "ring_sums" (defArgs s_ring_sums) (defBody s_ring_sums) (defScope s_ring_sums) .none kV_ring_sums dc_ring_sums pm_ring_sums an_ring_sums cd_ring_sums ct_ring_sums), sl_ring_sums⟩)
    (c_ring_sums : PySem.W.codeIn K cd_ring_sums "ring_sums" = true)
    (k_ring_sums : PySem.W.keepIn K (.ref f_ring_sums) = true)
    (a_check_rule : PySem.W.nsIn K mainGlobals "check_rule" = some (some (.ref f_check_rule)))
    (l_check_rule : K.lookup f_check_rule = some ⟨oc_check_rule, od_check_rule, .func (PySem.W.fnOf "check_rule" "check_rule" (defArgs s_check_rule) (defBody s_check_rule) (defScope s_check_rule) .none kV_check_rule dc_check_rule pm_check_rule an_check_rule cd_check_rule ct_check_rule), sl_check_rule⟩)
    (c_check_rule : PySem.W.codeIn K cd_check_rule "check_rule" = true)
    (k_check_rule : PySem.W.keepIn K (.ref f_check_rule) = true)
    (a_bits_by : PySem.W.nsIn K mainGlobals "bits_by" = some (some (.ref f_bits_by)))
    (l_bits_by : K.lookup f_bits_by = some ⟨oc_bits_by, od_bits_by, .func (PySem.W.fnOf "bits_by" "bits_by" (defArgs s_bits_by) (defBody s_bits_by) (defScope s_bits_by) .none kV_bits_by dc_bits_by pm_bits_by an_bits_by cd_bits_by ct_bits_by), sl_bits_by⟩)
    (c_bits_by : PySem.W.codeIn K cd_bits_by "bits_by" = true)
    (k_bits_by : PySem.W.keepIn K (.ref f_bits_by) = true)
    (a_by_rule : PySem.W.nsIn K mainGlobals "by_rule" = some (some (.ref f_by_rule)))
    (l_by_rule : K.lookup f_by_rule = some ⟨oc_by_rule, od_by_rule, .func (PySem.W.fnOf "by_rule" "by_rule" (defArgs s_by_rule) (defBody s_by_rule) (defScope s_by_rule) .none kV_by_rule dc_by_rule pm_by_rule an_by_rule cd_by_rule ct_by_rule), sl_by_rule⟩)
    (c_by_rule : PySem.W.codeIn K cd_by_rule "by_rule" = true)
    (k_by_rule : PySem.W.keepIn K (.ref f_by_rule) = true)
    (a_period : PySem.W.nsIn K mainGlobals "period" = some (some (.ref f_period)))
    (l_period : K.lookup f_period = some ⟨oc_period, od_period, .func (PySem.W.fnOf "period" "period" (defArgs s_period) (defBody s_period) (defScope s_period) .none kV_period dc_period pm_period an_period cd_period ct_period), sl_period⟩)
    (c_period : PySem.W.codeIn K cd_period "period" = true)
    (k_period : PySem.W.keepIn K (.ref f_period) = true)
    (a_is_longest : PySem.W.nsIn K mainGlobals "is_longest" = some (some (.ref f_is_longest)))
    (l_is_longest : K.lookup f_is_longest = some ⟨oc_is_longest, od_is_longest, .func (PySem.W.fnOf "is_longest" "is_longest" (defArgs s_is_longest) (defBody s_is_longest) (defScope s_is_longest) .none kV_is_longest dc_is_longest pm_is_longest an_is_longest cd_is_longest ct_is_longest), sl_is_longest⟩)
    (c_is_longest : PySem.W.codeIn K cd_is_longest "is_longest" = true)
    (k_is_longest : PySem.W.keepIn K (.ref f_is_longest) = true)
    (a_first_longest : PySem.W.nsIn K mainGlobals "first_longest" = some (some (.ref f_first_longest)))
    (l_first_longest : K.lookup f_first_longest = some ⟨oc_first_longest, od_first_longest, .func (PySem.W.fnOf "first_longest" "first_longest" (defArgs s_first_longest) (defBody s_first_longest) (defScope s_first_longest) .none kV_first_longest dc_first_longest pm_first_longest an_first_longest cd_first_longest ct_first_longest), sl_first_longest⟩)
    (c_first_longest : PySem.W.codeIn K cd_first_longest "first_longest" = true)
    (k_first_longest : PySem.W.keepIn K (.ref f_first_longest) = true)
    (a_is_even_round : PySem.W.nsIn K mainGlobals "is_even_round" = some (some (.ref f_is_even_round)))
    (l_is_even_round : K.lookup f_is_even_round = some ⟨oc_is_even_round, od_is_even_round, .func (PySem.W.fnOf "is_even_round" "is_even_round" (defArgs s_is_even_round) (defBody s_is_even_round) (defScope s_is_even_round) .none kV_is_even_round dc_is_even_round pm_is_even_round an_is_even_round cd_is_even_round ct_is_even_round), sl_is_even_round⟩)
    (c_is_even_round : PySem.W.codeIn K cd_is_even_round "is_even_round" = true)
    (k_is_even_round : PySem.W.keepIn K (.ref f_is_even_round) = true)
    (a_signs_of : PySem.W.nsIn K mainGlobals "signs_of" = some (some (.ref f_signs_of)))
    (l_signs_of : K.lookup f_signs_of = some ⟨oc_signs_of, od_signs_of, .func (PySem.W.fnOf "signs_of" "signs_of" (defArgs s_signs_of) (defBody s_signs_of) (defScope s_signs_of) .none kV_signs_of dc_signs_of pm_signs_of an_signs_of cd_signs_of ct_signs_of), sl_signs_of⟩)
    (c_signs_of : PySem.W.codeIn K cd_signs_of "signs_of" = true)
    (k_signs_of : PySem.W.keepIn K (.ref f_signs_of) = true)
    (a__law_hand : PySem.W.nsIn K mainGlobals "_law_hand" = some (some (.ref f__law_hand)))
    (l__law_hand : K.lookup f__law_hand = some ⟨oc__law_hand, od__law_hand, .func (PySem.W.fnOf "_law_hand" "_law_hand" (defArgs s__law_hand) (defBody s__law_hand) (defScope s__law_hand) .none kV__law_hand dc__law_hand pm__law_hand an__law_hand cd__law_hand ct__law_hand), sl__law_hand⟩)
    (c__law_hand : PySem.W.codeIn K cd__law_hand "_law_hand" = true)
    (k__law_hand : PySem.W.keepIn K (.ref f__law_hand) = true)
    (a__law_draw : PySem.W.nsIn K mainGlobals "_law_draw" = some (some (.ref f__law_draw)))
    (l__law_draw : K.lookup f__law_draw = some ⟨oc__law_draw, od__law_draw, .func (PySem.W.fnOf "_law_draw" "_law_draw" (defArgs s__law_draw) (defBody s__law_draw) (defScope s__law_draw) .none kV__law_draw dc__law_draw pm__law_draw an__law_draw cd__law_draw ct__law_draw), sl__law_draw⟩)
    (c__law_draw : PySem.W.codeIn K cd__law_draw "_law_draw" = true)
    (k__law_draw : PySem.W.keepIn K (.ref f__law_draw) = true)
    (a__law_any : PySem.W.nsIn K mainGlobals "_law_any" = some (some (.ref f__law_any)))
    (l__law_any : K.lookup f__law_any = some ⟨oc__law_any, od__law_any, .func (PySem.W.fnOf "_law_any" "_law_any" (defArgs s__law_any) (defBody s__law_any) (defScope s__law_any) .none kV__law_any dc__law_any pm__law_any an__law_any cd__law_any ct__law_any), sl__law_any⟩)
    (c__law_any : PySem.W.codeIn K cd__law_any "_law_any" = true)
    (k__law_any : PySem.W.keepIn K (.ref f__law_any) = true)
    (a__law_rule : PySem.W.nsIn K mainGlobals "_law_rule" = some (some (.ref f__law_rule)))
    (l__law_rule : K.lookup f__law_rule = some ⟨oc__law_rule, od__law_rule, .func (PySem.W.fnOf "_law_rule" "_law_rule" (defArgs s__law_rule) (defBody s__law_rule) (defScope s__law_rule) .none kV__law_rule dc__law_rule pm__law_rule an__law_rule cd__law_rule ct__law_rule), sl__law_rule⟩)
    (c__law_rule : PySem.W.codeIn K cd__law_rule "_law_rule" = true)
    (k__law_rule : PySem.W.keepIn K (.ref f__law_rule) = true)
    (a__law_bits : PySem.W.nsIn K mainGlobals "_law_bits" = some (some (.ref f__law_bits)))
    (l__law_bits : K.lookup f__law_bits = some ⟨oc__law_bits, od__law_bits, .func (PySem.W.fnOf "_law_bits" "_law_bits" (defArgs s__law_bits) (defBody s__law_bits) (defScope s__law_bits) .none kV__law_bits dc__law_bits pm__law_bits an__law_bits cd__law_bits ct__law_bits), sl__law_bits⟩)
    (c__law_bits : PySem.W.codeIn K cd__law_bits "_law_bits" = true)
    (k__law_bits : PySem.W.keepIn K (.ref f__law_bits) = true)
    (a__law_on : PySem.W.nsIn K mainGlobals "_law_on" = some (some (.ref f__law_on)))
    (l__law_on : K.lookup f__law_on = some ⟨oc__law_on, od__law_on, .func (PySem.W.fnOf "_law_on" "_law_on" (defArgs s__law_on) (defBody s__law_on) (defScope s__law_on) .none kV__law_on dc__law_on pm__law_on an__law_on cd__law_on ct__law_on), sl__law_on⟩)
    (c__law_on : PySem.W.codeIn K cd__law_on "_law_on" = true)
    (k__law_on : PySem.W.keepIn K (.ref f__law_on) = true)
    (a__law_period : PySem.W.nsIn K mainGlobals "_law_period" = some (some (.ref f__law_period)))
    (l__law_period : K.lookup f__law_period = some ⟨oc__law_period, od__law_period, .func (PySem.W.fnOf "_law_period" "_law_period" (defArgs s__law_period) (defBody s__law_period) (defScope s__law_period) .none kV__law_period dc__law_period pm__law_period an__law_period cd__law_period ct__law_period), sl__law_period⟩)
    (c__law_period : PySem.W.codeIn K cd__law_period "_law_period" = true)
    (k__law_period : PySem.W.keepIn K (.ref f__law_period) = true)
    (a__law_is_bits_right : PySem.W.nsIn K mainGlobals "_law_is_bits_right" = some (some (.ref f__law_is_bits_right)))
    (l__law_is_bits_right : K.lookup f__law_is_bits_right = some ⟨oc__law_is_bits_right, od__law_is_bits_right, .func (PySem.W.fnOf "_law_is_bits_right" "_law_is_bits_right" (defArgs s__law_is_bits_right) (defBody s__law_is_bits_right) (defScope s__law_is_bits_right) .none kV__law_is_bits_right dc__law_is_bits_right pm__law_is_bits_right an__law_is_bits_right cd__law_is_bits_right ct__law_is_bits_right), sl__law_is_bits_right⟩)
    (c__law_is_bits_right : PySem.W.codeIn K cd__law_is_bits_right "_law_is_bits_right" = true)
    (k__law_is_bits_right : PySem.W.keepIn K (.ref f__law_is_bits_right) = true)
    (a__law_is_rule_right : PySem.W.nsIn K mainGlobals "_law_is_rule_right" = some (some (.ref f__law_is_rule_right)))
    (l__law_is_rule_right : K.lookup f__law_is_rule_right = some ⟨oc__law_is_rule_right, od__law_is_rule_right, .func (PySem.W.fnOf "_law_is_rule_right" "_law_is_rule_right" (defArgs s__law_is_rule_right) (defBody s__law_is_rule_right) (defScope s__law_is_rule_right) .none kV__law_is_rule_right dc__law_is_rule_right pm__law_is_rule_right an__law_is_rule_right cd__law_is_rule_right ct__law_is_rule_right), sl__law_is_rule_right⟩)
    (c__law_is_rule_right : PySem.W.codeIn K cd__law_is_rule_right "_law_is_rule_right" = true)
    (k__law_is_rule_right : PySem.W.keepIn K (.ref f__law_is_rule_right) = true)
    (a__law_all : PySem.W.nsIn K mainGlobals "_law_all" = some (some (.ref f__law_all)))
    (l__law_all : K.lookup f__law_all = some ⟨oc__law_all, od__law_all, .func (PySem.W.fnOf "_law_all" "_law_all" (defArgs s__law_all) (defBody s__law_all) (defScope s__law_all) .none kV__law_all dc__law_all pm__law_all an__law_all cd__law_all ct__law_all), sl__law_all⟩)
    (c__law_all : PySem.W.codeIn K cd__law_all "_law_all" = true)
    (k__law_all : PySem.W.keepIn K (.ref f__law_all) = true)
    (a__law_is_longest : PySem.W.nsIn K mainGlobals "_law_is_longest" = some (some (.ref f__law_is_longest)))
    (l__law_is_longest : K.lookup f__law_is_longest = some ⟨oc__law_is_longest, od__law_is_longest, .func (PySem.W.fnOf "_law_is_longest" "_law_is_longest" (defArgs s__law_is_longest) (defBody s__law_is_longest) (defScope s__law_is_longest) .none kV__law_is_longest dc__law_is_longest pm__law_is_longest an__law_is_longest cd__law_is_longest ct__law_is_longest), sl__law_is_longest⟩)
    (c__law_is_longest : PySem.W.codeIn K cd__law_is_longest "_law_is_longest" = true)
    (k__law_is_longest : PySem.W.keepIn K (.ref f__law_is_longest) = true)
    (a__law_rules : PySem.W.nsIn K mainGlobals "_law_rules" = some (some (.ref f__law_rules)))
    (l__law_rules : K.lookup f__law_rules = some ⟨oc__law_rules, od__law_rules, .func (PySem.W.fnOf "_law_rules" "_law_rules" (defArgs s__law_rules) (defBody s__law_rules) (defScope s__law_rules) .none kV__law_rules dc__law_rules pm__law_rules an__law_rules cd__law_rules ct__law_rules), sl__law_rules⟩)
    (c__law_rules : PySem.W.codeIn K cd__law_rules "_law_rules" = true)
    (k__law_rules : PySem.W.keepIn K (.ref f__law_rules) = true)
    (a__law_is_round_right : PySem.W.nsIn K mainGlobals "_law_is_round_right" = some (some (.ref f__law_is_round_right)))
    (l__law_is_round_right : K.lookup f__law_is_round_right = some ⟨oc__law_is_round_right, od__law_is_round_right, .func (PySem.W.fnOf "_law_is_round_right" "_law_is_round_right" (defArgs s__law_is_round_right) (defBody s__law_is_round_right) (defScope s__law_is_round_right) .none kV__law_is_round_right dc__law_is_round_right pm__law_is_round_right an__law_is_round_right cd__law_is_round_right ct__law_is_round_right), sl__law_is_round_right⟩)
    (c__law_is_round_right : PySem.W.codeIn K cd__law_is_round_right "_law_is_round_right" = true)
    (k__law_is_round_right : PySem.W.keepIn K (.ref f__law_is_round_right) = true)
    (a__law_is_first_right : PySem.W.nsIn K mainGlobals "_law_is_first_right" = some (some (.ref f__law_is_first_right)))
    (l__law_is_first_right : K.lookup f__law_is_first_right = some ⟨oc__law_is_first_right, od__law_is_first_right, .func (PySem.W.fnOf "_law_is_first_right" "_law_is_first_right" (defArgs s__law_is_first_right) (defBody s__law_is_first_right) (defScope s__law_is_first_right) .none kV__law_is_first_right dc__law_is_first_right pm__law_is_first_right an__law_is_first_right cd__law_is_first_right ct__law_is_first_right), sl__law_is_first_right⟩)
    (c__law_is_first_right : PySem.W.codeIn K cd__law_is_first_right "_law_is_first_right" = true)
    (k__law_is_first_right : PySem.W.keepIn K (.ref f__law_is_first_right) = true)
    (a__law_word : PySem.W.nsIn K mainGlobals "_law_word" = some (some (.ref f__law_word)))
    (l__law_word : K.lookup f__law_word = some ⟨oc__law_word, od__law_word, .func (PySem.W.fnOf "_law_word" "_law_word" (defArgs s__law_word) (defBody s__law_word) (defScope s__law_word) .none kV__law_word dc__law_word pm__law_word an__law_word cd__law_word ct__law_word), sl__law_word⟩)
    (c__law_word : PySem.W.codeIn K cd__law_word "_law_word" = true)
    (k__law_word : PySem.W.keepIn K (.ref f__law_word) = true)
    (a__law_two : PySem.W.nsIn K mainGlobals "_law_two" = some (some (.ref f__law_two)))
    (l__law_two : K.lookup f__law_two = some ⟨oc__law_two, od__law_two, .func (PySem.W.fnOf "_law_two" "_law_two" (defArgs s__law_two) (defBody s__law_two) (defScope s__law_two) .none kV__law_two dc__law_two pm__law_two an__law_two (.ref cc__law_two) ct__law_two), sl__law_two⟩)
    (c__law_two : PySem.W.codeIn K (.ref cc__law_two) "_law_two" = true)
    (k__law_two : PySem.W.keepIn K (.ref f__law_two) = true)
    (a__law_are_refused : PySem.W.nsIn K mainGlobals "_law_are_refused" = some (some (.ref f__law_are_refused)))
    (l__law_are_refused : K.lookup f__law_are_refused = some ⟨oc__law_are_refused, od__law_are_refused, .func (PySem.W.fnOf "_law_are_refused" "_law_are_refused" (defArgs s__law_are_refused) (defBody s__law_are_refused) (defScope s__law_are_refused) .none kV__law_are_refused dc__law_are_refused pm__law_are_refused an__law_are_refused (.ref cc__law_are_refused) ct__law_are_refused), sl__law_are_refused⟩)
    (c__law_are_refused : PySem.W.codeIn K (.ref cc__law_are_refused) "_law_are_refused" = true)
    (k__law_are_refused : PySem.W.keepIn K (.ref f__law_are_refused) = true)
    (a_law : PySem.W.nsIn K mainGlobals "law" = some (some (.ref f_law)))
    (l_law : K.lookup f_law = some ⟨oc_law, od_law, .func (PySem.W.fnOf "law" "law" (defArgs s_law) (defBody s_law) (defScope s_law) .none kV_law dc_law pm_law an_law cd_law ct_law), sl_law⟩)
    (c_law : PySem.W.codeIn K cd_law "law" = true)
    (k_law : PySem.W.keepIn K (.ref f_law) = true)
    (z_ValueError : PySem.W.nsIn K mainGlobals "ValueError" = some none)
    (z_abs : PySem.W.nsIn K mainGlobals "abs" = some none)
    (z_all : PySem.W.nsIn K mainGlobals "all" = some none)
    (z_bool : PySem.W.nsIn K mainGlobals "bool" = some none)
    (z_dict : PySem.W.nsIn K mainGlobals "dict" = some none)
    (z_int : PySem.W.nsIn K mainGlobals "int" = some none)
    (z_isinstance : PySem.W.nsIn K mainGlobals "isinstance" = some none)
    (z_len : PySem.W.nsIn K mainGlobals "len" = some none)
    (z_list : PySem.W.nsIn K mainGlobals "list" = some none)
    (z_range : PySem.W.nsIn K mainGlobals "range" = some none)
    (z_sum : PySem.W.nsIn K mainGlobals "sum" = some none)
    (z_tuple : PySem.W.nsIn K mainGlobals "tuple" = some none)
    (z_zip : PySem.W.nsIn K mainGlobals "zip" = some none)
    (z_super : PySem.W.nsIn K mainGlobals "super" = some none)
    (q_MOST_LENGTH : PySem.W.nsIn K mainGlobals "MOST_LENGTH" = some (some (.int 64 t_MOST_LENGTH)))
    (q_MOST_TRIED : PySem.W.nsIn K mainGlobals "MOST_TRIED" = some (some (.int 70000 t_MOST_TRIED)))
    (a_BlockError : PySem.W.nsIn K mainGlobals "BlockError" = some (some (.ref C_BlockError)))
    (a_TooMany : PySem.W.nsIn K mainGlobals "TooMany" = some (some (.ref C_TooMany)))
    (a_NoNumber : PySem.W.nsIn K mainGlobals "NoNumber" = some (some (.ref C_NoNumber)))
    (a_NoSequence : PySem.W.nsIn K mainGlobals "NoSequence" = some (some (.ref C_NoSequence)))
    (Z_NoNumber : Nonempty (PySem.W.Ex0 K prog C_NoNumber fI_NoNumber))
    (Z_NoSequence : Nonempty (PySem.W.Ex0 K prog C_NoSequence fI_NoSequence))
    (x_NoNumber : ExcC K C_NoNumber)
    (m_NoNumber_BlockError : PySem.W.exmOne K (.ref C_NoNumber) (.ref C_BlockError) = some true)
    (kit_NoNumber_NoSequence : PySem.W.kitOne K (.ref C_NoNumber) (.ref C_NoSequence) = some (kB_NoSequence 2))
    (kit_NoNumber_NoNumber : PySem.W.kitOne K (.ref C_NoNumber) (.ref C_NoNumber) = some (kB_NoNumber 2))
    (kit_NoNumber_ValueError : PySem.W.kitOne K (.ref C_NoNumber) (.type "ValueError") = some (kB_ValueError 2))
    (x_NoSequence : ExcC K C_NoSequence)
    (m_NoSequence_BlockError : PySem.W.exmOne K (.ref C_NoSequence) (.ref C_BlockError) = some true)
    (kit_NoSequence_NoSequence : PySem.W.kitOne K (.ref C_NoSequence) (.ref C_NoSequence) = some (kB_NoSequence 3))
    (kit_NoSequence_NoNumber : PySem.W.kitOne K (.ref C_NoSequence) (.ref C_NoNumber) = some (kB_NoNumber 3))
    (kit_NoSequence_ValueError : PySem.W.kitOne K (.ref C_NoSequence) (.type "ValueError") = some (kB_ValueError 3))
    (tbm__law_two : (P__law_two, ("_law_two" : Str) ++ ".<locals>." ++ "<lambda>") ∈ tb)
    (tbu__law_two : ∀ p ∈ tb, p.1 = P__law_two → p.2 = ("_law_two" : Str) ++ ".<locals>." ++ "<lambda>")
    (tbm__law_are_refused : (P__law_are_refused, ("_law_are_refused" : Str) ++ ".<locals>." ++ "<lambda>") ∈ tb)
    (tbu__law_are_refused : ∀ p ∈ tb, p.1 = P__law_are_refused → p.2 = ("_law_are_refused" : Str) ++ ".<locals>." ++ "<lambda>")
    : ∃ T : Tx K prog mg ⟨K, fun j =>  0, fun c => if c = 0 then C_BlockError else if c = 1 then C_TooMany else if c = 2 then C_NoNumber else if c = 3 then C_NoSequence else 0, fun _ => [], tb, gb⟩, T.a_law = f_law ∧ T.d_law = PySem.W.fnOf "law" "law" (defArgs s_law) (defBody s_law) (defScope s_law) .none kV_law dc_law pm_law an_law cd_law ct_law ∧ T.c__law_two = cc__law_two ∧ T.P__law_two = P__law_two ∧ T.c__law_are_refused = cc__law_are_refused ∧ T.P__law_are_refused = P__law_are_refused := by
  obtain ⟨Z_NoNumber⟩ := Z_NoNumber
  obtain ⟨Z_NoSequence⟩ := Z_NoSequence
  refine ⟨{
    hK := rfl,
    a_is_integer := f_is_integer, d_is_integer := _, F_is_integer := fun_mk (st := s_is_integer) l_is_integer c_is_integer k_is_integer, g_is_integer := PySem.W.mg_of X G a_is_integer,
    B_is_integer := (fun_mk (st := s_is_integer) l_is_integer c_is_integer k_is_integer).binds (ps := ["thing"]) fun _ _ _ _ _ _ us hl => match us, hl with | [_], _ => rfl,
    a_is_within := f_is_within, d_is_within := _, F_is_within := fun_mk (st := s_is_within) l_is_within c_is_within k_is_within, g_is_within := PySem.W.mg_of X G a_is_within,
    B_is_within := (fun_mk (st := s_is_within) l_is_within c_is_within k_is_within).binds (ps := ["thing", "least", "most"]) fun _ _ _ _ _ _ us hl => match us, hl with | [_, _, _], _ => rfl,
    a_is_tuple := f_is_tuple, d_is_tuple := _, F_is_tuple := fun_mk (st := s_is_tuple) l_is_tuple c_is_tuple k_is_tuple, g_is_tuple := PySem.W.mg_of X G a_is_tuple,
    B_is_tuple := (fun_mk (st := s_is_tuple) l_is_tuple c_is_tuple k_is_tuple).binds (ps := ["thing", "least", "most"]) fun _ _ _ _ _ _ us hl => match us, hl with | [_, _, _], _ => rfl,
    a_raised_to := f_raised_to, d_raised_to := _, F_raised_to := fun_mk (st := s_raised_to) l_raised_to c_raised_to k_raised_to, g_raised_to := PySem.W.mg_of X G a_raised_to,
    B_raised_to := (fun_mk (st := s_raised_to) l_raised_to c_raised_to k_raised_to).binds (ps := ["number", "power"]) fun _ _ _ _ _ _ us hl => match us, hl with | [_, _], _ => rfl,
    a_is_row := f_is_row, d_is_row := _, F_is_row := fun_mk (st := s_is_row) l_is_row c_is_row k_is_row, g_is_row := PySem.W.mg_of X G a_is_row,
    B_is_row := (fun_mk (st := s_is_row) l_is_row c_is_row k_is_row).binds (ps := ["thing"]) fun _ _ _ _ _ _ us hl => match us, hl with | [_], _ => rfl,
    a_check_rows := f_check_rows, d_check_rows := _, F_check_rows := fun_mk (st := s_check_rows) l_check_rows c_check_rows k_check_rows, g_check_rows := PySem.W.mg_of X G a_check_rows,
    B_check_rows := (fun_mk (st := s_check_rows) l_check_rows c_check_rows k_check_rows).binds (ps := ["rows"]) fun _ _ _ _ _ _ us hl => match us, hl with | [_], _ => rfl,
    a_ring_sums_of := f_ring_sums_of, d_ring_sums_of := _, F_ring_sums_of := fun_mk (st := s_ring_sums_of) l_ring_sums_of c_ring_sums_of k_ring_sums_of, g_ring_sums_of := PySem.W.mg_of X G a_ring_sums_of,
    B_ring_sums_of := (fun_mk (st := s_ring_sums_of) l_ring_sums_of c_ring_sums_of k_ring_sums_of).binds (ps := ["row"]) fun _ _ _ _ _ _ us hl => match us, hl with | [_], _ => rfl,
    a_ring_sums := f_ring_sums, d_ring_sums := _, F_ring_sums := fun_mk (st := s_ring_sums) l_ring_sums c_ring_sums k_ring_sums, g_ring_sums := PySem.W.mg_of X G a_ring_sums,
    B_ring_sums := (fun_mk (st := s_ring_sums) l_ring_sums c_ring_sums k_ring_sums).binds (ps := ["row"]) fun _ _ _ _ _ _ us hl => match us, hl with | [_], _ => rfl,
    a_check_rule := f_check_rule, d_check_rule := _, F_check_rule := fun_mk (st := s_check_rule) l_check_rule c_check_rule k_check_rule, g_check_rule := PySem.W.mg_of X G a_check_rule,
    B_check_rule := (fun_mk (st := s_check_rule) l_check_rule c_check_rule k_check_rule).binds (ps := ["rule", "begin"]) fun _ _ _ _ _ _ us hl => match us, hl with | [_, _], _ => rfl,
    a_bits_by := f_bits_by, d_bits_by := _, F_bits_by := fun_mk (st := s_bits_by) l_bits_by c_bits_by k_bits_by, g_bits_by := PySem.W.mg_of X G a_bits_by,
    B_bits_by := (fun_mk (st := s_bits_by) l_bits_by c_bits_by k_bits_by).binds (ps := ["rule", "begin", "many"]) fun _ _ _ _ _ _ us hl => match us, hl with | [_, _, _], _ => rfl,
    a_by_rule := f_by_rule, d_by_rule := _, F_by_rule := fun_mk (st := s_by_rule) l_by_rule c_by_rule k_by_rule, g_by_rule := PySem.W.mg_of X G a_by_rule,
    B_by_rule := (fun_mk (st := s_by_rule) l_by_rule c_by_rule k_by_rule).binds (ps := ["rule", "begin", "many"]) fun _ _ _ _ _ _ us hl => match us, hl with | [_, _, _], _ => rfl,
    a_period := f_period, d_period := _, F_period := fun_mk (st := s_period) l_period c_period k_period, g_period := PySem.W.mg_of X G a_period,
    B_period := (fun_mk (st := s_period) l_period c_period k_period).binds (ps := ["rule", "begin"]) fun _ _ _ _ _ _ us hl => match us, hl with | [_, _], _ => rfl,
    a_is_longest := f_is_longest, d_is_longest := _, F_is_longest := fun_mk (st := s_is_longest) l_is_longest c_is_longest k_is_longest, g_is_longest := PySem.W.mg_of X G a_is_longest,
    B_is_longest := (fun_mk (st := s_is_longest) l_is_longest c_is_longest k_is_longest).binds (ps := ["rule", "size"]) fun _ _ _ _ _ _ us hl => match us, hl with | [_, _], _ => rfl,
    a_first_longest := f_first_longest, d_first_longest := _, F_first_longest := fun_mk (st := s_first_longest) l_first_longest c_first_longest k_first_longest, g_first_longest := PySem.W.mg_of X G a_first_longest,
    B_first_longest := (fun_mk (st := s_first_longest) l_first_longest c_first_longest k_first_longest).binds (ps := ["size"]) fun _ _ _ _ _ _ us hl => match us, hl with | [_], _ => rfl,
    a_is_even_round := f_is_even_round, d_is_even_round := _, F_is_even_round := fun_mk (st := s_is_even_round) l_is_even_round c_is_even_round k_is_even_round, g_is_even_round := PySem.W.mg_of X G a_is_even_round,
    B_is_even_round := (fun_mk (st := s_is_even_round) l_is_even_round c_is_even_round k_is_even_round).binds (ps := ["row"]) fun _ _ _ _ _ _ us hl => match us, hl with | [_], _ => rfl,
    a_signs_of := f_signs_of, d_signs_of := _, F_signs_of := fun_mk (st := s_signs_of) l_signs_of c_signs_of k_signs_of, g_signs_of := PySem.W.mg_of X G a_signs_of,
    B_signs_of := (fun_mk (st := s_signs_of) l_signs_of c_signs_of k_signs_of).binds (ps := ["bits"]) fun _ _ _ _ _ _ us hl => match us, hl with | [_], _ => rfl,
    a__law_hand := f__law_hand, d__law_hand := _, F__law_hand := fun_mk (st := s__law_hand) l__law_hand c__law_hand k__law_hand, g__law_hand := PySem.W.mg_of X G a__law_hand,
    B__law_hand := (fun_mk (st := s__law_hand) l__law_hand c__law_hand k__law_hand).binds (ps := ["script"]) fun _ _ _ _ _ _ us hl => match us, hl with | [_], _ => rfl,
    a__law_draw := f__law_draw, d__law_draw := _, F__law_draw := fun_mk (st := s__law_draw) l__law_draw c__law_draw k__law_draw, g__law_draw := PySem.W.mg_of X G a__law_draw,
    B__law_draw := (fun_mk (st := s__law_draw) l__law_draw c__law_draw k__law_draw).binds (ps := ["hand", "many"]) fun _ _ _ _ _ _ us hl => match us, hl with | [_, _], _ => rfl,
    a__law_any := f__law_any, d__law_any := _, F__law_any := fun_mk (st := s__law_any) l__law_any c__law_any k__law_any, g__law_any := PySem.W.mg_of X G a__law_any,
    B__law_any := (fun_mk (st := s__law_any) l__law_any c__law_any k__law_any).binds (ps := ["hand", "some"]) fun _ _ _ _ _ _ us hl => match us, hl with | [_, _], _ => rfl,
    a__law_rule := f__law_rule, d__law_rule := _, F__law_rule := fun_mk (st := s__law_rule) l__law_rule c__law_rule k__law_rule, g__law_rule := PySem.W.mg_of X G a__law_rule,
    B__law_rule := (fun_mk (st := s__law_rule) l__law_rule c__law_rule k__law_rule).binds (ps := ["hand", "top"]) fun _ _ _ _ _ _ us hl => match us, hl with | [_, _], _ => rfl,
    a__law_bits := f__law_bits, d__law_bits := _, F__law_bits := fun_mk (st := s__law_bits) l__law_bits c__law_bits k__law_bits, g__law_bits := PySem.W.mg_of X G a__law_bits,
    B__law_bits := (fun_mk (st := s__law_bits) l__law_bits c__law_bits k__law_bits).binds (ps := ["hand", "many"]) fun _ _ _ _ _ _ us hl => match us, hl with | [_, _], _ => rfl,
    a__law_on := f__law_on, d__law_on := _, F__law_on := fun_mk (st := s__law_on) l__law_on c__law_on k__law_on, g__law_on := PySem.W.mg_of X G a__law_on,
    B__law_on := (fun_mk (st := s__law_on) l__law_on c__law_on k__law_on).binds (ps := ["rule", "begin", "many"]) fun _ _ _ _ _ _ us hl => match us, hl with | [_, _, _], _ => rfl,
    a__law_period := f__law_period, d__law_period := _, F__law_period := fun_mk (st := s__law_period) l__law_period c__law_period k__law_period, g__law_period := PySem.W.mg_of X G a__law_period,
    B__law_period := (fun_mk (st := s__law_period) l__law_period c__law_period k__law_period).binds (ps := ["rule", "begin"]) fun _ _ _ _ _ _ us hl => match us, hl with | [_, _], _ => rfl,
    a__law_is_bits_right := f__law_is_bits_right, d__law_is_bits_right := _, F__law_is_bits_right := fun_mk (st := s__law_is_bits_right) l__law_is_bits_right c__law_is_bits_right k__law_is_bits_right, g__law_is_bits_right := PySem.W.mg_of X G a__law_is_bits_right,
    B__law_is_bits_right := (fun_mk (st := s__law_is_bits_right) l__law_is_bits_right c__law_is_bits_right k__law_is_bits_right).binds (ps := ["told", "rule", "begin", "many"]) fun _ _ _ _ _ _ us hl => match us, hl with | [_, _, _, _], _ => rfl,
    a__law_is_rule_right := f__law_is_rule_right, d__law_is_rule_right := _, F__law_is_rule_right := fun_mk (st := s__law_is_rule_right) l__law_is_rule_right c__law_is_rule_right k__law_is_rule_right, g__law_is_rule_right := PySem.W.mg_of X G a__law_is_rule_right,
    B__law_is_rule_right := (fun_mk (st := s__law_is_rule_right) l__law_is_rule_right c__law_is_rule_right k__law_is_rule_right).binds (ps := ["hand", "rule"]) fun _ _ _ _ _ _ us hl => match us, hl with | [_, _], _ => rfl,
    a__law_all := f__law_all, d__law_all := _, F__law_all := fun_mk (st := s__law_all) l__law_all c__law_all k__law_all, g__law_all := PySem.W.mg_of X G a__law_all,
    B__law_all := (fun_mk (st := s__law_all) l__law_all c__law_all k__law_all).binds (ps := ["size"]) fun _ _ _ _ _ _ us hl => match us, hl with | [_], _ => rfl,
    a__law_is_longest := f__law_is_longest, d__law_is_longest := _, F__law_is_longest := fun_mk (st := s__law_is_longest) l__law_is_longest c__law_is_longest k__law_is_longest, g__law_is_longest := PySem.W.mg_of X G a__law_is_longest,
    B__law_is_longest := (fun_mk (st := s__law_is_longest) l__law_is_longest c__law_is_longest k__law_is_longest).binds (ps := ["rule"]) fun _ _ _ _ _ _ us hl => match us, hl with | [_], _ => rfl,
    a__law_rules := f__law_rules, d__law_rules := _, F__law_rules := fun_mk (st := s__law_rules) l__law_rules c__law_rules k__law_rules, g__law_rules := PySem.W.mg_of X G a__law_rules,
    B__law_rules := (fun_mk (st := s__law_rules) l__law_rules c__law_rules k__law_rules).binds (ps := ["size"]) fun _ _ _ _ _ _ us hl => match us, hl with | [_], _ => rfl,
    a__law_is_round_right := f__law_is_round_right, d__law_is_round_right := _, F__law_is_round_right := fun_mk (st := s__law_is_round_right) l__law_is_round_right c__law_is_round_right k__law_is_round_right, g__law_is_round_right := PySem.W.mg_of X G a__law_is_round_right,
    B__law_is_round_right := (fun_mk (st := s__law_is_round_right) l__law_is_round_right c__law_is_round_right k__law_is_round_right).binds (ps := ["hand", "rule"]) fun _ _ _ _ _ _ us hl => match us, hl with | [_, _], _ => rfl,
    a__law_is_first_right := f__law_is_first_right, d__law_is_first_right := _, F__law_is_first_right := fun_mk (st := s__law_is_first_right) l__law_is_first_right c__law_is_first_right k__law_is_first_right, g__law_is_first_right := PySem.W.mg_of X G a__law_is_first_right,
    B__law_is_first_right := (fun_mk (st := s__law_is_first_right) l__law_is_first_right c__law_is_first_right k__law_is_first_right).binds (ps := ["hand"]) fun _ _ _ _ _ _ us hl => match us, hl with | [_], _ => rfl,
    a__law_word := f__law_word, d__law_word := _, F__law_word := fun_mk (st := s__law_word) l__law_word c__law_word k__law_word, g__law_word := PySem.W.mg_of X G a__law_word,
    B__law_word := (fun_mk (st := s__law_word) l__law_word c__law_word k__law_word).binds (ps := ["call"]) fun _ _ _ _ _ _ us hl => match us, hl with | [_], _ => rfl,
    a__law_two := f__law_two, d__law_two := _, F__law_two := fun_mk (st := s__law_two) l__law_two c__law_two k__law_two, g__law_two := PySem.W.mg_of X G a__law_two,
    B__law_two := (fun_mk (st := s__law_two) l__law_two c__law_two k__law_two).binds (ps := ["rule", "begin"]) fun _ _ _ _ _ _ us hl => match us, hl with | [_, _], _ => rfl,
    a__law_are_refused := f__law_are_refused, d__law_are_refused := _, F__law_are_refused := fun_mk (st := s__law_are_refused) l__law_are_refused c__law_are_refused k__law_are_refused, g__law_are_refused := PySem.W.mg_of X G a__law_are_refused,
    B__law_are_refused := (fun_mk (st := s__law_are_refused) l__law_are_refused c__law_are_refused k__law_are_refused).binds (ps := ["hand"]) fun _ _ _ _ _ _ us hl => match us, hl with | [_], _ => rfl,
    a_law := f_law, d_law := _, F_law := fun_mk (st := s_law) l_law c_law k_law, g_law := PySem.W.mg_of X G a_law,
    B_law := (fun_mk (st := s_law) l_law c_law k_law).binds (ps := ["script"]) fun _ _ _ _ _ _ us hl => match us, hl with | [_], _ => rfl,
    n_ValueError := PySem.W.mg_none_of X G z_ValueError,
    n_abs := PySem.W.mg_none_of X G z_abs,
    n_all := PySem.W.mg_none_of X G z_all,
    n_bool := PySem.W.mg_none_of X G z_bool,
    n_dict := PySem.W.mg_none_of X G z_dict,
    n_int := PySem.W.mg_none_of X G z_int,
    n_isinstance := PySem.W.mg_none_of X G z_isinstance,
    n_len := PySem.W.mg_none_of X G z_len,
    n_list := PySem.W.mg_none_of X G z_list,
    n_range := PySem.W.mg_none_of X G z_range,
    n_sum := PySem.W.mg_none_of X G z_sum,
    n_tuple := PySem.W.mg_none_of X G z_tuple,
    n_zip := PySem.W.mg_none_of X G z_zip,
    n_super := PySem.W.mg_none_of X G z_super,
    t_MOST_LENGTH := t_MOST_LENGTH, c_MOST_LENGTH := PySem.W.mg_of X G q_MOST_LENGTH,
    t_MOST_TRIED := t_MOST_TRIED, c_MOST_TRIED := PySem.W.mg_of X G q_MOST_TRIED,
    k_BlockError := C_BlockError, g_BlockError := PySem.W.mg_of X G a_BlockError, ca_BlockError := rfl,
    k_TooMany := C_TooMany, g_TooMany := PySem.W.mg_of X G a_TooMany, ca_TooMany := rfl,
    k_NoNumber := C_NoNumber, g_NoNumber := PySem.W.mg_of X G a_NoNumber, ca_NoNumber := rfl,
    k_NoSequence := C_NoSequence, g_NoSequence := PySem.W.mg_of X G a_NoSequence, ca_NoSequence := rfl,
    fI_NoNumber := fI_NoNumber, Z_NoNumber := Z_NoNumber, fl_NoNumber := rfl,
    fI_NoSequence := fI_NoSequence, Z_NoSequence := Z_NoSequence, fl_NoSequence := rfl,
    kit_NoSequence := (fun c hc => by
      rcases csB_mem hc with rfl | rfl
      · exact kit_NoNumber_NoSequence
      · exact kit_NoSequence_NoSequence),
    kit_NoNumber := (fun c hc => by
      rcases csB_mem hc with rfl | rfl
      · exact kit_NoNumber_NoNumber
      · exact kit_NoSequence_NoNumber),
    kit_ValueError := (fun c hc => by
      rcases csB_mem hc with rfl | rfl
      · exact kit_NoNumber_ValueError
      · exact kit_NoSequence_ValueError),
    ex_ok := (fun c hc => by
      rcases csB_mem hc with rfl | rfl
      · exact x_NoNumber
      · exact x_NoSequence),
    ex_fl := fun _ _ => rfl,
    ex_m := (fun c hc => by
      rcases csB_mem hc with rfl | rfl
      · exact m_NoNumber_BlockError
      · exact m_NoSequence_BlockError),
    c__law_two := cc__law_two, P__law_two := P__law_two, FC__law_two := ⟨_, _, _, _, _, _, _, _, rfl, l__law_two, c__law_two⟩, tbm__law_two := tbm__law_two, tbu__law_two := tbu__law_two,
    c__law_are_refused := cc__law_are_refused, P__law_are_refused := P__law_are_refused, FC__law_are_refused := ⟨_, _, _, _, _, _, _, _, rfl, l__law_are_refused, c__law_are_refused⟩, tbm__law_are_refused := tbm__law_are_refused, tbu__law_are_refused := tbu__law_are_refused
    }, rfl, rfl, rfl, rfl, rfl, rfl⟩
end L2.Pv.K77
end
section
set_option Elab.async false
set_option linter.all false
set_option autoImplicit false
set_option maxRecDepth 100000
set_option maxHeartbeats 1000000
namespace L2.Pv.K77
open PySem Lf Kd
/-! ### rules -/
structure Rule (r : List Nat) (L : Nat) : Prop where
  pos : 1 ≤ L
  big : L ≤ 16
  low : ∀ k ∈ r, 1 ≤ k
  asc : r.Pairwise (· < ·)
  last : r.getLast? = some L
theorem Rule.split {r : List Nat} {L : Nat} (h : Rule r L) : ∃ a, r = a ++ [L] ∧ ∀ k ∈ a, k < L := by
  have hl := h.last
  obtain ⟨a, e⟩ := List.getLast?_eq_some_iff.mp hl
  refine ⟨a, e, fun k hk => ?_⟩
  have := h.asc
  rw [e, List.pairwise_append] at this
  exact this.2.2 k hk L (by simp)
theorem Rule.le {r : List Nat} {L : Nat} (h : Rule r L) : ∀ k ∈ r, 1 ≤ k ∧ k ≤ L := fun k hk => by
  obtain ⟨a, e, ha⟩ := h.split
  refine ⟨h.low k hk, ?_⟩
  rw [e] at hk
  rcases List.mem_append.mp hk with hk | hk
  · exact Nat.le_of_lt (ha k hk)
  · rw [List.mem_singleton] at hk; omega
theorem asc_len : ∀ (r : List Nat) (m L : Nat), (∀ k ∈ r, m < k ∧ k ≤ L) → r.Pairwise (· < ·) → r.length + m ≤ max m L
  | [], m, L, _, _ => by simp; omega
  | k :: r, m, L, h, p => by
    rw [List.pairwise_cons] at p
    have hk := h k List.mem_cons_self
    have := asc_len r k L (fun j hj => ⟨p.1 j hj, (h j (List.mem_cons_of_mem _ hj)).2⟩) p.2
    rw [List.length_cons]; omega
theorem Rule.len {r : List Nat} {L : Nat} (h : Rule r L) : 1 ≤ r.length ∧ r.length ≤ L := by
  obtain ⟨a, e, _⟩ := h.split
  have := asc_len r 0 L (fun k hk => ⟨(h.le k hk).1, (h.le k hk).2⟩) h.asc
  exact ⟨by rw [e]; simp, by omega⟩
theorem Rule.rl {r : List Nat} {L : Nat} (h : Rule r L) : RL r L := ⟨h.pos, h.le⟩
theorem Rule.rw {r : List Nat} {L : Nat} (h : Rule r L) : RW r L := by
  refine ⟨h.rl, ?_, ?_⟩
  · obtain ⟨a, e, _⟩ := h.split
    rw [e]; simp
  · intro r1 r2 e
    have p := h.asc
    rw [e, List.pairwise_append, List.pairwise_cons] at p
    refine ⟨fun m => ?_, fun m => ?_⟩
    · exact absurd (p.2.2 L m L List.mem_cons_self) (Nat.lt_irrefl _)
    · exact absurd (p.2.1.1 L m) (Nat.lt_irrefl _)
abbrev dN (k : Nat) : D := .int (k : Int)
abbrev tN (r : List Nat) : D := .tup (r.map dN)
theorem neg_at {xs : List Int} {k : Nat} (h1 : 1 ≤ k) (h2 : k ≤ xs.length) : atI (xs.map D.int) (-(k : Int)) = some (.int (xs.getD (xs.length - k) 0)) := by
  have e : atI (xs.map D.int) (-(k : Int)) = (xs.map D.int)[xs.length - k]? := by
    unfold atI ixN
    rw [if_neg (by omega), if_pos (by rw [List.length_map]; omega)]
    show (xs.map D.int)[(_ : Int).toNat]? = _
    congr 1
    rw [List.length_map]; omega
  rw [e, List.getElem?_map, List.getElem?_eq_getElem (by omega), List.getD_eq_getElem?_getD, List.getElem?_eq_getElem (by omega)]
  rfl
theorem dSum_row (o : Bool) (xs : List Int) : dSum (.lst o (xs.map D.int)) = some (.int xs.sum) := by
  have := dSum_map (o := o) xs (fun x => x)
  simpa using this
/-- one more bit, looked up in the slot j -/
theorem bit_body {r : List Nat} {v : List Int} {L j : Nat} {b : D} {δ : DS} (h : ∀ k ∈ r, 1 ≤ k ∧ k ≤ L) (hv : L ≤ v.length) (hb : ∀ i, dIxA b (.int i) = atI (v.map D.int) i) (h0 : δ[0]? = some (some (tN r))) (hj : δ[j]? = some (some b)) (hj4 : j ≠ 4) (hl : δ.length = 5) (h4 : δ[4]? = some none) :
    ev2 dMod (ev1 dSum (eLc [4] (iSeq (eNm 0)) (gSet 4) (cYes) (ev2 dIx (eLk j) (ev1 dNeg (eLk 4))))) (eC (.int 2)) δ = .ok (.int (nb r v)) δ := by
  have w : wipeG δ [4] = δ := by
    unfold wipeG wipeG
    apply List.ext_getElem?
    intro i
    rw [List.getElem?_set]
    split
    · rename_i e; subst e; rw [h4, if_pos (by omega)]
    · rfl
  have e := eLc_map (vs := [4]) (fi := iSeq (eNm 0)) (ft := gSet 4) (fe := ev2 dIx (eLk j) (ev1 dNeg (eLk 4))) (δ := δ) (δ1 := δ) (L := r) (ι := dN) (S := fun k : Nat => δ.set 4 (some (dN k))) (g := fun k : Nat => D.int (v.getD (v.length - k) 0)) (by simp [h0]) (fun k _ => by rw [w]; exact gSet_ap (by omega)) (fun k hk => by
    obtain ⟨a1, a2⟩ := h k hk
    have e1 : (δ.set 4 (some (dN k)))[j]? = some (some b) := by rw [List.getElem?_set_ne (Ne.symm hj4)]; exact hj
    have e2 : (δ.set 4 (some (dN k)))[4]? = some (some (dN k)) := by rw [List.getElem?_set_self (by omega)]
    have na := neg_at (xs := v) (k := k) a1 (by omega)
    have ix : dIx b (.int (-(k : Int))) = some (.int (v.getD (v.length - k) 0)) := dIx_of ((hb _).trans na) rfl
    simp only [ev2_ap, ev1_ap, eLk_ap, e1, e2, bd_ok, dNeg_int, lft_some, ix]) (fun k _ => by
    rw [w]
    unfold wipeG wipeG
    rw [List.set_set]
    have := w
    unfold wipeG wipeG at this
    exact this) (by rw [w]; unfold restG restG; show List.set δ 4 (δ[4]?.join) = δ; rw [h4]; show List.set δ 4 none = δ; have := w; unfold wipeG wipeG at this; exact this)
  rw [ev2_ap, ev1_ap, e, bd_ok]
  have e3 : r.map (fun k => D.int (v.getD (v.length - k) 0)) = (r.map fun k => v.getD (v.length - k) 0).map D.int := by rw [List.map_map]; rfl
  rw [e3, dSum_row, lft_some, bd_ok, eC_ap, bd_ok]
  simp [nb]
theorem is_within_no (a b i : Int) : m_is_within [.int i, .int a, .int b] = .ok (.bl (decide (a ≤ i) && decide (i ≤ b))) [] := is_within_ok (d := .int i) rfl a b
theorem is_tuple_no (a b : Int) (xs : List D) : m_is_tuple [.tup xs, .int a, .int b] = .ok (.bl (decide (a ≤ (xs.length : Int)) && decide ((xs.length : Int) ≤ b))) [] := is_tuple_ok (d := .tup xs) rfl a b
theorem zip_asc : ∀ (r : List Nat), r.Pairwise (· < ·) → (r.zip (r.drop 1)).all (fun p => decide ((p.1 : Int) < (p.2 : Int))) = true
  | [], _ => rfl
  | [_], _ => rfl
  | a :: b :: r, h => by
    rw [List.pairwise_cons] at h
    have ih := zip_asc (b :: r) h.2
    have hab := h.1 b List.mem_cons_self
    rw [List.drop_succ_cons, List.drop_zero, List.zip_cons_cons, List.all_cons]
    rw [List.drop_succ_cons, List.drop_zero] at ih
    rw [ih, decide_eq_true (by show (a : Int) < (b : Int); omega)]; rfl
theorem zipD_nat : ∀ (xs ys : List Nat), zipD (xs.map dN) (ys.map dN) = (xs.zip ys).map fun p => D.tup [.int (p.1 : Int), .int (p.2 : Int)]
  | [], _ => rfl
  | _ :: _, [] => rfl
  | x :: xs, y :: ys => by
    have := zipD_nat xs ys
    unfold zipD at this ⊢
    rw [List.map_cons, List.map_cons, List.zipWith_cons_cons, this, List.zip_cons_cons, List.map_cons]
theorem check_ok {r : List Nat} {L : Nat} {v : List Int} (h : Rule r L) (hv : Lf.St v L) : m_check_rule [tN r, tR v] = .ok .non [] := by
  have p1 := h.pos
  have p2 := h.big
  obtain ⟨l1, l2⟩ := h.len
  have hl := hv.len
  unfold m_check_rule
  rw [runF_2]
  unfold b_check_rule
  have t1 := is_tuple_no 1 16 (v.map D.int)
  have t2 := is_tuple_no 1 L (r.map dN)
  have g1 : decide ((1 : Int) ≤ ((v.map D.int).length : Int)) = true := decide_eq_true (by rw [List.length_map]; omega)
  have g2 : decide (((v.map D.int).length : Int) ≤ 16) = true := decide_eq_true (by rw [List.length_map]; omega)
  have g3 : decide ((1 : Int) ≤ ((r.map dN).length : Int)) = true := decide_eq_true (by rw [List.length_map]; omega)
  have g4 : decide (((r.map dN).length : Int) ≤ (L : Int)) = true := decide_eq_true (by rw [List.length_map]; omega)
  rw [g1, g2] at t1
  rw [g3, g4] at t2
  have b1 : eLc [2] (iSeq (eNm 1)) (gSet 2) cYes (calF m_is_within (aCons (eNm 2) (aCons (eC (.int 0)) (aCons (eC (.int 1)) aNil)))) [some (tN r), some (tR v), none, none, none] = .ok (.lst true (v.map fun _ => D.bl true)) [some (tN r), some (tR v), none, none, none] := by
    rw [eLc_map (L := v) (ι := D.int) (S := fun x => [some (tN r), some (tR v), some (.int x), none, none]) (g := fun _ => D.bl true) (δ1 := [some (tN r), some (tR v), none, none, none])]
    · simp
    · intro x _; rfl
    · intro x hx
      have w := is_within_no 0 1 x
      have hx := hv.bit x hx
      rcases hx with rfl | rfl <;> simp [w]
    · intro x _; rfl
    · rfl
  have b2 : eLc [2] (iSeq (eNm 0)) (gSet 2) cYes (calF m_is_within (aCons (eNm 2) (aCons (eC (.int 1)) (aCons (ev1 dLen (eLk 1)) aNil)))) [some (tN r), some (tR v), none, none, none] = .ok (.lst true (r.map fun _ => D.bl true)) [some (tN r), some (tR v), none, none, none] := by
    rw [eLc_map (L := r) (ι := dN) (S := fun k => [some (tN r), some (tR v), some (.int (k : Int)), none, none]) (g := fun _ => D.bl true) (δ1 := [some (tN r), some (tR v), none, none, none])]
    · simp
    · intro x _; rfl
    · intro k hk
      have w := is_within_no 1 L (k : Int)
      obtain ⟨a1, a2⟩ := h.le k hk
      have c1 : decide ((1 : Int) ≤ (k : Int)) = true := decide_eq_true (by omega)
      have c2 : decide ((k : Int) ≤ (L : Int)) = true := decide_eq_true (by omega)
      rw [c1, c2] at w
      simp [hl, w]
    · intro x _; rfl
    · rfl
  have b3 : eLc [3, 4] (iZipD (aCons (eNm 0) (aCons (eSl (eLk 0) (oSome (eC (.int 1))) oNone) aNil))) (gTup' 2 (gCons' (gSet 3) (gCons' (gSet 4) gNil'))) cYes (ev2 dLt (eLk 3) (eLk 4)) [some (tN r), some (tR v), none, none, none] = .ok (.lst true ((r.zip (r.drop 1)).map fun p => D.bl (decide ((p.1 : Int) < (p.2 : Int))))) [some (tN r), some (tR v), none, none, none] := by
    have s1 := sl_from (xs := r.map dN) (n := 1)
    have s1 : dSl (tN r) (some 1) none = some (.tup ((r.drop 1).map dN)) := by rw [List.map_drop]; exact s1
    rw [eLc_map (L := r.zip (r.drop 1)) (ι := fun p => D.tup [.int (p.1 : Int), .int (p.2 : Int)]) (S := fun p => [some (tN r), some (tR v), none, some (.int (p.1 : Int)), some (.int (p.2 : Int))]) (g := fun p => D.bl (decide ((p.1 : Int) < (p.2 : Int)))) (δ1 := [some (tN r), some (tR v), none, none, none])]
    · rw [← zipD_nat]
      simp [s1]
    · intro p _; rfl
    · intro p _; simp
    · intro p _; rfl
    · rfl
  have l1' : dIxA (tN r) (.int (-1)) = some (.int (L : Int)) := by
    have e : atI (r.map dN) (-1) = some (.int (L : Int)) := by
      rw [atI_m1, List.length_map, List.getElem?_map]
      have := h.last
      rw [List.getLast?_eq_getElem?] at this
      rw [this]; rfl
    exact e
  have za := zip_asc r h.asc
  simp [t1, t2, b1, b2, hl, dAll_map, l1']
  rw [b3]
  simp [dAll_map, za, l1', hl]
  have za' : ((r.zip r.tail).all fun a => decide (a.fst < a.snd)) = true := by simpa using za
  simp [za']
theorem while_s {fc : EvT} {g : Es} {N : Nat} {δ δ1 δ2 : DS} (h : fc δ = .ok true δ1) (h2 : g δ1 = .nx δ2) : sWhile fc g (N + 1) δ = sWhile fc g N δ2 := by
  show (fc δ).st (fun b δ' => if b then (g δ').lp (sWhile fc g N) else .nx δ') = _
  rw [h]
  show (if true = true then (g δ1).lp (sWhile fc g N) else .nx δ1) = _
  rw [if_pos rfl, h2, lp_nx]
theorem while_e {fc : EvT} {g : Es} {N : Nat} {δ δ1 : DS} (h : fc δ = .ok false δ1) : sWhile fc g (N + 1) δ = .nx δ1 := by
  show (fc δ).st (fun b δ' => if b then (g δ').lp (sWhile fc g N) else .nx δ') = _
  rw [h]
  rfl
theorem dList_tup' {xs : List D} : dList (.tup xs) = some (.lst true xs) := rfl
/-! ### bits -/
def wC : EvT := (cVal (ev2 dLt (ev1 dLen (eLk 3)) (eLk 2)))
def wB : Es := (sExpr (eMeth "list" 3 (pNm 3) (aCons (ev2 dMod (ev1 dSum (eLc [4] (iSeq (eNm 0)) (gSet 4) (cYes) (ev2 dIx (eLk 3) (ev1 dNeg (eLk 4))))) (eC (.int 2))) (aNil)) mAppend))
theorem bits_turn {r : List Nat} {L : Nat} {w : List Int} (h : ∀ k ∈ r, 1 ≤ k ∧ k ≤ L) (hw : L ≤ w.length) (hz : w.length ≤ 100000) (s1 s2 : Option D) : wB [some (tN r), s1, s2, some (.lst true (w.map D.int)), none] = .nx [some (tN r), s1, s2, some (.lst true ((w ++ [nb r w]).map D.int)), none] := by
  have bb := bit_body (r := r) (v := w) (L := L) (j := 3) (b := .lst true (w.map D.int)) (δ := [some (tN r), s1, s2, some (.lst true (w.map D.int)), none]) h hw (fun i => rfl) rfl rfl (by decide) rfl rfl
  have sz : w.length < sizeLine := sz_le (by omega)
  unfold wB
  rw [sExpr_ap]
  unfold eMeth
  rw [pNm_ap]
  simp only [List.getElem?_cons_succ, List.getElem?_cons_zero, bd_ok]
  have n3 : nodeAt 3 [] [some (tN r), s1, s2, some (D.lst true (w.map D.int)), none] = some (.lst true (w.map D.int)) := rfl
  simp only [n3]
  rw [if_pos (show tyOk "list" (.lst true (w.map D.int)) = true from rfl), aCons_ap, bb, bd_ok, aNil_ap, bd_ok, bd_ok]
  simp [updM, D.at, D.upd, mAppend, sz]
theorem bits_loop {r : List Nat} {L : Nat} (h : ∀ k ∈ r, 1 ≤ k ∧ k ≤ L) (s1 : Option D) : ∀ (n N : Nat) (w : List Int) (m : Nat), L ≤ w.length → m - w.length = n → m ≤ 100000 → n < N → sWhile wC wB N [some (tN r), s1, some (.int (m : Nat)), some (.lst true (w.map D.int)), none] = .nx [some (tN r), s1, some (.int (m : Nat)), some (.lst true ((ext r w n).map D.int)), none]
  | n, 0, _, _, _, _, _, h3 => absurd h3 (Nat.not_lt_zero _)
  | 0, N + 1, w, m, hw, hm, hz, _ => by
    have c : wC [some (tN r), s1, some (.int (m : Nat)), some (.lst true (w.map D.int)), none] = .ok false [some (tN r), s1, some (.int (m : Nat)), some (.lst true (w.map D.int)), none] := by
      unfold wC
      have : ¬ w.length < m := by omega
      simp [this]
    rw [while_e c]; rfl
  | n + 1, N + 1, w, m, hw, hm, hz, hN => by
    have c : wC [some (tN r), s1, some (.int (m : Nat)), some (.lst true (w.map D.int)), none] = .ok true [some (tN r), s1, some (.int (m : Nat)), some (.lst true (w.map D.int)), none] := by
      unfold wC
      have : w.length < m := by omega
      simp [this]
    rw [while_s c (bits_turn h hw (by omega) _ _), bits_loop h s1 n N (w ++ [nb r w]) m (by simp; omega) (by simp; omega) hz (by omega)]
    rfl
theorem bits_ok {r : List Nat} {L : Nat} {v : List Int} (h : Rule r L) (hv : Lf.St v L) {m : Nat} (hm : m ≤ 5000) : m_bits_by [tN r, tR v, .int (m : Nat)] = .ok (.lst true (((ext r v m).take m).map D.int)) [] := by
  have lp := bits_loop (r := r) (L := L) h.le (some (tR v)) (m - v.length) 100000 v m (by rw [hv.len]; exact Nat.le_refl _) rfl (by omega) (by omega)
  unfold m_bits_by
  rw [runF_3]
  unfold wC wB at lp
  simp [b_bits_by, dList_tup']
  rw [lp]
  have e := ext_take r v (m := m - v.length) (n := m) (k := m) (by omega) (by omega)
  have sl : dSl (.lst true ((ext r v (m - v.length)).map D.int)) none (some (m : Int)) = some (.lst true (((ext r v m).take m).map D.int)) := by
    unfold dSl
    simp only [allN_int, if_true]
    unfold dCut
    simp only [HT.sIx_none, HT.sIx_nat]
    rw [Nat.sub_zero, List.drop_zero, ← e, List.map_take]
    congr 2
    rw [List.length_map]
    by_cases hl : m ≤ (ext r v (m - v.length)).length
    · rw [Nat.min_eq_left hl]
    · rw [Nat.min_eq_right (by omega), List.take_of_length_le (by rw [List.length_map]; exact Nat.le_refl _), List.take_of_length_le (by rw [List.length_map]; omega)]
  simp [sl]
theorem by_rule_ok {r : List Nat} {L : Nat} {v : List Int} (h : Rule r L) (hv : Lf.St v L) {m : Nat} (hm : m ≤ 5000) : m_by_rule [tN r, tR v, .int (m : Nat)] = .ok (tR ((ext r v m).take m)) [] := by
  have w := is_within_no 0 5000 (m : Nat)
  rw [decide_eq_true (show (0 : Int) ≤ (m : Nat) by omega), decide_eq_true (show ((m : Nat) : Int) ≤ 5000 by omega)] at w
  unfold m_by_rule
  rw [runF_3]
  simp [b_by_rule, check_ok h hv, w, bits_ok h hv hm, -List.map_take]
end L2.Pv.K77
end
section
set_option Elab.async false
set_option linter.all false
set_option autoImplicit false
set_option maxRecDepth 100000
set_option maxHeartbeats 1000000
namespace L2.Pv.K77
open PySem Lf Kd
/-! ### period -/
theorem sl_row1 (w : List Int) : dSl (.tup (w.map D.int)) (some 1) none = some (.tup ((w.drop 1).map D.int)) := by
  rw [List.map_drop]
  exact sl_from (n := 1)
theorem stp_body {r : List Nat} {L j : Nat} {w : List Int} {δ : DS} (h : ∀ k ∈ r, 1 ≤ k ∧ k ≤ L) (hw : L ≤ w.length) (hz : w.length ≤ 1000) (h0 : δ[0]? = some (some (tN r))) (hj : δ[j]? = some (some (tR w))) (hj4 : j ≠ 4) (hl : δ.length = 5) (h4 : δ[4]? = some none) :
    ev2 dAdd (eSl (eLk j) (oSome (eC (.int 1))) (oNone)) (eTup (aCons (ev2 dMod (ev1 dSum (eLc [4] (iSeq (eNm 0)) (gSet 4) (cYes) (ev2 dIx (eLk j) (ev1 dNeg (eLk 4))))) (eC (.int 2))) (aNil))) δ = .ok (tR (stp r w)) δ := by
  have bb := bit_body (r := r) (v := w) (L := L) (j := j) (b := tR w) (δ := δ) h hw (fun i => rfl) h0 hj hj4 hl h4
  have ad := add_rows (xs := w.drop 1) (ys := [nb r w]) (by simp; omega)
  rw [ev2_ap, eSl_ap, eLk_ap, hj]
  simp only [bd_ok, oSome_ap, eC_ap, ti_ok, oNone_ap, sl_row1, lft_some]
  rw [eTup_ap, aCons_ap, bb]
  simp only [bd_ok, aNil_ap, D.frzs, D.frz]
  simp only [List.map_cons, List.map_nil] at ad
  rw [ad, lft_some]
  rfl
def pC : EvT := (cVal (ev2 dNe (eLk 2) (eLk 1)))
def pB : Es := (sSeq (sSet 2 (ev2 dAdd (eSl (eLk 2) (oSome (eC (.int 1))) (oNone)) (eTup (aCons (ev2 dMod (ev1 dSum (eLc [4] (iSeq (eNm 0)) (gSet 4) (cYes) (ev2 dIx (eLk 2) (ev1 dNeg (eLk 4))))) (eC (.int 2))) (aNil))))) (sSeq (sAugI (· + ·) 3 (eC (.int 1))) (sIf (cVal (ev2 dGt (eLk 3) (eC (.int 70000)))) (sStuck) (sNil))))
theorem per_turn {r : List Nat} {L : Nat} {v w : List Int} (h : ∀ k ∈ r, 1 ≤ k ∧ k ≤ L) (hw : L ≤ w.length) (hz : w.length ≤ 1000) {d : Nat} (hd : d + 1 ≤ 70000) :
    pB [some (tN r), some (tR v), some (tR w), some (.int (d : Nat)), none] = .nx [some (tN r), some (tR v), some (tR (stp r w)), some (.int ((d + 1 : Nat) : Int)), none] := by
  have sb := stp_body (r := r) (L := L) (j := 2) (w := w) (δ := [some (tN r), some (tR v), some (tR w), some (.int (d : Nat)), none]) h hw hz rfl rfl (by decide) rfl rfl
  have g : ¬ (70000 : Int) < (d : Int) + 1 := by omega
  unfold pB
  rw [seq_set sb (by simp)]
  simp [sAugI, g]
theorem per_loop {r : List Nat} {L : Nat} {v : List Int} (h : Rule r L) (hv : Lf.St v L) {p : Nat} (hp : Per r v p) (hz : p ≤ 70000) : ∀ (n N d : Nat), 1 ≤ d → d + n = p → n < N →
    sWhile pC pB N [some (tN r), some (tR v), some (tR (its r v d)), some (.int (d : Nat)), none] = .nx [some (tN r), some (tR v), some (tR v), some (.int (p : Nat)), none]
  | n, 0, _, _, _, h3 => absurd h3 (Nat.not_lt_zero _)
  | 0, N + 1, d, h1, hd, _ => by
    obtain rfl : d = p := by omega
    rw [hp.back]
    have c : pC [some (tN r), some (tR v), some (tR v), some (.int (d : Nat)), none] = .ok false [some (tN r), some (tR v), some (tR v), some (.int (d : Nat)), none] := by
      unfold pC
      simp [dNe_row]
    rw [while_e c]
  | n + 1, N + 1, d, h1, hd, hN => by
    have hne := hp.least d h1 (by omega)
    have c : pC [some (tN r), some (tR v), some (tR (its r v d)), some (.int (d : Nat)), none] = .ok true [some (tN r), some (tR v), some (tR (its r v d)), some (.int (d : Nat)), none] := by
      unfold pC
      simp [dNe_row, hne]
    have hs := hv.its h.rw d
    have hl := hs.len
    have := h.big
    rw [while_s c (per_turn h.le (by omega) (by omega) (by omega))]
    exact per_loop h hv hp hz n N (d + 1) (by omega) (by omega) (by omega)
theorem period_ok {r : List Nat} {L : Nat} {v : List Int} (h : Rule r L) (hv : Lf.St v L) {p : Nat} (hp : Per r v p) (hz : p ≤ 70000) : m_period [tN r, tR v] = .ok (.int (p : Nat)) [] := by
  have hl := hv.len
  have hb := h.big
  have sb := stp_body (r := r) (L := L) (j := 1) (w := v) (δ := [some (tN r), some (tR v), none, none, none]) h.le (by omega) (by omega) rfl rfl (by decide) rfl rfl
  have lp := per_loop h hv hp hz (p - 1) 100000 1 (Nat.le_refl _) (by have := hp.pos; omega) (by omega)
  unfold m_period
  rw [runF_2]
  unfold b_period
  have st : ∀ G : Es, sSeq (sParT 2 (aCons (ev2 dAdd (eSl (eLk 1) (oSome (eC (.int 1))) (oNone)) (eTup (aCons (ev2 dMod (ev1 dSum (eLc [4] (iSeq (eNm 0)) (gSet 4) (cYes) (ev2 dIx (eLk 1) (ev1 dNeg (eLk 4))))) (eC (.int 2))) (aNil)))) (aCons (eC (.int 1)) (aNil))) (gCons' (gSet 2) (gCons' (gSet 3) (gNil')))) G [some (tN r), some (tR v), none, none, none] = G [some (tN r), some (tR v), some (tR (its r v 1)), some (.int ((1 : Nat) : Int)), none] := fun G => by
    rw [sSeq_ap]
    unfold sParT
    rw [aCons_ap, sb]
    simp [og]
    rfl
  unfold pC pB at lp
  rw [sSeq_ap, sExpr_ap]
  have ck := check_ok h hv
  have e1 : (calF m_check_rule (aCons (eNm 0) (aCons (eNm 1) aNil))) (some (tN r) :: some (tR v) :: List.replicate (5 - 2) none) = .ok .non [some (tN r), some (tR v), none, none, none] := by simp [ck]
  rw [e1]
  simp only [st_ok, th_nx]
  rw [st, sSeq_ap, lp]
  simp
end L2.Pv.K77
end
section
set_option Elab.async false
set_option linter.all false
set_option autoImplicit false
set_option maxRecDepth 100000
set_option maxHeartbeats 1000000
namespace L2.Pv.K77
open PySem Lf Kd
/-! ### the law's own rows -/
theorem rangeD_cons (lo : Int) (n : Nat) : rangeD lo (n + 1) = .int lo :: rangeD (lo + 1) n := by
  rw [rangeD_eq, rangeD_eq, List.range_succ_eq_map, List.map_cons, List.map_map]
  congr 1
  · show D.int (lo + ((0 : Nat) : Int)) = _
    congr 1; omega
  · refine List.map_congr_left fun i _ => ?_
    show D.int (lo + ((i + 1 : Nat) : Int)) = D.int (lo + 1 + (i : Int))
    congr 1; omega
def oB : Es := (sExpr (eMeth "list" 3 (pNm 3) (aCons (ev2 dMod (ev1 dInt (ev1 dSum (eLc [5] (iSeq (eNm 0)) (gSet 5) (cYes) (ev2 dIx (eLk 3) (ev2 dSub (ev1 dLen (eLk 3)) (eLk 5)))))) (eC (.int 2))) (aNil)) mAppend))
theorem on_turn {r : List Nat} {L : Nat} {w : List Int} (h : ∀ k ∈ r, 1 ≤ k ∧ k ≤ L) (hw : L ≤ w.length) (hz : w.length ≤ 100000) (s1 s2 s4 : Option D) : oB [some (tN r), s1, s2, some (.lst true (w.map D.int)), s4, none] = .nx [some (tN r), s1, s2, some (.lst true ((w ++ [nb r w]).map D.int)), s4, none] := by
  have lc : eLc [5] (iSeq (eNm 0)) (gSet 5) cYes (ev2 dIx (eLk 3) (ev2 dSub (ev1 dLen (eLk 3)) (eLk 5))) [some (tN r), s1, s2, some (.lst true (w.map D.int)), s4, none] = .ok (.lst true ((r.map fun k => w.getD (w.length - k) 0).map D.int)) [some (tN r), s1, s2, some (.lst true (w.map D.int)), s4, none] := by
    rw [eLc_map (L := r) (ι := dN) (S := fun k => [some (tN r), s1, s2, some (.lst true (w.map D.int)), s4, some (dN k)]) (g := fun k => D.int (w.getD (w.length - k) 0)) (δ1 := [some (tN r), s1, s2, some (.lst true (w.map D.int)), s4, none])]
    · rw [List.map_map]; rfl
    · simp
    · intro k _; rfl
    · intro k hk
      obtain ⟨a1, a2⟩ := h k hk
      have e : (w.length : Int) - (k : Int) = ((w.length - k : Nat) : Int) := by omega
      have at1 := atI_row (xs := w) (k := w.length - k) (by omega)
      have ix : dIx (.lst true (w.map D.int)) (.int ((w.length - k : Nat) : Int)) = some (.int (w.getD (w.length - k) 0)) := dIx_of at1 rfl
      simp only [ev2_ap, ev1_ap, eLk_ap, List.getElem?_cons_succ, List.getElem?_cons_zero, bd_ok, dLen_lst, List.length_map, lft_some, dSub_int, e, ix]
    · intro k _; rfl
    · rfl
  have sz : w.length < sizeLine := sz_le (by omega)
  have n3 : nodeAt 3 [] [some (tN r), s1, s2, some (D.lst true (w.map D.int)), s4, none] = some (.lst true (w.map D.int)) := rfl
  unfold oB
  rw [sExpr_ap]
  unfold eMeth
  rw [pNm_ap]
  simp only [List.getElem?_cons_succ, List.getElem?_cons_zero, bd_ok]
  simp only [n3]
  rw [if_pos (show tyOk "list" (.lst true (w.map D.int)) = true from rfl), aCons_ap, ev2_ap, ev1_ap, ev1_ap, lc, bd_ok, dSum_row, lft_some, bd_ok, dInt_int, lft_some, bd_ok]
  simp [updM, D.at, D.upd, mAppend, sz]
  rfl
theorem on_loop {r : List Nat} {L : Nat} (h : ∀ k ∈ r, 1 ≤ k ∧ k ≤ L) (s1 s2 : Option D) : ∀ (ds : List D) (w : List Int) (s4 : Option D), L ≤ w.length → w.length + ds.length ≤ 100000 → ∃ s4', forL (gSet 4) oB ds [some (tN r), s1, s2, some (.lst true (w.map D.int)), s4, none] = .nx [some (tN r), s1, s2, some (.lst true ((ext r w ds.length).map D.int)), s4', none]
  | [], w, s4, _, _ => ⟨s4, rfl⟩
  | d :: ds, w, s4, hw, hz => by
    rw [List.length_cons] at hz
    obtain ⟨s4', e⟩ := on_loop h s1 s2 ds (w ++ [nb r w]) (some d) (by simp; omega) (by simp; omega)
    refine ⟨s4', ?_⟩
    rw [forL_c (by simp) (on_turn h hw (by omega) s1 s2 (some d)), e]
    rfl
theorem on_ok {r : List Nat} {L : Nat} {v : List Int} (h : ∀ k ∈ r, 1 ≤ k ∧ k ≤ L) (hv : L ≤ v.length) (hz : v.length ≤ 1000) {n : Nat} (hn : n ≤ 10000) : m__law_on [tN r, tR v, .int (n : Nat)] = .ok (tR (ext r v n)) [] := by
  obtain ⟨s4, e⟩ := on_loop h (some (tR v)) (some (.int (n : Nat))) (rangeD 0 n) v none hv (by rw [rangeD_len]; omega)
  rw [rangeD_len] at e
  have sz : n ≤ sizeLine := sz_le (by omega)
  unfold oB at e
  unfold m__law_on
  rw [runF_3]
  simp [b__law_on, dList_tup', sz]
  rw [e]
  simp
def qB : Es := (sIf (cVal (ev2 dEq (eSl (eLk 2) (oSome (eLk 4)) (oSome (ev2 dAdd (eLk 4) (eLk 3)))) (ev1 dTup (eLk 1)))) (sRet (eNm 4)) (sNil))
theorem q_test {r : List Nat} {L : Nat} {v : List Int} (h : Rule r L) (hv : Lf.St v L) {d : Nat} (hd : d ≤ 300) (s0 : Option D) : (cVal (ev2 dEq (eSl (eLk 2) (oSome (eLk 4)) (oSome (ev2 dAdd (eLk 4) (eLk 3)))) (ev1 dTup (eLk 1)))) [s0, some (tR v), some (tR (ext r v 300)), some (.int (L : Nat)), some (.int (d : Nat))] = .ok (decide (its r v d = v)) [s0, some (tR v), some (tR (ext r v 300)), some (.int (L : Nat)), some (.int (d : Nat))] := by
  have w := ext_window h.rl hv.len hd
  have sl := sl_mid (xs := (ext r v 300).map D.int) (a := d) (n := L)
  rw [← List.map_drop, ← List.map_take, w] at sl
  rw [Int.natCast_add] at sl
  have tt : dTup (.tup (v.map D.int)) = some (.tup (v.map D.int)) := rfl
  simp only [cVal_ap, ev2_ap, eSl_ap, eLk_ap, List.getElem?_cons_succ, List.getElem?_cons_zero, bd_ok, oSome_ap, ti_ok, dAdd_int, lft_some, sl, ev1_ap, tt, dEq_row, tb_ok]
theorem q_loop {r : List Nat} {L : Nat} {v : List Int} (h : Rule r L) (hv : Lf.St v L) {p : Nat} (hp : Per r v p) (s0 : Option D) : ∀ (n d : Nat) (s4 : Option D), 1 ≤ d → d ≤ p → p < d + n → d + n ≤ 300 → ∃ δ, forL (gSet 4) qB (rangeD (d : Int) n) [s0, some (tR v), some (tR (ext r v 300)), some (.int (L : Nat)), s4] = .rt (.int (p : Nat)) δ
  | 0, d, s4, _, h2, h3, _ => by omega
  | n + 1, d, s4, h1, h2, h3, h4 => by
    have t := q_test h hv (d := d) (by omega) s0
    rw [rangeD_cons]
    by_cases e : d = p
    · subst e
      rw [hp.back, decide_eq_true rfl] at t
      have b : qB [s0, some (tR v), some (tR (ext r v 300)), some (.int (L : Nat)), some (.int (d : Nat))] = .rt (.int (d : Nat)) [s0, some (tR v), some (tR (ext r v 300)), some (.int (L : Nat)), some (.int (d : Nat))] := by
        unfold qB
        rw [sIf_ap, t]
        simp
      exact ⟨_, forL_r (by simp) b⟩
    · rw [decide_eq_false (hp.least d h1 (by omega))] at t
      have b : qB [s0, some (tR v), some (tR (ext r v 300)), some (.int (L : Nat)), some (.int (d : Nat))] = .nx [s0, some (tR v), some (tR (ext r v 300)), some (.int (L : Nat)), some (.int (d : Nat))] := by
        unfold qB
        rw [sIf_ap, t]
        simp
      obtain ⟨δ, e2⟩ := q_loop h hv hp s0 n (d + 1) (some (.int (d : Nat))) (by omega) (by omega) (by omega) (by omega)
      refine ⟨δ, ?_⟩
      rw [forL_c (by simp) b]
      exact e2
theorem lperiod_ok {r : List Nat} {L : Nat} {v : List Int} (h : Rule r L) (hv : Lf.St v L) {p : Nat} (hp : Per r v p) (hz : p < 300) : m__law_period [tN r, tR v] = .ok (.int (p : Nat)) [] := by
  have hl := hv.len
  have hb := h.big
  obtain ⟨δ, e⟩ := q_loop h hv hp (some (tN r)) 299 1 none (Nat.le_refl _) hp.pos (by omega) (by decide)
  have on := on_ok (r := r) (L := L) (v := v) h.le (by omega) (by omega) (n := 300) (by decide)
  have s1 : (300 : Nat) ≤ sizeLine := sz_le (by decide)
  have s2 : (299 : Nat) ≤ sizeLine := sz_le (by decide)
  have s3 : (1 : Nat) ≤ sizeLine := sz_le (by decide)
  unfold qB at e
  have on' : m__law_on [tN r, tR v, .int 300] = .ok (tR (ext r v 300)) [] := on
  have rg : iRng (aCons (eC (.int 1)) (aCons (eC (.int 300)) aNil)) [some (tN r), some (tR v), some (tR (ext r v 300)), some (.int (L : Nat)), none] = .ok (rangeD 1 299) [some (tN r), some (tR v), some (tR (ext r v 300)), some (.int (L : Nat)), none] := iRng_2 (i := 1) (j := 300) rfl rfl (by decide) (by decide)
  unfold m__law_period
  rw [runF_2]
  simp [b__law_period, on', hl, -iRng_ap]
  rw [rg]
  simp only [st_ok]
  have e' : forL (gSet 4) _ (rangeD 1 299) [some (tN r), some (tR v), some (tR (ext r v 300)), some (.int (L : Nat)), none] = .rt (.int (p : Nat)) δ := e
  rw [e']
  simp
theorem bits_right_ok {r : List Nat} {L : Nat} {v : List Int} (h : ∀ k ∈ r, 1 ≤ k ∧ k ≤ L) (hv : L ≤ v.length) (hz : v.length ≤ 1000) {n : Nat} (hn : n ≤ 10000) (t : List Int) : m__law_is_bits_right [tR t, tN r, tR v, .int (n : Nat)] = .ok (.bl (decide (t = (ext r v n).take n))) [] := by
  have sl := sl_to (xs := (ext r v n).map D.int) (n := n)
  rw [← List.map_take] at sl
  have tt : dTup (.tup (t.map D.int)) = some (.tup (t.map D.int)) := rfl
  unfold m__law_is_bits_right runF
  rw [if_pos (by rfl)]
  simp [argD, b__law_is_bits_right, on_ok h hv hz hn, sl, dEq_row, -List.map_take]
end L2.Pv.K77
end
section
set_option Elab.async false
set_option linter.all false
set_option autoImplicit false
set_option maxRecDepth 100000
set_option maxHeartbeats 1000000
namespace L2.Pv.K77
open PySem Lf Kd
/-! ### drawn rules and bits -/
abbrev Hand := Dw.Hand
theorem draw_ok {h : D} (H : Hand h) {k : Int} (h1 : 0 < k) (h2 : k < 1073741824) : ∃ (r : Nat) (h' : D), m__law_draw [h, .int k] = .ok (.int (r : Nat)) [h'] ∧ (r : Int) < k ∧ Hand h' := by
  obtain ⟨r, h', e, r0, r1, H'⟩ := Dw.draw_ok H h1 h2
  refine ⟨r.toNat, h', ?_, by omega, H'⟩
  rw [Int.toNat_of_nonneg r0]
  exact e
theorem bits_draw : ∀ (ds : List D) {h : D} (H : Hand h) (s1 : Option D), ∃ (v : List Int) (h' : D), v.length = ds.length ∧ Bits v ∧ Hand h' ∧
    lcL [2] (gSet 2) cYes (calH m__law_draw 0 (aCons (eC (.int 2)) aNil)) ds [some h, s1, none] = some (v.map D.int, [some h', s1, none])
  | [], h, H, s1 => ⟨[], h, rfl, (fun _ hx => nomatch hx), H, rfl⟩
  | d :: ds, h, H, s1 => by
    obtain ⟨x, h1, e1, x2, H1⟩ := draw_ok H (k := 2) (by decide) (by decide)
    obtain ⟨v, h2, hl, hb, H2, e2⟩ := bits_draw ds H1 s1
    refine ⟨(x : Int) :: v, h2, by simp [hl], fun y hy => ?_, H2, ?_⟩
    · rcases List.mem_cons.mp hy with rfl | hy
      · omega
      · exact hb y hy
    · unfold lcL
      rw [gSet_ap (by simp)]
      simp only [Option.bind_some, cYes_ap, List.set]
      have c : calH m__law_draw 0 (aCons (eC (.int 2)) aNil) [some h, s1, some d] = .ok (.int (x : Nat)) [some h1, s1, some d] := by simp [e1]
      rw [c]
      simp only
      rw [show wipeG [some h1, s1, some d] [2] = [some h1, s1, none] from rfl, e2]
      rfl
theorem lbits_ok {h : D} (H : Hand h) {n : Nat} (hn : n ≤ 1000) : ∃ (v : List Int) (h' : D), m__law_bits [h, .int (n : Nat)] = .ok (tR v) [h'] ∧ Lf.St v n ∧ Hand h' := by
  obtain ⟨v, h', hl, hb, H', e⟩ := bits_draw (rangeD 0 n) H (some (.int (n : Nat)))
  rw [rangeD_len] at hl
  refine ⟨v, h', ?_, ⟨hl, hb⟩, H'⟩
  have r1 := iRng_1 (f := eNm 1) (δ := [some h, some (.int (n : Nat)), none]) (δ' := [some h, some (.int (n : Nat)), none]) (j := (n : Nat)) (by simp) (by omega)
  have lc : eLc [2] (iRng (aCons (eNm 1) aNil)) (gSet 2) cYes (calH m__law_draw 0 (aCons (eC (.int 2)) aNil)) [some h, some (.int (n : Nat)), none] = .ok (.lst true (v.map D.int)) [some h', some (.int (n : Nat)), none] := by
    unfold eLc
    rw [r1, bd_ok, show wipeG [some h, some (D.int (n : Nat)), none] [2] = [some h, some (.int (n : Nat)), none] from rfl, Int.toNat_natCast, e]
    rfl
  unfold m__law_bits
  rw [runF_2]
  unfold b__law_bits
  rw [sRet_ap, ev1_ap]
  have lc' : eLc [2] (iRng (aCons (eNm 1) aNil)) (gSet 2) cYes (calH m__law_draw 0 (aCons (eC (.int 2)) aNil)) (some h :: some (.int (n : Nat)) :: List.replicate (3 - 2) none) = .ok (.lst true (v.map D.int)) [some h', some (.int (n : Nat)), none] := lc
  rw [lc']
  simp
theorem rule_draw : ∀ (n d : Nat) {h : D} (H : Hand h) (s1 s2 : Option D), ∃ (a : List Nat) (h' : D), a.Pairwise (· < ·) ∧ (∀ k ∈ a, d ≤ k ∧ k < d + n) ∧ Hand h' ∧
    lcL [3] (gSet 3) (cVal (ev2 dEq (calH m__law_draw 0 (aCons (eC (.int 2)) aNil)) (eC (.int 0)))) (eNm 3) (rangeD (d : Int) n) [some h, s1, s2, none] = some (a.map dN, [some h', s1, s2, none])
  | 0, d, h, H, s1, s2 => ⟨[], h, .nil, (fun _ hx => nomatch hx), H, rfl⟩
  | n + 1, d, h, H, s1, s2 => by
    obtain ⟨x, h1, e1, x2, H1⟩ := draw_ok H (k := 2) (by decide) (by decide)
    obtain ⟨a, h2, hp, hb, H2, e2⟩ := rule_draw n (d + 1) H1 s1 s2
    have e2 : lcL [3] (gSet 3) (cVal (ev2 dEq (calH m__law_draw 0 (aCons (eC (.int 2)) aNil)) (eC (.int 0)))) (eNm 3) (rangeD ((d : Int) + 1) n) [some h1, s1, s2, none] = some (a.map dN, [some h2, s1, s2, none]) := e2
    have c : (cVal (ev2 dEq (calH m__law_draw 0 (aCons (eC (.int 2)) aNil)) (eC (.int 0)))) [some h, s1, s2, some (.int (d : Int))] = .ok (decide ((x : Int) = 0)) [some h1, s1, s2, some (.int (d : Int))] := by simp [e1]
    rw [rangeD_cons]
    by_cases x0 : x = 0
    · refine ⟨d :: a, h2, List.pairwise_cons.mpr ⟨fun k hk => by have := hb k hk; omega, hp⟩, fun k hk => ?_, H2, ?_⟩
      · rcases List.mem_cons.mp hk with rfl | hk
        · omega
        · have := hb k hk; omega
      · unfold lcL
        rw [gSet_ap (by simp)]
        simp only [Option.bind_some, List.set]
        rw [c, decide_eq_true (by omega)]
        have en : eNm 3 [some h1, s1, s2, some (.int (d : Int))] = .ok (.int (d : Int)) [some h1, s1, s2, some (.int (d : Int))] := by simp
        simp only [en]
        rw [show wipeG [some h1, s1, s2, some (D.int (d : Int))] [3] = [some h1, s1, s2, none] from rfl, e2]
        rfl
    · refine ⟨a, h2, hp, fun k hk => by have := hb k hk; omega, H2, ?_⟩
      unfold lcL
      rw [gSet_ap (by simp)]
      simp only [Option.bind_some, List.set]
      rw [c, decide_eq_false (by omega)]
      simp only
      rw [show wipeG [some h1, s1, s2, some (D.int (d : Int))] [3] = [some h1, s1, s2, none] from rfl, e2]
theorem rule_ok {h : D} (H : Hand h) {t : Nat} (ht : 1 ≤ t ∧ t ≤ 16) : ∃ (r : List Nat) (L : Nat) (h' : D), m__law_rule [h, .int (t : Nat)] = .ok (tN r) [h'] ∧ Rule r L ∧ L ≤ t ∧ Hand h' := by
  obtain ⟨x, h1, e1, x2, H1⟩ := draw_ok H (k := (t : Nat)) (by omega) (by omega)
  obtain ⟨a, h2, hp, hb, H2, e2⟩ := rule_draw x 1 H1 (some (.int (t : Nat))) (some (.int ((1 + x : Nat) : Int)))
  have hx : x < t := by omega
  refine ⟨a ++ [1 + x], 1 + x, h2, ?_, ⟨by omega, by omega, fun k hk => ?_, ?_, by simp⟩, by omega, H2⟩
  · have r1 := iRng_2 (f := eC (.int 1)) (f' := eNm 2) (δ := [some h1, some (.int (t : Nat)), some (.int ((1 + x : Nat) : Int)), none]) (δ' := [some h1, some (.int (t : Nat)), some (.int ((1 + x : Nat) : Int)), none]) (δ'' := [some h1, some (.int (t : Nat)), some (.int ((1 + x : Nat) : Int)), none]) (i := 1) (j := ((1 + x : Nat) : Int)) rfl rfl (by decide) (by omega)
    rw [show (((1 + x : Nat) : Int) - 1).toNat = x by omega] at r1
    have lc : eLc [3] (iRng (aCons (eC (.int 1)) (aCons (eNm 2) aNil))) (gSet 3) (cVal (ev2 dEq (calH m__law_draw 0 (aCons (eC (.int 2)) aNil)) (eC (.int 0)))) (eNm 3) [some h1, some (.int (t : Nat)), some (.int ((1 + x : Nat) : Int)), none] = .ok (.lst true (a.map dN)) [some h2, some (.int (t : Nat)), some (.int ((1 + x : Nat) : Int)), none] := by
      unfold eLc
      rw [r1, bd_ok, show wipeG [some h1, some (D.int (t : Nat)), some (D.int ((1 + x : Nat) : Int)), none] [3] = [some h1, some (.int (t : Nat)), some (.int ((1 + x : Nat) : Int)), none] from rfl]
      have e2 : lcL [3] (gSet 3) (cVal (ev2 dEq (calH m__law_draw 0 (aCons (eC (.int 2)) aNil)) (eC (.int 0)))) (eNm 3) (rangeD 1 x) [some h1, some (.int (t : Nat)), some (.int ((1 + x : Nat) : Int)), none] = some (a.map dN, [some h2, some (.int (t : Nat)), some (.int ((1 + x : Nat) : Int)), none]) := e2
      rw [e2]
      rfl
    have al : a.length ≤ 1000 := by
      have := asc_len a 0 (1 + x) (fun k hk => by have := hb k hk; omega) hp
      omega
    have an : (a.map dN).all nOwn = true := by simp [List.all_map]
    have ad : dAdd (.lst true (a.map dN)) (.lst true [.int ((1 + x : Nat) : Int)]) = some (.lst true ((a ++ [1 + x]).map dN)) := by
      rw [dAdd_lst (by simp; omega) an rfl, List.map_append]; rfl
    have tt : dTup (.lst true ((a ++ [1 + x]).map dN)) = some (tN (a ++ [1 + x])) := dTup_lst (by simp [List.all_map])
    have st : (ev2 dAdd (eC (.int 1)) (calH m__law_draw 0 (aCons (eNm 1) aNil))) [some h, some (.int (t : Nat)), none, none] = .ok (.int ((1 + x : Nat) : Int)) [some h1, some (.int (t : Nat)), none, none] := by
      simp [e1]
    unfold m__law_rule
    rw [runF_2]
    unfold b__law_rule
    have st' : (ev2 dAdd (eC (.int 1)) (calH m__law_draw 0 (aCons (eNm 1) aNil))) (some h :: some (.int (t : Nat)) :: List.replicate (4 - 2) none) = .ok (.int ((1 + x : Nat) : Int)) [some h1, some (.int (t : Nat)), none, none] := st
    rw [seq_set st' (by simp)]
    simp only [List.set]
    rw [sRet_ap, ev1_ap, ev2_ap, lc, bd_ok, eLst_ap, aCons_ap]
    simp only [eNm_ap, List.getElem?_cons_succ, List.getElem?_cons_zero, own_int, Bool.false_eq_true, if_false, bd_ok, aNil_ap, ad, lft_some, tt, st_ok]
    simp
  · rcases List.mem_append.mp hk with hk | hk
    · exact (hb k hk).1
    · rw [List.mem_singleton] at hk; omega
  · rw [List.pairwise_append]
    refine ⟨hp, by simp, fun k hk j hj => ?_⟩
    rw [List.mem_singleton] at hj
    have := hb k hk
    omega
end L2.Pv.K77
end
section
set_option Elab.async false
set_option linter.all false
set_option autoImplicit false
set_option maxRecDepth 100000
set_option maxHeartbeats 2000000
namespace L2.Pv.K77
open PySem Lf Kd
/-! ### a rule's rows, judged -/
theorem seq_par {i j : Nat} {fa : EvA} {G : Es} {δ δ' : DS} {a b : D} (h : fa δ = .ok [a, b] δ') (hi : i < δ'.length) (hj : j < δ'.length) : sSeq (sPar i j fa) G δ = G ((δ'.set i (some a)).set j (some b)) := by
  rw [sSeq_ap, sPar_ap, h]
  simp [hi, hj]
theorem size_ok {r : List Nat} {L : Nat} (h : Rule r L) : dIx (tN r) (.int (-1)) = some (.int (L : Nat)) := by
  refine dIx_of ?_ rfl
  have e : atI (r.map dN) (-1) = some (.int (L : Int)) := by
    rw [atI_m1, List.length_map, List.getElem?_map]
    have := h.last
    rw [List.getLast?_eq_getElem?] at this
    rw [this]; rfl
  exact e
theorem zer_ok {L : Nat} (hL : L ≤ 1000) : dMul (.tup [.int 0]) (.int (L : Nat)) = some (tR (zer L)) := by
  unfold dMul
  have e : (List.replicate L [D.int 0]).flatten = (zer L).map D.int := by
    unfold zer
    rw [List.map_replicate]
    induction L with
    | zero => rfl
    | succ n ih => rw [List.replicate_succ, List.flatten_cons, ih (by omega), List.replicate_succ]; rfl
  simp only [Int.toNat_natCast, e]
  rw [if_pos ⟨by simp, by omega, by omega, by decide⟩]
theorem zer_st {L : Nat} : Lf.St (zer L) L := ⟨by simp [zer], fun x hx => .inl (List.eq_of_mem_replicate hx)⟩
theorem xo_bits : ∀ u v : List Int, Bits (xo u v)
  | [], _, x, hx => by simp [xo] at hx
  | _ :: _, [], x, hx => by simp [xo] at hx
  | a :: u, b :: v, x, hx => by
    have hx : x ∈ (a + b) % 2 :: xo u v := hx
    rcases List.mem_cons.mp hx with rfl | hx
    · omega
    · exact xo_bits u v x hx
theorem xo_st {u v : List Int} {L : Nat} (hu : Lf.St u L) (hv : Lf.St v L) : Lf.St (xo u v) L := ⟨by rw [xo_len, hu.len, hv.len, Nat.min_self], xo_bits u v⟩
theorem zipD_row : ∀ (xs ys : List Int), zipD (xs.map D.int) (ys.map D.int) = (xs.zip ys).map fun p => D.tup [.int p.1, .int p.2]
  | [], _ => rfl
  | _ :: _, [] => rfl
  | x :: xs, y :: ys => by
    have := zipD_row xs ys
    unfold zipD at this ⊢
    rw [List.map_cons, List.map_cons, List.zipWith_cons_cons, this, List.zip_cons_cons, List.map_cons]
theorem xo_zip : ∀ (u v : List Int), ((u.zip v).map fun p => D.int ((p.1 + p.2) % 2)) = (xo u v).map D.int
  | [], _ => rfl
  | _ :: _, [] => rfl
  | a :: u, b :: v => by
    rw [List.zip_cons_cons, List.map_cons, xo_zip u v]
    rfl
theorem xo_lc {i j : Nat} {u v : List Int} {t0 t1 t2 t3 t4 t5 t6 t7 t8 t9 t10 : Option D} (hi : ([t0, t1, t2, t3, t4, t5, t6, t7, t8, t9, t10, none, none] : DS)[i]? = some (some (tR u))) (hj : ([t0, t1, t2, t3, t4, t5, t6, t7, t8, t9, t10, none, none] : DS)[j]? = some (some (tR v))) :
    ev1 dTup (eLc [11, 12] (iZipD (aCons (eNm i) (aCons (eNm j) (aNil)))) (gTup' 2 (gCons' (gSet 11) (gCons' (gSet 12) (gNil')))) (cYes) (ev2 dMod (ev1 dInt (ev2 dAdd (eLk 11) (eLk 12))) (eC (.int 2)))) [t0, t1, t2, t3, t4, t5, t6, t7, t8, t9, t10, none, none] = .ok (tR (xo u v)) [t0, t1, t2, t3, t4, t5, t6, t7, t8, t9, t10, none, none] := by
  rw [ev1_ap, eLc_map (L := u.zip v) (ι := fun p => D.tup [.int p.1, .int p.2]) (S := fun p => [t0, t1, t2, t3, t4, t5, t6, t7, t8, t9, t10, some (.int p.1), some (.int p.2)]) (g := fun p => D.int ((p.1 + p.2) % 2)) (δ1 := [t0, t1, t2, t3, t4, t5, t6, t7, t8, t9, t10, none, none]), bd_ok, xo_zip, dTup_int, lft_some]
  · rw [← zipD_row]
    rw [iZipD_ap, aCons_ap, eNm_ap, hi]
    simp only [own_tup, Bool.false_eq_true, if_false, bd_ok]
    rw [aCons_ap, eNm_ap, hj]
    simp only [own_tup, Bool.false_eq_true, if_false, bd_ok, aNil_ap, zipO_tup, lft_some]
  · intro p _; rfl
  · intro p _; simp
  · intro p _; rfl
  · rfl
theorem rule_right_ok {h : D} (H : Hand h) {r : List Nat} {L : Nat} (hr : Rule r L) (h8 : L ≤ 8) : ∃ h', m__law_is_rule_right [h, tN r] = .ok (.bl true) [h'] ∧ Hand h' := by
  have hL := hr.pos
  obtain ⟨x, h1, e1, x2, H1⟩ := draw_ok H (k := 20) (by decide) (by decide)
  obtain ⟨u, h2, e2, hu, H2⟩ := lbits_ok H1 (n := L) (by omega)
  obtain ⟨v, h3, e3, hv, H3⟩ := lbits_ok H2 (n := L) (by omega)
  obtain ⟨n, h4, e4, n2, H4⟩ := draw_ok H3 (k := 10) (by decide) (by decide)
  generalize hm : 20 + x = m
  have hm2 : m ≤ 40 := by omega
  have lu := hu.len
  have lv := hv.len
  have by1 := by_rule_ok hr hu (m := m) (by omega)
  have by2 := by_rule_ok hr hv (m := m) (by omega)
  have by3 := by_rule_ok hr (xo_st hu hv) (m := m) (by omega)
  have br1 := bits_right_ok (r := r) (L := L) (v := u) hr.le (by omega) (by omega) (n := m) (by omega) ((ext r u m).take m)
  have br2 := bits_right_ok (r := r) (L := L) (v := v) hr.le (by omega) (by omega) (n := m) (by omega) ((ext r v m).take m)
  rw [decide_eq_true rfl] at br1 br2
  obtain ⟨p, hp, pl⟩ := per_ex hr.rw hu
  have p256 : 2 ^ L ≤ 2 ^ 8 := Nat.pow_le_pow_right (by decide) h8
  have pe := period_ok hr hu hp (by omega)
  have pl' := lperiod_ok hr hu hp (by omega)
  have pz := period_ok hr zer_st (per_zer hL r) (by decide)
  have ps := period_ok hr (hu.its hr.rw n) (hp.shift hr.rw hu n) (by omega)
  have zo := zer_ok (L := L) (by omega)
  have so := size_ok hr
  have on := on_ok (r := r) (L := L) (v := u) hr.le (by omega) (by omega) (n := n) (by omega)
  have win := ext_window hr.rl lu (n := n) (k := n) (Nat.le_refl _)
  have sl := sl_mid (xs := (ext r u n).map D.int) (a := n) (n := L)
  rw [← List.map_drop, ← List.map_take, win, Int.natCast_add] at sl
  have xe : xo ((ext r u m).take m) ((ext r v m).take m) = (ext r (xo u v) m).take m := by
    rw [ext_xo m (lu.trans lv.symm)]
    unfold xo
    rw [List.take_zipWith]
  refine ⟨h4, ?_, H4⟩
  have a0 : (aCons (ev2 dIx (eLk 1) (ev1 dNeg (eC (.int 1)))) (aCons (ev2 dAdd (eC (.int 20)) (calH m__law_draw 0 (aCons (eC (.int 20)) (aNil)))) (aNil))) [some h, some (tN r), none, none, none, none, none, none, none, none, none, none, none] = .ok [.int (L : Nat), .int (m : Nat)] [some h1, some (tN r), none, none, none, none, none, none, none, none, none, none, none] := by
    have e20 : (20 : Int) + (x : Int) = (m : Nat) := by omega
    simp [so, e1, e20]
  have a1 : (aCons (calH m__law_bits 0 (aCons (eNm 2) (aNil))) (aCons (calH m__law_bits 0 (aCons (eNm 2) (aNil))) (aNil))) [some h1, some (tN r), some (.int (L : Nat)), some (.int (m : Nat)), none, none, none, none, none, none, none, none, none] = .ok [tR u, tR v] [some h3, some (tN r), some (.int (L : Nat)), some (.int (m : Nat)), none, none, none, none, none, none, none, none, none] := by simp [e2, e3]
  have a2 : (aCons (calF m_by_rule (aCons (eNm 1) (aCons (eNm 4) (aCons (eNm 3) (aNil))))) (aCons (calF m_by_rule (aCons (eNm 1) (aCons (eNm 5) (aCons (eNm 3) (aNil))))) (aNil))) [some h3, some (tN r), some (.int (L : Nat)), some (.int (m : Nat)), some (tR u), some (tR v), none, none, none, none, none, none, none] = .ok [tR ((ext r u m).take m), tR ((ext r v m).take m)] [some h3, some (tN r), some (.int (L : Nat)), some (.int (m : Nat)), some (tR u), some (tR v), none, none, none, none, none, none, none] := by simp [by1, by2, -List.map_take]
  have a3 : (cOr (cNot (cVal (calF m__law_is_bits_right (aCons (eNm 6) (aCons (eNm 1) (aCons (eNm 4) (aCons (eNm 3) (aNil)))))))) (cNot (cVal (calF m__law_is_bits_right (aCons (eNm 7) (aCons (eNm 1) (aCons (eNm 5) (aCons (eNm 3) (aNil))))))))) [some h3, some (tN r), some (.int (L : Nat)), some (.int (m : Nat)), some (tR u), some (tR v), some (tR ((ext r u m).take m)), some (tR ((ext r v m).take m)), none, none, none, none, none] = .ok false [some h3, some (tN r), some (.int (L : Nat)), some (.int (m : Nat)), some (tR u), some (tR v), some (tR ((ext r u m).take m)), some (tR ((ext r v m).take m)), none, none, none, none, none] := by simp [br1, br2, -List.map_take]
  have a4 : (ev1 dTup (eLc [11, 12] (iZipD (aCons (eNm 4) (aCons (eNm 5) (aNil)))) (gTup' 2 (gCons' (gSet 11) (gCons' (gSet 12) (gNil')))) (cYes) (ev2 dMod (ev1 dInt (ev2 dAdd (eLk 11) (eLk 12))) (eC (.int 2))))) [some h3, some (tN r), some (.int (L : Nat)), some (.int (m : Nat)), some (tR u), some (tR v), some (tR ((ext r u m).take m)), some (tR ((ext r v m).take m)), none, none, none, none, none] = .ok (tR (xo u v)) [some h3, some (tN r), some (.int (L : Nat)), some (.int (m : Nat)), some (tR u), some (tR v), some (tR ((ext r u m).take m)), some (tR ((ext r v m).take m)), none, none, none, none, none] := xo_lc rfl rfl
  have a5x : ev1 dTup (eLc [11, 12] (iZipD (aCons (eNm 6) (aCons (eNm 7) (aNil)))) (gTup' 2 (gCons' (gSet 11) (gCons' (gSet 12) (gNil')))) (cYes) (ev2 dMod (ev1 dInt (ev2 dAdd (eLk 11) (eLk 12))) (eC (.int 2)))) [some h3, some (tN r), some (.int (L : Nat)), some (.int (m : Nat)), some (tR u), some (tR v), some (tR ((ext r u m).take m)), some (tR ((ext r v m).take m)), some (tR (xo u v)), none, none, none, none] = .ok (tR ((ext r (xo u v) m).take m)) [some h3, some (tN r), some (.int (L : Nat)), some (.int (m : Nat)), some (tR u), some (tR v), some (tR ((ext r u m).take m)), some (tR ((ext r v m).take m)), some (tR (xo u v)), none, none, none, none] := by rw [← xe]; exact xo_lc rfl rfl
  have a5y : ev1 dTup (calF m_by_rule (aCons (eNm 1) (aCons (eNm 8) (aCons (eNm 3) (aNil))))) [some h3, some (tN r), some (.int (L : Nat)), some (.int (m : Nat)), some (tR u), some (tR v), some (tR ((ext r u m).take m)), some (tR ((ext r v m).take m)), some (tR (xo u v)), none, none, none, none] = .ok (tR ((ext r (xo u v) m).take m)) [some h3, some (tN r), some (.int (L : Nat)), some (.int (m : Nat)), some (tR u), some (tR v), some (tR ((ext r u m).take m)), some (tR ((ext r v m).take m)), some (tR (xo u v)), none, none, none, none] := by simp [by3, -List.map_take]
  have a5 : (cVal (ev2 dNe (ev1 dTup (calF m_by_rule (aCons (eNm 1) (aCons (eNm 8) (aCons (eNm 3) (aNil)))))) (ev1 dTup (eLc [11, 12] (iZipD (aCons (eNm 6) (aCons (eNm 7) (aNil)))) (gTup' 2 (gCons' (gSet 11) (gCons' (gSet 12) (gNil')))) (cYes) (ev2 dMod (ev1 dInt (ev2 dAdd (eLk 11) (eLk 12))) (eC (.int 2))))))) [some h3, some (tN r), some (.int (L : Nat)), some (.int (m : Nat)), some (tR u), some (tR v), some (tR ((ext r u m).take m)), some (tR ((ext r v m).take m)), some (tR (xo u v)), none, none, none, none] = .ok false [some h3, some (tN r), some (.int (L : Nat)), some (.int (m : Nat)), some (tR u), some (tR v), some (tR ((ext r u m).take m)), some (tR ((ext r v m).take m)), some (tR (xo u v)), none, none, none, none] := by
    rw [cVal_ap, ev2_ap, a5y, bd_ok, a5x, bd_ok, dNe_row, lft_some]
    simp
  have a6 : (cOr (cVal (ev2 dNe (calF m_period (aCons (eNm 1) (aCons (eNm 4) (aNil)))) (calF m__law_period (aCons (eNm 1) (aCons (eNm 4) (aNil)))))) (cVal (ev2 dNe (calF m_period (aCons (eNm 1) (aCons (ev2 dMul (eTup (aCons (eC (.int 0)) (aNil))) (eLk 2)) (aNil)))) (eC (.int 1))))) [some h3, some (tN r), some (.int (L : Nat)), some (.int (m : Nat)), some (tR u), some (tR v), some (tR ((ext r u m).take m)), some (tR ((ext r v m).take m)), some (tR (xo u v)), none, none, none, none] = .ok false [some h3, some (tN r), some (.int (L : Nat)), some (.int (m : Nat)), some (tR u), some (tR v), some (tR ((ext r u m).take m)), some (tR ((ext r v m).take m)), some (tR (xo u v)), none, none, none, none] := by simp [pe, pl', zo, pz]
  have a7 : (calH m__law_draw 0 (aCons (eC (.int 10)) (aNil))) [some h3, some (tN r), some (.int (L : Nat)), some (.int (m : Nat)), some (tR u), some (tR v), some (tR ((ext r u m).take m)), some (tR ((ext r v m).take m)), some (tR (xo u v)), none, none, none, none] = .ok (.int (n : Nat)) [some h4, some (tN r), some (.int (L : Nat)), some (.int (m : Nat)), some (tR u), some (tR v), some (tR ((ext r u m).take m)), some (tR ((ext r v m).take m)), some (tR (xo u v)), none, none, none, none] := by simp [e4]
  have a8 : (eSl (calF m__law_on (aCons (eNm 1) (aCons (eNm 4) (aCons (eNm 9) (aNil))))) (oSome (eLk 9)) (oSome (ev2 dAdd (eLk 9) (eLk 2)))) [some h4, some (tN r), some (.int (L : Nat)), some (.int (m : Nat)), some (tR u), some (tR v), some (tR ((ext r u m).take m)), some (tR ((ext r v m).take m)), some (tR (xo u v)), some (.int (n : Nat)), none, none, none] = .ok (tR (its r u n)) [some h4, some (tN r), some (.int (L : Nat)), some (.int (m : Nat)), some (tR u), some (tR v), some (tR ((ext r u m).take m)), some (tR ((ext r v m).take m)), some (tR (xo u v)), some (.int (n : Nat)), none, none, none] := by simp [on, sl]
  unfold m__law_is_rule_right
  rw [runF_2]
  unfold b__law_is_rule_right
  show finF [0] (sSeq _ _ [some h, some (tN r), none, none, none, none, none, none, none, none, none, none, none]) = _
  rw [seq_par a0 (by simp) (by simp)]
  simp only [List.set]
  rw [seq_par a1 (by simp) (by simp)]
  simp only [List.set]
  rw [seq_par a2 (by simp) (by simp)]
  simp only [List.set]
  rw [seq_no a3, seq_set a4 (by simp)]
  simp only [List.set]
  rw [seq_no a5, seq_no a6, seq_set a7 (by simp)]
  simp only [List.set]
  rw [seq_set a8 (by simp)]
  simp only [List.set]
  simp [ps, pe]
end L2.Pv.K77
end
section
set_option Elab.async false
set_option linter.all false
set_option autoImplicit false
set_option maxRecDepth 100000
set_option maxHeartbeats 1000000
namespace L2.Pv.Lf
/-! ### states as numbers -/
def stepN (r : List Nat) (L c : Nat) : Nat := c / 2 + 2 ^ (L - 1) * ((r.map fun k => c / 2 ^ (L - k) % 2).sum % 2)
theorem code_get : ∀ {v : List Int}, Bits v → ∀ i, v.getD i 0 = ((code v / 2 ^ i % 2 : Nat) : Int)
  | [], _, i => by simp [code]
  | x :: v, h, i => by
    have hx := h x List.mem_cons_self
    have hv : Bits v := fun y hy => h y (List.mem_cons_of_mem _ hy)
    cases i with
    | zero =>
      show x = _
      rw [code, Nat.pow_zero, Nat.div_one]
      rcases hx with rfl | rfl
      · show (0 : Int) = ((0 + 2 * code v) % 2 : Nat); omega
      · show (1 : Int) = ((1 + 2 * code v) % 2 : Nat); omega
    | succ i =>
      show v.getD i 0 = _
      rw [code_get hv i, code, Nat.pow_succ, Nat.mul_comm (2 ^ i) 2, ← Nat.div_div_eq_div_mul]
      have : (x.toNat + 2 * code v) / 2 = code v := by
        rcases hx with rfl | rfl
        · show (0 + 2 * code v) / 2 = _; omega
        · show (1 + 2 * code v) / 2 = _; omega
      rw [this]
theorem code_snoc : ∀ (v : List Int) (b : Int), code (v ++ [b]) = code v + 2 ^ v.length * b.toNat
  | [], b => by simp [code]
  | x :: v, b => by
    rw [List.cons_append, code, code, code_snoc v b, List.length_cons, Nat.pow_succ, Nat.mul_comm (2 ^ v.length) 2, Nat.mul_assoc, Nat.mul_add]
    omega
theorem code_drop {v : List Int} (h : Bits v) : code (v.drop 1) = code v / 2 := by
  cases v with
  | nil => rfl
  | cons x v =>
    have hx := h x List.mem_cons_self
    show code v = _
    rw [code]
    rcases hx with rfl | rfl
    · show _ = (0 + 2 * code v) / 2; omega
    · show _ = (1 + 2 * code v) / 2; omega
theorem code_nb {r : List Nat} {L : Nat} {v : List Int} (hv : St v L) : (nb r v).toNat = (r.map fun k => code v / 2 ^ (L - k) % 2).sum % 2 := by
  have e : (r.map fun k => v.getD (v.length - k) 0).sum = (((r.map fun k => code v / 2 ^ (L - k) % 2).sum : Nat) : Int) := by
    rw [hv.len]
    induction r with
    | nil => rfl
    | cons k r ih => rw [List.map_cons, List.sum_cons, ih, List.map_cons, List.sum_cons, code_get hv.bit, Int.natCast_add]
  unfold nb
  rw [e]
  omega
theorem code_stp {r : List Nat} {L : Nat} {v : List Int} (hL : 1 ≤ L) (hv : St v L) : code (stp r v) = stepN r L (code v) := by
  unfold stp stepN
  rw [code_snoc, code_drop hv.bit, code_nb hv, List.length_drop, hv.len]
def frstN (r : List Nat) (L b : Nat) : Nat → Nat → Nat → Nat
  | 0, d, _ => d
  | f + 1, d, c => if c = b then d else frstN r L b f (d + 1) (stepN r L c)
def sumN (r : List Nat) (L : Nat) : Nat → Nat → Nat
  | 0, _ => 0
  | n + 1, c => c % 2 + sumN r L n (stepN r L c)
theorem stp_st {r : List Nat} {L : Nat} (hL : 1 ≤ L) {v : List Int} (hv : St v L) : St (stp r v) L := ⟨by simp [stp, hv.len]; omega, fun x hx => by
  unfold stp at hx
  rcases List.mem_append.mp hx with hx | hx
  · exact hv.bit x (List.mem_of_mem_drop hx)
  · rw [List.mem_singleton] at hx; subst hx; exact nb_bit _ _⟩
end L2.Pv.Lf
end
section
set_option autoImplicit false
namespace L2.Pv.Golay
/-! ### sums of products of rows -/
def zs : List Int → List Int → Int
  | x :: a, y :: b => x * y + zs a b
  | _, _ => 0
def corr (a : List Int) (s : Nat) : Int := zs a (a.drop s)
def neg (a : List Int) : List Int := a.map fun x => -x
@[simp] theorem zs_nil_l (b : List Int) : zs [] b = 0 := by cases b <;> rfl
@[simp] theorem zs_nil_r (a : List Int) : zs a [] = 0 := by cases a <;> rfl
@[simp] theorem zs_cons (x y : Int) (a b : List Int) : zs (x :: a) (y :: b) = x * y + zs a b := rfl
theorem zs_comm : ∀ a b : List Int, zs a b = zs b a
  | [], b => by simp
  | x :: a, [] => by simp
  | x :: a, y :: b => by simp [zs_comm a b, Int.mul_comm]
theorem zs_neg : ∀ a b : List Int, zs (neg a) b = - zs a b
  | [], b => by simp [neg]
  | x :: a, [] => by simp
  | x :: a, y :: b => by
    have ih := zs_neg a b
    simp only [neg, List.map_cons, zs_cons] at ih ⊢
    rw [ih, Int.neg_mul]; omega
theorem zs_neg_r (a b : List Int) : zs a (neg b) = - zs a b := by rw [zs_comm, zs_neg, zs_comm]
@[simp] theorem neg_len (a : List Int) : (neg a).length = a.length := by simp [neg]
theorem neg_drop (a : List Int) (s : Nat) : (neg a).drop s = neg (a.drop s) := by simp [neg]
theorem neg_take (a : List Int) (s : Nat) : (neg a).take s = neg (a.take s) := by simp [neg]
theorem corr_neg (a : List Int) (s : Nat) : corr (neg a) s = corr a s := by
  unfold corr; rw [neg_drop, zs_neg, zs_neg_r, Int.neg_neg]
theorem zs_app : ∀ (a c d : List Int), zs a (c ++ d) = zs (a.take c.length) c + zs (a.drop c.length) d
  | a, [], d => by simp
  | [], y :: c, d => by simp
  | x :: a, y :: c, d => by simp [zs_app a c d, Int.add_assoc]
theorem zs_take : ∀ (a b : List Int), zs (a.take b.length) b = zs a b
  | a, [] => by simp
  | [], y :: b => by simp
  | x :: a, y :: b => by simp [zs_take a b]
theorem zs_take_r (a b : List Int) : zs a (b.take a.length) = zs a b := by rw [zs_comm, zs_take, zs_comm]
theorem zs_app_l (a c d : List Int) : zs (c ++ d) a = zs c (a.take c.length) + zs d (a.drop c.length) := by
  rw [zs_comm, zs_app, zs_comm _ c, zs_comm _ d]
theorem corr_big (a : List Int) {s : Nat} (h : a.length ≤ s) : corr a s = 0 := by
  unfold corr; rw [List.drop_eq_nil_of_le h, zs_nil_r]
theorem corr_app {a b : List Int} (hl : a.length = b.length) {s : Nat} (hs : s ≤ a.length) : corr (a ++ b) s = corr a s + zs (a.drop (a.length - s)) (b.take s) + corr b s := by
  unfold corr
  rw [List.drop_append_of_le_length hs, zs_app, List.length_drop]
  have e1 : (a ++ b).take (a.length - s) = a.take (a.drop s).length := by rw [List.length_drop, List.take_append_of_le_length (by omega)]
  have e2 : (a ++ b).drop (a.length - s) = a.drop (a.length - s) ++ b := List.drop_append_of_le_length (by omega)
  rw [e1, zs_take, e2, zs_app_l, List.length_drop, show a.length - (a.length - s) = s by omega]
  omega
theorem corr_app_big {a b : List Int} (hl : a.length = b.length) {s : Nat} (hs : a.length < s) : corr (a ++ b) s = zs a (b.drop (s - a.length)) := by
  unfold corr
  have e : (a ++ b).drop s = b.drop (s - a.length) := by
    rw [List.drop_append, List.drop_eq_nil_of_le (by omega), List.nil_append]
  rw [e, zs_app_l]
  rw [show (b.drop (s - a.length)).drop a.length = [] from List.drop_eq_nil_of_le (by rw [List.length_drop]; omega), zs_nil_r, Int.add_zero, zs_take_r]
theorem corr_doubled {a b : List Int} (hl : a.length = b.length) (s : Nat) : corr (a ++ b) s + corr (a ++ neg b) s = 2 * (corr a s + corr b s) := by
  by_cases hs : s ≤ a.length
  · rw [corr_app hl hs, corr_app (by simpa using hl) hs, neg_take, zs_neg_r, corr_neg]; omega
  · rw [corr_app_big hl (by omega), corr_app_big (by simpa using hl) (by omega), neg_drop, zs_neg_r, corr_big a (by omega), corr_big b (by omega)]; omega
/-- a pair -/
def Pair (a b : List Int) : Prop := ∀ s, 1 ≤ s → corr a s + corr b s = 0
theorem Pair.doubled {a b : List Int} (h : Pair a b) (hl : a.length = b.length) : Pair (a ++ b) (a ++ neg b) := fun s hs => by rw [corr_doubled hl, h s hs]; rfl
theorem Pair.swap {a b : List Int} (h : Pair a b) : Pair b a := fun s hs => by rw [Int.add_comm]; exact h s hs
theorem Pair.less {a b : List Int} (h : Pair a b) : Pair (neg a) b := fun s hs => by rw [corr_neg]; exact h s hs
/-! by turns -/
def weave : List Int → List Int → List Int
  | [], _ => []
  | x :: a, b => x :: weave b a
termination_by a b => a.length + b.length
decreasing_by simp; omega
@[simp] theorem weave_nil (b : List Int) : weave [] b = [] := by unfold weave; rfl
@[simp] theorem weave_cons (x : Int) (a b : List Int) : weave (x :: a) b = x :: weave b a := by rw [weave]
theorem zs_weave : ∀ (n : Nat) (a b c d : List Int), a.length + b.length ≤ n → b.length ≤ a.length → a.length ≤ b.length + 1 → d.length ≤ c.length → c.length ≤ d.length + 1 → zs (weave a b) (weave c d) = zs a c + zs b d
  | n, [], b, c, d, _, h1, _, _, _ => by
    have : b = [] := List.eq_nil_of_length_eq_zero (by simpa using h1)
    subst this; simp
  | n, x :: a, b, [], d, _, _, _, h3, _ => by
    have : d = [] := List.eq_nil_of_length_eq_zero (by simpa using h3)
    subst this; simp
  | 0, x :: a, b, y :: c, d, h, _, _, _, _ => by simp at h
  | n + 1, x :: a, b, y :: c, d, h, h1, h2, h3, h4 => by
    simp only [List.length_cons] at h h1 h2 h3 h4
    rw [weave_cons, weave_cons, zs_cons, zs_cons, zs_weave n b a d c (by omega) (by omega) (by omega) (by omega) (by omega)]
    omega
theorem weave_drop1 {a b : List Int} (h : b.length ≤ a.length) : (weave a b).drop 1 = weave b (a.drop 1) := by
  cases a with
  | nil =>
    have : b = [] := List.eq_nil_of_length_eq_zero (by simpa using h)
    subst this; simp
  | cons x a => simp
theorem weave_drop2 {a b : List Int} (h : b.length ≤ a.length) (h' : a.length ≤ b.length + 1) : (weave a b).drop 2 = weave (a.drop 1) (b.drop 1) := by
  rw [show 2 = 1 + 1 from rfl, ← List.drop_drop, weave_drop1 h, weave_drop1 (by simp; omega)]
theorem weave_even : ∀ (t : Nat) {a b : List Int}, b.length ≤ a.length → a.length ≤ b.length + 1 → (weave a b).drop (2 * t) = weave (a.drop t) (b.drop t)
  | 0, a, b, _, _ => by simp
  | t + 1, a, b, h, h' => by
    rw [show 2 * (t + 1) = 2 + 2 * t by omega, ← List.drop_drop, weave_drop2 h h', weave_even t (by simp; omega) (by simp; omega), List.drop_drop, List.drop_drop, Nat.add_comm 1 t]
theorem weave_odd (t : Nat) {a b : List Int} (h : b.length ≤ a.length) (h' : a.length ≤ b.length + 1) : (weave a b).drop (2 * t + 1) = weave (b.drop t) (a.drop (t + 1)) := by
  rw [← List.drop_drop, weave_even t h h', weave_drop1 (by simp; omega), List.drop_drop]
theorem Pair.woven {a b : List Int} (h : Pair a b) (hl : a.length = b.length) : Pair (weave a b) (weave a (neg b)) := fun s hs => by
  obtain ⟨t, rfl | rfl⟩ : ∃ t, s = 2 * t ∨ s = 2 * t + 1 := ⟨s / 2, by omega⟩
  · unfold corr
    rw [weave_even t (by omega) (by omega), weave_even t (by simp; omega) (by simp; omega), zs_weave _ _ _ _ _ (Nat.le_refl _) (by omega) (by omega) (by simp; omega) (by simp; omega),
      zs_weave _ _ _ _ _ (Nat.le_refl _) (by simp; omega) (by simp; omega) (by simp; omega) (by simp; omega)]
    have e := h t (by omega)
    have e2 := corr_neg b t
    unfold corr at e e2
    omega
  · unfold corr
    rw [weave_odd t (by omega) (by omega), weave_odd t (by simp; omega) (by simp; omega), zs_weave _ _ _ _ _ (Nat.le_refl _) (by omega) (by omega) (by simp; omega) (by simp; omega),
      zs_weave _ _ _ _ _ (Nat.le_refl _) (by simp; omega) (by simp; omega) (by simp; omega) (by simp; omega), neg_drop, zs_neg_r, zs_neg]
    omega
theorem weave_len : ∀ (n : Nat) (a b : List Int), a.length + b.length ≤ n → b.length ≤ a.length → a.length ≤ b.length + 1 → (weave a b).length = a.length + b.length
  | n, [], b, _, h1, _ => by
    have : b = [] := List.eq_nil_of_length_eq_zero (by simpa using h1)
    subst this; simp
  | 0, x :: a, b, h, _, _ => by simp at h
  | n + 1, x :: a, b, h, h1, h2 => by
    simp only [List.length_cons] at h h1 h2
    rw [weave_cons, List.length_cons, weave_len n b a (by omega) (by omega) (by omega), List.length_cons]; omega
/-! turned about -/
theorem zs_snoc : ∀ (a b : List Int) (x y : Int), a.length = b.length → zs (a ++ [x]) (b ++ [y]) = zs a b + x * y
  | [], [], x, y, _ => by simp
  | [], _ :: _, _, _, h => by simp at h
  | _ :: _, [], _, _, h => by simp at h
  | u :: a, v :: b, x, y, h => by
    rw [List.cons_append, List.cons_append, zs_cons, zs_snoc a b x y (by simpa using h), zs_cons]; omega
theorem zs_rev : ∀ (a b : List Int), a.length = b.length → zs a.reverse b.reverse = zs a b
  | [], [], _ => by simp
  | [], _ :: _, h => by simp at h
  | _ :: _, [], h => by simp at h
  | x :: a, y :: b, h => by
    rw [List.reverse_cons, List.reverse_cons, zs_snoc _ _ _ _ (by simpa using h), zs_rev a b (by simpa using h), zs_cons]; omega
theorem corr_rev (a : List Int) (s : Nat) : corr a.reverse s = corr a s := by
  by_cases hs : s ≤ a.length
  · unfold corr
    have e1 : a.reverse.drop s = (a.take (a.length - s)).reverse := by rw [List.drop_reverse]
    have e2 : zs a.reverse (a.reverse.drop s) = zs (a.drop s).reverse (a.take (a.length - s)).reverse := by
      rw [← zs_take a.reverse (a.reverse.drop s), e1]
      congr 1
      rw [List.length_reverse, List.length_take, show min (a.length - s) a.length = a.length - s by omega, List.take_reverse, show a.length - (a.length - s) = s by omega]
    rw [e2, zs_rev _ _ (by first | (simp; done) | (simp; omega)), zs_comm, ← zs_take a (a.drop s), List.length_drop]
  · rw [corr_big _ (by simp; omega), corr_big _ (by omega)]
theorem Pair.turned {a b : List Int} (h : Pair a b) : Pair a.reverse b := fun s hs => by rw [corr_rev]; exact h s hs
/-! every second sign -/
def alt : Int → List Int → List Int
  | _, [] => []
  | e, x :: a => e * x :: alt (-e) a
theorem alt_neg : ∀ (e : Int) (a : List Int), alt (-e) a = neg (alt e a)
  | _, [] => rfl
  | e, x :: a => by
    rw [alt, alt, alt_neg (-e) a]
    simp only [neg, List.map_cons, Int.neg_mul]
@[simp] theorem alt_len : ∀ (e : Int) (a : List Int), (alt e a).length = a.length
  | _, [] => rfl
  | e, x :: a => by rw [alt, List.length_cons, alt_len, List.length_cons]
theorem alt_zs : ∀ (e f : Int) (a b : List Int), zs (alt e a) (alt f b) = e * f * zs a b
  | _, _, [], b => by simp [alt]
  | e, f, x :: a, [] => by simp [alt]
  | e, f, x :: a, y :: b => by
    rw [alt, alt, zs_cons, alt_zs (-e) (-f) a b, zs_cons, Int.mul_add]
    congr 1
    · rw [Int.mul_assoc, Int.mul_left_comm x f y, ← Int.mul_assoc]
    · rw [Int.neg_mul_neg]
def sg : Nat → Int → Int
  | 0, e => e
  | n + 1, e => sg n (-e)
theorem alt_drop : ∀ (s : Nat) (e : Int) (a : List Int), (alt e a).drop s = alt (sg s e) (a.drop s)
  | 0, _, _ => rfl
  | s + 1, e, [] => by simp [alt]
  | s + 1, e, x :: a => by rw [alt, List.drop_succ_cons, alt_drop s (-e) a, List.drop_succ_cons]; rfl
theorem corr_alt (a : List Int) (s : Nat) (e : Int) : corr (alt e a) s = e * sg s e * corr a s := by
  unfold corr; rw [alt_drop, alt_zs]
theorem Pair.alts {a b : List Int} (h : Pair a b) (e : Int) : Pair (alt e a) (alt e b) := fun s hs => by
  rw [corr_alt, corr_alt, ← Int.mul_add, h s hs, Int.mul_zero]
/-! round sums -/
def rc (a : List Int) (s : Nat) : Int := zs a (a.drop s ++ a.take s)
theorem rc_corr {a : List Int} {s : Nat} (hs : s ≤ a.length) : rc a s = corr a s + corr a (a.length - s) := by
  unfold rc corr
  rw [zs_app, List.length_drop, show a.length - s = (a.drop s).length by rw [List.length_drop], zs_take]
  congr 1
  rw [List.length_drop]
  have e := zs_take_r (a.drop (a.length - s)) a
  rw [List.length_drop, show a.length - (a.length - s) = s by omega] at e
  rw [e, zs_comm]
theorem Pair.ring {a b : List Int} (h : Pair a b) (hl : a.length = b.length) {s : Nat} (h1 : 1 ≤ s) (h2 : s < a.length) : rc a s + rc b s = 0 := by
  rw [rc_corr (by omega), rc_corr (by omega), ← hl]
  have e1 := h s h1
  have e2 := h (a.length - s) (by omega)
  omega
end L2.Pv.Golay
end
section
set_option Elab.async false
set_option linter.all false
set_option autoImplicit false
set_option maxRecDepth 100000
set_option maxHeartbeats 1000000
namespace L2.Pv.Lf
open Golay
/-! ### the longest rules, counted -/
def traj (r : List Nat) : Nat → List Int → List Int
  | 0, _ => []
  | n + 1, v => v.headD 0 :: traj r n (stp r v)
def frst (r : List Nat) (v : List Int) : Nat → Nat → List Int → Nat
  | 0, d, _ => d
  | f + 1, d, w => if w = v then d else frst r v f (d + 1) (stp r w)
def beg (L : Nat) : List Int := zer (L - 1) ++ [1]
def sgn (v : List Int) : List Int := v.map fun x => if x = 0 then 1 else -1
def ringsOk (v : List Int) : Bool := (List.range (v.length - 1)).all fun k => decide (rc v (k + 1) = -1)
def okL (r : List Nat) (L : Nat) : Bool :=
  let b := beg L
  let m := 2 ^ L - 1
  if frst r b 300 1 (stp r b) = m then
    let row := traj r m b
    decide (row.sum = ((2 ^ (L - 1) : Nat) : Int)) && (decide (6 < L) || ringsOk (sgn row))
  else true
def rules : Nat → List (List Nat)
  | 0 => []
  | L + 1 => (List.range L).foldl (fun acc k => acc ++ acc.map fun r => r ++ [k + 1]) [[]] |>.map fun r => r ++ [L + 1]
theorem all_5 : ∀ L ∈ [1, 2, 3, 4, 5], ((rules L).all fun r => okL r L) = true := by decide +kernel
theorem all_6 : ((rules 6).all fun r => okL r 6) = true := by decide +kernel
theorem frst_code {r : List Nat} {L : Nat} (hL : 1 ≤ L) {v : List Int} (hv : St v L) : ∀ (f d : Nat) (w : List Int), St w L → frst r v f d w = frstN r L (code v) f d (code w)
  | 0, d, w, _ => rfl
  | f + 1, d, w, hw => by
    unfold frst frstN
    by_cases e : w = v
    · rw [if_pos e, if_pos (by rw [e])]
    · rw [if_neg e, if_neg fun z => e (code_inj hw.bit hv.bit (by rw [hw.len, hv.len]) z), frst_code hL hv f (d + 1) _ (stp_st hL hw), code_stp hL hw]
theorem traj_sum {r : List Nat} {L : Nat} (hL : 1 ≤ L) : ∀ (n : Nat) (w : List Int), St w L → (traj r n w).sum = ((sumN r L n (code w) : Nat) : Int)
  | 0, _, _ => rfl
  | n + 1, w, hw => by
    have hd : w.headD 0 = ((code w % 2 : Nat) : Int) := by
      have := code_get hw.bit 0
      rw [Nat.pow_zero, Nat.div_one] at this
      rw [← this]
      cases w <;> rfl
    rw [traj, List.sum_cons, traj_sum hL n _ (stp_st hL hw), code_stp hL hw, sumN, Int.natCast_add, hd]
def okN (r : List Nat) (L : Nat) : Bool :=
  let b := code (beg L)
  if frstN r L b 300 1 (stepN r L b) = 2 ^ L - 1 then decide (sumN r L (2 ^ L - 1) b = 2 ^ (L - 1)) else true
theorem bst {L : Nat} (h : 1 ≤ L) : St (beg L) L := ⟨by simp [beg, zer]; omega, fun x hx => by
  rcases List.mem_append.mp hx with hx | hx
  · exact .inl (List.eq_of_mem_replicate hx)
  · rw [List.mem_singleton] at hx; exact .inr hx⟩
theorem okN_ok {r : List Nat} {L : Nat} (h6 : 6 < L) (h : okN r L = true) : okL r L = true := by
  have hL : 1 ≤ L := by omega
  have b := bst hL
  unfold okN at h
  unfold okL
  simp only [frst_code hL b 300 1 _ (stp_st hL b), code_stp hL b, traj_sum hL _ _ b] at h ⊢
  split
  · rename_i e
    rw [if_pos e] at h
    rw [decide_eq_true_eq] at h
    rw [h, decide_eq_true rfl, decide_eq_true h6]; rfl
  · rfl
theorem all_7' : ((rules 7).all fun r => okN r 7) = true := by decide +kernel
theorem all_8' : ((rules 8).all fun r => okN r 8) = true := by decide +kernel
theorem all_7 : ((rules 7).all fun r => okL r 7) = true := List.all_eq_true.mpr fun r h => okN_ok (by decide) (List.all_eq_true.mp all_7' r h)
theorem all_8 : ((rules 8).all fun r => okL r 8) = true := List.all_eq_true.mpr fun r h => okN_ok (by decide) (List.all_eq_true.mp all_8' r h)
end L2.Pv.Lf
end
section
set_option Elab.async false
set_option linter.all false
set_option autoImplicit false
set_option maxRecDepth 100000
set_option maxHeartbeats 2000000
namespace L2.Pv.K77
open PySem Lf Kd
/-! ### powers of two -/
theorem pow_loop : ∀ (ds : List D) (a : Int) (s1 s3 : Option D), ∃ s3', forL (gSet 3) (sSet 2 (ev2 dMul (eLk 2) (eLk 0))) ds [some (.int 2), s1, some (.int a), s3] = .nx [some (.int 2), s1, some (.int (a * 2 ^ ds.length)), s3']
  | [], a, s1, s3 => ⟨s3, by simp⟩
  | d :: ds, a, s1, s3 => by
    obtain ⟨s3', e⟩ := pow_loop ds (a * 2) s1 (some d)
    refine ⟨s3', ?_⟩
    have b : sSet 2 (ev2 dMul (eLk 2) (eLk 0)) [some (.int 2), s1, some (.int a), some d] = .nx [some (.int 2), s1, some (.int (a * 2)), some d] := by
      simp
    rw [forL_c (by simp) b, e, List.length_cons]
    rw [show a * 2 * 2 ^ ds.length = a * 2 ^ (ds.length + 1) by rw [Int.pow_succ, Int.mul_assoc, Int.mul_comm 2]]
theorem raised_ok {n : Nat} (h : n ≤ 100) : m_raised_to [.int 2, .int (n : Nat)] = .ok (.int (2 ^ n)) [] := by
  obtain ⟨s3, e⟩ := pow_loop (rangeD 0 n) 1 (some (.int (n : Nat))) none
  rw [rangeD_len, Int.one_mul] at e
  have sz : n ≤ sizeLine := sz_le (by omega)
  unfold m_raised_to
  rw [runF_2]
  simp [b_raised_to, sz]
  rw [e]
  simp
theorem all_loop : ∀ (ds : List D) (a : Int) (s0 s2 : Option D), ∃ s2', forL (gSet 2) (sSet 1 (ev2 dMul (eLk 1) (eC (.int 2)))) ds [s0, some (.int a), s2] = .nx [s0, some (.int (a * 2 ^ ds.length)), s2']
  | [], a, s0, s2 => ⟨s2, by simp⟩
  | d :: ds, a, s0, s2 => by
    obtain ⟨s2', e⟩ := all_loop ds (a * 2) s0 (some d)
    refine ⟨s2', ?_⟩
    have b : sSet 1 (ev2 dMul (eLk 1) (eC (.int 2))) [s0, some (.int a), some d] = .nx [s0, some (.int (a * 2)), some d] := by
      simp
    rw [forL_c (by simp) b, e, List.length_cons]
    rw [show a * 2 * 2 ^ ds.length = a * 2 ^ (ds.length + 1) by rw [Int.pow_succ, Int.mul_assoc, Int.mul_comm 2]]
theorem lall_ok {n : Nat} (h : n ≤ 100) : m__law_all [.int (n : Nat)] = .ok (.int (2 ^ n - 1)) [] := by
  obtain ⟨s2, e⟩ := all_loop (rangeD 0 n) 1 (some (.int (n : Nat))) none
  rw [rangeD_len, Int.one_mul] at e
  have sz : n ≤ sizeLine := sz_le (by omega)
  unfold m__law_all
  rw [runF_1]
  simp [b__law_all, sz]
  rw [e]
  simp
/-! ### the longest -/
theorem beg_st {L : Nat} (h : 1 ≤ L) : Lf.St (beg L) L := ⟨by simp [beg, zer]; omega, fun x hx => by
  rcases List.mem_append.mp hx with hx | hx
  · exact .inl (List.eq_of_mem_replicate hx)
  · rw [List.mem_singleton] at hx; exact .inr hx⟩
theorem beg_t {L : Nat} (h : 1 ≤ L) (h2 : L ≤ 100) : dMul (.tup [.int 0]) (.int ((L : Int) - 1)) = some (tR (zer (L - 1))) ∧ dAdd (tR (zer (L - 1))) (.tup [.int 1]) = some (tR (beg L)) := by
  refine ⟨?_, ?_⟩
  · rw [show ((L : Int) - 1) = ((L - 1 : Nat) : Int) by omega]
    exact zer_ok (by omega)
  · exact add_rows (xs := zer (L - 1)) (ys := [1]) (by simp [zer]; omega)
theorem zer_l {L : Nat} (hL : L ≤ 1000) : dMul (.lst true [.int 0]) (.int (L : Nat)) = some (.lst true ((zer L).map D.int)) := by
  unfold dMul
  have e : (List.replicate L [D.int 0]).flatten = (zer L).map D.int := by
    unfold zer
    rw [List.map_replicate]
    induction L with
    | zero => rfl
    | succ n ih => rw [List.replicate_succ, List.flatten_cons, ih (by omega), List.replicate_succ]; rfl
  simp only [Int.toNat_natCast, e]
  rw [if_pos ⟨by omega, by omega, by decide, rfl⟩]
theorem beg_l {L : Nat} (h : 1 ≤ L) (h2 : L ≤ 100) : dMul (.lst true [.int 0]) (.int ((L : Int) - 1)) = some (.lst true ((zer (L - 1)).map D.int)) ∧ dAdd (.lst true ((zer (L - 1)).map D.int)) (.lst true [.int 1]) = some (.lst true ((beg L).map D.int)) := by
  refine ⟨?_, ?_⟩
  · rw [show ((L : Int) - 1) = ((L - 1 : Nat) : Int) by omega]
    exact zer_l (by omega)
  · rw [dAdd_lst (by simp [zer]; omega) (allN_int _) rfl]
    unfold beg
    rw [List.map_append]; rfl
theorem longest_ok {r : List Nat} {L : Nat} (hr : Rule r L) {p : Nat} (hp : Per r (beg L) p) (hz : p ≤ 70000) : m_is_longest [tN r, .int (L : Nat)] = .ok (.bl (decide ((p : Int) = 2 ^ L - 1))) [] := by
  have h1 := hr.pos
  have h2 := hr.big
  have w := is_within_no 1 16 (L : Nat)
  rw [decide_eq_true (show (1 : Int) ≤ (L : Nat) by omega), decide_eq_true (show ((L : Nat) : Int) ≤ 16 by omega)] at w
  obtain ⟨b1, b2⟩ := beg_l h1 (by omega)
  have ck := check_ok hr (beg_st h1)
  have pe := period_ok hr (beg_st h1) hp hz
  have ra := raised_ok (n := L) (by omega)
  unfold m_is_longest
  rw [runF_2]
  simp [b_is_longest, w, b1, b2, ck, pe, ra]
theorem llongest_ok {r : List Nat} {L : Nat} (hr : Rule r L) {p : Nat} (hp : Per r (beg L) p) (hz : p < 300) : m__law_is_longest [tN r] = .ok (.bl (decide ((p : Int) = 2 ^ L - 1))) [] := by
  have h1 := hr.pos
  have h2 := hr.big
  obtain ⟨b1, b2⟩ := beg_t h1 (by omega)
  have so := size_ok hr
  have pe := lperiod_ok hr (beg_st h1) hp hz
  have ra := lall_ok (n := L) (by omega)
  unfold m__law_is_longest
  rw [runF_1]
  simp [b__law_is_longest, so, b1, b2, pe, ra]
/-! ### windows -/
theorem keys1_int : ∀ zs : List Int, D.keys1 (zs.map D.int) = some (zs.map Sum.inl)
  | [] => rfl
  | z :: zs => by simp [D.keys1, D.key1, keys1_int zs]
theorem keyT_row (zs : List Int) : (tR zs).keyT = some (zs.map Sum.inl) := keys1_int zs
theorem inl_inj : ∀ {a b : List Int}, (a.map Sum.inl : List Key) = b.map Sum.inl → a = b
  | [], [], _ => rfl
  | [], _ :: _, h => nomatch h
  | _ :: _, [], h => nomatch h
  | x :: a, y :: b, h => by
    rw [List.map_cons, List.map_cons] at h
    injection h with h1 h2
    rw [Sum.inl.inj h1, inl_inj h2]
theorem pos_no {α : Type} [DecidableEq α] {xs : List α} {y : α} (h : y ∉ xs) : posOf xs y = none := by
  cases e : posOf xs y with
  | none => rfl
  | some i => exact absurd (List.mem_of_getElem? (posOf_lt e)) h
theorem merge_nd : ∀ (ps : List (List Key × D)) (ks : List (List Key)) (xs : List D), (ks ++ ps.map Prod.fst).Nodup → mergeD ks xs ps = (ks ++ ps.map Prod.fst, xs ++ ps.map Prod.snd)
  | [], ks, xs, _ => by simp [mergeD]
  | (k, d) :: ps, ks, xs, h => by
    rw [List.map_cons] at h
    have hk : k ∉ ks := fun hm => by
      rw [List.nodup_append] at h
      exact h.2.2 k hm k List.mem_cons_self rfl
    unfold mergeD
    rw [pos_no hk]
    simp only
    rw [merge_nd ps (ks ++ [k]) (xs ++ [d]) (by rw [List.append_assoc]; exact h), List.append_assoc, List.append_assoc]
    rfl
theorem pairs_rows : ∀ (L : List (List Int)), pairsD (L.map fun w => D.tup [tR w, .bl true]) = some (L.map fun w => (w.map Sum.inl, D.bl true))
  | [] => rfl
  | w :: L => by
    rw [List.map_cons, pairsD, keyT_row, pairs_rows L]
    rfl
theorem dict_rows {L : List (List Int)} (h : L.Nodup) : dDictP (.lst true (L.map fun w => D.tup [tR w, .bl true])) = some (.dic true (.t (L.map fun w => w.map Sum.inl)) (L.map fun _ => D.bl true)) := by
  unfold dDictP
  simp only [pairs_rows]
  have nd : (([] : List (List Key)) ++ (L.map fun w => ((w.map Sum.inl : List Key), D.bl true)).map Prod.fst).Nodup := by
    rw [List.nil_append, List.map_map]
    exact List.Pairwise.map _ (fun a b hab e => hab (inl_inj e)) h
  rw [merge_nd _ _ _ nd, List.nil_append, List.nil_append, List.map_map, List.map_map]
  rfl
theorem in_rows {L : List (List Int)} {z : List Int} (h : z ∉ L) (vs : List D) : dInX (tR z) (.dic true (.t (L.map fun w => w.map Sum.inl)) vs) = some (.bl false) := by
  unfold dInX DKs.ix
  simp only [keyT_row, Option.map_some]
  rw [pos_no]
  · rfl
  · intro hm
    obtain ⟨w, hw, e⟩ := List.mem_map.mp hm
    rw [inl_inj e] at hw
    exact h hw
end L2.Pv.K77
end
section
set_option Elab.async false
set_option linter.all false
set_option autoImplicit false
set_option maxRecDepth 100000
set_option maxHeartbeats 2000000
namespace L2.Pv.K77
open PySem Lf Kd Golay
/-! ### rings -/
theorem zs_range : ∀ (m : Nat) (a b : List Int), a.length ≤ m ∨ b.length ≤ m → ((List.range m).map fun k => a.getD k 0 * b.getD k 0).sum = zs a b
  | 0, a, b, h => by
    rcases h with h | h
    · have : a = [] := List.eq_nil_of_length_eq_zero (by omega)
      subst this; simp
    · have : b = [] := List.eq_nil_of_length_eq_zero (by omega)
      subst this; simp
  | m + 1, [], b, h => by
    rw [zs_nil_l]
    have : ((List.range (m + 1)).map fun k => ([] : List Int).getD k 0 * b.getD k 0) = (List.range (m + 1)).map fun _ => 0 := List.map_congr_left fun k _ => by simp
    rw [this]
    induction (List.range (m + 1)) with
    | nil => rfl
    | cons x xs ih => simp at ih ⊢; exact ih
  | m + 1, x :: a, [], h => by
    rw [zs_nil_r]
    have : ((List.range (m + 1)).map fun k => (x :: a).getD k 0 * ([] : List Int).getD k 0) = (List.range (m + 1)).map fun _ => 0 := List.map_congr_left fun k _ => by simp
    rw [this]
    induction (List.range (m + 1)) with
    | nil => rfl
    | cons x xs ih => simp at ih ⊢; exact ih
  | m + 1, x :: a, y :: b, h => by
    rw [List.range_succ_eq_map, List.map_cons, List.sum_cons, List.map_map, zs_cons, ← zs_range m a b (by simpa using h)]
    rfl
theorem rc_range (xs : List Int) {s : Nat} (hs : s ≤ xs.length) : ((List.range xs.length).map fun k => xs.getD k 0 * xs.getD ((k + s) % xs.length) 0).sum = rc xs s := by
  unfold rc
  rw [← zs_range xs.length xs (xs.drop s ++ xs.take s) (.inl (Nat.le_refl _))]
  congr 1
  refine List.map_congr_left fun k hk => ?_
  have hk : k < xs.length := List.mem_range.mp hk
  congr 1
  rw [List.getD_eq_getElem?_getD, List.getD_eq_getElem?_getD]
  congr 1
  by_cases h : k + s < xs.length
  · rw [Nat.mod_eq_of_lt h, List.getElem?_append_left (by simp; omega), List.getElem?_drop, Nat.add_comm]
  · have e : (k + s) % xs.length = k + s - xs.length := by
      rw [Nat.mod_eq_sub_mod (by omega), Nat.mod_eq_of_lt (by omega)]
    rw [e, List.getElem?_append_right (by simp; omega), List.length_drop, List.getElem?_take_of_lt (by omega)]
    congr 1
    omega
def small (xs : List Int) : Prop := xs.length ≤ 1000 ∧ ∀ x ∈ xs, x.natAbs ≤ 2 ^ 60
theorem small.get {xs : List Int} (h : small xs) (k : Nat) : -(2 ^ 64) < xs.getD k 0 ∧ xs.getD k 0 < 2 ^ 64 := by
  rw [List.getD_eq_getElem?_getD]
  cases e : xs[k]? with
  | none => decide
  | some x =>
    have := h.2 x (List.mem_of_getElem? e)
    simp only [Option.getD_some]
    omega
/-- the sum over a range of products of a row's numbers -/
theorem line_sum {xs : List Int} (h : small xs) {vs : List Nat} {i : Nat} {fi : EvA} {fe : Ev} {δ δ1 : DS} {m : Nat} {w : Nat → Nat} {S : Nat → DS} (hi : fi δ = .ok (rangeD 0 m) δ1) (ht : ∀ k, gSet i (.int (0 + (k : Nat))) (wipeG δ1 vs) = some (S k))
    (he : ∀ k, k < m → fe (S k) = lft (dMul (.int (xs.getD k 0)) (.int (xs.getD (w k) 0))) (S k)) (hw : ∀ k, wipeG (S k) vs = wipeG δ1 vs) (hr : restG δ1 (wipeG δ1 vs) vs = δ1) :
    ev1 dSum (eLc vs fi (gSet i) cYes fe) δ = .ok (.int ((List.range m).map fun k => xs.getD k 0 * xs.getD (w k) 0).sum) δ1 := by
  rw [ev1_ap, eLc_map (L := List.range m) (ι := fun k => D.int (0 + (k : Nat))) (S := S) (g := fun k => D.int (xs.getD k 0 * xs.getD (w k) 0)) hi (fun k _ => ht k) (fun k hk => ?_) (fun k _ => hw k) hr, bd_ok, dSum_map, lft_some]
  rw [he k (List.mem_range.mp hk), dMul_int (mulOk_l (h.get k).1 (h.get k).2), lft_some]
theorem ring_ok {xs : List Int} (h : small xs) : m_ring_sums_of [tR xs] = .ok (.lst true ((List.range xs.length).map fun s => D.int (rc xs s))) [] := by
  unfold m_ring_sums_of
  rw [runF_1]
  simp [b_ring_sums_of]
  rw [eLc_map (L := List.range xs.length) (ι := fun k => D.int (0 + (k : Nat))) (S := fun s => [some (tR xs), some (.int xs.length), some (.int (0 + (s : Nat))), none]) (g := fun s => D.int (rc xs s)) (δ1 := [some (tR xs), some (.int xs.length), none, none])]
  · simp
  · exact iRng_1 (j := (xs.length : Int)) (by simp) (by have := h.1; omega)
  · intro s _; rfl
  · intro s hs
    have hs : s < xs.length := List.mem_range.mp hs
    rw [line_sum h (m := xs.length) (w := fun k => (k + s) % xs.length) (S := fun k => [some (tR xs), some (.int xs.length), some (.int (0 + (s : Nat))), some (.int (0 + (k : Nat)))]) (δ1 := [some (tR xs), some (.int xs.length), some (.int (0 + (s : Nat))), none])]
    · rw [rc_range xs (by omega)]
    · rw [iRng_1 (j := (xs.length : Int)) (δ' := [some (tR xs), some (.int xs.length), some (.int (0 + (s : Nat))), none]) (by simp) (by have := h.1; omega)]
      rfl
    · intro k; rfl
    · intro k hk
      have a1 := atI_row (xs := xs) (k := k) (by omega)
      have a2 := atI_row (xs := xs) (k := (k + s) % xs.length) (Nat.mod_lt _ (by omega))
      rw [Int.natCast_emod, Int.natCast_add] at a2
      simp [a1, a2, dMod_int (j := (xs.length : Int)) (by omega)]
    · intro k; rfl
    · rfl
  · intro s _; rfl
  · rfl
/-! ### signs -/
theorem sgn_small {v : List Int} (h : v.length ≤ 1000) : small (sgn v) := ⟨by simpa [sgn] using h, fun x hx => by
  obtain ⟨y, _, rfl⟩ := List.mem_map.mp hx
  by_cases e : y = 0 <;> simp [e]⟩
theorem sgn_sign {v : List Int} : ∀ x ∈ sgn v, x = 1 ∨ x = -1 := fun x hx => by
  obtain ⟨y, _, rfl⟩ := List.mem_map.mp hx
  by_cases e : y = 0
  · exact .inl (if_pos e)
  · exact .inr (if_neg e)
theorem signs_ok {v : List Int} (h1 : 1 ≤ v.length) (h2 : v.length ≤ 64) (hb : Bits v) : m_signs_of [tR v] = .ok (tR (sgn v)) [] := by
  have t1 := is_tuple_no 1 64 (v.map D.int)
  rw [List.length_map, decide_eq_true (show (1 : Int) ≤ (v.length : Int) by omega), decide_eq_true (show (v.length : Int) ≤ 64 by omega)] at t1
  have b1 : eLc [1] (iSeq (eNm 0)) (gSet 1) cYes (calF m_is_within (aCons (eNm 1) (aCons (eC (.int 0)) (aCons (eC (.int 1)) aNil)))) [some (tR v), none] = .ok (.lst true (v.map fun _ => D.bl true)) [some (tR v), none] := by
    rw [eLc_map (L := v) (ι := D.int) (S := fun x => [some (tR v), some (.int x)]) (g := fun _ => D.bl true) (δ1 := [some (tR v), none])]
    · simp
    · intro x _; rfl
    · intro x hx
      have w := is_within_no 0 1 x
      rcases hb x hx with rfl | rfl <;> simp [w]
    · intro x _; rfl
    · rfl
  have b2 : eLc [1] (iSeq (eNm 0)) (gSet 1) cYes (eIf (cVal (ev2 dEq (eLk 1) (eC (.int 0)))) (eC (.int 1)) (ev1 dNeg (eC (.int 1)))) [some (tR v), none] = .ok (.lst true ((sgn v).map D.int)) [some (tR v), none] := by
    rw [eLc_map (L := v) (ι := D.int) (S := fun x => [some (tR v), some (.int x)]) (g := fun x => D.int (if x = 0 then 1 else -1)) (δ1 := [some (tR v), none])]
    · unfold sgn; rw [List.map_map]; rfl
    · simp
    · intro x _; rfl
    · intro x _
      by_cases e : x = 0 <;> simp [e]
    · intro x _; rfl
    · rfl
  unfold m_signs_of
  rw [runF_1]
  simp [b_signs_of, t1, b1, dAll_map]
  rw [b2]
  simp
/-! ### rows -/
theorem row_ok {v : List Int} (h1 : 1 ≤ v.length) (h2 : v.length ≤ 64) (hb : ∀ x ∈ v, x = 1 ∨ x = -1) : m_is_row [tR v] = .ok (.bl true) [] := by
  have t1 := is_tuple_no 1 64 (v.map D.int)
  rw [List.length_map, decide_eq_true (show (1 : Int) ≤ (v.length : Int) by omega), decide_eq_true (show (v.length : Int) ≤ 64 by omega)] at t1
  have b1 : eLc [1] (iSeq (eNm 0)) (gSet 1) cYes (eAnd (calF m_is_within (aCons (eNm 1) (aCons (ev1 dNeg (eC (.int 1))) (aCons (eC (.int 1)) aNil)))) (ev2 dNe (eLk 1) (eC (.int 0)))) [some (tR v), none] = .ok (.lst true (v.map fun _ => D.bl true)) [some (tR v), none] := by
    rw [eLc_map (L := v) (ι := D.int) (S := fun x => [some (tR v), some (.int x)]) (g := fun _ => D.bl true) (δ1 := [some (tR v), none])]
    · simp
    · intro x _; rfl
    · intro x hx
      have w := is_within_no (-1) 1 x
      rcases hb x hx with rfl | rfl <;> simp [w]
    · intro x _; rfl
    · rfl
  unfold m_is_row
  rw [runF_1]
  simp [b_is_row, t1]
  rw [b1]
  simp [dAll_map]
theorem rows_ok {v : List Int} (h1 : 1 ≤ v.length) (h2 : v.length ≤ 64) (hb : ∀ x ∈ v, x = 1 ∨ x = -1) : m_check_rows [.tup [tR v]] = .ok .non [] := by
  have r := row_ok h1 h2 hb
  have b1 : eLc [1] (iSeq (eNm 0)) (gSet 1) cYes (calF m_is_row (aCons (eNm 1) aNil)) [some (.tup [tR v]), none] = .ok (.lst true ([v].map fun _ => D.bl true)) [some (.tup [tR v]), none] := by
    rw [eLc_map (L := [v]) (ι := tR) (S := fun w => [some (.tup [tR v]), some (tR w)]) (g := fun _ => D.bl true) (δ1 := [some (.tup [tR v]), none])]
    · simp
    · intro x _; rfl
    · intro x hx
      rw [List.mem_singleton] at hx
      subst hx
      simp [r]
    · intro x _; rfl
    · rfl
  unfold m_check_rows
  rw [runF_1]
  simp [b_check_rows]
  rw [b1]
  have da : dAll (.lst true [.bl true]) = some (.bl true) := rfl
  simp [da]
theorem ring_sums_ok {v : List Int} (h1 : 1 ≤ v.length) (h2 : v.length ≤ 64) (hb : ∀ x ∈ v, x = 1 ∨ x = -1) : m_ring_sums [tR v] = .ok (.lst true ((List.range v.length).map fun s => D.int (rc v s))) [] := by
  have ro := rows_ok h1 h2 hb
  have ri := ring_ok (xs := v) ⟨by omega, fun x hx => by rcases hb x hx with rfl | rfl <;> decide⟩
  unfold m_ring_sums
  rw [runF_1]
  simp [b_ring_sums, ro, ri]
/-- dicts with one key -/
theorem dc_one {vs : List Nat} {s0 : Option D} {k : Int} : ∀ (n : Nat) (ks : List Key) (xs : List D), (ks = [] ∧ xs = [] ∨ ks = [.inl k] ∧ xs = [.bl true]) → ∃ ks' xs', (ks' = [] ∧ xs' = [] ∨ ks' = [.inl k] ∧ xs' = [.bl true]) ∧
    dcL [1] (gSet 1) cYes (eNm 1) (eC (.bl true)) (List.replicate n (.int k)) (.dic true (.k ks) xs) [s0, none] = some (.dic true (.k ks') xs', [s0, none])
  | 0, ks, xs, h => ⟨ks, xs, h, rfl⟩
  | n + 1, ks, xs, h => by
    have sz : xs.length < sizeLine := sz_le (by rcases h with ⟨_, rfl⟩ | ⟨_, rfl⟩ <;> decide)
    have pt : putD (.dic true (.k ks) xs) (.int k) (.bl true) = some (.dic true (.k [.inl k]) [.bl true]) := by
      rcases h with ⟨rfl, rfl⟩ | ⟨rfl, rfl⟩
      · simp [putD, DKs.ix, D.key1, posOf, DKs.snoc] at sz ⊢
        omega
      · simp [putD, DKs.ix, D.key1, posOf, DKs.snoc] at sz ⊢
        exact sz
    obtain ⟨ks', xs', h', e⟩ := dc_one (vs := vs) (s0 := s0) (k := k) n [.inl k] [.bl true] (.inr ⟨rfl, rfl⟩)
    refine ⟨ks', xs', h', ?_⟩
    rw [List.replicate_succ]
    unfold dcL
    rw [gSet_ap (by simp)]
    simp only [Option.bind_some, cYes_ap]
    have en : eNm 1 (List.set [s0, none] 1 (some (D.int k))) = .ok (.int k) [s0, some (.int k)] := by simp
    simp only [en, eC_ap, pt, Option.bind_some]
    exact e
theorem even_ok {v : List Int} (h1 : 1 ≤ v.length) (h2 : v.length ≤ 64) (hb : ∀ x ∈ v, x = 1 ∨ x = -1) {k : Int} (hk : ∀ s, s < v.length - 1 → rc v (s + 1) = k) : m_is_even_round [tR v] = .ok (.bl true) [] := by
  have ro := rows_ok h1 h2 hb
  have ri := ring_ok (xs := v) ⟨by omega, fun x hx => by rcases hb x hx with rfl | rfl <;> decide⟩
  have al : ((List.range v.length).map fun s => D.int (rc v s)).all nOwn = true := by simp [List.all_map]
  have sl : dSl (.lst true ((List.range v.length).map fun s => D.int (rc v s))) (some 1) none = some (.lst true (List.replicate (v.length - 1) (.int k))) := by
    unfold dSl
    simp only [al, if_true]
    unfold dCut
    have i1 : HT.sIx ((List.range v.length).map fun s => D.int (rc v s)).length 0 (some 1) = min 1 v.length := by
      have := HT.sIx_nat ((List.range v.length).map fun s => D.int (rc v s)).length 0 1
      simpa using this
    rw [i1, HT.sIx_none]
    congr 2
    have : (List.replicate (v.length - 1) (D.int k)) = (List.range (v.length - 1)).map fun s => D.int (rc v (s + 1)) := by
      apply List.ext_getElem?
      intro i
      rw [List.getElem?_replicate, List.getElem?_map]
      by_cases hi : i < v.length - 1
      · rw [if_pos hi, List.getElem?_range hi, Option.map_some, hk i hi]
      · rw [if_neg hi, List.getElem?_eq_none (by simpa using hi)]; rfl
    rw [this]
    generalize v.length = n at h1 ⊢
    cases n with
    | zero => omega
    | succ n =>
      rw [show min 1 (n + 1) = 1 by omega, List.range_succ_eq_map, List.map_cons, List.drop_succ_cons, List.drop_zero, List.map_map, List.take_of_length_le (by simp)]
      rfl
  obtain ⟨ks, xs, hx, e⟩ := dc_one (vs := []) (s0 := some (tR v)) (k := k) (v.length - 1) [] [] (.inl ⟨rfl, rfl⟩)
  have xl : (xs.length : Int) ≤ 1 := by rcases hx with ⟨_, rfl⟩ | ⟨_, rfl⟩ <;> decide
  have dc : eDc [1] (iSeq (eSl (calF m_ring_sums_of (aCons (eNm 0) aNil)) (oSome (eC (.int 1))) oNone)) (gSet 1) cYes (eNm 1) (eC (.bl true)) [some (tR v), none] = .ok (.dic true (.k ks) xs) [some (tR v), none] := by
    have i0 : iSeq (eSl (calF m_ring_sums_of (aCons (eNm 0) aNil)) (oSome (eC (.int 1))) oNone) [some (tR v), none] = .ok (List.replicate (v.length - 1) (.int k)) [some (tR v), none] := by
      have fz : D.frzs (List.replicate (v.length - 1) (D.int k)) = List.replicate (v.length - 1) (.int k) := by
        rw [D.frzs_map, List.map_replicate]; rfl
      simp [ri, sl, fz]
    unfold eDc
    rw [i0, bd_ok, show wipeG [some (tR v), none] [1] = [some (tR v), none] from rfl, e]
    rfl
  have dl : dLen (.dic true (.k ks) xs) = some (.int xs.length) := rfl
  unfold m_is_even_round
  rw [runF_1]
  simp [b_is_even_round, ro]
  rw [dc]
  simp [dl, xl]
end L2.Pv.K77
end
section
set_option Elab.async false
set_option linter.all false
set_option autoImplicit false
set_option maxRecDepth 100000
set_option maxHeartbeats 2000000
namespace L2.Pv.Lf
open Golay
/-! ### counted facts, for every rule -/
def subs (L : Nat) : List (List Nat) := (List.range L).foldl (fun acc k => acc ++ acc.map fun r => r ++ [k + 1]) [[]]
theorem subs_succ (L : Nat) : subs (L + 1) = subs L ++ (subs L).map fun r => r ++ [L + 1] := by
  unfold subs
  rw [List.range_succ, List.foldl_append]
  rfl
theorem subs_mem : ∀ (L : Nat) (a : List Nat), a.Pairwise (· < ·) → (∀ k ∈ a, 1 ≤ k ∧ k ≤ L) → a ∈ subs L
  | 0, a, _, h => by
    cases a with
    | nil => exact List.mem_singleton.mpr rfl
    | cons k a => have := h k List.mem_cons_self; omega
  | L + 1, a, hp, h => by
    rw [subs_succ, List.mem_append]
    by_cases hm : L + 1 ∈ a
    · right
      have hne : a ≠ [] := fun e => by rw [e] at hm; exact nomatch hm
      have e := List.dropLast_concat_getLast hne
      have hp2 := hp
      rw [← e, List.pairwise_append] at hp2
      have hl : a.getLast hne = L + 1 := by
        rw [← e] at hm
        rcases List.mem_append.mp hm with hm | hm
        · have h1 := hp2.2.2 _ hm _ (List.mem_singleton.mpr rfl)
          have h2 := h _ (List.getLast_mem hne)
          omega
        · exact (List.mem_singleton.mp hm).symm
      refine List.mem_map.mpr ⟨a.dropLast, subs_mem L _ hp2.1 fun k hk => ?_, by rw [← hl]; exact e⟩
      have h1 := hp2.2.2 k hk _ (List.mem_singleton.mpr rfl)
      have h2 := h k ((List.dropLast_sublist a).subset hk)
      omega
    · left
      refine subs_mem L a hp fun k hk => ?_
      have h2 := h k hk
      have : k ≠ L + 1 := fun e => hm (e ▸ hk)
      omega
theorem rules_mem {a : List Nat} {L : Nat} (hp : a.Pairwise (· < ·)) (h : ∀ k ∈ a, 1 ≤ k ∧ k < L) (hL : 1 ≤ L) : a ++ [L] ∈ rules L := by
  obtain ⟨m, rfl⟩ : ∃ m, L = m + 1 := ⟨L - 1, by omega⟩
  exact List.mem_map.mpr ⟨a, subs_mem m a hp fun k hk => by have := h k hk; omega, rfl⟩
theorem ok_rules {r : List Nat} {L : Nat} (h : r ∈ rules L) (h1 : 1 ≤ L) (h8 : L ≤ 8) : okL r L = true := by
  have h5 := all_5
  by_cases e6 : L = 6
  · subst e6; exact List.all_eq_true.mp all_6 r h
  · by_cases e7 : L = 7
    · subst e7; exact List.all_eq_true.mp all_7 r h
    · by_cases e8 : L = 8
      · subst e8; exact List.all_eq_true.mp all_8 r h
      · exact List.all_eq_true.mp (h5 L (by simp; omega)) r h
theorem frst_per {r : List Nat} {v : List Int} {p : Nat} (hp : Per r v p) : ∀ (f d : Nat), 1 ≤ d → d ≤ p → p < d + f → frst r v f d (its r v d) = p
  | 0, d, _, h2, h3 => by omega
  | f + 1, d, h1, h2, h3 => by
    unfold frst
    by_cases e : d = p
    · subst e
      rw [if_pos hp.back]
    · rw [if_neg (hp.least d h1 (by omega))]
      exact frst_per hp f (d + 1) (by omega) (by omega) (by omega)
theorem take_traj {r : List Nat} {L : Nat} (h : RL r L) : ∀ (n : Nat) (v : List Int), v.length = L → (ext r v n).take n = traj r n v
  | 0, v, _ => by simp [traj]
  | n + 1, v, hv => by
    have h1 := h.pos
    cases v with
    | nil => simp at hv; omega
    | cons x v =>
      have e : ext r (x :: v) (n + 1) = x :: ext r (stp r (x :: v)) n := by
        show ext r (x :: v ++ [nb r (x :: v)]) n = _
        have := ext_front h n [x] (stp r (x :: v)) (by simp [stp]; simp at hv; omega)
        exact this
      rw [e, List.take_succ_cons, take_traj h n _ (by simp [stp]; simpa using hv)]
      rfl
theorem traj_len (r : List Nat) : ∀ (n : Nat) (v : List Int), (traj r n v).length = n
  | 0, _ => rfl
  | n + 1, v => by rw [traj, List.length_cons, traj_len r n]
theorem zs_self : ∀ v : List Int, (∀ x ∈ v, x = 1 ∨ x = -1) → zs v v = v.length
  | [], _ => rfl
  | x :: v, h => by
    rw [zs_cons, zs_self v fun y hy => h y (List.mem_cons_of_mem _ hy), List.length_cons]
    rcases h x List.mem_cons_self with rfl | rfl <;> omega
theorem rc_0 {v : List Int} (h : ∀ x ∈ v, x = 1 ∨ x = -1) : rc v 0 = v.length := by
  unfold rc
  rw [List.drop_zero, List.take_zero, List.append_nil]
  exact zs_self v h
end L2.Pv.Lf
namespace L2.Pv.K77
open PySem Lf Kd Golay
theorem dEq_ints (o o' : Bool) (xs ys : List Int) : dEq (.lst o (xs.map D.int)) (.lst o' (ys.map D.int)) = some (.bl (decide (xs = ys))) := by
  unfold dEq
  rw [if_pos ⟨by simp [D.eqOk, eqOks_int], by simp [D.eqOk, eqOks_int]⟩]
  simp [D.eqb, eqbs_int]
theorem ones_l {n : Nat} (h : n ≤ 1000) : dMul (.lst true [.int (-1)]) (.int (n : Nat)) = some (.lst true ((List.replicate n (-1 : Int)).map D.int)) := by
  unfold dMul
  have e : (List.replicate n [D.int (-1)]).flatten = (List.replicate n (-1 : Int)).map D.int := by
    rw [List.map_replicate]
    clear h
    induction n with
    | zero => rfl
    | succ n ih => rw [List.replicate_succ, List.flatten_cons, ih, List.replicate_succ]; rfl
  simp only [Int.toNat_natCast, e]
  rw [if_pos ⟨by omega, by omega, by decide, rfl⟩]
theorem sum_t (xs : List Int) : dSum (.tup (xs.map D.int)) = some (.int xs.sum) := by
  have e : ∀ xs : List Int, intsOf (xs.map D.int) = some xs := fun xs => by
    induction xs with
    | nil => rfl
    | cons x xs ih => rw [List.map_cons, intsOf, ih]; rfl
  unfold dSum
  simp only [e, Option.map_some]
theorem ext_bits {r : List Nat} : ∀ {v : List Int}, Bits v → ∀ n, Bits (ext r v n)
  | v, h, 0 => h
  | v, h, n + 1 => ext_bits (v := v ++ [nb r v]) (fun x hx => by
    rcases List.mem_append.mp hx with hx | hx
    · exact h x hx
    · rw [List.mem_singleton] at hx; subst hx; exact nb_bit _ _) n
theorem round_ok {r : List Nat} {L : Nat} (hr : Rule r L) (h8 : L ≤ 8) (g : D) : m__law_is_round_right [g, tN r] = .ok (.bl true) [g] := by
  have hL := hr.pos
  have bs := beg_st hL
  have p256 : 2 ^ L ≤ 2 ^ 8 := Nat.pow_le_pow_right (by decide) h8
  have p2 : 2 ≤ 2 ^ L := by
    have := Nat.pow_le_pow_right (show 0 < 2 by decide) hL
    simpa using this
  obtain ⟨p, hp, pl⟩ := per_ex hr.rw bs
  have so := size_ok hr
  have lo := longest_ok hr hp (by omega)
  have ll := llongest_ok hr hp (by omega)
  have em : ((2 : Int) ^ L - 1) = ((2 ^ L - 1 : Nat) : Int) := by
    rw [Int.natCast_sub (by omega), Int.natCast_pow]; rfl
  have la := lall_ok (n := L) (by omega)
  rw [em] at lo ll la
  have a0 : (ev2 dIx (eLk 1) (ev1 dNeg (eC (.int 1)))) [some g, some (tN r), none, none, none, none, none, none, none, none, none] = .ok (.int (L : Nat)) [some g, some (tN r), none, none, none, none, none, none, none, none, none] := by simp [so]
  have a1 : (calF m__law_is_longest (aCons (eNm 1) (aNil))) [some g, some (tN r), some (.int (L : Nat)), none, none, none, none, none, none, none, none] = .ok (.bl (decide ((p : Int) = ((2 ^ L - 1 : Nat) : Int)))) [some g, some (tN r), some (.int (L : Nat)), none, none, none, none, none, none, none, none] := by
    rw [calF_ap, aCons_ap, eNm_ap]
    simp only [List.getElem?_cons_succ, List.getElem?_cons_zero, own_tup, Bool.false_eq_true, if_false, bd_ok, aNil_ap, ll]
  unfold m__law_is_round_right
  rw [runF_2]
  unfold b__law_is_round_right
  show finF [0] (sSeq _ _ [some g, some (tN r), none, none, none, none, none, none, none, none, none]) = _
  rw [seq_set a0 (by simp)]
  simp only [List.set]
  rw [seq_set a1 (by simp)]
  simp only [List.set]
  by_cases hd : (p : Int) = ((2 ^ L - 1 : Nat) : Int)
  · rw [decide_eq_true hd] at lo ⊢
    have hpm : p = 2 ^ L - 1 := by omega
    subst hpm
    have rm : r ∈ rules L := by
      obtain ⟨a, e, ha⟩ := hr.split
      have hp2 := hr.asc
      rw [e, List.pairwise_append] at hp2
      rw [e]
      exact rules_mem hp2.1 (fun k hk => ⟨hr.low k (by rw [e]; exact List.mem_append_left _ hk), ha k hk⟩) hL
    have ok := ok_rules rm hL h8
    have fr := frst_per hp 300 1 (Nat.le_refl _) hp.pos (by omega)
    unfold okL at ok
    have fr : frst r (beg L) 300 1 (stp r (beg L)) = 2 ^ L - 1 := fr
    simp only [fr, if_true, Bool.and_eq_true, Bool.or_eq_true, decide_eq_true_eq] at ok
    obtain ⟨k1, k2⟩ := ok
    have tk := take_traj hr.rl (2 ^ L - 1) (beg L) bs.len
    have tl := traj_len r (2 ^ L - 1) (beg L)
    have pe := period_ok hr bs hp (by omega)
    have lb := bs.len
    have on := on_ok (r := r) (L := L) (v := beg L) hr.le (by omega) (by omega) (n := 2 ^ L - 1) (by omega)
    obtain ⟨b1, b2⟩ := beg_t hL (by omega)
    have zo := zer_ok (L := L) (by omega)
    generalize hm : 2 ^ L - 1 = m at *
    have hm1 : m + 1 = 2 ^ L := by omega
    have m1 : 1 ≤ m := by omega
    have m255 : m ≤ 255 := by omega
    have a2 : (cVal (ev2 dNe (calF m_is_longest (aCons (eNm 1) (aCons (eNm 2) (aNil)))) (eLk 3))) [some g, some (tN r), some (.int (L : Nat)), some (.bl true), none, none, none, none, none, none, none] = .ok false [some g, some (tN r), some (.int (L : Nat)), some (.bl true), none, none, none, none, none, none, none] := by simp [lo]
    have a3 : (cNot (cVal (eNm 3))) [some g, some (tN r), some (.int (L : Nat)), some (.bl true), none, none, none, none, none, none, none] = .ok false [some g, some (tN r), some (.int (L : Nat)), some (.bl true), none, none, none, none, none, none, none] := by simp
    have a4 : (ev2 dAdd (ev2 dMul (eTup (aCons (eC (.int 0)) (aNil))) (ev2 dSub (eLk 2) (eC (.int 1)))) (eTup (aCons (eC (.int 1)) (aNil)))) [some g, some (tN r), some (.int (L : Nat)), some (.bl true), none, none, none, none, none, none, none] = .ok (tR (beg L)) [some g, some (tN r), some (.int (L : Nat)), some (.bl true), none, none, none, none, none, none, none] := by simp [b1, b2]
    have a5 : (calF m__law_all (aCons (eNm 2) (aNil))) [some g, some (tN r), some (.int (L : Nat)), some (.bl true), some (tR (beg L)), none, none, none, none, none, none] = .ok (.int (m : Nat)) [some g, some (tN r), some (.int (L : Nat)), some (.bl true), some (tR (beg L)), none, none, none, none, none, none] := by
      rw [calF_ap, aCons_ap, eNm_ap]
      simp only [List.getElem?_cons_succ, List.getElem?_cons_zero, own_int, Bool.false_eq_true, if_false, bd_ok, aNil_ap, la]
    have s6 := sl_to (xs := (ext r (beg L) m).map D.int) (n := m)
    rw [← List.map_take, tk] at s6
    have a6 : (eSl (calF m__law_on (aCons (eNm 1) (aCons (eNm 4) (aCons (eNm 5) (aNil))))) (oNone) (oSome (eLk 5))) [some g, some (tN r), some (.int (L : Nat)), some (.bl true), some (tR (beg L)), some (.int (m : Nat)), none, none, none, none, none] = .ok (tR (traj r m (beg L))) [some g, some (tN r), some (.int (L : Nat)), some (.bl true), some (tR (beg L)), some (.int (m : Nat)), none, none, none, none, none] := by simp [on, s6]
    have sm := sum_t (traj r m (beg L))
    have hf : ((m : Int) + 1) / 2 = ((2 ^ (L - 1) : Nat) : Int) := by
      have : 2 ^ L = 2 * 2 ^ (L - 1) := by
        obtain ⟨n, rfl⟩ : ∃ n, L = n + 1 := ⟨L - 1, by omega⟩
        rw [Nat.pow_succ, Nat.add_sub_cancel]; omega
      omega
    have a7 : (cOr (cVal (ev2 dNe (calF m_period (aCons (eNm 1) (aCons (eNm 4) (aNil)))) (eLk 5))) (cVal (ev2 dNe (ev1 dSum (eLk 6)) (ev2 dFdiv (ev2 dAdd (eLk 5) (eC (.int 1))) (eC (.int 2)))))) [some g, some (tN r), some (.int (L : Nat)), some (.bl true), some (tR (beg L)), some (.int (m : Nat)), some (tR (traj r m (beg L))), none, none, none, none] = .ok false [some g, some (tN r), some (.int (L : Nat)), some (.bl true), some (tR (beg L)), some (.int (m : Nat)), some (tR (traj r m (beg L))), none, none, none, none] := by
      simp [pe, sm, k1, hf]
    have tl' : (traj r m (beg L)).take L = beg L := by
      rw [← tk, List.take_take, Nat.min_eq_left (by
        have : L < 2 ^ L := Nat.lt_two_pow_self
        omega)]
      obtain ⟨w, e, _⟩ := ext_pre r m (beg L)
      rw [e, List.take_append_of_le_length (by omega), List.take_of_length_le (by omega)]
    have wd : traj r m (beg L) ++ beg L = ext r (beg L) m := by
      have e1 := ext_its hr.rl lb m
      rw [hp.back] at e1
      have := List.take_append_drop m (ext r (beg L) m)
      rw [e1, tk] at this
      exact this
    have s8 := sl_to (xs := (traj r m (beg L)).map D.int) (n := L)
    rw [← List.map_take, tl'] at s8
    have ad := add_rows (xs := traj r m (beg L)) (ys := beg L) (by omega)
    rw [wd] at ad
    have a8 : (ev2 dAdd (eLk 6) (eSl (eLk 6) (oNone) (oSome (eLk 2)))) [some g, some (tN r), some (.int (L : Nat)), some (.bl true), some (tR (beg L)), some (.int (m : Nat)), some (tR (traj r m (beg L))), none, none, none, none] = .ok (tR (ext r (beg L) m)) [some g, some (tN r), some (.int (L : Nat)), some (.bl true), some (tR (beg L)), some (.int (m : Nat)), some (tR (traj r m (beg L))), none, none, none, none] := by simp [s8, ad]
    have nd : ((List.range m).map fun k => its r (beg L) k).Nodup := by
      refine List.pairwise_map.mpr (List.Pairwise.imp_of_mem (fun {a b} ha hb hab => ?_) List.pairwise_lt_range)
      exact hp.inj hr.rw bs hab (List.mem_range.mp hb)
    have dr := dict_rows nd
    have lc : eLc [10] (iRng (aCons (eNm 5) (aNil))) (gSet 10) (cYes) (eTup (aCons (eSl (eLk 7) (oSome (eLk 10)) (oSome (ev2 dAdd (eLk 10) (eLk 2)))) (aCons (eC (.bl true)) (aNil)))) [some g, some (tN r), some (.int (L : Nat)), some (.bl true), some (tR (beg L)), some (.int (m : Nat)), some (tR (traj r m (beg L))), some (tR (ext r (beg L) m)), none, none, none] = .ok (.lst true (((List.range m).map fun k => its r (beg L) k).map fun w => D.tup [tR w, .bl true])) [some g, some (tN r), some (.int (L : Nat)), some (.bl true), some (tR (beg L)), some (.int (m : Nat)), some (tR (traj r m (beg L))), some (tR (ext r (beg L) m)), none, none, none] := by
      have r1 := iRng_1 (f := eNm 5) (δ := [some g, some (tN r), some (.int (L : Nat)), some (.bl true), some (tR (beg L)), some (.int (m : Nat)), some (tR (traj r m (beg L))), some (tR (ext r (beg L) m)), none, none, none]) (δ' := [some g, some (tN r), some (.int (L : Nat)), some (.bl true), some (tR (beg L)), some (.int (m : Nat)), some (tR (traj r m (beg L))), some (tR (ext r (beg L) m)), none, none, none]) (j := (m : Nat)) (by simp) (by omega)
      rw [eLc_map (L := List.range m) (ι := fun k => D.int (0 + (k : Nat))) (S := fun k => [some g, some (tN r), some (.int (L : Nat)), some (.bl true), some (tR (beg L)), some (.int (m : Nat)), some (tR (traj r m (beg L))), some (tR (ext r (beg L) m)), none, none, some (.int (0 + (k : Nat)))]) (g := fun k => D.tup [tR (its r (beg L) k), .bl true]) (δ1 := [some g, some (tN r), some (.int (L : Nat)), some (.bl true), some (tR (beg L)), some (.int (m : Nat)), some (tR (traj r m (beg L))), some (tR (ext r (beg L) m)), none, none, none])]
      · rw [List.map_map]; rfl
      · rw [r1]; rfl
      · intro k _; rfl
      · intro k hk
        have hk : k < m := List.mem_range.mp hk
        have win := ext_window hr.rl lb (n := m) (k := k) (by omega)
        have sl := sl_mid (xs := (ext r (beg L) m).map D.int) (a := k) (n := L)
        rw [← List.map_drop, ← List.map_take, win, Int.natCast_add] at sl
        simp [sl]
      · intro k _; rfl
      · rfl
    have a9 : (ev1 dDictP (eLc [10] (iRng (aCons (eNm 5) (aNil))) (gSet 10) (cYes) (eTup (aCons (eSl (eLk 7) (oSome (eLk 10)) (oSome (ev2 dAdd (eLk 10) (eLk 2)))) (aCons (eC (.bl true)) (aNil)))))) [some g, some (tN r), some (.int (L : Nat)), some (.bl true), some (tR (beg L)), some (.int (m : Nat)), some (tR (traj r m (beg L))), some (tR (ext r (beg L) m)), none, none, none] = .ok (.dic true (.t (((List.range m).map fun k => its r (beg L) k).map fun w => w.map Sum.inl)) (((List.range m).map fun k => its r (beg L) k).map fun _ => D.bl true)) [some g, some (tN r), some (.int (L : Nat)), some (.bl true), some (tR (beg L)), some (.int (m : Nat)), some (tR (traj r m (beg L))), some (tR (ext r (beg L) m)), none, none, none] := by
      rw [ev1_ap, lc, bd_ok, dr, lft_some]
    have nz : zer L ∉ ((List.range m).map fun k => its r (beg L) k) := fun hm' => by
      obtain ⟨k, _, e⟩ := List.mem_map.mp hm'
      have h0 : its r (beg L) k = its r (zer L) k := by rw [its_zer hL]; exact e
      have hb : beg L ≠ zer L := fun e => by
        have := congrArg List.sum e
        have z : ∀ n : Nat, (zer n).sum = 0 := fun n => by
          unfold zer
          induction n with
          | zero => rfl
          | succ n ih => rw [List.replicate_succ, List.sum_cons, ih]; rfl
        unfold beg at this
        rw [List.sum_append, z, z] at this
        exact absurd this (by decide)
      have up : its r (beg L) (k + (m - k % m)) = zer L := by rw [its_add, e, its_zer hL]
      have back : ∀ q : Nat, its r (beg L) (m * q) = beg L := fun q => by
        induction q with
        | zero => rfl
        | succ q ih => rw [Nat.mul_succ, its_add, ih, hp.back]
      have hk : k + (m - k % m) = m * (k / m + 1) := by
        have h1 := Nat.div_add_mod k m
        have h2 := Nat.mod_lt k m1
        rw [Nat.mul_add, Nat.mul_one]
        omega
      rw [hk, back] at up
      exact hb up
    have ir := in_rows nz (((List.range m).map fun k => its r (beg L) k).map fun _ => D.bl true)
    have dl : dLen (.dic true (.t (((List.range m).map fun k => its r (beg L) k).map fun w => w.map Sum.inl)) (((List.range m).map fun k => its r (beg L) k).map fun _ => D.bl true)) = some (.int (m : Nat)) := by
      show some (D.int _) = _
      simp
    have a10 : (cOr (cVal (ev2 dNe (ev1 dLen (eLk 8)) (eLk 5))) (cVal (ev2 dInX (ev2 dMul (eTup (aCons (eC (.int 0)) (aNil))) (eLk 2)) (eLk 8)))) [some g, some (tN r), some (.int (L : Nat)), some (.bl true), some (tR (beg L)), some (.int (m : Nat)), some (tR (traj r m (beg L))), some (tR (ext r (beg L) m)), some (.dic true (.t (((List.range m).map fun k => its r (beg L) k).map fun w => w.map Sum.inl)) (((List.range m).map fun k => its r (beg L) k).map fun _ => D.bl true)), none, none] = .ok false [some g, some (tN r), some (.int (L : Nat)), some (.bl true), some (tR (beg L)), some (.int (m : Nat)), some (tR (traj r m (beg L))), some (tR (ext r (beg L) m)), some (.dic true (.t (((List.range m).map fun k => its r (beg L) k).map fun w => w.map Sum.inl)) (((List.range m).map fun k => its r (beg L) k).map fun _ => D.bl true)), none, none] := by
      rw [cOr_ap, cVal_ap, ev2_ap, ev1_ap, eLk_ap]
      simp only [List.getElem?_cons_succ, List.getElem?_cons_zero, bd_ok, dl, lft_some, eLk_ap, dNe_int, decide_true, Bool.not_true, tb_ok, Bool.false_eq_true, if_false]
      rw [cVal_ap, ev2_ap, ev2_ap]
      simp only [eTup_ap, aCons_ap, eC_ap, bd_ok, aNil_ap, frzs_cons, frz_int, frzs_nil, eLk_ap, List.getElem?_cons_succ, List.getElem?_cons_zero, zo, lft_some, ir, tb_ok]
    rw [seq_no a2, seq_no a3, seq_set a4 (by simp)]
    simp only [List.set]
    rw [seq_set a5 (by simp)]
    simp only [List.set]
    rw [seq_set a6 (by simp)]
    simp only [List.set]
    rw [seq_no a7, seq_set a8 (by simp)]
    simp only [List.set]
    rw [seq_set a9 (by simp)]
    simp only [List.set]
    rw [seq_no a10]
    by_cases h64 : (64 : Int) < (m : Int)
    · have a11 : (cVal (ev2 dGt (eLk 5) (eC (.int 64)))) [some g, some (tN r), some (.int (L : Nat)), some (.bl true), some (tR (beg L)), some (.int (m : Nat)), some (tR (traj r m (beg L))), some (tR (ext r (beg L) m)), some (.dic true (.t (((List.range m).map fun k => its r (beg L) k).map fun w => w.map Sum.inl)) (((List.range m).map fun k => its r (beg L) k).map fun _ => D.bl true)), none, none] = .ok true [some g, some (tN r), some (.int (L : Nat)), some (.bl true), some (tR (beg L)), some (.int (m : Nat)), some (tR (traj r m (beg L))), some (tR (ext r (beg L) m)), some (.dic true (.t (((List.range m).map fun k => its r (beg L) k).map fun w => w.map Sum.inl)) (((List.range m).map fun k => its r (beg L) k).map fun _ => D.bl true)), none, none] := by simp [h64]
      rw [seq_yes a11 (by rfl)]
      simp
    · have a11 : (cVal (ev2 dGt (eLk 5) (eC (.int 64)))) [some g, some (tN r), some (.int (L : Nat)), some (.bl true), some (tR (beg L)), some (.int (m : Nat)), some (tR (traj r m (beg L))), some (tR (ext r (beg L) m)), some (.dic true (.t (((List.range m).map fun k => its r (beg L) k).map fun w => w.map Sum.inl)) (((List.range m).map fun k => its r (beg L) k).map fun _ => D.bl true)), none, none] = .ok false [some g, some (tN r), some (.int (L : Nat)), some (.bl true), some (tR (beg L)), some (.int (m : Nat)), some (tR (traj r m (beg L))), some (tR (ext r (beg L) m)), some (.dic true (.t (((List.range m).map fun k => its r (beg L) k).map fun w => w.map Sum.inl)) (((List.range m).map fun k => its r (beg L) k).map fun _ => D.bl true)), none, none] := by simp [h64]
      have L6 : ¬ 6 < L := fun h => by
        have := Nat.pow_le_pow_right (show 0 < 2 by decide) h
        have e : 2 ^ (6 + 1) = 128 := by decide
        omega
      have k3 : ringsOk (sgn (traj r m (beg L))) = true := by
        rcases k2 with h | h
        · exact absurd h L6
        · exact h
      have tb : Bits (traj r m (beg L)) := by
        rw [← tk]
        have e : ∀ x ∈ ext r (beg L) m, x = 0 ∨ x = 1 := ext_bits bs.bit m
        exact fun x hx => e x (List.mem_of_mem_take hx)
      have so2 := signs_ok (v := traj r m (beg L)) (by omega) (by omega) tb
      have sg : ∀ x ∈ sgn (traj r m (beg L)), x = 1 ∨ x = -1 := sgn_sign
      have sl := congrArg (fun x => x) (show (sgn (traj r m (beg L))).length = m by simp [sgn, tl])
      have rs := ring_sums_ok (v := sgn (traj r m (beg L))) (by omega) (by omega) sg
      have hk : ∀ s, s < (sgn (traj r m (beg L))).length - 1 → rc (sgn (traj r m (beg L))) (s + 1) = -1 := fun s hs => by
        unfold ringsOk at k3
        rw [List.all_eq_true] at k3
        simpa using k3 s (List.mem_range.mpr hs)
      have ev := even_ok (v := sgn (traj r m (beg L))) (by omega) (by omega) sg hk
      have r0 := rc_0 sg
      rw [sl] at r0 rs hk
      have rl : (List.range m).map (fun s => D.int (rc (sgn (traj r m (beg L))) s)) = ((m : Int) :: List.replicate (m - 1) (-1 : Int)).map D.int := by
        obtain ⟨n, hn⟩ : ∃ n, m = n + 1 := ⟨m - 1, by omega⟩
        rw [hn] at hk r0 ⊢
        rw [List.range_succ_eq_map, List.map_cons, r0, List.map_cons, List.map_map, Nat.add_sub_cancel]
        congr 1
        apply List.ext_getElem?
        intro i
        rw [List.getElem?_map, List.getElem?_map, List.getElem?_replicate]
        by_cases hi : i < n
        · rw [List.getElem?_range hi, if_pos hi]
          show some (D.int (rc _ (i + 1))) = _
          rw [hk i (by omega)]; rfl
        · rw [List.getElem?_eq_none (by simpa using hi), if_neg hi]; rfl
      rw [rl] at rs
      have on1 := ones_l (n := m - 1) (by omega)
      rw [show ((m - 1 : Nat) : Int) = (m : Int) - 1 by omega] at on1
      have ad2 : dAdd (.lst true [.int (m : Int)]) (.lst true ((List.replicate (m - 1) (-1 : Int)).map D.int)) = some (.lst true (((m : Int) :: List.replicate (m - 1) (-1 : Int)).map D.int)) := by
        rw [dAdd_lst (by simp; omega) rfl (allN_int _)]; rfl
      have a12 : (calF m_signs_of (aCons (eNm 6) (aNil))) [some g, some (tN r), some (.int (L : Nat)), some (.bl true), some (tR (beg L)), some (.int (m : Nat)), some (tR (traj r m (beg L))), some (tR (ext r (beg L) m)), some (.dic true (.t (((List.range m).map fun k => its r (beg L) k).map fun w => w.map Sum.inl)) (((List.range m).map fun k => its r (beg L) k).map fun _ => D.bl true)), none, none] = .ok (tR (sgn (traj r m (beg L)))) [some g, some (tN r), some (.int (L : Nat)), some (.bl true), some (tR (beg L)), some (.int (m : Nat)), some (tR (traj r m (beg L))), some (tR (ext r (beg L) m)), some (.dic true (.t (((List.range m).map fun k => its r (beg L) k).map fun w => w.map Sum.inl)) (((List.range m).map fun k => its r (beg L) k).map fun _ => D.bl true)), none, none] := by
        rw [calF_ap, aCons_ap, eNm_ap]
        simp only [List.getElem?_cons_succ, List.getElem?_cons_zero, own_tup, Bool.false_eq_true, if_false, bd_ok, aNil_ap, so2]
      have eqs := dEq_ints true true ((m : Int) :: List.replicate (m - 1) (-1 : Int)) ((m : Int) :: List.replicate (m - 1) (-1 : Int))
      rw [decide_eq_true rfl] at eqs
      have c1 : (calF m_ring_sums (aCons (eNm 9) aNil)) [some g, some (tN r), some (.int (L : Nat)), some (.bl true), some (tR (beg L)), some (.int (m : Nat)), some (tR (traj r m (beg L))), some (tR (ext r (beg L) m)), some (.dic true (.t (((List.range m).map fun k => its r (beg L) k).map fun w => w.map Sum.inl)) (((List.range m).map fun k => its r (beg L) k).map fun _ => D.bl true)), some (tR (sgn (traj r m (beg L)))), none] = .ok (.lst true (((m : Int) :: List.replicate (m - 1) (-1 : Int)).map D.int)) [some g, some (tN r), some (.int (L : Nat)), some (.bl true), some (tR (beg L)), some (.int (m : Nat)), some (tR (traj r m (beg L))), some (tR (ext r (beg L) m)), some (.dic true (.t (((List.range m).map fun k => its r (beg L) k).map fun w => w.map Sum.inl)) (((List.range m).map fun k => its r (beg L) k).map fun _ => D.bl true)), some (tR (sgn (traj r m (beg L)))), none] := by
        rw [calF_ap, aCons_ap, eNm_ap]
        simp only [List.getElem?_cons_succ, List.getElem?_cons_zero, own_tup, Bool.false_eq_true, if_false, bd_ok, aNil_ap, rs]
      have c2 : (calF m_is_even_round (aCons (eNm 9) aNil)) [some g, some (tN r), some (.int (L : Nat)), some (.bl true), some (tR (beg L)), some (.int (m : Nat)), some (tR (traj r m (beg L))), some (tR (ext r (beg L) m)), some (.dic true (.t (((List.range m).map fun k => its r (beg L) k).map fun w => w.map Sum.inl)) (((List.range m).map fun k => its r (beg L) k).map fun _ => D.bl true)), some (tR (sgn (traj r m (beg L)))), none] = .ok (.bl true) [some g, some (tN r), some (.int (L : Nat)), some (.bl true), some (tR (beg L)), some (.int (m : Nat)), some (tR (traj r m (beg L))), some (tR (ext r (beg L) m)), some (.dic true (.t (((List.range m).map fun k => its r (beg L) k).map fun w => w.map Sum.inl)) (((List.range m).map fun k => its r (beg L) k).map fun _ => D.bl true)), some (tR (sgn (traj r m (beg L)))), none] := by
        rw [calF_ap, aCons_ap, eNm_ap]
        simp only [List.getElem?_cons_succ, List.getElem?_cons_zero, own_tup, Bool.false_eq_true, if_false, bd_ok, aNil_ap, ev]
      have c3 : ev2 dAdd (eLst (aCons (eNm 5) aNil)) (ev2 dMul (eLst (aCons (ev1 dNeg (eC (.int 1))) aNil)) (ev2 dSub (eLk 5) (eC (.int 1)))) [some g, some (tN r), some (.int (L : Nat)), some (.bl true), some (tR (beg L)), some (.int (m : Nat)), some (tR (traj r m (beg L))), some (tR (ext r (beg L) m)), some (.dic true (.t (((List.range m).map fun k => its r (beg L) k).map fun w => w.map Sum.inl)) (((List.range m).map fun k => its r (beg L) k).map fun _ => D.bl true)), some (tR (sgn (traj r m (beg L)))), none] = .ok (.lst true (((m : Int) :: List.replicate (m - 1) (-1 : Int)).map D.int)) [some g, some (tN r), some (.int (L : Nat)), some (.bl true), some (tR (beg L)), some (.int (m : Nat)), some (tR (traj r m (beg L))), some (tR (ext r (beg L) m)), some (.dic true (.t (((List.range m).map fun k => its r (beg L) k).map fun w => w.map Sum.inl)) (((List.range m).map fun k => its r (beg L) k).map fun _ => D.bl true)), some (tR (sgn (traj r m (beg L)))), none] := by
        rw [ev2_ap, eLst_ap, aCons_ap, eNm_ap]
        simp only [List.getElem?_cons_succ, List.getElem?_cons_zero, own_int, Bool.false_eq_true, if_false, bd_ok, aNil_ap]
        rw [ev2_ap, eLst_ap, aCons_ap]
        simp only [ev1_ap, eC_ap, bd_ok, dNeg_int, lft_some, aNil_ap, ev2_ap, eLk_ap, List.getElem?_cons_succ, List.getElem?_cons_zero, dSub_int, on1, ad2]
      rw [seq_no a11, seq_set a12 (by simp)]
      simp only [List.set]
      rw [sRet_ap, eAnd_ap, ev2_ap, c1, bd_ok, c3, bd_ok, eqs, lft_some]
      simp only [tb_ok, bd_ok, if_true]
      rw [ev2_ap, c2]
      simp
  · rw [decide_eq_false hd] at lo ⊢
    have a2 : (cVal (ev2 dNe (calF m_is_longest (aCons (eNm 1) (aCons (eNm 2) (aNil)))) (eLk 3))) [some g, some (tN r), some (.int (L : Nat)), some (.bl false), none, none, none, none, none, none, none] = .ok false [some g, some (tN r), some (.int (L : Nat)), some (.bl false), none, none, none, none, none, none, none] := by
      rw [cVal_ap, ev2_ap, calF_ap, aCons_ap, eNm_ap]
      simp only [List.getElem?_cons_succ, List.getElem?_cons_zero, own_tup, Bool.false_eq_true, if_false, bd_ok]
      rw [aCons_ap, eNm_ap]
      simp only [List.getElem?_cons_succ, List.getElem?_cons_zero, own_int, Bool.false_eq_true, if_false, bd_ok, aNil_ap, lo]
      simp
    have a3 : (cNot (cVal (eNm 3))) [some g, some (tN r), some (.int (L : Nat)), some (.bl false), none, none, none, none, none, none, none] = .ok true [some g, some (tN r), some (.int (L : Nat)), some (.bl false), none, none, none, none, none, none, none] := by simp
    rw [seq_no a2, seq_yes a3 (by rfl)]
    simp
end L2.Pv.K77
end
section
set_option Elab.async false
set_option linter.all false
set_option autoImplicit false
set_option maxRecDepth 100000
set_option maxHeartbeats 2000000
namespace L2.Pv.K77
open PySem Lf Kd
/-! ### the first longest -/
theorem fl_1 : m_first_longest [.int 1] = .ok (.tup [.int 1]) [] := by kernel_rfl
theorem il_1 : m_is_longest [.tup [.int 1], .int 1] = .ok (.bl true) [] := by kernel_rfl
theorem lr_1 : m__law_rules [.int 1] = .ok (.lst true ((rules 1).map tN)) [] := by kernel_rfl
theorem fl_2 : m_first_longest [.int 2] = .ok (.tup [.int 1, .int 2]) [] := by kernel_rfl
theorem il_2 : m_is_longest [.tup [.int 1, .int 2], .int 2] = .ok (.bl true) [] := by kernel_rfl
theorem lr_2 : m__law_rules [.int 2] = .ok (.lst true ((rules 2).map tN)) [] := by kernel_rfl
theorem fl_3 : m_first_longest [.int 3] = .ok (.tup [.int 1, .int 3]) [] := by kernel_rfl
theorem il_3 : m_is_longest [.tup [.int 1, .int 3], .int 3] = .ok (.bl true) [] := by kernel_rfl
theorem lr_3 : m__law_rules [.int 3] = .ok (.lst true ((rules 3).map tN)) [] := by kernel_rfl
theorem fl_4 : m_first_longest [.int 4] = .ok (.tup [.int 1, .int 4]) [] := by kernel_rfl
theorem il_4 : m_is_longest [.tup [.int 1, .int 4], .int 4] = .ok (.bl true) [] := by kernel_rfl
theorem lr_4 : m__law_rules [.int 4] = .ok (.lst true ((rules 4).map tN)) [] := by kernel_rfl
theorem fl_5 : m_first_longest [.int 5] = .ok (.tup [.int 2, .int 5]) [] := by kernel_rfl
theorem il_5 : m_is_longest [.tup [.int 2, .int 5], .int 5] = .ok (.bl true) [] := by kernel_rfl
theorem lr_5 : m__law_rules [.int 5] = .ok (.lst true ((rules 5).map tN)) [] := by kernel_rfl
theorem fl_6 : m_first_longest [.int 6] = .ok (.tup [.int 1, .int 6]) [] := by kernel_rfl
theorem il_6 : m_is_longest [.tup [.int 1, .int 6], .int 6] = .ok (.bl true) [] := by kernel_rfl
theorem lr_6 : m__law_rules [.int 6] = .ok (.lst true ((rules 6).map tN)) [] := by kernel_rfl
def isL (L : Nat) (r : List Nat) : Bool := decide (frst r (beg L) 300 1 (stp r (beg L)) = 2 ^ L - 1)
def ruleB (L : Nat) (r : List Nat) : Bool := r.all (fun k => decide (1 ≤ k)) && decide (r.Pairwise (· < ·)) && decide (r.getLast? = some L)
theorem rules_ok : ∀ L ∈ [1, 2, 3, 4, 5, 6], ((rules L).all fun r => ruleB L r) = true := by decide +kernel
theorem rule_mem {L : Nat} (hL : L ∈ [1, 2, 3, 4, 5, 6]) {r : List Nat} (h : r ∈ rules L) : Rule r L := by
  have k := List.all_eq_true.mp (rules_ok L hL) r h
  unfold ruleB at k
  simp only [Bool.and_eq_true, decide_eq_true_eq, List.all_eq_true] at k
  simp only [List.mem_cons, List.not_mem_nil, or_false] at hL
  exact ⟨by omega, by omega, k.1.1, k.1.2, k.2⟩
theorem isL_ok {L : Nat} (hL : L ∈ [1, 2, 3, 4, 5, 6]) {r : List Nat} (h : r ∈ rules L) : m__law_is_longest [tN r] = .ok (.bl (isL L r)) [] := by
  have hr := rule_mem hL h
  simp only [List.mem_cons, List.not_mem_nil, or_false] at hL
  obtain ⟨p, hp, pl⟩ := per_ex hr.rw (beg_st hr.pos)
  have p256 : 2 ^ L ≤ 2 ^ 6 := Nat.pow_le_pow_right (by decide) (by omega)
  have p1 : 1 ≤ 2 ^ L := Nat.one_le_two_pow
  have fr : frst r (beg L) 300 1 (stp r (beg L)) = p := frst_per hp 300 1 (Nat.le_refl _) hp.pos (by omega)
  rw [llongest_ok hr hp (by omega)]
  unfold isL
  rw [fr]
  congr 2
  have em : ((2 : Int) ^ L - 1) = ((2 ^ L - 1 : Nat) : Int) := by
    rw [Int.natCast_sub (by omega), Int.natCast_pow]; rfl
  rw [em]
  by_cases e : p = 2 ^ L - 1
  · rw [decide_eq_true e, decide_eq_true (by omega)]
  · rw [decide_eq_false e, decide_eq_false (by omega)]
theorem dEq_tN (r : List Nat) : dEq (tN r) (tN r) = some (.bl true) := by
  have := dEq_row (r.map fun k : Nat => (k : Int)) (r.map fun k : Nat => (k : Int))
  rw [List.map_map, decide_eq_true rfl] at this
  exact this
theorem every_ok {L : Nat} (hL : L ∈ [1, 2, 3, 4, 5, 6]) (lr : m__law_rules [.int (L : Nat)] = .ok (.lst true ((rules L).map tN)) []) (h : D) (s2 s3 : Option D) :
    (eLc [4] (iSeq (calF m__law_rules (aCons (eNm 1) (aNil)))) (gSet 4) (cVal (calF m__law_is_longest (aCons (eNm 4) (aNil)))) (eNm 4)) [some h, some (.int (L : Nat)), s2, s3, none] = .ok (.lst true (((rules L).filter (isL L)).map tN)) [some h, some (.int (L : Nat)), s2, s3, none] := by
  have fz : D.frzs ((rules L).map tN) = (rules L).map tN := by rw [D.frzs_map, List.map_map]; rfl
  rw [eLc_filter (L := rules L) (ι := tN) (S := fun r => [some h, some (.int (L : Nat)), s2, s3, some (tN r)]) (g := tN) (p := isL L) (δ1 := [some h, some (.int (L : Nat)), s2, s3, none])]
  · rw [iSeq_ap, calF_ap, aCons_ap, eNm_ap]
    simp only [List.getElem?_cons_succ, List.getElem?_cons_zero, own_int, Bool.false_eq_true, if_false, bd_ok, aNil_ap, lr, fz]
  · intro r _; rfl
  · intro r hr
    simp [isL_ok hL hr]
  · intro r _ _; simp
  · intro r _; rfl
  · rfl
theorem first_run {L : Nat} {t : List Nat} {h h1 : D} (hL : L ∈ [1, 2, 3, 4, 5, 6]) (e1 : m__law_draw [h, .int 6] = .ok (.int ((L : Int) - 1)) [h1]) (fl : m_first_longest [.int (L : Nat)] = .ok (tN t) []) (il : m_is_longest [tN t, .int (L : Nat)] = .ok (.bl true) []) (lr : m__law_rules [.int (L : Nat)] = .ok (.lst true ((rules L).map tN)) []) (hd : ((rules L).filter (isL L)).head? = some t) : m__law_is_first_right [h] = .ok (.bl true) [h1] := by
  have ev := every_ok hL lr h1 none none
  have i0 : dIxA (.lst true (((rules L).filter (isL L)).map tN)) (.int 0) = some (tN t) := by
    show atI _ _ = _
    cases e : (rules L).filter (isL L) with
    | nil => rw [e] at hd; cases hd
    | cons a b =>
      rw [e] at hd; cases hd
      exact atI_int (j := 0) rfl
  have a0 : (ev2 dAdd (eC (.int 1)) (calH m__law_draw 0 (aCons (eC (.int 6)) (aNil)))) [some h, none, none, none, none] = .ok (.int (L : Nat)) [some h1, none, none, none, none] := by
    simp [e1]
    congr 1
    omega
  have a1 : (aCons (calF m_first_longest (aCons (eNm 1) (aNil))) (aCons (eLc [4] (iSeq (calF m__law_rules (aCons (eNm 1) (aNil)))) (gSet 4) (cVal (calF m__law_is_longest (aCons (eNm 4) (aNil)))) (eNm 4)) (aNil))) [some h1, some (.int (L : Nat)), none, none, none] = .ok [tN t, .lst true (((rules L).filter (isL L)).map tN)] [some h1, some (.int (L : Nat)), none, none, none] := by
    rw [aCons_ap, calF_ap, aCons_ap, eNm_ap]
    simp only [List.getElem?_cons_succ, List.getElem?_cons_zero, own_int, Bool.false_eq_true, if_false, bd_ok, aNil_ap, fl]
    rw [aCons_ap, ev]
    rfl
  unfold m__law_is_first_right
  rw [runF_1]
  unfold b__law_is_first_right
  have a0' : (ev2 dAdd (eC (.int 1)) (calH m__law_draw 0 (aCons (eC (.int 6)) (aNil)))) (some h :: List.replicate (5 - 1) none) = .ok (.int (L : Nat)) [some h1, none, none, none, none] := a0
  rw [seq_set a0' (by simp)]
  simp only [List.set]
  rw [seq_par a1 (by simp) (by simp)]
  simp only [List.set]
  rw [sRet_ap, eAnd_ap, ev2_ap, calF_ap, aCons_ap, eNm_ap]
  simp only [List.getElem?_cons_succ, List.getElem?_cons_zero, own_tup, Bool.false_eq_true, if_false, bd_ok]
  rw [aCons_ap, eNm_ap]
  simp only [List.getElem?_cons_succ, List.getElem?_cons_zero, own_int, Bool.false_eq_true, if_false, bd_ok, aNil_ap, il, eC_ap, dIs_bl, decide_true, lft_some, tb_ok, if_true]
  rw [ev2_ap, eLk_ap]
  simp only [List.getElem?_cons_succ, List.getElem?_cons_zero, bd_ok, ev2_ap, eLk_ap, eC_ap, i0, lft_some, dEq_tN]
  rfl
theorem cases_6 {x : Nat} (h : x < 6) : x = 0 ∨ x = 1 ∨ x = 2 ∨ x = 3 ∨ x = 4 ∨ x = 5 := by omega
theorem first_right_ok {h : D} (H : Hand h) : ∃ h', m__law_is_first_right [h] = .ok (.bl true) [h'] ∧ Hand h' := by
  obtain ⟨x, h1, e1, x2, H1⟩ := draw_ok H (k := 6) (by decide) (by decide)
  refine ⟨h1, ?_, H1⟩
  rcases cases_6 (x := x) (by omega) with rfl | rfl | rfl | rfl | rfl | rfl
  · exact first_run (L := 1) (t := [1]) (by decide) e1 fl_1 il_1 lr_1 (by decide +kernel)
  · exact first_run (L := 2) (t := [1, 2]) (by decide) e1 fl_2 il_2 lr_2 (by decide +kernel)
  · exact first_run (L := 3) (t := [1, 3]) (by decide) e1 fl_3 il_3 lr_3 (by decide +kernel)
  · exact first_run (L := 4) (t := [1, 4]) (by decide) e1 fl_4 il_4 lr_4 (by decide +kernel)
  · exact first_run (L := 5) (t := [2, 5]) (by decide) e1 fl_5 il_5 lr_5 (by decide +kernel)
  · exact first_run (L := 6) (t := [1, 6]) (by decide) e1 fl_6 il_6 lr_6 (by decide +kernel)
end L2.Pv.K77
end
section
set_option Elab.async false
set_option linter.all false
set_option autoImplicit false
set_option maxRecDepth 100000
set_option maxHeartbeats 2000000
namespace L2.Pv.K77
open PySem Lf Kd
/-! ### what is refused -/
theorem word_row : go__law_word (.exc 3 []) = some (.str "row") := by kernel_rfl
theorem word_num : go__law_word (.exc 2 []) = some (.str "number") := by kernel_rfl
def bads : List D := [.non, .int 0, .lst true [.int 1, .int 2], .tup [], .tup [.int 2, .int 1], .tup [.int 1, .int 1], .tup [.int 0, .int 1], .tup [.int 17], .tup [.bl true, .int 2], .tup [.int 1, .non], .str "12", .dic true (.k []) [], .tup [.int (-1), .int 2]]
def begs : List D := [.non, .int 0, .lst true [.int 1, .int 0], .tup [.int 1], .tup [.int 1, .int 0, .int 1], .tup [.int 1, .int 2], .tup [.int 1, .bl true], .str "10", .dic true (.k []) []]
def szs : List D := [.int 0, .int 11, .int (-1), .non, .bl true, .str "3", .tup [.int 3], .lst true [.int 3], .dic true (.k []) []]
theorem bb_0 : m_by_rule [.non, .tup [.int 1, .int 0], .int 5] = .exc 3 [] [] := by kernel_rfl
theorem bp_0 : m_period [.non, .tup [.int 1, .int 0]] = .exc 3 [] [] := by kernel_rfl
theorem bb_1 : m_by_rule [.int 0, .tup [.int 1, .int 0], .int 5] = .exc 3 [] [] := by kernel_rfl
theorem bp_1 : m_period [.int 0, .tup [.int 1, .int 0]] = .exc 3 [] [] := by kernel_rfl
theorem bb_2 : m_by_rule [.lst false [.int 1, .int 2], .tup [.int 1, .int 0], .int 5] = .exc 3 [] [] := by kernel_rfl
theorem bp_2 : m_period [.lst false [.int 1, .int 2], .tup [.int 1, .int 0]] = .exc 3 [] [] := by kernel_rfl
theorem bb_3 : m_by_rule [.tup [], .tup [.int 1, .int 0], .int 5] = .exc 3 [] [] := by kernel_rfl
theorem bp_3 : m_period [.tup [], .tup [.int 1, .int 0]] = .exc 3 [] [] := by kernel_rfl
theorem bb_4 : m_by_rule [.tup [.int 2, .int 1], .tup [.int 1, .int 0], .int 5] = .exc 3 [] [] := by kernel_rfl
theorem bp_4 : m_period [.tup [.int 2, .int 1], .tup [.int 1, .int 0]] = .exc 3 [] [] := by kernel_rfl
theorem bb_5 : m_by_rule [.tup [.int 1, .int 1], .tup [.int 1, .int 0], .int 5] = .exc 3 [] [] := by kernel_rfl
theorem bp_5 : m_period [.tup [.int 1, .int 1], .tup [.int 1, .int 0]] = .exc 3 [] [] := by kernel_rfl
theorem bb_6 : m_by_rule [.tup [.int 0, .int 1], .tup [.int 1, .int 0], .int 5] = .exc 3 [] [] := by kernel_rfl
theorem bp_6 : m_period [.tup [.int 0, .int 1], .tup [.int 1, .int 0]] = .exc 3 [] [] := by kernel_rfl
theorem bb_7 : m_by_rule [.tup [.int 17], .tup [.int 1, .int 0], .int 5] = .exc 3 [] [] := by kernel_rfl
theorem bp_7 : m_period [.tup [.int 17], .tup [.int 1, .int 0]] = .exc 3 [] [] := by kernel_rfl
theorem bb_8 : m_by_rule [.tup [.bl true, .int 2], .tup [.int 1, .int 0], .int 5] = .exc 3 [] [] := by kernel_rfl
theorem bp_8 : m_period [.tup [.bl true, .int 2], .tup [.int 1, .int 0]] = .exc 3 [] [] := by kernel_rfl
theorem bb_9 : m_by_rule [.tup [.int 1, .non], .tup [.int 1, .int 0], .int 5] = .exc 3 [] [] := by kernel_rfl
theorem bp_9 : m_period [.tup [.int 1, .non], .tup [.int 1, .int 0]] = .exc 3 [] [] := by kernel_rfl
theorem bb_10 : m_by_rule [.str "12", .tup [.int 1, .int 0], .int 5] = .exc 3 [] [] := by kernel_rfl
theorem bp_10 : m_period [.str "12", .tup [.int 1, .int 0]] = .exc 3 [] [] := by kernel_rfl
theorem bb_11 : m_by_rule [.dic false (.k []) [], .tup [.int 1, .int 0], .int 5] = .exc 3 [] [] := by kernel_rfl
theorem bp_11 : m_period [.dic false (.k []) [], .tup [.int 1, .int 0]] = .exc 3 [] [] := by kernel_rfl
theorem bb_12 : m_by_rule [.tup [.int (-1), .int 2], .tup [.int 1, .int 0], .int 5] = .exc 3 [] [] := by kernel_rfl
theorem bp_12 : m_period [.tup [.int (-1), .int 2], .tup [.int 1, .int 0]] = .exc 3 [] [] := by kernel_rfl
theorem gp_0 : m_period [.tup [.int 1, .int 2], .non] = .exc 3 [] [] := by kernel_rfl
theorem gp_1 : m_period [.tup [.int 1, .int 2], .int 0] = .exc 3 [] [] := by kernel_rfl
theorem gp_2 : m_period [.tup [.int 1, .int 2], .lst false [.int 1, .int 0]] = .exc 3 [] [] := by kernel_rfl
theorem gp_3 : m_period [.tup [.int 1, .int 2], .tup [.int 1]] = .exc 3 [] [] := by kernel_rfl
theorem gp_4 : m_period [.tup [.int 1, .int 2], .tup [.int 1, .int 0, .int 1]] = .exc 3 [] [] := by kernel_rfl
theorem gp_5 : m_period [.tup [.int 1, .int 2], .tup [.int 1, .int 2]] = .exc 3 [] [] := by kernel_rfl
theorem gp_6 : m_period [.tup [.int 1, .int 2], .tup [.int 1, .bl true]] = .exc 3 [] [] := by kernel_rfl
theorem gp_7 : m_period [.tup [.int 1, .int 2], .str "10"] = .exc 3 [] [] := by kernel_rfl
theorem gp_8 : m_period [.tup [.int 1, .int 2], .dic false (.k []) []] = .exc 3 [] [] := by kernel_rfl
theorem sp_0 : m_first_longest [.int 0] = .exc 2 [] [] := by kernel_rfl
theorem sp_1 : m_first_longest [.int 11] = .exc 2 [] [] := by kernel_rfl
theorem sp_2 : m_first_longest [.int (-1)] = .exc 2 [] [] := by kernel_rfl
theorem sp_3 : m_first_longest [.non] = .exc 2 [] [] := by kernel_rfl
theorem sp_4 : m_first_longest [.bl true] = .exc 2 [] [] := by kernel_rfl
theorem sp_5 : m_first_longest [.str "3"] = .exc 2 [] [] := by kernel_rfl
theorem sp_6 : m_first_longest [.tup [.int 3]] = .exc 2 [] [] := by kernel_rfl
theorem sp_7 : m_first_longest [.lst false [.int 3]] = .exc 2 [] [] := by kernel_rfl
theorem sp_8 : m_first_longest [.dic false (.k []) []] = .exc 2 [] [] := by kernel_rfl
theorem bad_ok {d : D} (h : d ∈ bads) : d.frz.own = false ∧ m_by_rule [d.frz, .tup [.int 1, .int 0], .int 5] = .exc 3 [] [] ∧ m_period [d.frz, .tup [.int 1, .int 0]] = .exc 3 [] [] := by
  simp only [bads, List.mem_cons, List.not_mem_nil, or_false] at h
  rcases h with rfl | rfl | rfl | rfl | rfl | rfl | rfl | rfl | rfl | rfl | rfl | rfl | rfl
  · exact ⟨rfl, bb_0, bp_0⟩
  · exact ⟨rfl, bb_1, bp_1⟩
  · exact ⟨rfl, bb_2, bp_2⟩
  · exact ⟨rfl, bb_3, bp_3⟩
  · exact ⟨rfl, bb_4, bp_4⟩
  · exact ⟨rfl, bb_5, bp_5⟩
  · exact ⟨rfl, bb_6, bp_6⟩
  · exact ⟨rfl, bb_7, bp_7⟩
  · exact ⟨rfl, bb_8, bp_8⟩
  · exact ⟨rfl, bb_9, bp_9⟩
  · exact ⟨rfl, bb_10, bp_10⟩
  · exact ⟨rfl, bb_11, bp_11⟩
  · exact ⟨rfl, bb_12, bp_12⟩
theorem beg_ok {d : D} (h : d ∈ begs) : d.frz.own = false ∧ m_period [.tup [.int 1, .int 2], d.frz] = .exc 3 [] [] := by
  simp only [begs, List.mem_cons, List.not_mem_nil, or_false] at h
  rcases h with rfl | rfl | rfl | rfl | rfl | rfl | rfl | rfl | rfl
  · exact ⟨rfl, gp_0⟩
  · exact ⟨rfl, gp_1⟩
  · exact ⟨rfl, gp_2⟩
  · exact ⟨rfl, gp_3⟩
  · exact ⟨rfl, gp_4⟩
  · exact ⟨rfl, gp_5⟩
  · exact ⟨rfl, gp_6⟩
  · exact ⟨rfl, gp_7⟩
  · exact ⟨rfl, gp_8⟩
theorem sz_ok {d : D} (h : d ∈ szs) : d.frz.own = false ∧ m_first_longest [d.frz] = .exc 2 [] [] := by
  simp only [szs, List.mem_cons, List.not_mem_nil, or_false] at h
  rcases h with rfl | rfl | rfl | rfl | rfl | rfl | rfl | rfl | rfl
  · exact ⟨rfl, sp_0⟩
  · exact ⟨rfl, sp_1⟩
  · exact ⟨rfl, sp_2⟩
  · exact ⟨rfl, sp_3⟩
  · exact ⟨rfl, sp_4⟩
  · exact ⟨rfl, sp_5⟩
  · exact ⟨rfl, sp_6⟩
  · exact ⟨rfl, sp_7⟩
  · exact ⟨rfl, sp_8⟩
theorem any_own {h : D} (H : Hand h) {ds : List D} (h0 : 0 < ds.length) (hz : ds.length ≤ 1000000) : ∃ d h', d ∈ ds ∧ m__law_any [h, .lst true ds] = .ok d.frz [h'] ∧ Hand h' := Dw.any_own H h0 hz
theorem any_frz {h : D} (H : Hand h) {ds : List D} (h0 : 0 < ds.length) (hz : ds.length ≤ 1000000) (hn : ∀ d ∈ ds, nOwn d = true) : ∃ d h', d ∈ ds ∧ m__law_any [h, .lst false ds] = .ok d [h'] ∧ Hand h' := Dw.any_frz H h0 hz hn
theorem two_word {a b : D} (ha : a.own = false) (hb : b.own = false) (h : m_period [a, b] = .exc 3 [] []) : m__law_two [a, b] = .ok (.str "row") [] := by
  unfold m__law_two
  rw [runF_2]
  have na : nOwn a = true := by unfold nOwn; rw [ha]; rfl
  have nb : nOwn b = true := by unfold nOwn; rw [hb]; rfl
  have hc : capS [0, 1] [some a, some b] = [some a, some b] := rfl
  unfold b__law_two
  rw [sRet_ap, eLam_ok (d := .str "row")]
  · simp
  · show (capS [0, 1] [some a, some b]).all _ = true
    rw [hc]
    simp only [List.all_cons, List.all_nil, na, nb, Bool.and_self]
  · show go__law_word (actOf (calF m_period _ (capS [0, 1] [some a, some b]))) = _
    rw [hc]
    simp [ha, hb, h, actOf, word_row]
theorem refused_ok {h : D} (H : Hand h) : ∃ h', m__law_are_refused [h] = .ok (.bl true) [h'] ∧ Hand h' := by
  obtain ⟨b, h1, hb, e1, H1⟩ := any_own H (ds := bads) (by decide) (by decide)
  obtain ⟨g, h2, hg, e2, H2⟩ := any_own H1 (ds := begs) (by decide) (by decide)
  obtain ⟨z, h3, hz, e3, H3⟩ := any_own H2 (ds := szs) (by decide) (by decide)
  obtain ⟨bo, b1, b2⟩ := bad_ok hb
  obtain ⟨go, g1⟩ := beg_ok hg
  obtain ⟨zo, z1⟩ := sz_ok hz
  refine ⟨h3, ?_, H3⟩
  have t1 := two_word bo rfl b2
  have t2 := two_word rfl go g1
  unfold bads at e1
  unfold begs at e2
  unfold szs at e3
  have nb : nOwn b.frz = true := by unfold nOwn; rw [bo]; rfl
  have nz : nOwn z.frz = true := by unfold nOwn; rw [zo]; rfl
  have l1 : eLam [1] (calF m_by_rule (aCons (eNm 1) (aCons (eTup (aCons (eC (.int 1)) (aCons (eC (.int 0)) (aNil)))) (aCons (eC (.int 5)) (aNil))))) go__law_word [some h3, some b.frz, some g.frz, some z.frz, none] = .ok (.str "row") [some h3, some b.frz, some g.frz, some z.frz, none] := by
    have hc : capS [1] [some h3, some b.frz, some g.frz, some z.frz, none] = [none, some b.frz, none, none, none] := rfl
    refine eLam_ok ?_ ?_
    · rw [hc]
      simp only [List.all_cons, List.all_nil, nb, Bool.and_self]
    · rw [hc]
      simp [bo, b1, actOf, word_row]
  have l2 : eLam [3] (calF m_first_longest (aCons (eNm 3) (aNil))) go__law_word [some h3, some b.frz, some g.frz, some z.frz, some (.lst true [.str "row", .str "row", .str "row"])] = .ok (.str "number") [some h3, some b.frz, some g.frz, some z.frz, some (.lst true [.str "row", .str "row", .str "row"])] := by
    have hc : capS [3] [some h3, some b.frz, some g.frz, some z.frz, some (.lst true [.str "row", .str "row", .str "row"])] = [none, none, none, some z.frz, none] := rfl
    refine eLam_ok ?_ ?_
    · rw [hc]
      simp only [List.all_cons, List.all_nil, nz, Bool.and_self]
    · rw [hc]
      simp [zo, z1, actOf, word_num]
  have eq : dEq (.lst true [.str "row", .str "row", .str "row", .str "number"]) (.lst true [.str "row", .str "row", .str "row", .str "number"]) = some (.bl true) := by kernel_rfl
  have a0 : (calH m__law_any 0 (aCons (eLst (aCons (eC .non) (aCons (eC (.int 0)) (aCons (eLst (aCons (eC (.int 1)) (aCons (eC (.int 2)) (aNil)))) (aCons (eTup (aNil)) (aCons (eTup (aCons (eC (.int 2)) (aCons (eC (.int 1)) (aNil)))) (aCons (eTup (aCons (eC (.int 1)) (aCons (eC (.int 1)) (aNil)))) (aCons (eTup (aCons (eC (.int 0)) (aCons (eC (.int 1)) (aNil)))) (aCons (eTup (aCons (eC (.int 17)) (aNil))) (aCons (eTup (aCons (eC (.bl true)) (aCons (eC (.int 2)) (aNil)))) (aCons (eTup (aCons (eC (.int 1)) (aCons (eC .non) (aNil)))) (aCons (eC (.str "12")) (aCons (eDicK) (aCons (eTup (aCons (ev1 dNeg (eC (.int 1))) (aCons (eC (.int 2)) (aNil)))) (aNil))))))))))))))) (aNil))) [some h, none, none, none, none] = .ok b.frz [some h1, none, none, none, none] := by simp [eDicK, e1]
  have a1 : (calH m__law_any 0 (aCons (eLst (aCons (eC .non) (aCons (eC (.int 0)) (aCons (eLst (aCons (eC (.int 1)) (aCons (eC (.int 0)) (aNil)))) (aCons (eTup (aCons (eC (.int 1)) (aNil))) (aCons (eTup (aCons (eC (.int 1)) (aCons (eC (.int 0)) (aCons (eC (.int 1)) (aNil))))) (aCons (eTup (aCons (eC (.int 1)) (aCons (eC (.int 2)) (aNil)))) (aCons (eTup (aCons (eC (.int 1)) (aCons (eC (.bl true)) (aNil)))) (aCons (eC (.str "10")) (aCons (eDicK) (aNil))))))))))) (aNil))) [some h1, some b.frz, none, none, none] = .ok g.frz [some h2, some b.frz, none, none, none] := by simp [eDicK, e2]
  have a2 : (calH m__law_any 0 (aCons (eLst (aCons (eC (.int 0)) (aCons (eC (.int 11)) (aCons (ev1 dNeg (eC (.int 1))) (aCons (eC .non) (aCons (eC (.bl true)) (aCons (eC (.str "3")) (aCons (eTup (aCons (eC (.int 3)) (aNil))) (aCons (eLst (aCons (eC (.int 3)) (aNil))) (aCons (eDicK) (aNil))))))))))) (aNil))) [some h2, some b.frz, some g.frz, none, none] = .ok z.frz [some h3, some b.frz, some g.frz, none, none] := by simp [eDicK, e3]
  have a3 : (eLst (aCons (eLam [1] (calF m_by_rule (aCons (eNm 1) (aCons (eTup (aCons (eC (.int 1)) (aCons (eC (.int 0)) (aNil)))) (aCons (eC (.int 5)) (aNil))))) go__law_word) (aCons (calF m__law_two (aCons (eNm 1) (aCons (eTup (aCons (eC (.int 1)) (aCons (eC (.int 0)) (aNil)))) (aNil)))) (aCons (calF m__law_two (aCons (eTup (aCons (eC (.int 1)) (aCons (eC (.int 2)) (aNil)))) (aCons (eNm 2) (aNil)))) (aNil))))) [some h3, some b.frz, some g.frz, some z.frz, none] = .ok (.lst true [.str "row", .str "row", .str "row"]) [some h3, some b.frz, some g.frz, some z.frz, none] := by
    rw [eLst_ap, aCons_ap, l1, bd_ok]
    simp [bo, go, t1, t2]
  have sz : 3 < sizeLine := sz_le (by decide)
  have n4 : nodeAt 4 [] [some h3, some b.frz, some g.frz, some z.frz, some (.lst true [.str "row", .str "row", .str "row"])] = some (.lst true [.str "row", .str "row", .str "row"]) := rfl
  have a4 : (sExpr (eMeth "list" 4 (pNm 4) (aCons (eLam [3] (calF m_first_longest (aCons (eNm 3) (aNil))) go__law_word) (aNil)) mAppend)) [some h3, some b.frz, some g.frz, some z.frz, some (.lst true [.str "row", .str "row", .str "row"])] = .nx [some h3, some b.frz, some g.frz, some z.frz, some (.lst true [.str "row", .str "row", .str "row", .str "number"])] := by
    rw [sExpr_ap]
    unfold eMeth
    rw [pNm_ap]
    simp only [List.getElem?_cons_succ, List.getElem?_cons_zero, bd_ok]
    simp only [n4]
    rw [if_pos (show tyOk "list" (.lst true [.str "row", .str "row", .str "row"]) = true from rfl), aCons_ap, l2]
    simp [updM, D.at, D.upd, mAppend, sz]
  unfold m__law_are_refused
  rw [runF_1]
  unfold b__law_are_refused
  show finF [0] (sSeq _ _ [some h, none, none, none, none]) = _
  rw [seq_set a0 (by simp)]
  simp only [List.set]
  rw [seq_set a1 (by simp)]
  simp only [List.set]
  rw [seq_set a2 (by simp)]
  simp only [List.set]
  rw [seq_set a3 (by simp)]
  simp only [List.set]
  rw [sSeq_ap, a4]
  simp [eq]
end L2.Pv.K77
end
section
set_option Elab.async false
set_option linter.all false
set_option autoImplicit false
set_option maxRecDepth 100000
set_option maxHeartbeats 2000000
namespace L2.Pv.K77
open PySem Lf Kd
/-! ### the law -/
theorem p_1 : m_period [.tup [.int 1, .int 3], .tup [.int 0, .int 0, .int 1]] = .ok (.int 7) [] := by kernel_rfl
theorem p_2 : m_period [.tup [.int 1], .tup [.int 1]] = .ok (.int 1) [] := by kernel_rfl
theorem p_3 : m_is_longest [.tup [.int 1, .int 2], .int 2] = .ok (.bl true) [] := by kernel_rfl
theorem p_4 : m_is_longest [.tup [.int 2], .int 2] = .ok (.bl false) [] := by kernel_rfl
theorem p_5 : m_first_longest [.int 2] = .ok (.tup [.int 1, .int 2]) [] := by kernel_rfl
theorem p_6 : m_by_rule [.tup [.int 1, .int 2], .tup [.int 0, .int 1], .int 6] = .ok (.tup [.int 0, .int 1, .int 1, .int 0, .int 1, .int 1]) [] := by kernel_rfl
theorem p_7 : m__law_is_bits_right [.tup [.int 0, .int 1, .int 1, .int 0, .int 1, .int 1], .tup [.int 1, .int 2], .tup [.int 0, .int 1], .int 6] = .ok (.bl true) [] := by kernel_rfl
theorem ne_1 : dNe (.lst true [.int 7, .int 1, .bl true, .bl false, .tup [.int 1, .int 2]]) (.lst true [.int 7, .int 1, .bl true, .bl false, .tup [.int 1, .int 2]]) = some (.bl false) := by kernel_rfl
def someR : List (List Nat × Nat) := [([1, 4], 4), ([1, 5, 6, 7], 7), ([2, 5], 5), ([1, 6], 6), ([1, 7], 7), ([3, 7], 7), ([4, 5, 6, 8], 8)]
def someD : List D := [.tup [.int 1, .int 4], .tup [.int 1, .int 5, .int 6, .int 7], .tup [.int 2, .int 5], .tup [.int 1, .int 6], .tup [.int 1, .int 7], .tup [.int 3, .int 7], .tup [.int 4, .int 5, .int 6, .int 8]]
theorem some_rule {d : D} (h : d ∈ someD) : ∃ r L, d = tN r ∧ Rule r L ∧ L ≤ 8 := by
  have mk : ∀ (r : List Nat) (L : Nat), 1 ≤ L ∧ L ≤ 8 ∧ (∀ k ∈ r, 1 ≤ k) ∧ r.Pairwise (· < ·) ∧ r.getLast? = some L → Rule r L ∧ L ≤ 8 := fun r L ⟨a, b, c, d, e⟩ => ⟨⟨a, by omega, c, d, e⟩, b⟩
  simp only [someD, List.mem_cons, List.not_mem_nil, or_false] at h
  rcases h with rfl | rfl | rfl | rfl | rfl | rfl | rfl
  · exact ⟨[1, 4], 4, rfl, mk _ _ (by decide)⟩
  · exact ⟨[1, 5, 6, 7], 7, rfl, mk _ _ (by decide)⟩
  · exact ⟨[2, 5], 5, rfl, mk _ _ (by decide)⟩
  · exact ⟨[1, 6], 6, rfl, mk _ _ (by decide)⟩
  · exact ⟨[1, 7], 7, rfl, mk _ _ (by decide)⟩
  · exact ⟨[3, 7], 7, rfl, mk _ _ (by decide)⟩
  · exact ⟨[4, 5, 6, 8], 8, rfl, mk _ _ (by decide)⟩
def bodyL : Es := (sSeq (sSet 5 (calH m__law_rule 1 (aCons (eNm 4) (aNil)))) (sSeq (sIf (cOr (cNot (cVal (calH m__law_is_rule_right 1 (aCons (eNm 5) (aNil))))) (cNot (cVal (calH m__law_is_round_right 1 (aCons (eNm 5) (aNil)))))) (sRet (eC (.bl false))) (sNil)) (sIf (cNot (cVal (calH m__law_is_round_right 1 (aCons (calH m__law_any 1 (aCons (eNm 3) (aNil))) (aNil))))) (sRet (eC (.bl false))) (sNil))))
theorem law_turn {h : D} (H : Hand h) {t : Nat} (ht : 1 ≤ t ∧ t ≤ 8) (o : Bool) (s0 s2 s5 : Option D) : ∃ h' s5', Hand h' ∧ bodyL [s0, some h, s2, some (.lst o someD), some (.int (t : Nat)), s5] = .nx [s0, some h', s2, some (.lst false someD), some (.int (t : Nat)), s5'] := by
  obtain ⟨r, L, h1, e1, hr, hL, H1⟩ := rule_ok H (t := t) (by omega)
  obtain ⟨h2, e2, H2⟩ := rule_right_ok H1 hr (by omega)
  have e3 := round_ok hr (by omega) h2
  obtain ⟨d, h3, hd, e4, H3⟩ := any_frz H2 (ds := someD) (by decide) (by decide) (by decide)
  obtain ⟨r2, L2, ed, hr2, hL2⟩ := some_rule hd
  subst ed
  have e5 := round_ok hr2 hL2 h3
  refine ⟨h3, some (tN r), H3, ?_⟩
  have a1 : (calH m__law_rule 1 (aCons (eNm 4) (aNil))) [s0, some h, s2, some (.lst o someD), some (.int (t : Nat)), s5] = .ok (tN r) [s0, some h1, s2, some (.lst o someD), some (.int (t : Nat)), s5] := by simp [e1]
  have a2 : (cOr (cNot (cVal (calH m__law_is_rule_right 1 (aCons (eNm 5) (aNil))))) (cNot (cVal (calH m__law_is_round_right 1 (aCons (eNm 5) (aNil)))))) [s0, some h1, s2, some (.lst o someD), some (.int (t : Nat)), some (tN r)] = .ok false [s0, some h2, s2, some (.lst o someD), some (.int (t : Nat)), some (tN r)] := by simp [e2, e3]
  have fz : (D.lst o someD).frz = .lst false someD := rfl
  have a3 : (cNot (cVal (calH m__law_is_round_right 1 (aCons (calH m__law_any 1 (aCons (eNm 3) (aNil))) (aNil))))) [s0, some h2, s2, some (.lst o someD), some (.int (t : Nat)), some (tN r)] = .ok false [s0, some h3, s2, some (.lst false someD), some (.int (t : Nat)), some (tN r)] := by
    cases o
    · simp [e4, e5]
    · simp [fz, e4, e5]
  unfold bodyL
  rw [seq_set a1 (by simp)]
  simp only [List.set]
  rw [seq_no a2, sIf_ap, a3]
  simp
theorem hand_ok {ns : List Int} (h : ns.length ≤ 63) : ∃ h', m__law_hand [.scr ns] = .ok h' [] ∧ Hand h' := Dw.hand_ok (c := 77) (by decide) (by decide) h
theorem law_plain (ns : List Int) (h : ns.length ≤ 63) (hb : ∀ z ∈ ns, PySem.Builtin.Int.intBits z ≤ 1048576) : ∃ os, m_law [.scr ns] = .ok (.bl true) os := by
  obtain ⟨h0, e0, H0⟩ := hand_ok h
  have told : Option D := none
  obtain ⟨h1, a5, H1, e1⟩ := law_turn H0 (t := 3) (by decide) true (some (.scr ns)) (some (.lst true [.int 7, .int 1, .bl true, .bl false, .tup [.int 1, .int 2]])) none
  obtain ⟨h2, b5, H2, e2⟩ := law_turn H1 (t := 5) (by decide) false (some (.scr ns)) (some (.lst true [.int 7, .int 1, .bl true, .bl false, .tup [.int 1, .int 2]])) a5
  obtain ⟨h3, c5, H3, e3⟩ := law_turn H2 (t := 8) (by decide) false (some (.scr ns)) (some (.lst true [.int 7, .int 1, .bl true, .bl false, .tup [.int 1, .int 2]])) b5
  obtain ⟨h4, e4, H4⟩ := first_right_ok H3
  obtain ⟨h5, e5, H5⟩ := refused_ok H4
  refine ⟨[], ?_⟩
  unfold bodyL at e1 e2 e3
  unfold m_law
  rw [runF_1]
  simp [b_law, e0, p_1, p_2, p_3, p_4, p_5, p_6, p_7, ne_1]
  rw [show (D.lst true [D.tup [D.int 1, D.int 4], D.tup [D.int 1, D.int 5, D.int 6, D.int 7], D.tup [D.int 2, D.int 5], D.tup [D.int 1, D.int 6], D.tup [D.int 1, D.int 7], D.tup [D.int 3, D.int 7], D.tup [D.int 4, D.int 5, D.int 6, D.int 8]]) = .lst true someD from rfl]
  rw [forL_c (by simp) e1, forL_c (by simp) e2, forL_c (by simp) e3, forL_nil]
  simp [e4, e5]
end L2.Pv.K77
end
section
set_option Elab.async false
set_option linter.all false
set_option maxRecDepth 100000
set_option maxHeartbeats 4000000
open PySem PySem.W PyProof.Rows in
set_option maxHeartbeats 0 in
theorem PySem.Challenge.cw_pairblocks_k77_whole_rows_by_rules_holds : PySem.Challenge.rw_pairblocks_k77_whole_rows_by_rules.Holds := by
  w_on; o_law; k_head; (case hw => w_witness2)
  k_fill
  refine L2.Pv.walk_pv (l := PySem.Challenge.rw_pairblocks_k77_whole_rows_by_rules) (n := 63) (k := 11) (x := "script") (cs := [(286, 282), (279, 275)]) (tb := [(282, ("_law_two" : PySem.Str) ++ ".<locals>." ++ "<lambda>"), (275, ("_law_are_refused" : PySem.Str) ++ ".<locals>." ++ "<lambda>")]) (m := L2.Pv.K77.m_law) (fas := (fun j =>  0)) (cas := (fun c => if c = 0 then 52 else if c = 1 then 74 else if c = 2 then 95 else if c = 3 then 116 else 0)) (fls := fun _ => [])
    rfl (by decide) rfl ⟨rfl, by decide, by decide⟩ (fun w h Y => km_in_of Y) (fun w h Y p hp => ?htab) (fun w h Y p hp => ?hcode) (fun w p hp => ?htabK) (by decide +kernel) (fun w => ?hmK) (by decide) ?F L2.Pv.K77.law_plain
  case htab =>
    simp only [List.mem_cons, List.not_mem_nil, or_false] at hp
    rcases hp with rfl | rfl
    · exact km_tabs_of Y 282 (by decide)
    · exact km_tabs_of Y 275 (by decide)
  case hcode =>
    simp only [List.mem_cons, List.not_mem_nil, or_false] at hp
    rcases hp with rfl | rfl
    · exact codeHd_of_K (km_in_of Y) (by kernel_rfl)
    · exact codeHd_of_K (km_in_of Y) (by kernel_rfl)
  case htabK =>
    simp only [List.mem_cons, List.not_mem_nil, or_false] at hp
    rcases hp with rfl | rfl
    · kernel_rfl
    · kernel_rfl
  case hmK => kernel_rfl
  case F =>
    intro w mg fa h g Y KX G hmg hgb
    refine' (fun tx => ?fin) (L2.Pv.K77.tx_all (prog := (PySem.Challenge.rw_pairblocks_k77_whole_rows_by_rules).prog) (tb := [(282, ("_law_two" : PySem.Str) ++ ".<locals>." ++ "<lambda>"), (275, ("_law_are_refused" : PySem.Str) ++ ".<locals>." ++ "<lambda>")]) (gb := g) (P__law_two := 282) (P__law_are_refused := 275) KX G ?e0 ?e1 ?e2 ?e3 ?e4 ?e5 ?e6 ?e7 ?e8 ?e9 ?e10 ?e11 ?e12 ?e13 ?e14 ?e15 ?e16 ?e17 ?e18 ?e19 ?e20 ?e21 ?e22 ?e23 ?e24 ?e25 ?e26 ?e27 ?e28 ?e29 ?e30 ?e31 ?e32 ?e33 ?e34 ?e35 ?e36 ?e37 ?e38 ?e39 ?e40 ?e41 ?e42 ?e43 ?e44 ?e45 ?e46 ?e47 ?e48 ?e49 ?e50 ?e51 ?e52 ?e53 ?e54 ?e55 ?e56 ?e57 ?e58 ?e59 ?e60 ?e61 ?e62 ?e63 ?e64 ?e65 ?e66 ?e67 ?e68 ?e69 ?e70 ?e71 ?e72 ?e73 ?e74 ?e75 ?e76 ?e77 ?e78 ?e79 ?e80 ?e81 ?e82 ?e83 ?e84 ?e85 ?e86 ?e87 ?e88 ?e89 ?e90 ?e91 ?e92 ?e93 ?e94 ?e95 ?e96 ?e97 ?e98 ?e99 ?e100 ?e101 ?e102 ?e103 ?e104 ?e105 ?e106 ?e107 ?e108 ?e109 ?e110 ?e111 ?e112 ?e113 ?e114 ?e115 ?e116 ?e117 ?e118 ?e119 ?e120 ?e121 ?e122 ?e123 ?e124 ?e125 ?e126 ?e127 ?e128 ?e129 ?e130 ?e131 ?e132 ?e133 ?e134 ?e135 ?e136 ?e137 ?e138 ?e139 ?e140 ?e141 ?e142 ?e143 ?e144 ?e145 ?e146 ?e147 ?e148 ?e149 ?e150 ?e151 ?e152 ?e153 ?e154 ?e155 ?e156 ?e157 ?e158 ?e159 ?e160 ?e161 ?e162 ?e163 ?e164 ?e165 ?e166 ?e167 ?e168 ?e169 ?e170 ?e171)
    (case e0 => k_is)
    (case e1 => k_is)
    (case e2 => k_is)
    (case e3 => k_is)
    (case e4 => k_is)
    (case e5 => k_is)
    (case e6 => k_is)
    (case e7 => k_is)
    (case e8 => k_is)
    (case e9 => k_is)
    (case e10 => k_is)
    (case e11 => k_is)
    (case e12 => k_is)
    (case e13 => k_is)
    (case e14 => k_is)
    (case e15 => k_is)
    (case e16 => k_is)
    (case e17 => k_is)
    (case e18 => k_is)
    (case e19 => k_is)
    (case e20 => k_is)
    (case e21 => k_is)
    (case e22 => k_is)
    (case e23 => k_is)
    (case e24 => k_is)
    (case e25 => k_is)
    (case e26 => k_is)
    (case e27 => k_is)
    (case e28 => k_is)
    (case e29 => k_is)
    (case e30 => k_is)
    (case e31 => k_is)
    (case e32 => k_is)
    (case e33 => k_is)
    (case e34 => k_is)
    (case e35 => k_is)
    (case e36 => k_is)
    (case e37 => k_is)
    (case e38 => k_is)
    (case e39 => k_is)
    (case e40 => k_is)
    (case e41 => k_is)
    (case e42 => k_is)
    (case e43 => k_is)
    (case e44 => k_is)
    (case e45 => k_is)
    (case e46 => k_is)
    (case e47 => k_is)
    (case e48 => k_is)
    (case e49 => k_is)
    (case e50 => k_is)
    (case e51 => k_is)
    (case e52 => k_is)
    (case e53 => k_is)
    (case e54 => k_is)
    (case e55 => k_is)
    (case e56 => k_is)
    (case e57 => k_is)
    (case e58 => k_is)
    (case e59 => k_is)
    (case e60 => k_is)
    (case e61 => k_is)
    (case e62 => k_is)
    (case e63 => k_is)
    (case e64 => k_is)
    (case e65 => k_is)
    (case e66 => k_is)
    (case e67 => k_is)
    (case e68 => k_is)
    (case e69 => k_is)
    (case e70 => k_is)
    (case e71 => k_is)
    (case e72 => k_is)
    (case e73 => k_is)
    (case e74 => k_is)
    (case e75 => k_is)
    (case e76 => k_is)
    (case e77 => k_is)
    (case e78 => k_is)
    (case e79 => k_is)
    (case e80 => k_is)
    (case e81 => k_is)
    (case e82 => k_is)
    (case e83 => k_is)
    (case e84 => k_is)
    (case e85 => k_is)
    (case e86 => k_is)
    (case e87 => k_is)
    (case e88 => k_is)
    (case e89 => k_is)
    (case e90 => k_is)
    (case e91 => k_is)
    (case e92 => k_is)
    (case e93 => k_is)
    (case e94 => k_is)
    (case e95 => k_is)
    (case e96 => k_is)
    (case e97 => k_is)
    (case e98 => k_is)
    (case e99 => k_is)
    (case e100 => k_is)
    (case e101 => k_is)
    (case e102 => k_is)
    (case e103 => k_is)
    (case e104 => k_is)
    (case e105 => k_is)
    (case e106 => k_is)
    (case e107 => k_is)
    (case e108 => k_is)
    (case e109 => k_is)
    (case e110 => k_is)
    (case e111 => k_is)
    (case e112 => k_is)
    (case e113 => k_is)
    (case e114 => k_is)
    (case e115 => k_is)
    (case e116 => k_is)
    (case e117 => k_is)
    (case e118 => k_is)
    (case e119 => k_is)
    (case e120 => k_is)
    (case e121 => k_is)
    (case e122 => k_is)
    (case e123 => k_is)
    (case e124 => k_is)
    (case e125 => k_is)
    (case e126 => k_is)
    (case e127 => k_is)
    (case e128 => k_is)
    (case e129 => k_is)
    (case e130 => k_is)
    (case e131 => k_is)
    (case e132 => k_is)
    (case e133 => k_is)
    (case e134 => k_is)
    (case e135 => k_is)
    (case e136 => k_is)
    (case e137 => k_is)
    (case e138 => k_is)
    (case e139 => k_is)
    (case e140 => k_is)
    (case e141 => k_is)
    (case e142 => k_is)
    (case e143 => k_is)
    (case e144 => k_is)
    (case e145 => k_is)
    (case e146 => k_is)
    (case e147 => k_is)
    (case e148 => k_is)
    (case e149 => k_is)
    (case e150 => k_is)
    (case e151 => k_is)
    (case e152 => k_is)
    (case e153 => k_is)
    (case e154 => k_is)
    (case e155 => k_is)
    (case e156 => (refine' L2.Pv.ex0_mk PySem.F.excBase_ValueError ?yq ?yhi ?yhfn ?yho ?yhbody ?yhcd ?yhbind ?yhp ?yhcode ?yhvs ?yhfile ?yhcell ?yhD ?yhsub ?yhks ?yhkc ?yhka ?yhk ?yhcells ?yhco ?yhgen ?yhtop ?yhno ?yhm ?yhB ?yhkeep ?yhEx ?yhTy ?yhe ?yhin ?yhsw; (case yhi => k_is); (case yq => kernel_rfl); (case yhfn => k_is); (case yho => k_is); (case yhbody => rfl); (case yhcd => k_is); (case yhbind => exact fun _ => rfl); (case yhp => rfl); (case yhcode => k_is); (case yhvs => rfl); (case yhfile => rfl); (case yhcell => k_is); (case yhD => k_is); (case yhsub => k_is); (case yhks => rfl); (case yhkc => rfl); (case yhka => rfl); (case yhk => rfl); (case yhcells => decide); (case yhco => rfl); (case yhgen => rfl); (case yhtop => rfl); (case yhno => k_is); (case yhm => ks_is); (case yhB => k_is); (case yhkeep => k_is); (case yhEx => k_is); (case yhTy => k_is); (case yhe => exact fun _ => rfl); (case yhin => exact fun _ => rfl); (case yhsw => exact fun _ => rfl)))
    (case e157 => (refine' L2.Pv.ex0_mk PySem.F.excBase_ValueError ?yq ?yhi ?yhfn ?yho ?yhbody ?yhcd ?yhbind ?yhp ?yhcode ?yhvs ?yhfile ?yhcell ?yhD ?yhsub ?yhks ?yhkc ?yhka ?yhk ?yhcells ?yhco ?yhgen ?yhtop ?yhno ?yhm ?yhB ?yhkeep ?yhEx ?yhTy ?yhe ?yhin ?yhsw; (case yhi => k_is); (case yq => kernel_rfl); (case yhfn => k_is); (case yho => k_is); (case yhbody => rfl); (case yhcd => k_is); (case yhbind => exact fun _ => rfl); (case yhp => rfl); (case yhcode => k_is); (case yhvs => rfl); (case yhfile => rfl); (case yhcell => k_is); (case yhD => k_is); (case yhsub => k_is); (case yhks => rfl); (case yhkc => rfl); (case yhka => rfl); (case yhk => rfl); (case yhcells => decide); (case yhco => rfl); (case yhgen => rfl); (case yhtop => rfl); (case yhno => k_is); (case yhm => ks_is); (case yhB => k_is); (case yhkeep => k_is); (case yhEx => k_is); (case yhTy => k_is); (case yhe => exact fun _ => rfl); (case yhin => exact fun _ => rfl); (case yhsw => exact fun _ => rfl)))
    (case e158 => (refine ⟨?_, ?_, ?_, ?_, ?_, ?_, ?_, ?_⟩ <;> k_is))
    (case e159 => kernel_rfl)
    (case e160 => kernel_rfl)
    (case e161 => kernel_rfl)
    (case e162 => kernel_rfl)
    (case e163 => (refine ⟨?_, ?_, ?_, ?_, ?_, ?_, ?_, ?_⟩ <;> k_is))
    (case e164 => kernel_rfl)
    (case e165 => kernel_rfl)
    (case e166 => kernel_rfl)
    (case e167 => kernel_rfl)
    (case e168 => decide)
    (case e169 => decide)
    (case e170 => decide)
    (case e171 => decide)
    case fin =>
    obtain ⟨T, ea, ed, ec__law_two, eP__law_two, ec__law_are_refused, eP__law_are_refused⟩ := tx
    have e : fa = T.a_law := by have q := hmg.symm.trans T.g_law; exact Value.ref.inj (Option.some.inj q)
    subst e
    refine ⟨T.d_law, fun s v => by rw [ed]; exact .of_eq rfl, fun base hb hg TB => ?_⟩
    exact L2.Pv.FnOk.g (L2.Pv.K77.ok_law T ⟨by rw [ec__law_two, eP__law_two]; exact TB (286, 282) (by decide), by rw [ec__law_are_refused, eP__law_are_refused]; exact TB (279, 275) (by decide)⟩)
end
