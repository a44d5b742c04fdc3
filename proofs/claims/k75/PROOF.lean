import PyProof.Rows.All
import Wide.All
import OpenK.AllK
import Wide.FinOn
import HandS.ForMost
import HandS.ForExc
import HandS.Lambda
import HandS.Dict
import HandS.CallSlots
import HandS.TupAny
import HandS.TupMul
import HandS.TupLe
import HandS.Style
import HandS.Deep
import HandS.IsInst
import HandS.Small
import KE.GoesMore
import KE.GoesEnum
import HandS.Base
import HandS.Call
import HandS.List
import HandS.Iter
import HandS.Zip
import KE.KDictZip
import KE.KDictList
import HandS.DictTup
import HandS.SetFor
import KE.KExcSuper
import KE.KSuper
import HandS.ExcOwn
import HandS.ExcIs
import HandS.CallLocal
import PyProof.DictMoreH
import KE.KDictPairs
import PyProof.ReprRoads
import HandS.WordsExc
import HandS.EndTab
import KE.KNestM
import KE.KLam
import PySem.Challenge.RW_pairblocks_k75_whole_pairs_of_rows_of_si
import PyProof.ReprBulk
section
set_option Elab.async false
set_option linter.all false
set_option autoImplicit false
set_option maxRecDepth 100000
namespace L2.Pv
open PySem PySem.Spec PyProof.Rows

/-! ### plain data -/
/-- a dict's keys: numbers and texts, or tuples of these -/
inductive DKs where
  | k (ks : List Key)
  | t (ks : List (List Key))
deriving DecidableEq
def DKs.len : DKs → Nat
  | .k ks => ks.length
  | .t ks => ks.length
def DKs.nd : DKs → Prop
  | .k ks => ks.Nodup
  | .t ks => ks.Nodup
def DKs.fit (ks : DKs) (n : Nat) : Prop := ks.len = n ∧ ks.nd
def dicHO (ks : DKs) (vs : List V) : HO :=
  match ks with
  | .k ks => .dK (ks.zip vs)
  | .t ks => .dT (ks.zip vs)
inductive D where
  | non
  | bl (b : Bool)
  | int (i : Int)
  | str (x : Str)
  | tup (xs : List D)
  | lst (o : Bool) (xs : List D)
  | scr (xs : List Int)
  | fn (f : Nat)
  | rf (a : Addr)
  | lam (a c : Addr) (q : Str)
  | ldc (ks : DKs) (xs : List D)
  | dic (o : Bool) (ks : DKs) (xs : List D)
  | obj (o : Bool) (c : Nat) (xs : List D)

mutual
/-- all flags off -/
def D.frz : D → D
  | .lst _ xs => .lst false (D.frzs xs)
  | .non => .non
  | .bl b => .bl b
  | .int i => .int i
  | .str x => .str x
  | .tup xs => .tup xs
  | .scr ns => .scr ns
  | .fn f => .fn f
  | .rf a => .rf a
  | .lam a c q => .lam a c q
  | .ldc ks xs => .ldc ks (D.frzs xs)
  | .dic _ ks xs => .dic false ks (D.frzs xs)
  | .obj _ c xs => .obj false c (D.frzs xs)
def D.frzs : List D → List D
  | [] => []
  | x :: xs => D.frz x :: D.frzs xs
end
/-- a list that its holder owns alone -/
def D.own : D → Bool
  | .lst o _ => o
  | .dic o _ _ => o
  | .obj o _ _ => o
  | _ => false

/-- what a program's numbers stand for -/
structure Gm where
  K : PySem.W.Frag
  fa : Nat → Addr
  ca : Nat → Addr
  fl : Nat → List Str
  tb : List (Addr × Str)
  gb : Hp

mutual
/-- v stands for the data d, by the frozen part G alone -/
def Rep (Γ : Gm) (G : Hp) (v : V) : D → Prop
  | .non => v = .non
  | .bl b => v = .bl b
  | .int i => v = .int i
  | .str x => v = .str x
  | .tup ds => ds.length ≤ sizeLine ∧ ∃ a vs, v = .ref a ∧ G a = some (.tup vs) ∧ Reps Γ G vs ds
  | .lst o ds => (o = false ∧ ds.length ≤ sizeLine) ∧ ∃ a vs, v = .ref a ∧ G a = some (.lst vs) ∧ Reps Γ G vs ds
  | .scr ns => ns.length ≤ sizeLine ∧ ∃ a, v = .ref a ∧ SqL Γ.K G a (ns.map V.int)
  | .fn f => v = .ref (Γ.fa f)
  | .rf a => v = .ref a
  | .lam a c q => v = .ref a ∧ G c = some (LamX.CodeO c q)
  | .ldc ks ds => (ds.length ≤ sizeLine ∧ ks.fit ds.length) ∧ ∃ a vs o, v = .ref a ∧ G a = some (.frz o (dicHO ks vs)) ∧ Reps Γ G vs ds
  | .dic o ks ds => (o = false ∧ ds.length ≤ sizeLine ∧ ks.fit ds.length) ∧ ∃ a vs, v = .ref a ∧ G a = some (dicHO ks vs) ∧ Reps Γ G vs ds
  | .obj o c ds => (o = false ∧ ds.length ≤ 900) ∧ ∃ a dx vs, v = .ref a ∧ G a = some (.ins (Γ.ca c) dx ((Γ.fl c).zip vs)) ∧ G dx = some (.own a) ∧ Reps Γ G vs ds
def Reps (Γ : Gm) (G : Hp) (vs : List V) : List D → Prop
  | [] => vs = []
  | d :: ds => ∃ v r, vs = v :: r ∧ Rep Γ G v d ∧ Reps Γ G r ds
end

/-- trees of lists that are owned, with their addresses -/
inductive T where
  | leaf (v : V) (d : D)
  | lst (a : Addr) (xs : List T)
  | dic (a : Addr) (ks : DKs) (xs : List T)
  | obj (a dx : Addr) (c : Nat) (xs : List T)
def T.v : T → V
  | .leaf v _ => v
  | .lst a _ => .ref a
  | .dic a _ _ => .ref a
  | .obj a _ _ _ => .ref a
mutual
def T.d : T → D
  | .leaf _ d => d
  | .lst _ xs => .lst true (T.ds xs)
  | .dic _ ks xs => .dic true ks (T.ds xs)
  | .obj _ _ c xs => .obj true c (T.ds xs)
def T.ds : List T → List D
  | [] => []
  | x :: xs => T.d x :: T.ds xs
end
mutual
/-- how often an address is owned -/
def T.cnt (b : Addr) : T → Nat
  | .leaf _ _ => 0
  | .lst a xs => (if a = b then 1 else 0) + T.cnts b xs
  | .dic a _ xs => (if a = b then 1 else 0) + T.cnts b xs
  | .obj a dx _ xs => (if a = b then 1 else 0) + ((if dx = b then 1 else 0) + T.cnts b xs)
def T.cnts (b : Addr) : List T → Nat
  | [] => 0
  | x :: xs => T.cnt b x + T.cnts b xs
end
mutual
def Good (Γ : Gm) (G H : Hp) : T → Prop
  | .leaf v d => Rep Γ G v d
  | .lst a xs => (H a = some (.lst (xs.map T.v)) ∧ xs.length ≤ sizeLine) ∧ Goods Γ G H xs
  | .dic a ks xs => (H a = some (dicHO ks (xs.map T.v)) ∧ xs.length ≤ sizeLine ∧ ks.fit xs.length) ∧ Goods Γ G H xs
  | .obj a dx c xs => (H a = some (.ins (Γ.ca c) dx ((Γ.fl c).zip (xs.map T.v))) ∧ H dx = some (.own a) ∧ xs.length ≤ 900) ∧ Goods Γ G H xs
def Goods (Γ : Gm) (G H : Hp) : List T → Prop
  | [] => True
  | x :: xs => Good Γ G H x ∧ Goods Γ G H xs
end
theorem T.ds_map : ∀ xs : List T, T.ds xs = xs.map T.d
  | [] => rfl
  | x :: xs => by rw [T.ds, T.ds_map xs]; rfl
theorem Goods_iff {Γ : Gm} {G H : Hp} : ∀ {xs : List T}, Goods Γ G H xs ↔ ∀ t ∈ xs, Good Γ G H t
  | [] => by simp [Goods]
  | x :: xs => by rw [Goods, Goods_iff (xs := xs)]; simp

abbrev Sub (G G' : Hp) : Prop := ∀ a o, G a = some o → G' a = some o
theorem Sub.refl (G : Hp) : Sub G G := fun _ _ h => h
theorem Sub.trans {G G1 G2 : Hp} (a : Sub G G1) (b : Sub G1 G2) : Sub G G2 := fun c o h => b c o (a c o h)
theorem sqT_mono {K : PySem.W.Frag} {G G' : Hp} (s : Sub G G') {a : Addr} {vs : List V} (h : SqT K G a vs) : SqT K G' a vs := by
  rcases h with (h | ⟨o, h⟩) | h
  · exact .inl (.inl (s _ _ h))
  · exact .inl (.inr ⟨o, s _ _ h⟩)
  · exact .inr h
theorem sqT_of {K : PySem.W.Frag} {G G' : Hp} (s : Sub G G') {a : Addr} {vs : List V} (h : G a = some (.tup vs)) : SqT K G' a vs := .inl (.inl (s _ _ h))
theorem sqL_mono {K : PySem.W.Frag} {G G' : Hp} (s : Sub G G') {a : Addr} {vs : List V} (h : SqL K G a vs) : SqL K G' a vs := by
  rcases h with (h | ⟨o, h⟩) | h
  · exact .inl (.inl (s _ _ h))
  · exact .inl (.inr ⟨o, s _ _ h⟩)
  · exact .inr h
mutual
theorem Rep.mono {Γ : Gm} {G G' : Hp} (s : Sub G G') : ∀ {v : V} (d : D), Rep Γ G v d → Rep Γ G' v d
  | _, .non, h => h
  | _, .bl _, h => h
  | _, .int _, h => h
  | _, .str _, h => h
  | _, .tup ds, h => by
    obtain ⟨hz, a, vs, e, q, r⟩ := h
    exact ⟨hz, a, vs, e, s _ _ q, Reps.mono s ds r⟩
  | _, .lst o ds, h => by
    obtain ⟨eo, a, vs, e, q, r⟩ := h
    exact ⟨eo, a, vs, e, s _ _ q, Reps.mono s ds r⟩
  | _, .scr ns, h => by
    obtain ⟨z, a, e, q⟩ := h
    exact ⟨z, a, e, sqL_mono s q⟩
  | _, .fn _, h => h
  | _, .rf _, h => h
  | _, .lam _ _ _, h => ⟨h.1, s _ _ h.2⟩
  | _, .ldc ks ds, h => by
    obtain ⟨eo, a, vs, o, e, q, r⟩ := h
    exact ⟨eo, a, vs, o, e, s _ _ q, Reps.mono s ds r⟩
  | _, .dic o ks ds, h => by
    obtain ⟨eo, a, vs, e, q, r⟩ := h
    exact ⟨eo, a, vs, e, s _ _ q, Reps.mono s ds r⟩
  | _, .obj o c ds, h => by
    obtain ⟨eo, a, dx, vs, e, q, q2, r⟩ := h
    exact ⟨eo, a, dx, vs, e, s _ _ q, s _ _ q2, Reps.mono s ds r⟩
theorem Reps.mono {Γ : Gm} {G G' : Hp} (s : Sub G G') : ∀ {vs : List V} (ds : List D), Reps Γ G vs ds → Reps Γ G' vs ds
  | _, [], h => h
  | _, d :: ds, h => by
    obtain ⟨v, r, e, h1, h2⟩ := h
    exact ⟨v, r, e, Rep.mono s d h1, Reps.mono s ds h2⟩
end
mutual
theorem Good.mono {Γ : Gm} {G G' H H' : Hp} (s : Sub G G') : ∀ (t : T), (∀ a, 0 < t.cnt a → H' a = H a) → Good Γ G H t → Good Γ G' H' t
  | .leaf v d, _, h => Rep.mono s d h
  | .lst a xs, k, h => by
    refine ⟨⟨?_, h.1.2⟩, Goods.mono s xs (fun b hb => k b ?_) h.2⟩
    · rw [k a (by rw [T.cnt, if_pos rfl]; omega)]; exact h.1.1
    · rw [T.cnt]; omega
  | .dic a ks xs, k, h => by
    refine ⟨⟨?_, h.1.2⟩, Goods.mono s xs (fun b hb => k b ?_) h.2⟩
    · rw [k a (by rw [T.cnt, if_pos rfl]; omega)]; exact h.1.1
    · rw [T.cnt]; omega
  | .obj a dx c xs, k, h => by
    refine ⟨⟨?_, ?_, h.1.2.2⟩, Goods.mono s xs (fun b hb => k b ?_) h.2⟩
    · rw [k a (by rw [T.cnt, if_pos rfl]; omega)]; exact h.1.1
    · rw [k dx (by rw [T.cnt, if_pos (rfl : dx = dx)]; omega)]; exact h.1.2.1
    · rw [T.cnt]; omega
theorem Goods.mono {Γ : Gm} {G G' H H' : Hp} (s : Sub G G') : ∀ (ts : List T), (∀ a, 0 < T.cnts a ts → H' a = H a) → Goods Γ G H ts → Goods Γ G' H' ts
  | [], _, _ => trivial
  | t :: ts, k, h => ⟨Good.mono s t (fun b hb => k b (by rw [T.cnts]; omega)) h.1, Goods.mono s ts (fun b hb => k b (by rw [T.cnts]; omega)) h.2⟩
end
theorem Reps.len {Γ : Gm} {G : Hp} : ∀ {vs : List V} {ds : List D}, Reps Γ G vs ds → vs.length = ds.length
  | vs, [], h => by rw [show vs = [] from h]; rfl
  | _, d :: ds, h => by
    obtain ⟨v, r, e, _, h2⟩ := h
    subst e
    simp [Reps.len h2]
theorem Reps.get {Γ : Gm} {G : Hp} : ∀ {vs : List V} {ds : List D} {i : Nat} {d : D}, Reps Γ G vs ds → ds[i]? = some d → ∃ v, vs[i]? = some v ∧ Rep Γ G v d
  | _, [], _, _, _, h => by simp at h
  | _, d :: ds, i, x, h, g => by
    obtain ⟨v, r, e, h1, h2⟩ := h
    subst e
    cases i with
    | zero => simp at g; subst g; exact ⟨v, by simp, h1⟩
    | succ i => simpa using Reps.get h2 (by simpa using g)
theorem Reps.append {Γ : Gm} {G : Hp} : ∀ {vs ws : List V} {ds es : List D}, Reps Γ G vs ds → Reps Γ G ws es → Reps Γ G (vs ++ ws) (ds ++ es)
  | _, _, [], _, h, g => by rw [show _ = [] from h]; exact g
  | _, _, d :: ds, _, h, g => by
    obtain ⟨v, r, e, h1, h2⟩ := h
    subst e
    exact ⟨v, r ++ _, rfl, h1, Reps.append h2 g⟩
theorem Reps.take {Γ : Gm} {G : Hp} : ∀ {vs : List V} {ds : List D} (n : Nat), Reps Γ G vs ds → Reps Γ G (vs.take n) (ds.take n)
  | _, _, 0, _ => by simp [Reps]
  | _, [], n + 1, h => by rw [show _ = [] from h]; simp [Reps]
  | _, d :: ds, n + 1, h => by
    obtain ⟨v, r, e, h1, h2⟩ := h
    subst e
    exact ⟨v, r.take n, rfl, h1, Reps.take n h2⟩
theorem Reps.drop {Γ : Gm} {G : Hp} : ∀ {vs : List V} {ds : List D} (n : Nat), Reps Γ G vs ds → Reps Γ G (vs.drop n) (ds.drop n)
  | _, _, 0, h => h
  | _, [], n + 1, h => by rw [show _ = [] from h]; simp [Reps]
  | _, d :: ds, n + 1, h => by
    obtain ⟨v, r, e, h1, h2⟩ := h
    subst e
    exact Reps.drop n h2

/-! ### the slots' trees -/
abbrev DS := List (Option D)
abbrev TS' := List (Option T)
def dsl (sl : TS') : DS := sl.map (Option.map T.d)
def cO (a : Addr) : Option T → Nat
  | some t => t.cnt a
  | none => 0
def cS (a : Addr) (sl : TS') : Nat := (sl.map (cO a)).sum
theorem cS_set (a : Addr) (x : Option T) : ∀ (sl : TS') (i : Nat), i < sl.length → cS a (sl.set i x) + cO a (sl[i]?.join) = cS a sl + cO a x
  | [], i, h => by simp at h
  | y :: sl, 0, _ => by simp [cS]; omega
  | y :: sl, i + 1, h => by
    have ih := cS_set a x sl i (by simpa using h)
    simp only [cS, List.set_cons_succ, List.map_cons, List.sum_cons, List.getElem?_cons_succ] at ih ⊢
    omega
theorem cS_get {a : Addr} {t : T} : ∀ {sl : TS'} {i : Nat}, sl[i]? = some (some t) → t.cnt a ≤ cS a sl
  | [], i, h => by simp at h
  | y :: sl, 0, h => by
    simp at h; subst h
    simp [cS, cO]
  | y :: sl, i + 1, h => by
    have ih := cS_get (a := a) (t := t) (sl := sl) (i := i) (by simpa using h)
    simp only [cS, List.map_cons, List.sum_cons] at ih ⊢
    omega
theorem cnts_mem {a : Addr} {t : T} : ∀ {ts : List T}, t ∈ ts → t.cnt a ≤ T.cnts a ts
  | [], h => by simp at h
  | x :: ts, h => by
    rw [T.cnts]
    rcases List.mem_cons.mp h with rfl | h
    · omega
    · have := cnts_mem (a := a) h; omega
theorem cnts_append (a : Addr) : ∀ (xs ys : List T), T.cnts a (xs ++ ys) = T.cnts a xs + T.cnts a ys
  | [], ys => by simp [T.cnts]
  | x :: xs, ys => by rw [List.cons_append, T.cnts, T.cnts, cnts_append a xs ys]; omega

/-- a def's run: the heap at its entry, what was frozen there, the addresses handed in to be changed -/
structure Fr where
  H0 : Hp
  G0 : Hp
  B : Addr → Prop
def NTbl (o : HO) : Prop := ∀ ps, o ≠ .tbl ps

theorem tabs_upd {T : List (Addr × Str)} {H : Hp} {p : Addr} {o o' : HO} (t : LamX.Tabs T H) (hp : H p = some o) (n1 : NTbl o) (n2 : ∀ c q, o ≠ LamX.CodeO c q) : LamX.Tabs T (upd H p o') := fun x hx => by
  obtain ⟨ps, a1, a2, a3⟩ := t x hx
  refine ⟨ps, ?_, a2, fun pos cv hc => ?_⟩
  · rw [upd_ne (fun z => n1 ps (by rw [z, hp] at a1; exact Option.some.inj a1))]; exact a1
  · obtain ⟨c, e1, e2⟩ := a3 pos cv hc
    refine ⟨c, e1, ?_⟩
    rw [upd_ne (fun z => n2 c x.2 (by rw [z, hp] at e2; exact (Option.some.inj e2).trans (by rw [z])))]; exact e2
theorem nTbl_lst (xs : List V) : NTbl (.lst xs) := fun _ z => nomatch z
theorem nCod_lst (xs : List V) (c : Addr) (q : Str) : HO.lst xs ≠ LamX.CodeO c q := fun z => nomatch (show HO.lst xs = HO.ext _ from z)
/-- what was frozen at the entry, and the ground -/
def NT (G : Hp) : Prop := ∀ a o, G a = some o → NTbl o
def Gnd (Γ : Gm) (F : Fr) (G : Hp) : Prop := Sub F.G0 G ∧ Sub Γ.gb G ∧ NT G
theorem Gnd.trans {Γ : Gm} {F : Fr} {G G' : Hp} (h : Gnd Γ F G) (s : Sub G G') (n : NT G') : Gnd Γ F G' := ⟨fun a o q => s a o (h.1 a o q), fun a o q => s a o (h.2.1 a o q), n⟩
theorem NT.upd {G : Hp} (n : NT G) {p : Addr} {o : HO} (h : NTbl o) : NT (upd G p o) := fun a u q => by
  by_cases e : a = p
  · rw [e, upd_same] at q; cases q; exact h
  · rw [upd_ne e] at q; exact n a u q
/-- all but the tables -/
def noT (H : Hp) : Hp := fun a => match H a with
  | some (.tbl _) => none
  | x => x
theorem noT_of {H : Hp} {a : Addr} {o : HO} (h : H a = some o) (n : NTbl o) : noT H a = some o := by
  unfold noT
  rw [h]
  split
  · rename_i ps e; cases e; exact absurd rfl (n _)
  · rfl
theorem noT_sub {H : Hp} {a : Addr} {o : HO} (h : noT H a = some o) : H a = some o ∧ NTbl o := by
  unfold noT at h
  split at h
  · cases h
  · rename_i hx
    exact ⟨h, fun ps z => hx ps (by rw [h, z])⟩
/-- objects that nobody owns -/
def Quiet : HO → Prop
  | .tup _ => True
  | .ext _ => True
  | _ => False
structure Abs (Γ : Gm) (F : Fr) (σ : St) (H G : Hp) (sl : TS') (tm : List T) : Prop where
  len : sl.length = σ.length
  val : ∀ (i : Nat) (t : T), sl[i]? = some (some t) → σ[i]? = some (some t.v)
  sub : Sub G H
  keep : ∀ a o, F.H0 a = some o → NTbl o → ¬ F.B a → H a = some o
  dom : ∀ a, F.H0 a ≠ none → ∃ o, H a = some o ∧ NTbl o
  g0 : Gnd Γ F G
  goodS : ∀ (i : Nat) (t : T), sl[i]? = some (some t) → Good Γ G H t
  goodT : ∀ t ∈ tm, Good Γ G H t
  one : ∀ a, cS a sl + T.cnts a tm ≤ 1
  sep : ∀ a, 0 < cS a sl + T.cnts a tm → G a = none ∧ H a ≠ none ∧ (F.H0 a = none ∨ F.B a)
  fresh : ∀ a, G a ≠ none → F.G0 a ≠ none ∨ F.H0 a = none ∨ F.B a ∨ ∃ o, G a = some o ∧ Quiet o
  tabs : LamX.Tabs Γ.tb H

mutual
theorem Good.noTbl {Γ : Gm} {G H : Hp} : ∀ (t : T), Good Γ G H t → ∀ {a : Addr} {ps : Array Value}, 0 < t.cnt a → H a = some (.tbl ps) → False
  | .leaf v d, _, a, ps, h, _ => by rw [T.cnt] at h; omega
  | .lst p xs, g, a, ps, h, e => by
    by_cases q : p = a
    · subst q
      rw [g.1.1] at e
      cases e
    · rw [T.cnt, if_neg q] at h
      exact Goods.noTbl xs g.2 (by omega) e
  | .dic p ks xs, g, a, ps, h, e => by
    by_cases q : p = a
    · subst q
      rw [g.1.1] at e
      cases ks <;> cases e
    · rw [T.cnt, if_neg q] at h
      exact Goods.noTbl xs g.2 (by omega) e
  | .obj p dx c xs, g, a, ps, h, e => by
    by_cases q : p = a
    · subst q
      rw [g.1.1] at e
      cases e
    · by_cases q2 : dx = a
      · subst q2
        rw [g.1.2.1] at e
        cases e
      · rw [T.cnt, if_neg q, if_neg q2] at h
        exact Goods.noTbl xs g.2 (by omega) e
theorem Goods.noTbl {Γ : Gm} {G H : Hp} : ∀ (ts : List T), Goods Γ G H ts → ∀ {a : Addr} {ps : Array Value}, 0 < T.cnts a ts → H a = some (.tbl ps) → False
  | [], _, a, ps, h, _ => by rw [T.cnts] at h; omega
  | t :: ts, g, a, ps, h, e => by
    rw [T.cnts] at h
    by_cases q : 0 < t.cnt a
    · exact Good.noTbl t g.1 q e
    · exact Goods.noTbl ts g.2 (by omega) e
end
section
variable {Γ : Gm} {F : Fr} {σ : St} {H G : Hp} {sl : TS'} {tm : List T} {t : T}
theorem Abs.drop (A : Abs Γ F σ H G sl (t :: tm)) : Abs Γ F σ H G sl tm where
  len := A.len
  val := A.val
  sub := A.sub
  keep := A.keep
  dom := A.dom
  g0 := A.g0
  goodS := A.goodS
  goodT := fun u hu => A.goodT u (List.mem_cons_of_mem _ hu)
  one := fun a => by have := A.one a; rw [T.cnts] at this; omega
  sep := fun a ha => A.sep a (by rw [T.cnts]; omega)
  fresh := A.fresh
  tabs := A.tabs
theorem Abs.dropN {ts : List T} (A : Abs Γ F σ H G sl (ts ++ tm)) : Abs Γ F σ H G sl tm := by
  induction ts with
  | nil => exact A
  | cons x xs ih => exact ih A.drop
/-- a leaf more -/
theorem Abs.leaf (A : Abs Γ F σ H G sl tm) {v : V} {d : D} (r : Rep Γ G v d) : Abs Γ F σ H G sl (.leaf v d :: tm) where
  len := A.len
  val := A.val
  sub := A.sub
  keep := A.keep
  dom := A.dom
  g0 := A.g0
  goodS := A.goodS
  goodT := fun u hu => by
    rcases List.mem_cons.mp hu with rfl | hu
    · exact r
    · exact A.goodT u hu
  one := fun a => by have := A.one a; rw [T.cnts, T.cnt]; omega
  sep := fun a ha => A.sep a (by rw [T.cnts, T.cnt] at ha; omega)
  fresh := A.fresh
  tabs := A.tabs
/-- the slots may be forgotten, another state of names that says the same -/
theorem Abs.store (A : Abs Γ F σ H G sl (t :: tm)) {i : Nat} (hi : i < sl.length) : Abs Γ F (σ.set i (some t.v)) H G (sl.set i (some t)) tm where
  len := by simp [A.len]
  val := fun j u h => by
    by_cases e : i = j
    · subst e
      rw [List.getElem?_set_self hi] at h
      cases h
      rw [List.getElem?_set_self (by rw [← A.len]; exact hi)]
    · rw [List.getElem?_set_ne e] at h ⊢
      exact A.val j u h
  sub := A.sub
  keep := A.keep
  dom := A.dom
  g0 := A.g0
  goodS := fun j u h => by
    by_cases e : i = j
    · subst e
      rw [List.getElem?_set_self hi] at h
      cases h
      exact A.goodT _ List.mem_cons_self
    · rw [List.getElem?_set_ne e] at h
      exact A.goodS j u h
  goodT := fun u hu => A.goodT u (List.mem_cons_of_mem _ hu)
  one := fun a => by
    have h1 := A.one a
    have h2 := cS_set a (some t) sl i hi
    rw [T.cnts] at h1
    simp only [cO] at h2
    omega
  sep := fun a ha => A.sep a (by
    have h2 := cS_set a (some t) sl i hi
    rw [T.cnts]
    simp only [cO] at h2
    omega)
  fresh := A.fresh
  tabs := A.tabs
/-- a slot is forgotten -/
theorem Abs.forget (A : Abs Γ F σ H G sl tm) {i : Nat} (hi : i < sl.length) : Abs Γ F σ H G (sl.set i none) tm where
  len := by simp [A.len]
  val := fun j u h => by
    by_cases e : i = j
    · subst e
      rw [List.getElem?_set_self hi] at h
      cases h
    · rw [List.getElem?_set_ne e] at h
      exact A.val j u h
  sub := A.sub
  keep := A.keep
  dom := A.dom
  g0 := A.g0
  goodS := fun j u h => by
    by_cases e : i = j
    · subst e
      rw [List.getElem?_set_self hi] at h
      cases h
    · rw [List.getElem?_set_ne e] at h
      exact A.goodS j u h
  goodT := A.goodT
  one := fun a => by
    have h1 := A.one a
    have h2 := cS_set a none sl i hi
    simp only [cO] at h2
    omega
  sep := fun a ha => A.sep a (by
    have h2 := cS_set a none sl i hi
    simp only [cO] at h2
    omega)
  fresh := A.fresh
  tabs := A.tabs
/-- a slot's tree is taken -/
theorem Abs.take (A : Abs Γ F σ H G sl tm) {i : Nat} (hi : sl[i]? = some (some t)) : Abs Γ F σ H G (sl.set i none) (t :: tm) where
  len := by simp [A.len]
  val := fun j u h => by
    by_cases e : i = j
    · subst e
      rw [List.getElem?_set_self (List.getElem?_eq_some_iff.mp hi).1] at h
      cases h
    · rw [List.getElem?_set_ne e] at h
      exact A.val j u h
  sub := A.sub
  keep := A.keep
  dom := A.dom
  g0 := A.g0
  goodS := fun j u h => by
    by_cases e : i = j
    · subst e
      rw [List.getElem?_set_self (List.getElem?_eq_some_iff.mp hi).1] at h
      cases h
    · rw [List.getElem?_set_ne e] at h
      exact A.goodS j u h
  goodT := fun u hu => by
    rcases List.mem_cons.mp hu with rfl | hu
    · exact A.goodS i _ hi
    · exact A.goodT u hu
  one := fun a => by
    have h1 := A.one a
    have h2 : cS a (sl.set i none) + t.cnt a = cS a sl + 0 := by
      have h2 := cS_set a none sl i (List.getElem?_eq_some_iff.mp hi).1
      rw [hi] at h2
      exact h2
    rw [T.cnts]
    omega
  sep := fun a ha => A.sep a (by
    have h2 : cS a (sl.set i none) + t.cnt a = cS a sl + 0 := by
      have h2 := cS_set a none sl i (List.getElem?_eq_some_iff.mp hi).1
      rw [hi] at h2
      exact h2
    rw [T.cnts] at ha
    omega)
  fresh := A.fresh
  tabs := A.tabs

/-! ### freezing -/
end
theorem D.frzs_map : ∀ ds : List D, D.frzs ds = ds.map D.frz
  | [] => rfl
  | d :: ds => by rw [D.frzs, D.frzs_map ds]; rfl
mutual
theorem Rep.frz_id {Γ : Gm} {G : Hp} : ∀ {v : V} (d : D), Rep Γ G v d → d.frz = d
  | _, .non, _ => rfl
  | _, .bl _, _ => rfl
  | _, .int _, _ => rfl
  | _, .str _, _ => rfl
  | _, .tup ds, _ => rfl
  | _, .lst o ds, h => by
    obtain ⟨eo, a, vs, e, q, r⟩ := h
    rw [D.frz, Reps.frz_id ds r, eo.1]
  | _, .scr ns, _ => rfl
  | _, .fn _, _ => rfl
  | _, .rf _, _ => rfl
  | _, .lam _ _ _, _ => rfl
  | _, .ldc ks ds, h => by
    obtain ⟨eo, a, vs, o, e, q, r⟩ := h
    rw [D.frz, Reps.frz_id ds r]
  | _, .dic o ks ds, h => by
    obtain ⟨eo, a, vs, e, q, r⟩ := h
    rw [D.frz, Reps.frz_id ds r, eo.1]
  | _, .obj o c ds, h => by
    obtain ⟨eo, a, dx, vs, e, q, q2, r⟩ := h
    rw [D.frz, Reps.frz_id ds r, eo.1]
theorem Reps.frz_id {Γ : Gm} {G : Hp} : ∀ {vs : List V} (ds : List D), Reps Γ G vs ds → D.frzs ds = ds
  | _, [], _ => rfl
  | _, d :: ds, h => by
    obtain ⟨v, r, e, h1, h2⟩ := h
    rw [D.frzs, Rep.frz_id d h1, Reps.frz_id ds h2]
end
mutual
theorem Good.frz {Γ : Gm} {G G' H : Hp} (s : Sub G G') : ∀ (t : T), Good Γ G H t → (∀ a, 0 < t.cnt a → G' a = H a) → Rep Γ G' t.v t.d.frz
  | .leaf v d, h, _ => by
    show Rep Γ G' v d.frz
    rw [Rep.frz_id d h]
    exact Rep.mono s d h
  | .lst a xs, h, k => by
    refine ⟨⟨rfl, ?_⟩, a, xs.map T.v, rfl, ?_, Goods.frz s xs h.2 fun b hb => k b (by rw [T.cnt]; omega)⟩
    · rw [D.frzs_map, T.ds_map, List.length_map, List.length_map]
      exact h.1.2
    · rw [k a (by rw [T.cnt, if_pos rfl]; omega)]
      exact h.1.1
  | .dic a ks xs, h, k => by
    refine ⟨⟨rfl, ?_, ?_⟩, a, xs.map T.v, rfl, ?_, Goods.frz s xs h.2 fun b hb => k b (by rw [T.cnt]; omega)⟩
    · rw [D.frzs_map, T.ds_map, List.length_map, List.length_map]
      exact h.1.2.1
    · rw [D.frzs_map, T.ds_map, List.length_map, List.length_map]
      exact h.1.2.2
    · rw [k a (by rw [T.cnt, if_pos rfl]; omega)]
      exact h.1.1
  | .obj a dx c xs, h, k => by
    refine ⟨⟨rfl, ?_⟩, a, dx, xs.map T.v, rfl, ?_, ?_, Goods.frz s xs h.2 fun b hb => k b (by rw [T.cnt]; omega)⟩
    · rw [D.frzs_map, T.ds_map, List.length_map, List.length_map]
      exact h.1.2.2
    · rw [k a (by rw [T.cnt, if_pos rfl]; omega)]
      exact h.1.1
    · rw [k dx (by rw [T.cnt, if_pos (rfl : dx = dx)]; omega)]
      exact h.1.2.1
theorem Goods.frz {Γ : Gm} {G G' H : Hp} (s : Sub G G') : ∀ (ts : List T), Goods Γ G H ts → (∀ a, 0 < T.cnts a ts → G' a = H a) → Reps Γ G' (ts.map T.v) (D.frzs (T.ds ts))
  | [], _, _ => rfl
  | t :: ts, h, k => ⟨t.v, ts.map T.v, rfl, Good.frz s t h.1 (fun b hb => k b (by rw [T.cnts]; omega)), Goods.frz s ts h.2 fun b hb => k b (by rw [T.cnts]; omega)⟩
end
/-- what is owned by ts is frozen -/
def frzH (G H : Hp) (ts : List T) : Hp := fun b => if 0 < T.cnts b ts then H b else G b

section
variable {Γ : Gm} {F : Fr} {σ : St} {H G : Hp} {sl : TS'} {tm ts : List T} {t : T}
theorem frzH_sub (k : ∀ a, 0 < T.cnts a ts → G a = none) : Sub G (frzH G H ts) := fun a o h => by
  unfold frzH
  split
  · rename_i q
    rw [k a q] at h
    cases h
  · exact h
theorem frzH_le (s : Sub G H) : Sub (frzH G H ts) H := fun a o h => by
  unfold frzH at h
  split at h
  · exact h
  · exact s a o h
/-- the temps ts are frozen -/
theorem Abs.freeze (A : Abs Γ F σ H G sl (ts ++ tm)) : Abs Γ F σ H (frzH G H ts) sl tm ∧ Reps Γ (frzH G H ts) (ts.map T.v) (D.frzs (T.ds ts)) := by
  have kn : ∀ a, 0 < T.cnts a ts → G a = none := fun a ha => (A.sep a (by rw [cnts_append]; omega)).1
  have s1 : Sub G (frzH G H ts) := frzH_sub kn
  have one : ∀ a, cS a sl + T.cnts a tm + T.cnts a ts ≤ 1 := fun a => by have := A.one a; rw [cnts_append] at this; omega
  have nT : NT (frzH G H ts) := fun b o h ps e => by
    unfold frzH at h
    split at h
    · rename_i q
      rw [e] at h
      exact Goods.noTbl ts (Goods_iff.mpr fun u hu => A.goodT u (List.mem_append_left _ hu)) q h
    · exact A.g0.2.2 b o h ps e
  refine ⟨⟨A.len, A.val, frzH_le A.sub, A.keep, A.dom, A.g0.trans s1 nT, fun i u h => (A.goodS i u h).mono s1 u fun _ _ => rfl, fun u hu => (A.goodT u (List.mem_append_right _ hu)).mono s1 u fun _ _ => rfl, fun a => by have := one a; omega, fun a ha => ?_, fun a ha => ?_, A.tabs⟩, ?_⟩
  · obtain ⟨h1, h2, h3⟩ := A.sep a (by rw [cnts_append]; omega)
    refine ⟨?_, h2, h3⟩
    unfold frzH
    rw [if_neg (by have := one a; omega)]
    exact h1
  · have e : (¬ 0 < T.cnts a ts) → frzH G H ts a = G a := fun z => by unfold frzH; rw [if_neg z]
    by_cases q : 0 < T.cnts a ts
    · rcases (A.sep a (by rw [cnts_append]; omega)).2.2 with z | z
      · exact .inr (.inl z)
      · exact .inr (.inr (.inl z))
    · rw [e q] at ha ⊢
      exact A.fresh a ha
  · exact Goods.frz s1 ts (Goods_iff.mpr fun u hu => A.goodT u (List.mem_append_left _ hu)) fun a ha => by unfold frzH; rw [if_pos ha]
theorem Abs.freeze1 (A : Abs Γ F σ H G sl (t :: tm)) : ∃ G', Abs Γ F σ H G' sl (.leaf t.v t.d.frz :: tm) ∧ Sub G G' := by
  obtain ⟨B, v, r, e, h1, h2⟩ := Abs.freeze (ts := [t]) (tm := tm) A
  cases e
  exact ⟨_, B.leaf h1, frzH_sub fun a ha => (A.sep a (by rw [T.cnts] at ha ⊢; have : T.cnts a [] = 0 := rfl; omega)).1⟩
/-- the heap grew by an object that is not ours -/
theorem Abs.grow (A : Abs Γ F σ H G sl tm) {p : Addr} {o : HO} (hp : H p = none) : Abs Γ F σ (upd H p o) G sl tm := by
  have ne : ∀ a u, H a = some u → upd H p o a = some u := fun a u h => by rw [upd_ne (ne_of_none h hp)]; exact h
  have gd : ∀ u, (∀ a, 0 < u.cnt a → H a ≠ none) → Good Γ G H u → Good Γ G (upd H p o) u := fun u k h => h.mono (Sub.refl G) u fun a ha => upd_ne (show a ≠ p from fun z => k a ha (by rw [z]; exact hp))
  refine ⟨A.len, A.val, fun a u h => ne a u (A.sub a u h), fun a u h1 h2 h3 => ne a u (A.keep a u h1 h2 h3), fun a h => ?_, A.g0, fun i u h => gd u (fun a ha => (A.sep a (by have := cS_get (a := a) h; omega)).2.1) (A.goodS i u h),
    fun u h => gd u (fun a ha => (A.sep a (by have := cnts_mem (a := a) h; omega)).2.1) (A.goodT u h), A.one, fun a ha => ?_, A.fresh, A.tabs.ext ne⟩
  · obtain ⟨u, q, n⟩ := A.dom a h
    exact ⟨u, ne a u q, n⟩
  · obtain ⟨h1, h2, h3⟩ := A.sep a ha
    refine ⟨h1, ?_, h3⟩
    rw [upd_ne (show a ≠ p from fun z => h2 (by rw [z]; exact hp))]
    exact h2
theorem Abs.new0 (A : Abs Γ F σ H G sl tm) {p : Addr} (hp : H p = none) : G p = none ∧ F.H0 p = none := by
  constructor
  · cases q : G p with
    | none => rfl
    | some u => rw [A.sub p u q] at hp; cases hp
  · cases q : F.H0 p with
    | none => rfl
    | some u =>
      obtain ⟨o, z, _⟩ := A.dom p (by rw [q]; exact fun z => nomatch z)
      rw [hp] at z; cases z
/-- a new list of the temps ts -/
theorem Abs.newLst (A : Abs Γ F σ H G sl (ts ++ tm)) {p : Addr} (hp : H p = none) (hz : ts.length ≤ sizeLine) : Abs Γ F σ (upd H p (.lst (ts.map T.v))) G sl (.lst p ts :: tm) := by
  have A1 := A.grow (o := .lst (ts.map T.v)) hp
  obtain ⟨n1, n2⟩ := A.new0 hp
  have c0 : cS p sl + T.cnts p (ts ++ tm) = 0 := by
    have h := A.sep p
    by_cases e : 0 < cS p sl + T.cnts p (ts ++ tm)
    · exact absurd hp (h e).2.1
    · omega
  have ec : ∀ a, T.cnts a (.lst p ts :: tm) = (if p = a then 1 else 0) + T.cnts a (ts ++ tm) := fun a => by rw [T.cnts, T.cnt, cnts_append]; omega
  refine ⟨A1.len, A1.val, A1.sub, A1.keep, A1.dom, A1.g0, A1.goodS, fun u hu => ?_, fun a => ?_, fun a ha => ?_, A1.fresh, A1.tabs⟩
  · rcases List.mem_cons.mp hu with rfl | hu
    · exact ⟨⟨upd_same, hz⟩, Goods_iff.mpr fun u hu => A1.goodT u (List.mem_append_left _ hu)⟩
    · exact A1.goodT u (List.mem_append_right _ hu)
  · rw [ec]
    by_cases e : p = a
    · subst e; rw [if_pos rfl]; omega
    · rw [if_neg e]; have := A.one a; omega
  · rw [ec] at ha
    by_cases e : p = a
    · subst e
      refine ⟨n1, ?_, .inl n2⟩
      rw [upd_same]
      exact fun z => nomatch z
    · rw [if_neg e] at ha
      exact A1.sep a (by omega)
/-- a new frozen thing at p -/
theorem Abs.newFrz (A : Abs Γ F σ H G sl tm) {p : Addr} {o : HO} (hp : H p = none) (ho : NTbl o) : Abs Γ F σ (upd H p o) (upd G p o) sl tm := by
  have A1 := A.grow (o := o) hp
  obtain ⟨n1, n2⟩ := A.new0 hp
  have c0 : ¬ 0 < cS p sl + T.cnts p tm := fun z => absurd hp (A.sep p z).2.1
  have s1 : Sub G (upd G p o) := fun a u h => by rw [upd_ne (ne_of_none h n1)]; exact h
  refine ⟨A1.len, A1.val, fun a u h => ?_, A1.keep, A1.dom, A1.g0.trans s1 (A.g0.2.2.upd ho), fun i u h => (A1.goodS i u h).mono s1 u fun _ _ => rfl, fun u h => (A1.goodT u h).mono s1 u fun _ _ => rfl, A1.one, fun a ha => ?_, fun a ha => ?_, A1.tabs⟩
  · by_cases e : a = p
    · rw [e, upd_same] at h ⊢; exact h
    · rw [upd_ne e] at h ⊢; exact A.sub a u h
  · obtain ⟨h1, h2, h3⟩ := A1.sep a ha
    refine ⟨?_, h2, h3⟩
    rw [upd_ne (show a ≠ p from fun z => c0 (by rw [← z]; exact ha))]
    exact h1
  · by_cases e : a = p
    · exact .inr (.inl (e ▸ n2))
    · rw [upd_ne e] at ha ⊢; exact A.fresh a ha
/-- a new tuple of the temps ts -/
theorem Abs.newTup (A : Abs Γ F σ H G sl (ts ++ tm)) {p : Addr} (hp : H p = none) (hz : ts.length ≤ sizeLine) : ∃ G', Abs Γ F σ (upd H p (.tup (ts.map T.v))) G' sl (.leaf (.ref p) (.tup (D.frzs (T.ds ts))) :: tm) ∧ Sub G G' := by
  obtain ⟨B, r⟩ := A.freeze
  have C := B.newFrz (o := .tup (ts.map T.v)) hp (fun _ z => nomatch z)
  obtain ⟨n1, _⟩ := B.new0 hp
  have s1 : Sub (frzH G H ts) (upd (frzH G H ts) p (.tup (ts.map T.v))) := fun a u h => by rw [upd_ne (ne_of_none h n1)]; exact h
  exact ⟨_, C.leaf ⟨by rw [D.frzs_map, T.ds_map, List.length_map, List.length_map]; exact hz, p, ts.map T.v, rfl, upd_same, Reps.mono s1 _ r⟩, (frzH_sub fun a ha => (A.sep a (by rw [cnts_append]; omega)).1).trans s1⟩
end
end L2.Pv
end
section
set_option Elab.async false
set_option linter.all false
set_option autoImplicit false
set_option maxRecDepth 100000
namespace L2.Pv
open PySem PySem.Spec PyProof.Rows

/-! ### what a run over slots comes to -/
inductive Out (α : Type) where
  | ok (a : α) (δ : DS)
  | exc (c : Nat) (fs : List D) (δ : DS)
  | stuck
def Out.bd {α β : Type} (o : Out α) (f : α → DS → Out β) : Out β :=
  match o with
  | .ok a δ => f a δ
  | .exc c fs δ => .exc c fs δ
  | .stuck => .stuck
@[simp] theorem bd_ok {α β : Type} (a : α) (δ : DS) (f : α → DS → Out β) : (Out.ok a δ).bd f = f a δ := rfl
@[simp] theorem bd_exc {α β : Type} (c : Nat) (fs : List D) (δ : DS) (f : α → DS → Out β) : (Out.exc c fs δ).bd f = .exc c fs δ := rfl
@[simp] theorem bd_stuck {α β : Type} (f : α → DS → Out β) : (Out.stuck : Out α).bd f = .stuck := rfl
/-- a step that may be stuck -/
def lft {α : Type} (o : Option α) (δ : DS) : Out α :=
  match o with
  | some a => .ok a δ
  | none => .stuck
@[simp] theorem lft_some {α : Type} (a : α) (δ : DS) : lft (some a) δ = .ok a δ := rfl
@[simp] theorem lft_none {α : Type} (δ : DS) : lft (none : Option α) δ = .stuck := rfl
abbrev Ev := DS → Out D
abbrev EvT := DS → Out Bool
abbrev EvA := DS → Out (List D)

/-- an exception's own dict -/
def ExR (Γ : Gm) (H G : Hp) (c : Nat) (fs : List D) (dx : Option Addr) : Prop :=
  match Γ.fl c with
  | [] => dx = none ∧ fs = []
  | ns => ∃ d vs, dx = some d ∧ H d = some (.xd (ns.zip vs)) ∧ vs.length = ns.length ∧ Reps Γ G vs fs
def PX (Γ : Gm) (E : WX) (F : Fr) (σ : St) (tm : List T) (c : Nat) (fs : List D) (δ : DS) : Prop :=
  ∀ H' G' sl' dx, Abs Γ F σ H' G' sl' tm → dsl sl' = δ → ExR Γ H' G' c fs dx → E (.ref (Γ.ca c)) dx σ H'
theorem PX.more {Γ : Gm} {E : WX} {F : Fr} {σ : St} {tm ex : List T} {c : Nat} {fs : List D} {δ : DS} (h : PX Γ E F σ tm c fs δ) : PX Γ E F σ (ex ++ tm) c fs δ :=
  fun H' G' sl' dx A e x => h H' G' sl' dx A.dropN e x
def Keep (W : List Nat) (sl sl' : TS') : Prop := ∀ i, i ∉ W → sl'[i]? = sl[i]?
theorem Keep.refl (W : List Nat) (sl : TS') : Keep W sl sl := fun _ _ => rfl
theorem Keep.trans {W W' : List Nat} {sl sl1 sl2 : TS'} (a : Keep W sl sl1) (b : Keep W' sl1 sl2) : Keep (W ++ W') sl sl2 := fun i h =>
  (b i fun z => h (List.mem_append_right _ z)).trans (a i fun z => h (List.mem_append_left _ z))
/-- an expression whose value is owned by nobody else -/
def tE (Γ : Gm) (E : WX) (W : List Nat) (f : Ev) : TE := fun σ H Q => ∃ F G sl tm, Abs Γ F σ H G sl tm ∧
  match f (dsl sl) with
  | .ok d δ => ∀ H' G' sl' t, Abs Γ F σ H' G' sl' (t :: tm) → Sub G G' → t.d = d → dsl sl' = δ → Keep W sl sl' → Q t.v H'
  | .exc c fs δ => PX Γ E F σ tm c fs δ
  | .stuck => False
/-- what is looked at: a temp, or a part of the slot r -/
def Vw (Γ : Gm) (H G : Hp) (sl : TS') (r : Option Nat) (ex : List T) (t : T) : Prop :=
  match r with
  | none => ex = [t]
  | some i => ex = [] ∧ Good Γ G H t ∧ ∃ w, sl[i]? = some (some w) ∧ ∀ b, t.cnt b ≤ w.cnt b
/-- an expression whose value is looked at -/
def tV (Γ : Gm) (E : WX) (W : List Nat) (r : Option Nat) (f : Ev) : TE := fun σ H Q => ∃ F G sl tm, Abs Γ F σ H G sl tm ∧
  match f (dsl sl) with
  | .ok d δ => ∀ H' G' sl' ex t, Abs Γ F σ H' G' sl' (ex ++ tm) → Vw Γ H' G' sl' r ex t → Sub G G' → t.d = d → dsl sl' = δ → Keep W sl sl' → Q t.v H'
  | .exc c fs δ => PX Γ E F σ tm c fs δ
  | .stuck => False
/-- a test -/
def tT (Γ : Gm) (E : WX) (W : List Nat) (f : EvT) : TT := fun σ H Q => ∃ F G sl tm, Abs Γ F σ H G sl tm ∧
  match f (dsl sl) with
  | .ok b δ => ∀ H' G' sl', Abs Γ F σ H' G' sl' tm → Sub G G' → dsl sl' = δ → Keep W sl sl' → Q b H'
  | .exc c fs δ => PX Γ E F σ tm c fs δ
  | .stuck => False
/-- arguments, from the left; the temps lie the last one ahead -/
def tA (Γ : Gm) (E : WX) (W : List Nat) (n : Nat) (f : EvA) : TA := fun σ H Q => ∃ F G sl tm, Abs Γ F σ H G sl tm ∧
  match f (dsl sl) with
  | .ok ds δ => ∀ H' G' sl' ts, Abs Γ F σ H' G' sl' (ts ++ tm) → Sub G G' → ts.length = n → ts.map T.d = ds → dsl sl' = δ → Keep W sl sl' → Q (ts.map T.v) H'
  | .exc c fs δ => PX Γ E F σ tm c fs δ
  | .stuck => False
def SE (X : Cx) (Γ : Gm) (E : WX) (W : List Nat) (e : Expr) (f : Ev) : Prop := X.K = Γ.K → PE X e (tE Γ E W f)
def SV (X : Cx) (Γ : Gm) (E : WX) (W : List Nat) (r : Option Nat) (e : Expr) (f : Ev) : Prop := X.K = Γ.K → PE X e (tV Γ E W r f)
def SC (X : Cx) (Γ : Gm) (E : WX) (W : List Nat) (e : Expr) (f : EvT) : Prop := X.K = Γ.K → PT X e (tT Γ E W f)
def SA (X : Cx) (Γ : Gm) (E : WX) (W : List Nat) (n : Nat) (es : List Expr) (f : EvA) : Prop := X.K = Γ.K → PA X es (tA Γ E W n f)

/-! ### the readings are monotone in what is wanted -/
theorem _root_.L2.PE.imp {X : Cx} {e : Expr} {t t' : TE} (h : PE X e t) (k : ∀ σ H Q, t' σ H Q → t σ H Q) : PE X e t' := ⟨fun pins s σ H Q I q => h.run pins s σ H Q I (k σ H Q q)⟩
theorem _root_.L2.PT.imp {X : Cx} {e : Expr} {t t' : TT} (h : PT X e t) (k : ∀ σ H Q, t' σ H Q → t σ H Q) : PT X e t' := ⟨fun pins s σ H Q I q => h.run pins s σ H Q I (k σ H Q q)⟩
theorem _root_.L2.PA.imp {X : Cx} {e : List Expr} {t t' : TA} (h : PA X e t) (k : ∀ σ H Q, t' σ H Q → t σ H Q) : PA X e t' := ⟨fun p pins s σ H Q I q => h.run p pins s σ H Q I (k σ H Q q)⟩
theorem _root_.L2.PS.imp {X : Cx} {e : Stmt} {t t' : TS} (h : PS X e t) (k : ∀ D σ H, t' D σ H → t D σ H) : PS X e t' := ⟨fun pins s σ H D I q => h.run pins s σ H D I (k D σ H q)⟩
theorem _root_.L2.PSs.imp {X : Cx} {e : List Stmt} {t t' : TS} (h : PSs X e t) (k : ∀ D σ H, t' D σ H → t D σ H) : PSs X e t' := ⟨fun pins s σ H D I q => h.run pins s σ H D I (k D σ H q)⟩

/-! ### looked-at values stay -/
section
variable {Γ : Gm} {F : Fr} {σ σ' : St} {H H' G G' : Hp} {sl sl' : TS'} {tm tm' ex : List T} {t : T} {r : Option Nat}
mutual
theorem Good.same : ∀ (t : T), Good Γ G H t → Good Γ G' H' t → ∀ a, 0 < t.cnt a → H' a = H a
  | .leaf v d, _, _, a, h => by rw [T.cnt] at h; omega
  | .lst p xs, h1, h2, a, h => by
    by_cases e : p = a
    · subst e
      rw [h1.1.1, h2.1.1]
    · rw [T.cnt, if_neg e] at h
      exact Goods.same xs h1.2 h2.2 a (by omega)
  | .dic p ks xs, h1, h2, a, h => by
    by_cases e : p = a
    · subst e
      rw [h1.1.1, h2.1.1]
    · rw [T.cnt, if_neg e] at h
      exact Goods.same xs h1.2 h2.2 a (by omega)
  | .obj p dx c xs, h1, h2, a, h => by
    by_cases e : p = a
    · subst e
      rw [h1.1.1, h2.1.1]
    · by_cases e2 : dx = a
      · subst e2
        rw [h1.1.2.1, h2.1.2.1]
      · rw [T.cnt, if_neg e, if_neg e2] at h
        exact Goods.same xs h1.2 h2.2 a (by omega)
theorem Goods.same : ∀ (ts : List T), Goods Γ G H ts → Goods Γ G' H' ts → ∀ a, 0 < T.cnts a ts → H' a = H a
  | [], _, _, a, h => by rw [T.cnts] at h; omega
  | t :: ts, h1, h2, a, h => by
    rw [T.cnts] at h
    by_cases e : 0 < t.cnt a
    · exact Good.same t h1.1 h2.1 a e
    · exact Goods.same ts h1.2 h2.2 a (by omega)
end
theorem Vw.good (A : Abs Γ F σ H G sl (ex ++ tm)) (w : Vw Γ H G sl r ex t) : Good Γ G H t := by
  cases r with
  | none =>
    have e : ex = [t] := w
    subst e
    exact A.goodT _ List.mem_cons_self
  | some i => exact w.2.1
/-- later: the temps ex are there still, or the slot is as it was -/
theorem Vw.later (A : Abs Γ F σ H G sl (ex ++ tm)) (w : Vw Γ H G sl r ex t) (A' : Abs Γ F σ' H' G' sl' tm') (hs : Sub G G') (ht : ∀ u ∈ ex, u ∈ tm') (hk : ∀ i, r = some i → sl'[i]? = sl[i]?) : Good Γ G' H' t := by
  cases r with
  | none =>
    have e : ex = [t] := w
    subst e
    exact A'.goodT _ (ht _ List.mem_cons_self)
  | some i =>
    obtain ⟨_, g, u, hu, le⟩ := w
    have g1 := A.goodS i u hu
    have g2 := A'.goodS i u ((hk i rfl).trans hu)
    exact g.mono hs t fun a ha => Good.same u g1 g2 a (Nat.lt_of_lt_of_le ha (le a))
end

/-! ### slots -/
theorem dsl_get {sl : TS'} {i : Nat} {d : D} (h : (dsl sl)[i]? = some (some d)) : ∃ t, sl[i]? = some (some t) ∧ t.d = d := by
  unfold dsl at h
  rw [List.getElem?_map] at h
  cases e : sl[i]? with
  | none => rw [e] at h; cases h
  | some o =>
    rw [e] at h
    cases o with
    | none => cases h
    | some t =>
      refine ⟨t, rfl, ?_⟩
      simpa using h
theorem dsl_set (sl : TS') (i : Nat) (o : Option T) : dsl (sl.set i o) = (dsl sl).set i (o.map T.d) := by
  unfold dsl
  rw [List.map_set]
theorem own_of_leaf {Γ : Gm} {G H : Hp} {v : V} {d : D} (h : Good Γ G H (.leaf v d)) : d.own = false := by
  cases d with
  | lst o xs => exact h.1.1
  | dic o ks xs => exact h.1.1
  | obj o c xs => exact h.1.1
  | _ => rfl
theorem leaf_of_own {Γ : Gm} {G H : Hp} {t : T} (g : Good Γ G H t) (h : t.d.own = false) : t = .leaf t.v t.d := by
  cases t with
  | leaf v d => rfl
  | lst a xs => exact nomatch h
  | dic a ks xs => exact nomatch h
  | obj a dx c xs => exact nomatch h
/-- a name's value; what it owned is frozen -/
def eNm (i : Nat) : Ev := fun δ =>
  match δ[i]? with
  | some (some d) => if d.own then .ok d.frz (δ.set i (some d.frz)) else .ok d δ
  | _ => .stuck
/-- a name's value, looked at -/
def eLk (i : Nat) : Ev := fun δ =>
  match δ[i]? with
  | some (some d) => .ok d δ
  | _ => .stuck
theorem eNm_get {δ : DS} {i : Nat} {d : D} (h : δ[i]? = some (some d)) : eNm i δ = if d.own then .ok d.frz (δ.set i (some d.frz)) else .ok d δ := by
  unfold eNm; rw [h]
theorem eLk_get {δ : DS} {i : Nat} {d : D} (h : δ[i]? = some (some d)) : eLk i δ = .ok d δ := by
  unfold eLk; rw [h]
theorem eNm_inv {δ : DS} {i : Nat} (h : ∀ d, δ[i]? ≠ some (some d)) : eNm i δ = .stuck := by
  unfold eNm
  split
  · rename_i d e; exact absurd e (h d)
  · rfl
theorem eLk_inv {δ : DS} {i : Nat} (h : ∀ d, δ[i]? ≠ some (some d)) : eLk i δ = .stuck := by
  unfold eLk
  split
  · rename_i d e; exact absurd e (h d)
  · rfl
section
variable {X : Cx} {Γ : Gm} {E : WX} {W : List Nat} {e : Expr} {f : Ev}
theorem sv_of (h : SE X Γ E W e f) : SV X Γ E W none e f := fun hK => (h hK).imp fun σ H Q ⟨F, G, sl, tm, A, q⟩ => by
  refine ⟨F, G, sl, tm, A, ?_⟩
  cases hf : f (dsl sl) with
  | ok d δ =>
    rw [hf] at q
    intro H' G' sl' t A' hs hd hδ hk
    exact q H' G' sl' [t] t A' rfl hs hd hδ hk
  | exc c fs δ => rw [hf] at q; exact q
  | stuck => rw [hf] at q; exact q
theorem sv_nm {i : Nat} {x : Str} {pos : Pos} (h : PE X (.Name x pos) (tVar i)) : SV X Γ E [] (some i) (.Name x pos) (eLk i) := fun hK => h.imp fun σ H Q ⟨F, G, sl, tm, A, q⟩ => by
  cases hg : (dsl sl)[i]? with
  | none => rw [eLk_inv (by rw [hg]; exact fun d z => nomatch z)] at q; exact q.elim
  | some o =>
    cases o with
    | none => rw [eLk_inv (by rw [hg]; intro d z; cases z)] at q; exact q.elim
    | some d =>
      rw [eLk_get hg] at q
      obtain ⟨t, ht, hd⟩ := dsl_get hg
      exact ⟨t.v, A.val i t ht, q H G sl [] t A ⟨rfl, A.goodS i t ht, t, ht, fun _ => Nat.le_refl _⟩ (Sub.refl G) hd rfl (Keep.refl _ _)⟩
theorem se_nm {i : Nat} {x : Str} {pos : Pos} (h : PE X (.Name x pos) (tVar i)) : SE X Γ E [i] (.Name x pos) (eNm i) := fun hK => h.imp fun σ H Q ⟨F, G, sl, tm, A, q⟩ => by
  cases hg : (dsl sl)[i]? with
  | none => rw [eNm_inv (by rw [hg]; exact fun d z => nomatch z)] at q; exact q.elim
  | some o =>
    cases o with
    | none => rw [eNm_inv (by rw [hg]; intro d z; cases z)] at q; exact q.elim
    | some d =>
      obtain ⟨t, ht, hd⟩ := dsl_get hg
      have hv := A.val i t ht
      have hi : i < sl.length := (List.getElem?_eq_some_iff.mp ht).1
      refine ⟨t.v, hv, ?_⟩
      cases ho : d.own with
      | false =>
        rw [eNm_get hg, ho, if_neg Bool.false_ne_true] at q
        have g := A.goodS i t ht
        have el := leaf_of_own g (by rw [hd]; exact ho)
        rw [el] at g
        exact q H G sl (.leaf t.v t.d) (A.leaf g) (Sub.refl G) hd rfl (Keep.refl _ _)
      | true =>
        rw [eNm_get hg, ho, if_pos rfl] at q
        obtain ⟨G', B, hs⟩ := (A.take ht).freeze1
        have hr : Rep Γ G' t.v t.d.frz := B.goodT _ List.mem_cons_self
        have C := (B.store (i := i) (by simpa using hi)).leaf hr
        have eσ : σ.set i (some (T.leaf t.v t.d.frz).v) = σ := by
          show σ.set i (some t.v) = σ
          apply List.ext_getElem?
          intro j
          by_cases e : i = j
          · subst e
            rw [List.getElem?_set_self (List.getElem?_eq_some_iff.mp hv).1, hv]
          · rw [List.getElem?_set_ne e]
        rw [eσ] at C
        refine q H G' _ (.leaf t.v t.d.frz) C hs (by rw [← hd]; rfl) ?_ fun j hj => ?_
        · rw [dsl_set, dsl_set, List.set_set, ← hd]; rfl
        · have : i ≠ j := fun z => hj (by simp [z])
          rw [List.getElem?_set_ne this, List.getElem?_set_ne this]
/-- constants -/
def eC (d : D) : Ev := fun δ => .ok d δ
theorem se_const {v : V} {d : D} (h : PE X e (tC v)) (r : ∀ G, Rep Γ G v d) : SE X Γ E [] e (eC d) := fun hK => h.imp fun σ H Q ⟨F, G, sl, tm, A, q⟩ =>
  q H G sl (.leaf v d) (A.leaf (r G)) (Sub.refl G) rfl rfl (Keep.refl _ _)
theorem se_int {i : Int} {j : Nat} {pos : Pos} : SE X Γ E [] (.Constant (.int i) j pos) (eC (.int i)) := se_const pe_int fun _ => rfl
theorem se_bl {b : Bool} {j : Nat} {pos : Pos} : SE X Γ E [] (.Constant (.bool b) j pos) (eC (.bl b)) := se_const pe_bl fun _ => rfl
theorem se_non {j : Nat} {pos : Pos} : SE X Γ E [] (.Constant .none j pos) (eC .non) := se_const pe_non fun _ => rfl
theorem se_str {x : Str} {j : Nat} {pos : Pos} : SE X Γ E [] (.Constant (.str x) j pos) (eC (.str x)) := se_const pe_str fun _ => rfl
end

/-! ### operators -/
def ev2 (g : D → D → Option D) (fa fb : Ev) : Ev := fun δ => (fa δ).bd fun a δ1 => (fb δ1).bd fun b δ2 => lft (g a b) δ2
def ev1 (g : D → Option D) (fa : Ev) : Ev := fun δ => (fa δ).bd fun a δ1 => lft (g a) δ1
/-- what a step by values hands on -/
def Hands (Γ : Gm) (F : Fr) (σ : St) (G : Hp) (sl : TS') (tm : List T) (d : D) (Q : VK) : Prop :=
  ∀ H' G' t, Abs Γ F σ H' G' sl (t :: tm) → Sub G G' → t.d = d → Q t.v H'
theorem Hands.here {Γ : Gm} {F : Fr} {σ : St} {H G : Hp} {sl : TS'} {tm : List T} {d : D} {Q : VK} (h : Hands Γ F σ G sl tm d Q) (A : Abs Γ F σ H G sl tm) {v : V} (r : Rep Γ G v d) : Q v H :=
  h H G (.leaf v d) (A.leaf r) (Sub.refl G) rfl
/-- an operation on two looked-at values -/
def Op2 (X : Cx) (Γ : Gm) (f : Value → Value → Sem Value) (g : D → D → Option D) : Prop := X.K = Γ.K → ∃ r : R2, OpR X f r ∧
  ∀ F σ H G sl tm ta tb d Q, Abs Γ F σ H G sl tm → Good Γ G H ta → Good Γ G H tb → g ta.d tb.d = some d → Hands Γ F σ G sl tm d Q → r ta.v tb.v H Q
def Op1 (X : Cx) (Γ : Gm) (f : Value → Sem Value) (g : D → Option D) : Prop := X.K = Γ.K → ∃ r : V → Hp → VK → Prop, UnR X f r ∧
  ∀ F σ H G sl tm ta d Q, Abs Γ F σ H G sl tm → Good Γ G H ta → g ta.d = some d → Hands Γ F σ G sl tm d Q → r ta.v H Q
section
variable {X : Cx} {Γ : Gm} {E : WX} {W Wa Wb : List Nat} {ra rb : Option Nat} {a b : Expr} {fa fb : Ev} {g : D → D → Option D}
/-- the reading of two values, one behind the other -/
theorem two_run {σ : St} {H : Hp} {Q : VK} {R : V → V → Hp → Prop} (hr : ∀ i, ra = some i → i ∉ Wb) {F : Fr} {G : Hp} {sl : TS'} {tm : List T} (A : Abs Γ F σ H G sl tm)
    (q : match ev2 g fa fb (dsl sl) with
      | .ok d δ => ∀ H' G' sl' t, Abs Γ F σ H' G' sl' (t :: tm) → Sub G G' → t.d = d → dsl sl' = δ → Keep (Wa ++ Wb) sl sl' → Q t.v H'
      | .exc c fs δ => PX Γ E F σ tm c fs δ
      | .stuck => False)
    (hR : ∀ H2 G2 sl2 ta tb d, Abs Γ F σ H2 G2 sl2 tm → Good Γ G2 H2 ta → Good Γ G2 H2 tb → g ta.d tb.d = some d → Hands Γ F σ G2 sl2 tm d Q → R ta.v tb.v H2) :
    tV Γ E Wa ra fa σ H fun x H1 => tV Γ E Wb rb fb σ H1 fun y H2 => R x y H2 := by
  refine ⟨F, G, sl, tm, A, ?_⟩
  unfold ev2 at q
  cases h1 : fa (dsl sl) with
  | stuck => rw [h1] at q; exact q
  | exc c fs δ => rw [h1] at q; exact q
  | ok da δ1 =>
    rw [h1, bd_ok] at q
    intro H1 G1 sl1 ex ta A1 w1 s1 e1 e1' k1
    refine ⟨F, G1, sl1, ex ++ tm, A1, ?_⟩
    rw [e1']
    cases h2 : fb δ1 with
    | stuck => rw [h2] at q; exact q
    | exc c fs δ => rw [h2] at q; exact PX.more q
    | ok db δ2 =>
      rw [h2, bd_ok] at q
      intro H2 G2 sl2 ex2 tb A2 w2 s2 e2 e2' k2
      have g1 := w1.later A1 A2 s2 (fun u hu => List.mem_append_right _ (List.mem_append_left _ hu)) fun i hi => k2 i (hr i hi)
      have g2 := w2.good A2
      cases h3 : g da db with
      | none => rw [h3] at q; exact q.elim
      | some d =>
        rw [h3, lft_some] at q
        refine hR H2 G2 sl2 ta tb d (A2.dropN.dropN) g1 g2 (by rw [e1, e2]; exact h3) fun H' G' t A' s' e' => ?_
        exact q H' G' sl2 t A' (s1.trans (s2.trans s')) e' e2' (k1.trans k2)
theorem se_op {op : Operator} {pos : Pos} (O : Op2 X Γ (binaryOp op) g) (ha : SV X Γ E Wa ra a fa) (hb : SV X Γ E Wb rb b fb) (hr : ∀ i, ra = some i → i ∉ Wb) : SE X Γ E (Wa ++ Wb) (.BinOp a op b pos) (ev2 g fa fb) := fun hK => by
  obtain ⟨r, ho, hs⟩ := O hK
  refine (pe_op ho (ha hK) (hb hK)).imp fun σ H Q ⟨F, G, sl, tm, A, q⟩ => ?_
  exact two_run (R := fun x y H2 => r x y H2 Q) hr A q fun H2 G2 sl2 ta tb d A2 g1 g2 e h => hs F σ H2 G2 sl2 tm ta tb d Q A2 g1 g2 e h
theorem se_cmp {op : CmpOp} {pos : Pos} (O : Op2 X Γ (compareOp op) g) (ha : SV X Γ E Wa ra a fa) (hb : SV X Γ E Wb rb b fb) (hr : ∀ i, ra = some i → i ∉ Wb) (hm : behindInMarks op b = false) :
    SE X Γ E (Wa ++ Wb) (.Compare a [op] [b] pos) (ev2 g fa fb) := fun hK => by
  obtain ⟨r, ho, hs⟩ := O hK
  refine (pe_cmpR ho (ha hK) (hb hK) hm).imp fun σ H Q ⟨F, G, sl, tm, A, q⟩ => ?_
  exact two_run (R := fun x y H2 => r x y H2 Q) hr A q fun H2 G2 sl2 ta tb d A2 g1 g2 e h => hs F σ H2 G2 sl2 tm ta tb d Q A2 g1 g2 e h
end
end L2.Pv
end
section
set_option Elab.async false
set_option linter.all false
set_option autoImplicit false
set_option maxRecDepth 100000
namespace L2.Pv
open PySem PySem.Spec PyProof.Rows

inductive SOut where
  | nx (δ : DS) | rt (d : D) (δ : DS) | bk (δ : DS) | ct (δ : DS)
  | exc (c : Nat) (fs : List D) (δ : DS)
  | stuck
abbrev Es := DS → SOut
/-- an expression's outcome, then a statement's -/
def Out.st {α : Type} (o : Out α) (k : α → DS → SOut) : SOut :=
  match o with
  | .ok a δ => k a δ
  | .exc c fs δ => .exc c fs δ
  | .stuck => .stuck
@[simp] theorem st_ok {α : Type} (a : α) (δ : DS) (k : α → DS → SOut) : (Out.ok a δ).st k = k a δ := rfl
@[simp] theorem st_exc {α : Type} (c : Nat) (fs : List D) (δ : DS) (k : α → DS → SOut) : (Out.exc c fs δ).st k = .exc c fs δ := rfl
@[simp] theorem st_stuck {α : Type} (k : α → DS → SOut) : (Out.stuck : Out α).st k = .stuck := rfl
/-- what goes on behind a statement -/
def SOut.th (o : SOut) (k : DS → SOut) : SOut :=
  match o with
  | .nx δ => k δ
  | o => o
@[simp] theorem th_nx (δ : DS) (k : DS → SOut) : (SOut.nx δ).th k = k δ := rfl
@[simp] theorem th_rt (d : D) (δ : DS) (k : DS → SOut) : (SOut.rt d δ).th k = .rt d δ := rfl
@[simp] theorem th_bk (δ : DS) (k : DS → SOut) : (SOut.bk δ).th k = .bk δ := rfl
@[simp] theorem th_ct (δ : DS) (k : DS → SOut) : (SOut.ct δ).th k = .ct δ := rfl
@[simp] theorem th_exc (c : Nat) (fs : List D) (δ : DS) (k : DS → SOut) : (SOut.exc c fs δ).th k = .exc c fs δ := rfl
@[simp] theorem th_stuck (k : DS → SOut) : (SOut.stuck).th k = .stuck := rfl

/-- a loop's turn -/
def SOut.lp (o : SOut) (k : DS → SOut) : SOut :=
  match o with
  | .nx δ => k δ
  | .ct δ => k δ
  | .bk δ => .nx δ
  | o => o
@[simp] theorem lp_nx (δ : DS) (k : DS → SOut) : (SOut.nx δ).lp k = k δ := rfl
@[simp] theorem lp_rt (d : D) (δ : DS) (k : DS → SOut) : (SOut.rt d δ).lp k = .rt d δ := rfl
@[simp] theorem lp_bk (δ : DS) (k : DS → SOut) : (SOut.bk δ).lp k = .nx δ := rfl
@[simp] theorem lp_ct (δ : DS) (k : DS → SOut) : (SOut.ct δ).lp k = k δ := rfl
@[simp] theorem lp_exc (c : Nat) (fs : List D) (δ : DS) (k : DS → SOut) : (SOut.exc c fs δ).lp k = .exc c fs δ := rfl
@[simp] theorem lp_stuck (k : DS → SOut) : (SOut.stuck).lp k = .stuck := rfl
def og (o : Option DS) (k : DS → SOut) : SOut :=
  match o with
  | some δ => k δ
  | none => .stuck
@[simp] theorem og_some (δ : DS) (k : DS → SOut) : og (some δ) k = k δ := rfl
@[simp] theorem og_none (k : DS → SOut) : og none k = .stuck := rfl

/-- slots that keep their value -/
def Prot (P : List Nat) (σ σ' : St) : Prop := ∀ i, i ∈ P → σ'[i]? = σ[i]?
theorem Prot.refl (P : List Nat) (σ : St) : Prot P σ σ := fun _ _ => rfl
theorem Prot.trans {P : List Nat} {σ σ1 σ2 : St} (a : Prot P σ σ1) (b : Prot P σ1 σ2) : Prot P σ σ2 := fun i h => (b i h).trans (a i h)
/-- what is shown of a statement's outcome -/
def PostS (Γ : Gm) (E : WX) (P : List Nat) (F : Fr) (σ : St) (G : Hp) (tm : List T) (Z : Ends) : SOut → Prop
  | .nx δ => ∀ σ' H' G' sl', Abs Γ F σ' H' G' sl' tm → Sub G G' → Prot P σ σ' → dsl sl' = δ → Z.nx σ' H'
  | .rt d δ => ∀ σ' H' G' sl' t, Abs Γ F σ' H' G' sl' (t :: tm) → Sub G G' → Prot P σ σ' → t.d = d → dsl sl' = δ → Z.rt t.v H'
  | .bk δ => ∀ σ' H' G' sl', Abs Γ F σ' H' G' sl' tm → Sub G G' → Prot P σ σ' → dsl sl' = δ → Z.bk σ' H'
  | .ct δ => ∀ σ' H' G' sl', Abs Γ F σ' H' G' sl' tm → Sub G G' → Prot P σ σ' → dsl sl' = δ → Z.ct σ' H'
  | .exc c fs δ => ∀ σ', Prot P σ σ' → PX Γ E F σ' tm c fs δ
  | .stuck => False
def tS (Γ : Gm) (E : WX) (P : List Nat) (f : Es) : TS := fun Z σ H => ∃ F G sl tm, Abs Γ F σ H G sl tm ∧ PostS Γ E P F σ G tm Z (f (dsl sl))
def SS (X : Cx) (Γ : Gm) (E : WX) (P : List Nat) (s : Stmt) (f : Es) : Prop := X.K = Γ.K → PS X s (tS Γ E P f)
def SB (X : Cx) (Γ : Gm) (E : WX) (P : List Nat) (s : List Stmt) (f : Es) : Prop := X.K = Γ.K → PSs X s (tS Γ E P f)
section
variable {Γ : Gm} {E : WX} {P : List Nat} {F : Fr} {σ σ1 : St} {G G1 : Hp} {tm ex : List T} {Z : Ends} {o : SOut}
/-- later in the same run -/
theorem PostS.later (h : PostS Γ E P F σ G tm Z o) (hs : Sub G G1) (hp : Prot P σ σ1) : PostS Γ E P F σ1 G1 tm Z o := by
  cases o with
  | nx δ => exact fun σ' H' G' sl' A s p e => h σ' H' G' sl' A (hs.trans s) (hp.trans p) e
  | rt d δ => exact fun σ' H' G' sl' t A s p ed e => h σ' H' G' sl' t A (hs.trans s) (hp.trans p) ed e
  | bk δ => exact fun σ' H' G' sl' A s p e => h σ' H' G' sl' A (hs.trans s) (hp.trans p) e
  | ct δ => exact fun σ' H' G' sl' A s p e => h σ' H' G' sl' A (hs.trans s) (hp.trans p) e
  | exc c fs δ => exact fun σ' p => h σ' (hp.trans p)
  | stuck => exact h
end
section
variable {X : Cx} {Γ : Gm} {E : WX} {W P : List Nat} {e : Expr} {f : Ev} {st : Stmt} {sts rest : List Stmt} {g g' : Es} {pos : Pos}
def sNil : Es := fun δ => .nx δ
def sSeq (g g' : Es) : Es := fun δ => (g δ).th g'
theorem sb_nil : SB X Γ E P [] sNil := fun _ => pss_nil.imp fun Z σ H ⟨F, G, sl, tm, A, q⟩ => q σ H G sl A (Sub.refl G) (Prot.refl _ _) rfl
theorem sb_cons (h : SS X Γ E P st g) (h' : SB X Γ E P rest g') : SB X Γ E P (st :: rest) (sSeq g g') := fun hK => (pss_cons (h hK) (h' hK)).imp fun Z σ H ⟨F, G, sl, tm, A, q⟩ => by
  refine ⟨F, G, sl, tm, A, ?_⟩
  unfold sSeq at q
  cases hg : g (dsl sl) with
  | nx δ =>
    rw [hg, th_nx] at q
    intro σ' H' G' sl' A' s p e
    refine ⟨F, G', sl', tm, A', ?_⟩
    rw [e]
    exact q.later s p
  | rt d δ => rw [hg] at q; exact q
  | bk δ => rw [hg] at q; exact q
  | ct δ => rw [hg] at q; exact q
  | exc c fs δ => rw [hg] at q; exact q
  | stuck => rw [hg] at q; exact q
theorem sb_one (h : SS X Γ E P st g) : SB X Γ E P [st] g := fun hK => pss_one (h hK)
/-- from an expression's reading to a statement's -/
theorem e_run {σ : St} {H : Hp} {F : Fr} {G : Hp} {sl : TS'} {tm : List T} {Z : Ends} {k : D → DS → SOut} (A : Abs Γ F σ H G sl tm) (q : PostS Γ E P F σ G tm Z ((f (dsl sl)).st k)) {Q : VK}
    (h : ∀ d δ H' G' sl' t, Abs Γ F σ H' G' sl' (t :: tm) → Sub G G' → t.d = d → dsl sl' = δ → Keep W sl sl' → PostS Γ E P F σ G' tm Z (k d δ) → Q t.v H') : tE Γ E W f σ H Q := by
  refine ⟨F, G, sl, tm, A, ?_⟩
  cases hf : f (dsl sl) with
  | ok d δ =>
    rw [hf, st_ok] at q
    exact fun H' G' sl' t A' s e e' k' => h d δ H' G' sl' t A' s e e' k' (q.later s (Prot.refl _ _))
  | exc c fs δ => rw [hf, st_exc] at q; exact q σ (Prot.refl _ _)
  | stuck => rw [hf] at q; exact q
def sPass : Es := fun δ => .nx δ
def sBreak : Es := fun δ => .bk δ
def sCont : Es := fun δ => .ct δ
def sExpr (f : Ev) : Es := fun δ => (f δ).st fun _ δ' => .nx δ'
def sRet (f : Ev) : Es := fun δ => (f δ).st fun d δ' => .rt d δ'
def sRetN : Es := fun δ => .rt .non δ
def dput (i : Nat) (d : D) (δ : DS) : SOut := if i < δ.length then .nx (δ.set i (some d)) else .stuck
def sSet (i : Nat) (f : Ev) : Es := fun δ => (f δ).st fun d δ' => dput i d δ'
theorem ss_pass : SS X Γ E P (.Pass pos) sPass := fun _ => ps_pass.imp fun Z σ H ⟨F, G, sl, tm, A, q⟩ => q σ H G sl A (Sub.refl G) (Prot.refl _ _) rfl
theorem ss_break : SS X Γ E P (.Break pos) sBreak := fun _ => ps_break.imp fun Z σ H ⟨F, G, sl, tm, A, q⟩ => q σ H G sl A (Sub.refl G) (Prot.refl _ _) rfl
theorem ss_cont : SS X Γ E P (.Continue pos) sCont := fun _ => ps_continue.imp fun Z σ H ⟨F, G, sl, tm, A, q⟩ => q σ H G sl A (Sub.refl G) (Prot.refl _ _) rfl
theorem ss_expr (h : SE X Γ E W e f) (hs : swapsWith e none pos.line X.env = pure false) : SS X Γ E P (.Expr e pos) (sExpr f) := fun hK => (ps_expr (h hK) hs).imp fun Z σ H ⟨F, G, sl, tm, A, q⟩ =>
  e_run A q fun d δ H' G' sl' t A' s _ e _ q' => q' σ H' G' sl' A'.drop (Sub.refl _) (Prot.refl _ _) e
theorem ss_ret (h : SE X Γ E W e f) : SS X Γ E P (.Return (some e) pos) (sRet f) := fun hK => (ps_ret (h hK)).imp fun Z σ H ⟨F, G, sl, tm, A, q⟩ =>
  e_run A q fun d δ H' G' sl' t A' s ed e _ q' => q' σ H' G' sl' t A' (Sub.refl _) (Prot.refl _ _) ed e
theorem ss_retN : SS X Γ E P (.Return none pos) sRetN := fun _ => ps_retN.imp fun Z σ H ⟨F, G, sl, tm, A, q⟩ => q σ H G sl (.leaf .non .non) (A.leaf rfl) (Sub.refl G) (Prot.refl _ _) rfl rfl
theorem dsl_len (sl : TS') : (dsl sl).length = sl.length := by unfold dsl; simp
/-- a value goes to slot i -/
theorem PostS.put {F : Fr} {σ : St} {H G : Hp} {sl : TS'} {tm : List T} {Z : Ends} {i : Nat} {t : T} (A : Abs Γ F σ H G sl (t :: tm)) (hp : i ∉ P)
    (q : PostS Γ E P F σ G tm Z (dput i t.d (dsl sl))) : Z.nx (σ.set i (some t.v)) H := by
  unfold dput at q
  split at q
  · rename_i hs
    rw [dsl_len] at hs
    refine q _ H G _ (A.store hs) (Sub.refl G) (fun j hj => ?_) (by rw [dsl_set]; rfl)
    have : i ≠ j := fun z => hp (z ▸ hj)
    rw [List.getElem?_set_ne this]
  · exact q.elim
theorem ss_set {i : Nat} {x : Str} {pos' : Pos} (hN : X.N.Nodup) (hi : X.N[i]? = some x) (hx : Loc X.env.scope x) (h : SE X Γ E W e f) (hp : i ∉ P) (hs : swapsWith e (some (.Name x pos')) pos.line X.env = pure false)
    (hf : X.fn x = true ∨ X.env.scope.names.lookup x = some .local) : SS X Γ E P (.Assign [.Name x pos'] e pos) (sSet i f) := fun hK => (ps_set hN hi hx (h hK) hs hf).imp fun Z σ H ⟨F, G, sl, tm, A, q⟩ =>
  e_run A q fun d δ H' G' sl' t A' s ed e _ q' => PostS.put A' hp (by rw [ed, e]; exact q')

/-! ### tests -/
theorem t_run {fc : EvT} {σ : St} {H : Hp} {F : Fr} {G : Hp} {sl : TS'} {tm : List T} {Z : Ends} {k : Bool → DS → SOut} (A : Abs Γ F σ H G sl tm) (q : PostS Γ E P F σ G tm Z ((fc (dsl sl)).st k)) {Q : Bool → Hp → Prop}
    (h : ∀ b δ H' G' sl', Abs Γ F σ H' G' sl' tm → Sub G G' → dsl sl' = δ → Keep W sl sl' → PostS Γ E P F σ G' tm Z (k b δ) → Q b H') : tT Γ E W fc σ H Q := by
  refine ⟨F, G, sl, tm, A, ?_⟩
  cases hf : fc (dsl sl) with
  | ok d δ =>
    rw [hf, st_ok] at q
    exact fun H' G' sl' A' s e' k' => h d δ H' G' sl' A' s e' k' (q.later s (Prot.refl _ _))
  | exc c fs δ => rw [hf, st_exc] at q; exact q σ (Prot.refl _ _)
  | stuck => rw [hf] at q; exact q
def sIf (fc : EvT) (g g' : Es) : Es := fun δ => (fc δ).st fun b δ' => if b then g δ' else g' δ'
theorem ss_if {c : Expr} {a b : List Stmt} {fc : EvT} (hc : SC X Γ E W c fc) (ha : SB X Γ E P a g) (hb : SB X Γ E P b g') : SS X Γ E P (.If c a b pos) (sIf fc g g') := fun hK => (ps_if (hc hK) (ha hK) (hb hK)).imp fun Z σ H ⟨F, G, sl, tm, A, q⟩ =>
  t_run A q fun b δ H' G' sl' A' s e _ q' => by
    cases b with
    | true => exact ⟨F, G', sl', tm, A', by rw [e]; exact q'⟩
    | false => exact ⟨F, G', sl', tm, A', by rw [e]; exact q'⟩

/-! ### while -/
def sWhile (fc : EvT) (g : Es) : Nat → Es
  | 0 => fun _ => .stuck
  | n + 1 => fun δ => (fc δ).st fun b δ' => if b then (g δ').lp (sWhile fc g n) else .nx δ'
theorem ss_while {c : Expr} {body : List Stmt} {fc : EvT} (n : Nat) (hp : PassesOwn (model X.prog X.w) X.A X.env X.xe) (hc : SC X Γ E W c fc) (hb : SB X Γ E P body g) : SS X Γ E P (.While c body [] pos) (sWhile fc g n) := fun hK => (ps_while hp (hc hK) (hb hK)).imp fun Z σ H ⟨F, G, sl, tm, A, q⟩ => by
  refine ⟨fun m σ' H' => ∃ G' sl', Abs Γ F σ' H' G' sl' tm ∧ Sub G G' ∧ Prot P σ σ' ∧ PostS Γ E P F σ' G' tm Z (sWhile fc g m (dsl sl')), ⟨n, G, sl, A, Sub.refl G, Prot.refl _ _, q⟩, ?_⟩
  rintro m σ1 H1 ⟨G1, sl1, A1, s1, p1, q1⟩
  cases m with
  | zero => exact q1.elim
  | succ m =>
    refine t_run A1 q1 fun b δ H2 G2 sl2 A2 s2 e2 _ q2 => ?_
    cases b with
    | false => exact q2 σ1 H2 G2 sl2 A2 (Sub.refl _) (Prot.refl _ _) e2
    | true =>
      rw [if_pos rfl] at q2 ⊢
      refine ⟨fun σ' H' => ∃ G' sl', Abs Γ F σ' H' G' sl' tm ∧ Sub G G' ∧ Prot P σ σ' ∧ PostS Γ E P F σ' G' tm Z (sWhile fc g m (dsl sl')), fun σ' H' w => ⟨m, Nat.lt_succ_self m, w⟩, F, G2, sl2, tm, A2, ?_⟩
      rw [e2]
      cases hg : g δ with
      | nx δ2 => rw [hg] at q2; exact fun σ' H' G' sl' A' s p e => ⟨G', sl', A', s1.trans (s2.trans s), p1.trans p, by rw [e]; exact q2.later s p⟩
      | ct δ2 => rw [hg] at q2; exact fun σ' H' G' sl' A' s p e => ⟨G', sl', A', s1.trans (s2.trans s), p1.trans p, by rw [e]; exact q2.later s p⟩
      | bk δ2 => rw [hg] at q2; exact fun σ' H' G' sl' A' s p e => q2 σ' H' G' sl' A' s p e
      | rt d δ2 => rw [hg] at q2; exact q2
      | exc c fs δ2 => rw [hg] at q2; exact q2
      | stuck => rw [hg] at q2; exact q2

/-! ### targets -/
abbrev Eg := D → DS → Option DS
/-- none but the slots S change -/
def Only (S : List Nat) (σ σ' : St) : Prop := σ'.length = σ.length ∧ ∀ i, i ∉ S → σ'[i]? = σ[i]?
theorem Only.refl (S : List Nat) (σ : St) : Only S σ σ := ⟨rfl, fun _ _ => rfl⟩
theorem Only.trans {S S' : List Nat} {σ σ1 σ2 : St} (a : Only S σ σ1) (b : Only S' σ1 σ2) : Only (S ++ S') σ σ2 :=
  ⟨b.1.trans a.1, fun i h => (b.2 i fun z => h (List.mem_append_right _ z)).trans (a.2 i fun z => h (List.mem_append_left _ z))⟩
theorem Only.set (σ : St) (i : Nat) (v : Option V) : Only [i] σ (σ.set i v) := ⟨by simp, fun j h => by
  have : i ≠ j := fun z => h (by simp [z])
  rw [List.getElem?_set_ne this]⟩
theorem Only.prot {S P : List Nat} {σ σ' : St} (a : Only S σ σ') (h : ∀ i, i ∈ P → i ∉ S) : Prot P σ σ' := fun i hi => a.2 i (h i hi)
def tG (Γ : Gm) (S : List Nat) (f : Eg) : TG := fun v σ H Q => ∃ F G sl tm t, Abs Γ F σ H G sl (t :: tm) ∧ t.v = v ∧
  match f t.d (dsl sl) with
  | some δ => ∀ σ' H' G' sl', Abs Γ F σ' H' G' sl' tm → Sub G G' → Only S σ σ' → Keep S sl sl' → dsl sl' = δ → Q σ' H'
  | none => False
def SG (X : Cx) (Γ : Gm) (S : List Nat) (tg : Expr) (f : Eg) : Prop := X.K = Γ.K → PG X tg (tG Γ S f)
theorem _root_.L2.PG.imp {X : Cx} {e : Expr} {t t' : TG} (h : PG X e t) (k : ∀ v σ H Q, t' v σ H Q → t v σ H Q) : PG X e t' := ⟨fun pins s σ H v u Q I r q => h.run pins s σ H v u Q I r (k v σ H Q q)⟩
theorem _root_.L2.PGs.imp {X : Cx} {e : List Expr} {t t' : TGs} (h : PGs X e t) (k : ∀ v σ H Q, t' v σ H Q → t v σ H Q) : PGs X e t' := ⟨fun pins s σ H v u Q I r q => h.run pins s σ H v u Q I r (k v σ H Q q)⟩
def gSet (i : Nat) : Eg := fun d δ => if i < δ.length then some (δ.set i (some d)) else none
theorem sg_nm {i : Nat} {x : Str} {pos : Pos} (hN : X.N.Nodup) (hi : X.N[i]? = some x) (hx : Loc X.env.scope x) (hf : X.fn x = true ∨ X.env.scope.names.lookup x = some .local) : SG X Γ [i] (.Name x pos) (gSet i) := fun hK => (pg_name hN hi hx hf).imp fun v σ H Q ⟨F, G, sl, tm, t, A, ev, q⟩ => by
  unfold gSet at q
  by_cases hs : i < (dsl sl).length
  · rw [if_pos hs] at q
    rw [dsl_len] at hs
    rw [← ev]
    exact q _ H G _ (A.store hs) (Sub.refl G) (Only.set _ _ _) (fun j hj => by rw [List.getElem?_set_ne (show i ≠ j from fun z => hj (by simp [z]))]) (by rw [dsl_set]; rfl)
  · rw [if_neg hs] at q; exact q.elim
/-- several targets -/
abbrev Egs := List D → DS → Option DS
def tGs (Γ : Gm) (S : List Nat) (f : Egs) : TGs := fun vs σ H Q => ∃ F G sl tm ts, Abs Γ F σ H G sl (ts ++ tm) ∧ ts.map T.v = vs ∧
  match f (ts.map T.d) (dsl sl) with
  | some δ => ∀ σ' H' G' sl', Abs Γ F σ' H' G' sl' tm → Sub G G' → Only S σ σ' → Keep S sl sl' → dsl sl' = δ → Q σ' H'
  | none => False
def SGs (X : Cx) (Γ : Gm) (S : List Nat) (tg : List Expr) (f : Egs) : Prop := X.K = Γ.K → PGs X tg (tGs Γ S f)
def gNil' : Egs := fun ds δ => match ds with
  | [] => some δ
  | _ => none
def gCons' (f : Eg) (g : Egs) : Egs := fun ds δ => match ds with
  | d :: ds => (f d δ).bind (g ds)
  | [] => none
theorem sgs_nil : SGs X Γ [] [] gNil' := fun hK => pgs_nil.imp fun vs σ H Q ⟨F, G, sl, tm, ts, A, ev, q⟩ => by
  cases ts with
  | nil => exact ⟨ev.symm, q σ H G sl A (Sub.refl G) (Only.refl _ _) (Keep.refl _ _) rfl⟩
  | cons t ts => exact q.elim
theorem sgs_cons {S S' : List Nat} {e : Expr} {es : List Expr} {f : Eg} {g : Egs} (h1 : SG X Γ S e f) (h2 : SGs X Γ S' es g) (hs : (assignEach (e :: es) X.env).map (·.2) = assign e X.env :: (assignEach es X.env).map (·.2)) : SGs X Γ (S ++ S') (e :: es) (gCons' f g) := fun hK =>
  (pgs_cons (h1 hK) (h2 hK) hs).imp fun vs σ H Q ⟨F, G, sl, tm, ts, A, ev, q⟩ => by
  cases ts with
  | nil => exact q.elim
  | cons t ts =>
    refine ⟨t.v, ts.map T.v, ev.symm, F, G, sl, ts ++ tm, t, A, rfl, ?_⟩
    have q : match (f t.d (dsl sl)).bind (g (ts.map T.d)) with
      | some δ => ∀ σ' H' G' sl', Abs Γ F σ' H' G' sl' tm → Sub G G' → Only (S ++ S') σ σ' → Keep (S ++ S') sl sl' → dsl sl' = δ → Q σ' H'
      | none => False := q
    cases hf : f t.d (dsl sl) with
    | none => rw [hf] at q; exact q
    | some δ =>
      rw [hf] at q
      intro σ1 H1 G1 sl1 A1 s1 o1 kk1 e1
      refine ⟨F, G1, sl1, tm, ts, A1, rfl, ?_⟩
      rw [e1]
      have q : match g (ts.map T.d) δ with
        | some δ => ∀ σ' H' G' sl', Abs Γ F σ' H' G' sl' tm → Sub G G' → Only (S ++ S') σ σ' → Keep (S ++ S') sl sl' → dsl sl' = δ → Q σ' H'
        | none => False := q
      cases hg : g (ts.map T.d) δ with
      | none => rw [hg] at q; exact q
      | some δ2 =>
        rw [hg] at q
        exact fun σ2 H2 G2 sl2 A2 s2 o2 kk2 e2 => q σ2 H2 G2 sl2 A2 (s1.trans s2) (o1.trans o2) (kk1.trans kk2) e2
/-- leaves of a frozen sequence -/
theorem Abs.leaves {Γ : Gm} {F : Fr} {σ : St} {H G : Hp} {sl : TS'} : ∀ {tm : List T} {vs : List V} {ds : List D}, Abs Γ F σ H G sl tm → Reps Γ G vs ds → ∃ ts, Abs Γ F σ H G sl (ts ++ tm) ∧ ts.map T.v = vs ∧ ts.map T.d = ds
  | tm, vs, [], A, r => ⟨[], A, (show vs = [] from r).symm, rfl⟩
  | tm, vs, d :: ds, A, r => by
    obtain ⟨v, r', e, h1, h2⟩ := r
    obtain ⟨ts, B, e1, e2⟩ := Abs.leaves A h2
    exact ⟨.leaf v d :: ts, B.leaf h1, by rw [List.map_cons, e1, e]; rfl, by rw [List.map_cons, e2]; rfl⟩
/-- (a, b, ..) = a tuple -/
def gTup' (n : Nat) (g : Egs) : Eg := fun d δ => match d with
  | .tup ds => if ds.length = n then g ds δ else none
  | _ => none
theorem sg_tup {S : List Nat} {es : List Expr} {k n : Nat} {g : Egs} (hc : X.calm = true) (h : SGs X Γ S es g) (hn : (assignEach es X.env).length = n) (hst : (assignEach es X.env).findIdx? (·.1) = none) : SG X Γ S (.Tuple es k pos) (gTup' n g) := fun hK =>
  (pg_tup hc (h hK) hn hst).imp fun v σ H Q ⟨F, G, sl, tm, t, A, ev, q⟩ => by
  have g0 := A.goodT t List.mem_cons_self
  unfold gTup' at q
  cases hd : t.d with
  | tup ds =>
    rw [hd] at q
    dsimp only at q
    have el := leaf_of_own g0 (by rw [hd]; rfl)
    rw [el, hd] at g0
    obtain ⟨hz, a, vs, e1, hq, r⟩ := g0
    by_cases hl : ds.length = n
    · rw [if_pos hl] at q
      obtain ⟨ts, B, e2, e3⟩ := A.drop.leaves r
      refine ⟨a, vs, by rw [← ev, e1], by rw [hK]; exact sqT_of A.sub hq, by rw [r.len, hl], F, G, sl, tm, ts, B, e2, ?_⟩
      rw [e3]
      exact q
    · rw [if_neg hl] at q; exact q.elim
  | _ => rw [hd] at q; exact q.elim
/-! ### for -/
/-- what an iterator gives: the data ds, one behind the other -/
def Gives (Γ : Gm) (G : Hp) (J : It) (ds : List D) : Prop :=
  ∀ F σ2 H2 G2 sl2 tm2, Abs Γ F σ2 H2 G2 sl2 tm2 → Sub G G2 → ∀ i,
    (∀ d, ds[i]? = some d → J.go i H2 ∧ ∀ x H3, J.yld i H2 x H3 → ∃ G3 t, Abs Γ F σ2 H3 G3 sl2 (t :: tm2) ∧ Sub G2 G3 ∧ t.v = x ∧ t.d = d) ∧ (ds[i]? = none → J.stop i H2)
def tI (Γ : Gm) (E : WX) (W : List Nat) (f : EvA) : TI := fun σ H R => ∃ F G sl tm, Abs Γ F σ H G sl tm ∧
  match f (dsl sl) with
  | .ok ds δ => ∀ J H' G' sl', Abs Γ F σ H' G' sl' tm → Sub G G' → dsl sl' = δ → Keep W sl sl' → Gives Γ G' J ds → ds.length ≤ sizeLine → R J H'
  | .exc c fs δ => PX Γ E F σ tm c fs δ
  | .stuck => False
def SI (X : Cx) (Γ : Gm) (E : WX) (W : List Nat) (tg iter : Expr) (f : EvA) : Prop := X.K = Γ.K → PI X tg iter (tI Γ E W f)
theorem _root_.L2.PI.imp {X : Cx} {tg e : Expr} {t t' : TI} (h : PI X tg e t) (k : ∀ σ H R, t' σ H R → t σ H R) : PI X tg e t' := ⟨fun pins s σ H R I q => h.run pins s σ H R I (k σ H R q)⟩
def forL (ft : Eg) (g : Es) : List D → Es
  | [] => fun δ => .nx δ
  | d :: ds => fun δ => og (ft d δ) fun δ1 => (g δ1).lp (forL ft g ds)
def sFor (fi : EvA) (ft : Eg) (g : Es) : Es := fun δ => (fi δ).st fun ds δ' => forL ft g ds δ'
theorem drop_cons {α : Type} : ∀ {l : List α} {i : Nat} {d : α}, l[i]? = some d → l.drop i = d :: l.drop (i + 1)
  | [], i, d, h => by simp at h
  | x :: l, 0, d, h => by simp at h; simp [h]
  | x :: l, i + 1, d, h => by simpa using drop_cons (l := l) (i := i) (by simpa using h)
theorem ss_for {S : List Nat} {tg iter : Expr} {body : List Stmt} {fi : EvA} {ft : Eg} (hp : PassesOwn (model X.prog X.w) X.A X.env X.xe) (hc : X.calm = true) (hi : SI X Γ E W tg iter fi) (hg : SG X Γ S tg ft) (hb : SB X Γ E P body g) (hPS : ∀ i, i ∈ P → i ∉ S)
    (hs : ∀ x, foldedSetIterable iter X.env x = pure x) : SS X Γ E P (.For tg iter body [] pos) (sFor fi ft g) := fun hK => (ps_for hp hc (hi hK) (hg hK) (hb hK) hs).imp fun Z σ H ⟨F, G, sl, tm, A, q⟩ => by
  refine ⟨F, G, sl, tm, A, ?_⟩
  unfold sFor at q
  cases hf : fi (dsl sl) with
  | stuck => rw [hf] at q; exact q
  | exc c fs δ => rw [hf, st_exc] at q; exact q σ (Prot.refl _ _)
  | ok ds δ =>
    rw [hf, st_ok] at q
    intro J H0 G0 sl0 A0 s0 e0 _ gv _
    refine ⟨fun i m σ' H' => m = ds.length - i ∧ ∃ G' sl', Abs Γ F σ' H' G' sl' tm ∧ Sub G0 G' ∧ Prot P σ σ' ∧ PostS Γ E P F σ' G' tm Z (forL ft g (ds.drop i) (dsl sl')), ⟨_, rfl, G0, sl0, A0, Sub.refl _, Prot.refl _ _, by rw [e0]; exact q.later s0 (Prot.refl _ _)⟩, ?_⟩
    rintro i m σ1 H1 ⟨rfl, G1, sl1, A1, s1, p1, q1⟩
    obtain ⟨hgo, hst⟩ := gv F σ1 H1 G1 sl1 tm A1 s1 i
    cases hd : ds[i]? with
    | none =>
      have : ds.drop i = [] := List.drop_eq_nil_iff.mpr (List.getElem?_eq_none_iff.mp hd)
      rw [this] at q1
      exact .inl ⟨hst hd, q1 σ1 H1 G1 sl1 A1 (Sub.refl _) (Prot.refl _ _) rfl⟩
    | some d =>
      obtain ⟨h1, h2⟩ := hgo d hd
      have hlt : i < ds.length := (List.getElem?_eq_some_iff.mp hd).1
      rw [drop_cons hd] at q1
      refine .inr ⟨h1, fun σ' H' => ∃ G' sl', Abs Γ F σ' H' G' sl' tm ∧ Sub G0 G' ∧ Prot P σ σ' ∧ PostS Γ E P F σ' G' tm Z (forL ft g (ds.drop (i + 1)) (dsl sl')), fun σ' H' w => ⟨ds.length - (i + 1), by omega, rfl, w⟩, fun x H' y => ?_⟩
      obtain ⟨G3, t, A3, s3, ev, ed⟩ := h2 x H' y
      refine ⟨F, G3, sl1, tm, t, A3, ev, ?_⟩
      rw [ed]
      show match ft d (dsl sl1) with | some δ => _ | none => False
      unfold forL at q1
      cases ht : ft d (dsl sl1) with
      | none => rw [ht] at q1; exact q1
      | some δ1 =>
        rw [ht, og_some] at q1
        intro σ4 H4 G4 sl4 A4 s4 o4 _ e4
        have p4 := o4.prot hPS
        refine ⟨F, G4, sl4, tm, A4, ?_⟩
        rw [e4]
        have q2 := q1.later (s3.trans s4) p4
        cases hg : g δ1 with
        | nx δ2 => rw [hg] at q2; exact fun σ' H' G' sl' A' s p e => ⟨G', sl', A', s1.trans (s3.trans (s4.trans s)), p1.trans (p4.trans p), by rw [e]; exact q2.later s p⟩
        | ct δ2 => rw [hg] at q2; exact fun σ' H' G' sl' A' s p e => ⟨G', sl', A', s1.trans (s3.trans (s4.trans s)), p1.trans (p4.trans p), by rw [e]; exact q2.later s p⟩
        | bk δ2 => rw [hg] at q2; exact fun σ' H' G' sl' A' s p e => q2 σ' H' G' sl' A' s p e
        | rt d δ2 => rw [hg] at q2; exact q2
        | exc c fs δ2 => rw [hg] at q2; exact q2
        | stuck => rw [hg] at q2; exact q2
end
end L2.Pv
end
section
set_option Elab.async false
set_option linter.all false
set_option autoImplicit false
set_option maxRecDepth 100000
namespace L2.Pv
open PySem PySem.Spec PyProof.Rows

section
variable {Γ : Gm} {F : Fr} {σ : St} {H G : Hp} {sl : TS'} {tm tm' ts : List T} {t : T}
theorem Abs.temps (A : Abs Γ F σ H G sl tm) (h1 : ∀ u ∈ tm', u ∈ tm) (h2 : ∀ a, T.cnts a tm' ≤ T.cnts a tm) : Abs Γ F σ H G sl tm' :=
  ⟨A.len, A.val, A.sub, A.keep, A.dom, A.g0, A.goodS, fun u hu => A.goodT u (h1 u hu), fun a => by have := A.one a; have := h2 a; omega, fun a ha => A.sep a (by have := h2 a; omega), A.fresh, A.tabs⟩
theorem Abs.swap (A : Abs Γ F σ H G sl (ts ++ t :: tm)) : Abs Γ F σ H G sl (t :: (ts ++ tm)) := A.temps (fun u hu => by
  simp only [List.mem_cons, List.mem_append] at hu ⊢
  rcases hu with h | h | h
  · exact .inr (.inl h)
  · exact .inl h
  · exact .inr (.inr h)) fun a => by rw [T.cnts, cnts_append, cnts_append, T.cnts]; omega
theorem Abs.swap' (A : Abs Γ F σ H G sl (t :: (ts ++ tm))) : Abs Γ F σ H G sl (ts ++ t :: tm) := A.temps (fun u hu => by
  simp only [List.mem_cons, List.mem_append] at hu ⊢
  rcases hu with h | h | h
  · exact .inr (.inl h)
  · exact .inl h
  · exact .inr (.inr h)) fun a => by rw [T.cnts, cnts_append, cnts_append, T.cnts]; omega
end

/-! ### arguments and displays -/
def aNil : EvA := fun δ => .ok [] δ
def aCons (f : Ev) (g : EvA) : EvA := fun δ => (f δ).bd fun d δ1 => (g δ1).bd fun ds δ2 => .ok (d :: ds) δ2
def eTup (f : EvA) : Ev := fun δ => (f δ).bd fun ds δ' => .ok (.tup (D.frzs ds)) δ'
def eLst (f : EvA) : Ev := fun δ => (f δ).bd fun ds δ' => .ok (.lst true ds) δ'
section
variable {X : Cx} {Γ : Gm} {E : WX} {W W' Wa Wb : List Nat} {e : Expr} {es : List Expr} {f fa fb : Ev} {g : EvA} {n : Nat} {pos : Pos}
theorem sa_nil : SA X Γ E [] 0 [] aNil := fun _ => pa_nil.imp fun σ H Q ⟨F, G, sl, tm, A, q⟩ => q H G sl [] A (Sub.refl G) rfl rfl rfl (Keep.refl _ _)
theorem sa_cons (h : SE X Γ E W e f) (h' : SA X Γ E W' n es g) (hs : starEach (e :: es) X.env = (false, eval e X.env) :: starEach es X.env) : SA X Γ E (W ++ W') (n + 1) (e :: es) (aCons f g) := fun hK =>
  (pa_cons (h hK) (h' hK) hs).imp fun σ H Q ⟨F, G, sl, tm, A, q⟩ => by
  refine ⟨F, G, sl, tm, A, ?_⟩
  unfold aCons at q
  cases hf : f (dsl sl) with
  | stuck => rw [hf] at q; exact q
  | exc c fs δ => rw [hf] at q; exact q
  | ok d δ1 =>
    rw [hf, bd_ok] at q
    intro H1 G1 sl1 t A1 s1 ed e1 k1
    refine ⟨F, G1, sl1, t :: tm, A1, ?_⟩
    rw [e1]
    cases hg : g δ1 with
    | stuck => rw [hg] at q; exact q
    | exc c fs δ => rw [hg] at q; exact PX.more (ex := [t]) q
    | ok ds δ2 =>
      rw [hg, bd_ok] at q
      intro H2 G2 sl2 ts A2 s2 hl eds e2 k2
      exact q H2 G2 sl2 (t :: ts) A2.swap (s1.trans s2) (by simp [hl]) (by rw [List.map_cons, ed, eds]) e2 (k1.trans k2)
theorem se_tup {x1 : Nat} (h : SA X Γ E W n es g) (hn : n ≤ sizeLine) : SE X Γ E W (.Tuple es x1 pos) (eTup g) := fun hK => (pe_tup (h hK)).imp fun σ H Q ⟨F, G, sl, tm, A, q⟩ => by
  refine ⟨F, G, sl, tm, A, ?_⟩
  unfold eTup at q
  cases hg : g (dsl sl) with
  | stuck => rw [hg] at q; exact q
  | exc c fs δ => rw [hg] at q; exact q
  | ok ds δ2 =>
    rw [hg, bd_ok] at q
    intro H2 G2 sl2 ts A2 s2 hl eds e2 k2
    refine ⟨by rw [List.length_map, hl]; exact hn, fun p hp => ?_⟩
    obtain ⟨G3, A3, s3⟩ := A2.newTup hp (by rw [hl]; exact hn)
    rw [T.ds_map, eds] at A3
    exact q _ G3 sl2 _ A3 (s2.trans s3) rfl e2 k2
theorem se_lst (h : SA X Γ E W n es g) (hn : n ≤ sizeLine) : SE X Γ E W (.List es pos) (eLst g) := fun hK => (pe_lst (h hK)).imp fun σ H Q ⟨F, G, sl, tm, A, q⟩ => by
  refine ⟨F, G, sl, tm, A, ?_⟩
  unfold eLst at q
  cases hg : g (dsl sl) with
  | stuck => rw [hg] at q; exact q
  | exc c fs δ => rw [hg] at q; exact q
  | ok ds δ2 =>
    rw [hg, bd_ok] at q
    intro H2 G2 sl2 ts A2 s2 hl eds e2 k2
    refine ⟨by rw [List.length_map, hl]; exact hn, fun p hp => ?_⟩
    have A3 := A2.newLst hp (by rw [hl]; exact hn)
    exact q _ G2 sl2 (.lst p ts) A3 s2 (by rw [T.d, T.ds_map, eds]) e2 k2
end
end L2.Pv
end
section
set_option Elab.async false
set_option linter.all false
set_option autoImplicit false
set_option maxRecDepth 100000
namespace L2.Pv
open PySem PySem.Spec PyProof.Rows

/-! ### a def: from its arguments' data to its answer's; io: the parameters that it may change -/
inductive FOut where
  | ok (d : D) (outs : List D)
  | exc (c : Nat) (fs : List D) (outs : List D)
  | stuck
def outsOf : List Nat → DS → Option (List D)
  | [], _ => some []
  | i :: io, δ => match δ[i]? with
    | some (some d) => (outsOf io δ).map (d :: ·)
    | _ => none
def finF (io : List Nat) (o : SOut) : FOut :=
  match o with
  | .rt d δ => match outsOf io δ with
    | some os => .ok d os
    | none => .stuck
  | .nx δ => match outsOf io δ with
    | some os => .ok .non os
    | none => .stuck
  | .exc c fs δ => match outsOf io δ with
    | some os => .exc c fs os
    | none => .stuck
  | _ => .stuck
def argD (n : Nat) (ds : List D) : DS := ds.map some ++ List.replicate (n - ds.length) none
def runF (io : List Nat) (n np : Nat) (f : Es) (ds : List D) : FOut := if ds.length = np then finF io (f (argD n ds)) else .stuck
/-- us stand where vs stood at io -/
def AtIo (io : List Nat) (us : List T) (vs : List V) : Prop := us.length = io.length ∧ ∀ (k i : Nat) (u : T), io[k]? = some i → us[k]? = some u → vs[i]? = some u.v
def FrOf (H G : Hp) (ts : List T) : Fr := ⟨noT H, G, fun a => 0 < T.cnts a ts⟩
def spF (Γ : Gm) (io : List Nat) (m : List D → FOut) : Sp := fun vs H Q E => ∃ G ts, vs = ts.map T.v ∧ Abs Γ (FrOf H G ts) [] H G [] ts ∧
  match m (ts.map T.d) with
  | .ok d os => ∀ H' G' t us, Abs Γ (FrOf H G ts) [] H' G' [] (t :: us) → t.d = d → us.map T.d = os → AtIo io us vs → Q t.v H'
  | .exc c fs os => ∀ H' G' us dx, Abs Γ (FrOf H G ts) [] H' G' [] us → us.map T.d = os → AtIo io us vs → ExR Γ H' G' c fs dx → E (.ref (Γ.ca c)) dx H'
  | .stuck => False

theorem cnts_pos {a : Addr} : ∀ {ts : List T}, 0 < T.cnts a ts → ∃ u ∈ ts, 0 < u.cnt a
  | [], h => by rw [T.cnts] at h; omega
  | t :: ts, h => by
    rw [T.cnts] at h
    by_cases q : 0 < t.cnt a
    · exact ⟨t, List.mem_cons_self, q⟩
    · obtain ⟨u, hu, c⟩ := cnts_pos (a := a) (ts := ts) (by omega)
      exact ⟨u, List.mem_cons_of_mem _ hu, c⟩
theorem cS_pos {a : Addr} : ∀ {sl : TS'}, 0 < cS a sl → ∃ (i : Nat) (u : T), sl[i]? = some (some u) ∧ 0 < u.cnt a
  | [], h => by simp [cS] at h
  | x :: sl, h => by
    by_cases q : 0 < cO a x
    · cases x with
      | none => simp [cO] at q
      | some u => exact ⟨0, u, by simp, q⟩
    · obtain ⟨i, u, hu, c⟩ := cS_pos (a := a) (sl := sl) (by simp only [cS, List.map_cons, List.sum_cons] at h ⊢; omega)
      exact ⟨i + 1, u, by simpa using hu, c⟩
mutual
theorem Good.noQuiet {Γ : Gm} {G H : Hp} : ∀ (t : T), Good Γ G H t → ∀ {a : Addr} {o : HO}, 0 < t.cnt a → H a = some o → Quiet o → False
  | .leaf v d, _, a, o, h, _, _ => by rw [T.cnt] at h; omega
  | .lst p xs, g, a, o, h, e, z => by
    by_cases q : p = a
    · subst q
      rw [g.1.1] at e
      cases e
      exact z
    · rw [T.cnt, if_neg q] at h
      exact Goods.noQuiet xs g.2 (by omega) e z
  | .dic p ks xs, g, a, o, h, e, z => by
    by_cases q : p = a
    · subst q
      rw [g.1.1] at e
      cases ks <;> cases e <;> exact z
    · rw [T.cnt, if_neg q] at h
      exact Goods.noQuiet xs g.2 (by omega) e z
  | .obj p dx c xs, g, a, o, h, e, z => by
    by_cases q : p = a
    · subst q
      rw [g.1.1] at e
      cases e
      exact z
    · by_cases q2 : dx = a
      · subst q2
        rw [g.1.2.1] at e
        cases e
        exact z
      · rw [T.cnt, if_neg q, if_neg q2] at h
        exact Goods.noQuiet xs g.2 (by omega) e z
theorem Goods.noQuiet {Γ : Gm} {G H : Hp} : ∀ (ts : List T), Goods Γ G H ts → ∀ {a : Addr} {o : HO}, 0 < T.cnts a ts → H a = some o → Quiet o → False
  | [], _, a, o, h, _, _ => by rw [T.cnts] at h; omega
  | t :: ts, g, a, o, h, e, z => by
    rw [T.cnts] at h
    by_cases q : 0 < t.cnt a
    · exact Good.noQuiet t g.1 q e z
    · exact Goods.noQuiet ts g.2 (by omega) e z
end
section
variable {Γ : Gm} {F : Fr} {σ : St} {H G : Hp} {sl : TS'} {tm ts us : List T} {t : T}
theorem Abs.noSlots (A : Abs Γ F σ H G sl tm) : Abs Γ F [] H G [] tm :=
  ⟨rfl, fun i t h => by simp at h, A.sub, A.keep, A.dom, A.g0, fun i t h => by simp at h, A.goodT, fun a => by have := A.one a; have : cS a [] = 0 := rfl; omega, fun a ha => A.sep a (by have : cS a [] = 0 := rfl; omega), A.fresh, A.tabs⟩
theorem Abs.temps' {us : List T} (A : Abs Γ F σ H G sl (us ++ [])) : Abs Γ F σ H G sl us := by rw [List.append_nil] at A; exact A
theorem outs_take : ∀ {io : List Nat} {sl : TS'} {tm : List T} {os : List D}, io.Nodup → Abs Γ F σ H G sl tm → outsOf io (dsl sl) = some os →
    ∃ us sl', Abs Γ F σ H G sl' (us ++ tm) ∧ us.map T.d = os ∧ us.length = io.length ∧ ∀ (k i : Nat) (u : T), io[k]? = some i → us[k]? = some u → σ[i]? = some (some u.v)
  | [], sl, tm, os, _, A, h => by
    cases h
    exact ⟨[], sl, A, rfl, rfl, fun k i u h => by simp at h⟩
  | i :: io, sl, tm, os, hn, A, h => by
    unfold outsOf at h
    split at h
    · rename_i d hd
      obtain ⟨t, ht, et⟩ := dsl_get hd
      have B := A.take ht
      have hi := (List.nodup_cons.mp hn).1
      have same : ∀ (l : List Nat), (∀ j ∈ l, j ≠ i) → outsOf l (dsl (sl.set i none)) = outsOf l (dsl sl) := by
        intro l
        induction l with
        | nil => intro _; rfl
        | cons j l ih =>
          intro hj
          have e : (dsl (sl.set i none))[j]? = (dsl sl)[j]? := by
            rw [dsl_set, List.getElem?_set_ne (fun z => hj j List.mem_cons_self z.symm)]
          unfold outsOf
          rw [e, ih fun k hk => hj k (List.mem_cons_of_mem _ hk)]
      cases ho : outsOf io (dsl sl) with
      | none => rw [ho] at h; cases h
      | some os' =>
        rw [ho] at h
        have h : some (d :: os') = some os := h
        cases h
        obtain ⟨us, sl', C, e1, e2, e3⟩ := outs_take (io := io) (List.nodup_cons.mp hn).2 B (by rw [same io fun j hj z => hi (z ▸ hj)]; exact ho)
        refine ⟨t :: us, sl', C.swap, by rw [List.map_cons, e1, et], by simp [e2], fun k j u h1 h2 => ?_⟩
        cases k with
        | zero =>
          simp at h1 h2
          subst h1 h2
          exact A.val i t ht
        | succ k => exact e3 k j u (by simpa using h1) (by simpa using h2)
    · cases h

theorem cS_args (a : Addr) (n : Nat) : ∀ ts : List T, cS a (ts.map some ++ List.replicate n none) = T.cnts a ts
  | [] => by
    induction n with
    | zero => rfl
    | succ n ih => simp only [List.map_nil, List.nil_append, List.replicate_succ, cS, List.map_cons, List.sum_cons, cO, Nat.zero_add] at ih ⊢; exact ih
  | t :: ts => by
    have ih := cS_args a n ts
    simp only [cS, List.map_cons, List.cons_append, List.sum_cons, cO, T.cnts] at ih ⊢
    omega
theorem get_args {n : Nat} {ts : List T} {i : Nat} {t : T} (h : (ts.map some ++ List.replicate n none)[i]? = some (some t)) : ts[i]? = some t := by
  by_cases hi : i < ts.length
  · rw [List.getElem?_append_left (by simpa using hi)] at h
    simpa using h
  · rw [List.getElem?_append_right (by simpa using hi)] at h
    have := List.mem_of_getElem? h
    simp [List.mem_replicate] at this
theorem Abs.enter {N : List Str} (A : Abs Γ F [] H G [] ts) : Abs Γ F (L2.start N (ts.map T.v)) H G (ts.map some ++ List.replicate (N.length - ts.length) none) [] := by
  refine ⟨by unfold L2.start; simp, fun i t h => ?_, A.sub, A.keep, A.dom, A.g0, fun i t h => A.goodT t (List.mem_of_getElem? (get_args h)), fun u hu => absurd hu (by simp), fun a => ?_, fun a ha => A.sep a ?_, A.fresh, A.tabs⟩
  · have e := get_args h
    have hi : i < ts.length := (List.getElem?_eq_some_iff.mp e).1
    unfold L2.start
    rw [List.getElem?_append_left (by simpa using hi)]
    simp [e]
  · rw [cS_args]
    have := A.one a
    have e1 : T.cnts a [] = 0 := rfl
    have e2 : cS a [] = 0 := rfl
    omega
  · rw [cS_args] at ha
    have e1 : T.cnts a [] = 0 := rfl
    have e2 : cS a [] = 0 := rfl
    omega
theorem dsl_args (n : Nat) (ts : List T) : dsl (ts.map some ++ List.replicate (n - ts.length) none) = argD n (ts.map T.d) := by
  unfold dsl argD
  simp [List.map_append, List.map_map]

/-- from the caller's state to the callee's -/
theorem Abs.toCall (A : Abs Γ F σ H G sl (ts ++ tm)) : Abs Γ (FrOf H G ts) [] H G [] ts := by
  have e0 : ∀ a, cS a [] = 0 := fun _ => rfl
  refine ⟨rfl, fun i t h => by simp at h, A.sub, fun a o h _ _ => (noT_sub h).1, fun a h => by
    cases q : noT H a with
    | none => exact absurd q h
    | some o => exact ⟨o, noT_sub q⟩, ⟨Sub.refl G, A.g0.2⟩, fun i t h => by simp at h, fun u hu => A.goodT u (List.mem_append_left _ hu), fun a => ?_, fun a ha => ?_, fun a h => .inl h, A.tabs⟩
  · have := A.one a; rw [cnts_append] at this; rw [e0]; omega
  · rw [e0] at ha
    obtain ⟨h1, h2, _⟩ := A.sep a (by rw [cnts_append]; omega)
    exact ⟨h1, h2, .inr (by show 0 < T.cnts a ts; omega)⟩
/-- and back -/
theorem Abs.back {H' G' : Hp} (A : Abs Γ F σ H G sl (ts ++ tm)) (B : Abs Γ (FrOf H G ts) [] H' G' [] us) : Abs Γ F σ H' G' sl (us ++ tm) ∧ Sub G G' := by
  have e0 : ∀ a, cS a [] = 0 := fun _ => rfl
  have hG : Sub G G' := B.g0.1
  -- what is ours stands
  have ours : ∀ a, 0 < cS a sl + T.cnts a tm → T.cnts a ts = 0 ∧ G a = none ∧ ∃ o, H a = some o ∧ NTbl o := fun a ha => by
    have h1 := A.one a
    rw [cnts_append] at h1
    obtain ⟨h2, h3, _⟩ := A.sep a (by rw [cnts_append]; omega)
    have hu : ∃ u : T, 0 < u.cnt a ∧ Good Γ G H u := by
      rcases Nat.lt_or_ge 0 (T.cnts a tm) with q2 | q2
      · obtain ⟨u, hu, c⟩ := cnts_pos q2
        exact ⟨u, c, A.goodT u (List.mem_append_right _ hu)⟩
      · obtain ⟨i, u, hu, c⟩ := cS_pos (a := a) (sl := sl) (by omega)
        exact ⟨u, c, A.goodS i u hu⟩
    obtain ⟨u, c, gu⟩ := hu
    cases q : H a with
    | none => exact absurd q h3
    | some o => exact ⟨by omega, h2, o, rfl, fun ps z => by subst z; exact Good.noTbl u gu c q⟩
  have nn : ∀ {a : Addr} {o : HO}, H a = some o → NTbl o → (FrOf H G ts).H0 a = some o := fun h n => noT_of h n
  have keepT : ∀ u : T, (∀ a, 0 < u.cnt a → 0 < cS a sl + T.cnts a tm) → Good Γ G H u → Good Γ G' H' u := fun u hu g => g.mono hG u fun a ha => by
    obtain ⟨h1, _, o, hH, hn⟩ := ours a (hu a ha)
    rw [hH]
    exact B.keep a o (nn hH hn) hn (show ¬ 0 < T.cnts a ts by omega)
  have old : ∀ {a : Addr}, F.H0 a ≠ none → (FrOf H G ts).H0 a ≠ none := fun {a} h => by
    obtain ⟨o, q, n⟩ := A.dom a h
    rw [nn q n]
    exact fun z => nomatch z
  refine ⟨⟨A.len, A.val, B.sub, fun a o h1 h2 h3 => ?_, fun a h => B.dom a (old h), A.g0.trans hG B.g0.2.2, fun i u h => keepT u (fun a ha => ?_) (A.goodS i u h), fun u hu => ?_, fun a => ?_, fun a ha => ?_, fun a ha => ?_, B.tabs⟩, hG⟩
  · refine B.keep a o (nn (A.keep a o h1 h2 h3) h2) h2 fun z => ?_
    have z : 0 < T.cnts a ts := z
    rcases (A.sep a (by rw [cnts_append]; omega)).2.2 with q | q
    · rw [h1] at q; cases q
    · exact h3 q
  · have := cS_get (a := a) h; omega
  · rcases List.mem_append.mp hu with hu | hu
    · exact B.goodT u hu
    · exact keepT u (fun a ha => by have := cnts_mem (a := a) hu; omega) (A.goodT u (List.mem_append_right _ hu))
  · rw [cnts_append]
    have h1 := A.one a
    rw [cnts_append] at h1
    have h2 := B.one a
    rw [e0] at h2
    by_cases q : 0 < cS a sl + T.cnts a tm
    · by_cases q2 : 0 < T.cnts a us
      · obtain ⟨h3, _, o5, h5, n5⟩ := ours a q
        rcases (B.sep a (by rw [e0]; omega)).2.2 with z | z
        · rw [nn h5 n5] at z; cases z
        · have z : 0 < T.cnts a ts := z
          omega
      · omega
    · omega
  · rw [cnts_append] at ha
    by_cases q : 0 < cS a sl + T.cnts a tm
    · obtain ⟨h1, h2, o3, h3, n3⟩ := ours a q
      have d3 := B.dom a (by rw [nn h3 n3]; exact fun z => nomatch z)
      refine ⟨?_, fun z => (by obtain ⟨o, q, _⟩ := d3; rw [z] at q; cases q), (A.sep a (by rw [cnts_append]; omega)).2.2⟩
      cases hg : G' a with
      | none => rfl
      | some o =>
        rcases B.fresh a (by rw [hg]; exact fun z => nomatch z) with z | z | z | ⟨o', z, zq⟩
        · exact absurd h2 z
        · rw [nn h3 n3] at z; cases z
        · have z : 0 < T.cnts a ts := z
          omega
        · exfalso
          have hT := B.sub _ _ z
          have hu : ∃ u : T, 0 < u.cnt a ∧ Good Γ G H u := by
            rcases Nat.lt_or_ge 0 (T.cnts a tm) with q2 | q2
            · obtain ⟨u, hu, c⟩ := cnts_pos q2
              exact ⟨u, c, A.goodT u (List.mem_append_right _ hu)⟩
            · obtain ⟨i, u, hu, c⟩ := cS_pos (a := a) (sl := sl) (by omega)
              exact ⟨u, c, A.goodS i u hu⟩
          obtain ⟨u, c, gu⟩ := hu
          have k := B.keep a o3 (nn h3 n3) n3 (show ¬ 0 < T.cnts a ts by omega)
          rw [hT] at k
          cases k
          exact Good.noQuiet u gu c h3 zq
    · obtain ⟨h1, h2, h3⟩ := B.sep a (by rw [e0]; omega)
      refine ⟨h1, h2, ?_⟩
      rcases h3 with z | z
      · left
        cases hF : F.H0 a with
        | none => rfl
        | some o => exact absurd z (old (by rw [hF]; exact fun z => nomatch z))
      · have z : 0 < T.cnts a ts := z
        exact (A.sep a (by rw [cnts_append]; omega)).2.2
  · rcases B.fresh a ha with z | z | z | z
    · rcases A.fresh a z with z | z | z | ⟨o', z, zq⟩
      · exact .inl z
      · exact .inr (.inl z)
      · exact .inr (.inr (.inl z))
      · exact .inr (.inr (.inr ⟨o', hG _ _ z, zq⟩))
    · right; left
      cases hF : F.H0 a with
      | none => rfl
      | some o => exact absurd z (old (by rw [hF]; exact fun z => nomatch z))
    · have z : 0 < T.cnts a ts := z
      rcases (A.sep a (by rw [cnts_append]; omega)).2.2 with q | q
      · exact .inr (.inl q)
      · exact .inr (.inr (.inl q))
    · exact .inr (.inr (.inr z))
end

/-! ### a def keeps its promise -/
section
variable {P : Program} {w : World} {K : PySem.W.Frag} {mg : Str → Option Value} {base : Heap} {Γ : Gm}
theorem start_get {N : List Str} {vs : List V} {i : Nat} {v : V} (hi : i < vs.length) (h : (L2.start N vs)[i]? = some (some v)) : vs[i]? = some v := by
  unfold L2.start at h
  rw [List.getElem?_append_left (by simpa using hi)] at h
  simpa using h
theorem spF_len {N ps : List Str} {io : List Nat} {m : List D → FOut} {g : Es} (hm : ∀ ds, m ds = runF io N.length ps.length g ds) : ∀ vs H Q E, spF Γ io m vs H Q E → vs.length = ps.length := fun vs H Q E h => by
  obtain ⟨G, ts, rfl, A, q⟩ := h
  rw [hm] at q
  unfold runF at q
  by_cases e : (ts.map T.d).length = ps.length
  · rw [List.length_map] at e ⊢
    exact e
  · rw [if_neg e] at q
    exact q.elim
theorem spF_start {N ps : List Str} {io : List Nat} {m : List D → FOut} {g : Es} (hn : io.Nodup) (hio : ∀ i ∈ io, i < ps.length) (hm : ∀ ds, m ds = runF io N.length ps.length g ds) {vs : List V} {H : Hp} {Q : VK} {E : XK} (hsp : spF Γ io m vs H Q E) :
    tS Γ (fun cls d _ H' => E cls d H') io g { nx := fun _ H' => Q .non H', rt := Q } (L2.start N vs) H := by
  have hlen := spF_len hm vs H Q E hsp
  obtain ⟨G, ts, rfl, Ab, q⟩ := hsp
  rw [List.length_map] at hlen
  rw [hm] at q
  unfold runF at q
  rw [if_pos (by rw [List.length_map]; exact hlen)] at q
  refine ⟨_, G, _, [], Ab.enter, ?_⟩
  rw [dsl_args]
  have at_io : ∀ {σ' : St} {us : List T}, Prot io (L2.start N (ts.map T.v)) σ' → us.length = io.length → (∀ (k i : Nat) (u : T), io[k]? = some i → us[k]? = some u → σ'[i]? = some (some u.v)) → AtIo io us (ts.map T.v) := fun {σ' us} p h1 h2 => ⟨h1, fun k i u e1 e2 => by
    have hi := hio i (List.mem_of_getElem? e1)
    refine start_get (N := N) (by rw [List.length_map, hlen]; exact hi) ?_
    rw [← p i (List.mem_of_getElem? e1)]
    exact h2 k i u e1 e2⟩
  cases hg : g (argD N.length (ts.map T.d)) with
  | stuck => rw [hg] at q; exact q
  | bk δ => rw [hg] at q; exact q.elim
  | ct δ => rw [hg] at q; exact q.elim
  | rt d δ =>
    rw [hg] at q
    unfold finF at q
    dsimp only at q
    intro σ' H' G' sl' t A' s' p ed e
    cases ho : outsOf io δ with
    | none => rw [ho] at q; exact q.elim
    | some os =>
      rw [ho] at q
      obtain ⟨us, sl2, B, e1, e2, e3⟩ := outs_take hn A' (by rw [e]; exact ho)
      exact q H' G' t us B.swap.noSlots.temps' ed e1 (at_io p e2 e3)
  | nx δ =>
    rw [hg] at q
    unfold finF at q
    dsimp only at q
    intro σ' H' G' sl' A' s' p e
    cases ho : outsOf io δ with
    | none => rw [ho] at q; exact q.elim
    | some os =>
      rw [ho] at q
      obtain ⟨us, sl2, B, e1, e2, e3⟩ := outs_take hn A' (by rw [e]; exact ho)
      exact q H' G' (.leaf .non .non) us (B.noSlots.temps'.leaf (v := .non) (d := .non) rfl) rfl e1 (at_io p e2 e3)
  | exc c fs δ =>
    rw [hg] at q
    unfold finF at q
    dsimp only at q
    intro σ' p H' G' sl' dx A' e x
    cases ho : outsOf io δ with
    | none => rw [ho] at q; exact q.elim
    | some os =>
      rw [ho] at q
      obtain ⟨us, sl2, B, e1, e2, e3⟩ := outs_take hn A' (by rw [e]; exact ho)
      exact q H' G' us dx B.noSlots.temps' e1 (at_io p e2 e3) x
theorem fn_ok {x qual : Str} {st : Stmt} {f : Addr} {fd : FuncData} {N ps : List Str} {k : Nat} {io : List Nat} {m : List D → FOut} {g : Es} (F : Fun K x qual st f fd) (S : FnScope N ps (defScope st)) (hK : K = Γ.K) (hn : io.Nodup) (hio : ∀ i ∈ io, i < ps.length)
    (hm : ∀ ds, m ds = runF io N.length ps.length g ds)
    (body : ∀ (cdv : Value) (A : Around) (outer : List Env) (s : Shared) (H : Hp) (E : XK), Room k (A.deeper (envOfC qual (defScope st) s.heap.objs.size f cdv)) →
      SB (cxOf (L2.CX P w) P w K mg base N qual (defScope st) f cdv A outer s H E) Γ (fun cls d _ H' => E cls d H') io (defBody st) g) : FnOk P w K mg base (L2.CX P w) (k + 1) f fd ps (spF Γ io m) := by
  exact F.okX S (spF_len hm) fun cdv A outer s H vs Q E hr hsp => ⟨_, body cdv A outer s H E hr hK, spF_start hn hio hm hsp⟩
end

/-! ### calls of defs -/
/-- the answer of a def without changed parameters -/
def calF (m : List D → FOut) (g : EvA) : Ev := fun δ => (g δ).bd fun ds δ' => match m ds with
  | .ok d _ => .ok d δ'
  | .exc c fs _ => .exc c fs δ'
  | .stuck => .stuck
/-- .. of a def that may change its first parameter, the name j here -/
def calH (m : List D → FOut) (j : Nat) (g : EvA) : Ev := fun δ => match δ[j]? with
  | some (some _) => (g δ).bd fun ds δ' => match δ'[j]? with
    | some (some h) => match m (h :: ds) with
      | .ok d [h'] => .ok d (δ'.set j (some h'))
      | .exc c fs [h'] => .exc c fs (δ'.set j (some h'))
      | _ => .stuck
    | _ => .stuck
  | _ => .stuck
section
variable {X : Cx} {Γ : Gm} {E : WX} {W : List Nat} {k n : Nat} {f : Addr} {fd : FuncData} {ps : List Str} {m : List D → FOut} {x : Str} {p pos : Pos} {e : Expr} {es : List Expr} {g : EvA}
theorem nil_of_len {α : Type} {l : List α} (h : l.length = 0) : l = [] := List.eq_nil_of_length_eq_zero h
theorem calF_run {σ : St} {H : Hp} {Q : VK} (h : tE Γ E W (calF m g) σ H Q) : tA Γ E W n g σ H fun vs H1 => spF Γ [] m (vs ++ []) H1 Q (fun cls d H' => E cls d σ H') := by
  obtain ⟨F, G, sl, tm, A, q⟩ := h
  refine ⟨F, G, sl, tm, A, ?_⟩
  unfold calF at q
  cases hg : g (dsl sl) with
  | stuck => rw [hg] at q; exact q
  | exc c fs δ => rw [hg] at q; exact q
  | ok ds δ =>
    rw [hg, bd_ok] at q
    intro H1 G1 sl1 ts A1 s1 hl eds e1 k1
    refine ⟨G1, ts, by rw [List.append_nil], A1.toCall, ?_⟩
    rw [eds]
    cases hm : m ds with
    | stuck => rw [hm] at q; exact q
    | ok d os =>
      rw [hm] at q
      intro H' G' t us B ed eos hio
      have : us = [] := nil_of_len hio.1
      subst this
      obtain ⟨C, s2⟩ := A1.back B
      exact q H' G' sl1 t C (s1.trans s2) ed e1 k1
    | exc c fs os =>
      rw [hm] at q
      intro H' G' us dx B eos hio hx
      have : us = [] := nil_of_len hio.1
      subst this
      obtain ⟨C, s2⟩ := A1.back B
      exact q H' G' sl1 dx C e1 hx
theorem se_cal (Fo : FnOk X.prog X.w X.K X.mg X.base (L2.CX X.prog X.w) k f fd ps (spF Γ [] m)) (hr : Room k X.A) (hg : Gl X x) (hm : X.mg x = some (.ref f)) (hk : PySem.W.keepIn X.K (.ref f) = true) (hb : Binds X.K fd ps []) (tk : Takes X E)
    (ha : SA X Γ E W n (e :: es) g) (hdb : (x == ("__debug__" : Str)) = false) (he : starEach (e :: es) X.env = (false, eval e X.env) :: starEach es X.env) (hpl : (backTo pos (starEach es X.env)).any (·.1) = false) :
    SE X Γ E W (.Call (.Name x p) (e :: es) [] pos) (calF m g) := fun hK =>
  (pe_callSD (E := fun σ cls d H => E cls d σ H) Fo hr hg hm hk hb .nil (fun σ => passAt tk σ) (ha hK) hdb he hpl).imp fun σ H Q h => calF_run h
theorem calH_run {j : Nat} {σ : St} {H : Hp} {Q : VK} (h : tE Γ E (W ++ [j]) (calH m j g) σ H Q) : ∃ v, σ[j]? = some (some v) ∧ tA Γ E W n g σ H fun vs H1 => spF Γ [0] m ((v :: vs) ++ []) H1 Q (fun cls d H' => E cls d σ H') := by
  obtain ⟨F, G, sl, tm, A, q⟩ := h
  unfold calH at q
  cases hd0 : (dsl sl)[j]? with
  | none => rw [hd0] at q; exact q.elim
  | some o0 =>
  cases o0 with
  | none => rw [hd0] at q; exact q.elim
  | some h0 =>
    rw [hd0] at q
    dsimp only at q
    obtain ⟨u0, hu0, eu0⟩ := dsl_get hd0
    have hv0 := A.val j u0 hu0
    refine ⟨u0.v, hv0, ?_⟩
    generalize u0.v = v at hv0
    have hv : ∀ w, σ[j]? = some (some w) → w = v := fun w hw => by
      rw [hv0] at hw
      cases hw
      rfl
    refine ⟨F, G, sl, tm, A, ?_⟩
    cases hg : g (dsl sl) with
    | stuck => rw [hg] at q; exact q
    | exc c fs δ => rw [hg] at q; exact q
    | ok ds δ =>
      rw [hg, bd_ok] at q
      intro H1 G1 sl1 ts A1 s1 hl eds e1 k1
      cases hd : δ[j]? with
      | none => rw [hd] at q; exact q.elim
      | some o =>
        cases o with
        | none => rw [hd] at q; exact q.elim
        | some h =>
          rw [hd] at q
          dsimp only at q
          obtain ⟨u, hu, eu⟩ := dsl_get (by rw [e1]; exact hd)
          have hσ := A1.val j u hu
          have hi : j < sl1.length := (List.getElem?_eq_some_iff.mp hu).1
          have B1 : Abs Γ F σ H1 G1 (sl1.set j none) ((u :: ts) ++ tm) := A1.take hu
          refine ⟨G1, u :: ts, by rw [List.append_nil, List.map_cons, hv _ hσ], B1.toCall, ?_⟩
          rw [List.map_cons, eds, eu]
          -- what comes back goes to its slot
          have bring : ∀ {H' G' : Hp} {u' : T} {tm' : List T}, Abs Γ F σ H' G' (sl1.set j none) (u' :: tm') → u'.v = u.v → Abs Γ F σ H' G' (sl1.set j (some u')) tm' := fun {H' G' u' tm'} C ev => by
            have C2 := C.store (i := j) (by simpa using hi)
            rw [List.set_set] at C2
            have : σ.set j (some u'.v) = σ := by
              apply List.ext_getElem?
              intro i
              by_cases e : j = i
              · subst e
                rw [List.getElem?_set_self (List.getElem?_eq_some_iff.mp hσ).1, hσ, ev]
              · rw [List.getElem?_set_ne e]
            rw [this] at C2
            exact C2
          have keepj : ∀ u' : T, Keep (W ++ [j]) sl (sl1.set j (some u')) := fun u' i hi' => by
            have : j ≠ i := fun z => hi' (by simp [z])
            rw [List.getElem?_set_ne this]
            exact k1 i fun z => hi' (List.mem_append_left _ z)
          cases hm : m (h :: ds) with
          | stuck => rw [hm] at q; exact q
          | ok d os =>
            rw [hm] at q
            intro H' G' t us B ed eos hio
            cases us with
            | nil => exact absurd hio.1 (by simp)
            | cons u' us =>
              have : us = [] := by
                have := hio.1
                simp at this
                exact this
              subst this
              have eos : [u'.d] = os := eos
              subst eos
              obtain ⟨C, s2⟩ := B1.back B
              have ev : u'.v = u.v := by
                have := hio.2 0 0 u' rfl rfl
                simp at this
                rw [← this]
                exact (hv _ hσ).symm
              have C1 : Abs Γ F σ H' G' (sl1.set j none) (u' :: t :: tm) := C.temps (fun z hz => by simp at hz ⊢; rcases hz with h | h | h <;> simp [h]) fun a => by simp only [List.cons_append, List.nil_append, T.cnts]; omega
              exact q H' G' _ t (bring C1 ev) (s1.trans s2) ed (by rw [dsl_set, e1]; rfl) (keepj u')
          | exc c fs os =>
            rw [hm] at q
            intro H' G' us dx B eos hio hx
            cases us with
            | nil => exact absurd hio.1 (by simp)
            | cons u' us =>
              have : us = [] := by
                have := hio.1
                simp at this
                exact this
              subst this
              have eos : [u'.d] = os := eos
              subst eos
              obtain ⟨C, s2⟩ := B1.back B
              have ev : u'.v = u.v := by
                have := hio.2 0 0 u' rfl rfl
                simp at this
                rw [← this]
                exact (hv _ hσ).symm
              exact q H' G' _ dx (bring C ev) (by rw [dsl_set, e1]; rfl) hx
theorem se_calH {j : Nat} {y : Str} {py : Pos} (hj : PE X (.Name y py) (tVar j)) (Fo : FnOk X.prog X.w X.K X.mg X.base (L2.CX X.prog X.w) k f fd ps (spF Γ [0] m)) (hr : Room k X.A) (hg : Gl X x) (hm : X.mg x = some (.ref f)) (hk : PySem.W.keepIn X.K (.ref f) = true) (hb : Binds X.K fd ps []) (tk : Takes X E)
    (ha : SA X Γ E W n es g) (hdb : (x == ("__debug__" : Str)) = false) (he : starEach (.Name y py :: es) X.env = (false, eval (.Name y py) X.env) :: starEach es X.env) (hpl : (backTo pos (starEach es X.env)).any (·.1) = false) :
    SE X Γ E (W ++ [j]) (.Call (.Name x p) (.Name y py :: es) [] pos) (calH m j g) := fun hK =>
  (pe_callSD (E := fun σ cls d H => E cls d σ H) Fo hr hg hm hk hb .nil (fun σ => passAt tk σ) (pa_cons hj (ha hK) he) hdb he hpl).imp fun σ H Q h => calH_run h
end
end L2.Pv
end
section
set_option Elab.async false
set_option linter.all false
set_option autoImplicit false
set_option maxRecDepth 100000
namespace L2.Pv
open PySem PySem.Spec PyProof.Rows

/-! ### what is walked -/
theorem _root_.L2.PI.or {X : Cx} {tg e : Expr} {t t' : TI} (h : PI X tg e t) (h' : PI X tg e t') : PI X tg e (fun σ H R => t σ H R ∨ t' σ H R) :=
  ⟨fun pins s σ H R I q => q.elim (h.run pins s σ H R I) (h'.run pins s σ H R I)⟩
def iSeq (f : Ev) : EvA := fun δ => (f δ).bd fun d δ' => match d with
  | .lst _ ds => .ok (D.frzs ds) δ'
  | .tup ds => .ok ds δ'
  | _ => .stuck
theorem gives_list {Γ : Gm} {G : Hp} {a : Addr} {vs : List V} {ds : List D} (h : G a = some (.lst vs)) (r : Reps Γ G vs ds) : Gives Γ G (Itl Γ.K a) ds := fun F σ2 H2 G2 sl2 tm2 A2 s i => by
  have hq : SqL Γ.K H2 a vs := SqL.of (A2.sub _ _ (s _ _ h))
  refine ⟨fun d hd => ?_, fun hd => ⟨vs, hq, by rw [r.len]; exact List.getElem?_eq_none_iff.mp hd⟩⟩
  obtain ⟨v, hv, rv⟩ := r.get hd
  refine ⟨⟨vs, v, hq, hv⟩, fun x H3 ⟨e, y⟩ => ?_⟩
  subst e
  have ex := (y vs hq).symm.trans hv
  cases ex
  exact ⟨G2, .leaf v d, A2.leaf (rv.mono s d), Sub.refl _, rfl, rfl⟩
theorem gives_tup {Γ : Gm} {G : Hp} {a : Addr} {vs : List V} {ds : List D} (h : SqT Γ.K G a vs) (r : Reps Γ G vs ds) : Gives Γ G (Itt Γ.K a) ds := fun F σ2 H2 G2 sl2 tm2 A2 s i => by
  have hq : SqT Γ.K H2 a vs := sqT_mono (s.trans A2.sub) h
  refine ⟨fun d hd => ?_, fun hd => ⟨vs, hq, by rw [r.len]; exact List.getElem?_eq_none_iff.mp hd⟩⟩
  obtain ⟨v, hv, rv⟩ := r.get hd
  refine ⟨⟨vs, v, hq, hv⟩, fun x H3 ⟨e, y⟩ => ?_⟩
  subst e
  have ex := (y vs hq).symm.trans hv
  cases ex
  exact ⟨G2, .leaf v d, A2.leaf (rv.mono s d), Sub.refl _, rfl, rfl⟩
section
variable {X : Cx} {Γ : Gm} {E : WX} {W : List Nat} {tg e : Expr} {f : Ev}
theorem si_seq (h : SE X Γ E W e f) : SI X Γ E W tg e (iSeq f) := fun hK => ((pi_list (h hK)).or (pi_tup (h hK))).imp fun σ H R ⟨F, G, sl, tm, A, q⟩ => by
  unfold iSeq at q
  cases hf : f (dsl sl) with
  | stuck => rw [hf] at q; exact q.elim
  | exc c fs δ =>
    left
    refine ⟨F, G, sl, tm, A, ?_⟩
    rw [hf] at q ⊢
    exact q
  | ok d δ =>
    rw [hf, bd_ok] at q
    cases d with
    | lst o ds =>
      left
      refine ⟨F, G, sl, tm, A, ?_⟩
      rw [hf]
      intro H1 G1 sl1 t A1 s1 ed e1 k1
      obtain ⟨G2, B, s2⟩ := A1.freeze1
      have r : Rep Γ G2 t.v t.d.frz := B.goodT _ List.mem_cons_self
      rw [ed] at r
      obtain ⟨⟨_, hz⟩, a, vs, ev, hq, rs⟩ := r
      refine ⟨a, ev, ⟨vs, SqL.of (B.sub _ _ hq)⟩, ?_⟩
      rw [hK]
      exact q (Itl Γ.K a) H1 G2 sl1 B.drop (s1.trans s2) e1 k1 (gives_list hq rs) hz
    | tup ds =>
      right
      refine ⟨F, G, sl, tm, A, ?_⟩
      rw [hf]
      intro H1 G1 sl1 t A1 s1 ed e1 k1
      have g := A1.goodT t List.mem_cons_self
      have el := leaf_of_own g (by rw [ed]; rfl)
      rw [el, ed] at g
      obtain ⟨hz, a, vs, ev, hq, rs⟩ := g
      refine ⟨a, ev, ⟨vs, by rw [hK]; exact sqT_of A1.sub hq⟩, ?_⟩
      rw [hK]
      exact q (Itt Γ.K a) H1 G1 sl1 A1.drop s1 e1 k1 (gives_tup (.inl (.inl hq)) rs) hz
    | _ => exact q.elim
/-- ints lo, lo + 1, .. -/
def rangeD (lo : Int) (n : Nat) : List D := (List.range n).map fun (i : Nat) => D.int (lo + i)
theorem gives_range {Γ : Gm} {G : Hp} {lo : Int} {n : Nat} : Gives Γ G (Itr lo n) (rangeD lo n) := fun F σ2 H2 G2 sl2 tm2 A2 s i => by
  unfold rangeD
  refine ⟨fun d hd => ?_, fun hd => ?_⟩
  · rw [List.getElem?_map] at hd
    cases hr : (List.range n)[i]? with
    | none => rw [hr] at hd; cases hd
    | some j =>
      rw [hr] at hd
      have hd : some (D.int (lo + j)) = some d := hd
      cases hd
      obtain ⟨hi, ej⟩ := List.getElem?_eq_some_iff.mp hr
      rw [List.length_range] at hi
      rw [List.getElem_range] at ej
      subst ej
      refine ⟨hi, fun x H3 ⟨e, y⟩ => ?_⟩
      subst e y
      exact ⟨G2, .leaf (.int (lo + i)) (.int (lo + i)), A2.leaf (show Rep Γ G2 (.int (lo + i)) (.int (lo + i)) from rfl), Sub.refl _, rfl, rfl⟩
  · have := List.getElem?_eq_none_iff.mp hd
    simp at this
    exact this
theorem rangeD_len (lo : Int) (n : Nat) : (rangeD lo n).length = n := by unfold rangeD; simp
def iRng (g : EvA) : EvA := fun δ => (g δ).bd fun ds δ' => match ds with
  | [.int j] => if j.natAbs ≤ sizeLine then .ok (rangeD 0 j.toNat) δ' else .stuck
  | [.int i, .int j] => if i.natAbs ≤ sizeLine ∧ j.natAbs ≤ sizeLine ∧ (j - i).toNat ≤ sizeLine then .ok (rangeD i (j - i).toNat) δ' else .stuck
  | _ => .stuck
theorem int_of {Γ : Gm} {G H : Hp} {t : T} {i : Int} (g : Good Γ G H t) (e : t.d = .int i) : t.v = .int i := by
  have el := leaf_of_own g (by rw [e]; rfl)
  rw [el, e] at g
  exact g
theorem bl_of {Γ : Gm} {G H : Hp} {t : T} {i : Bool} (g : Good Γ G H t) (e : t.d = .bl i) : t.v = .bl i := by
  have el := leaf_of_own g (by rw [e]; rfl)
  rw [el, e] at g
  exact g
theorem non_of {Γ : Gm} {G H : Hp} {t : T} (g : Good Γ G H t) (e : t.d = .non) : t.v = .non := by
  have el := leaf_of_own g (by rw [e]; rfl)
  rw [el, e] at g
  exact g
theorem str_of {Γ : Gm} {G H : Hp} {t : T} {x : Str} (g : Good Γ G H t) (e : t.d = .str x) : t.v = .str x := by
  have el := leaf_of_own g (by rw [e]; rfl)
  rw [el, e] at g
  exact g
theorem sz62 {j : Int} (h : j.natAbs ≤ sizeLine) : -(2 ^ 62) ≤ j ∧ j < 2 ^ 62 := by
  rw [sizeLine_eq] at h
  omega
theorem si_rng1 {a : Expr} {g : EvA} {p pos : Pos} (hg : Gl X "range") (hm : X.mg "range" = none) (ha : SA X Γ E W 1 [a] g) (hs : starEach [a] X.env = [(false, eval a X.env)]) : SI X Γ E W tg (.Call (.Name "range" p) [a] [] pos) (iRng g) := fun hK =>
  (pi_range1 hg hm (ha hK) hs).imp fun σ H R ⟨F, G, sl, tm, A, q⟩ => by
  refine ⟨F, G, sl, tm, A, ?_⟩
  unfold iRng at q
  cases hf : g (dsl sl) with
  | stuck => rw [hf] at q; exact q
  | exc c fs δ => rw [hf] at q; exact q
  | ok ds δ =>
    rw [hf, bd_ok] at q
    intro H1 G1 sl1 ts A1 s1 hl eds e1 k1
    match ts, hl with
    | [t], _ =>
      have eds : [t.d] = ds := eds
      subst eds
      cases ed : t.d with
      | int j =>
        rw [ed] at q
        dsimp only at q
        by_cases hz : j.natAbs ≤ sizeLine
        · rw [if_pos hz] at q
          obtain ⟨z1, z2⟩ := sz62 hz
          refine ⟨j, by rw [List.map_cons, int_of (A1.goodT t List.mem_cons_self) ed]; rfl, z1, z2, ?_⟩
          exact q (Itr 0 j.toNat) H1 G1 sl1 A1.drop s1 e1 k1 gives_range (by rw [rangeD_len]; omega)
        · rw [if_neg hz] at q; exact q.elim
      | _ => rw [ed] at q; exact q.elim
theorem si_rng2 {a b : Expr} {g : EvA} {p pos : Pos} (hg : Gl X "range") (hm : X.mg "range" = none) (ha : SA X Γ E W 2 [a, b] g) (hs : starEach [a, b] X.env = [(false, eval a X.env), (false, eval b X.env)]) (hs2 : starEach [b] X.env = [(false, eval b X.env)]) :
    SI X Γ E W tg (.Call (.Name "range" p) [a, b] [] pos) (iRng g) := fun hK =>
  (pi_range2 hg hm (ha hK) hs hs2).imp fun σ H R ⟨F, G, sl, tm, A, q⟩ => by
  refine ⟨F, G, sl, tm, A, ?_⟩
  unfold iRng at q
  cases hf : g (dsl sl) with
  | stuck => rw [hf] at q; exact q
  | exc c fs δ => rw [hf] at q; exact q
  | ok ds δ =>
    rw [hf, bd_ok] at q
    intro H1 G1 sl1 ts A1 s1 hl eds e1 k1
    match ts, hl with
    | [t, u], _ =>
      have eds : [t.d, u.d] = ds := eds
      subst eds
      cases ed : t.d with
      | int i =>
        cases ed2 : u.d with
        | int j =>
          rw [ed, ed2] at q
          dsimp only at q
          by_cases hz : i.natAbs ≤ sizeLine ∧ j.natAbs ≤ sizeLine ∧ (j - i).toNat ≤ sizeLine
          · rw [if_pos hz] at q
            obtain ⟨z1, z2⟩ := sz62 hz.1
            obtain ⟨z3, z4⟩ := sz62 hz.2.1
            refine ⟨i, j, by rw [List.map_cons, List.map_cons, int_of (A1.goodT t (by simp)) ed, int_of (A1.goodT u (by simp)) ed2]; rfl, ⟨z1, z2, z3, z4⟩, ?_⟩
            exact q (Itr i (j - i).toNat) H1 G1 sl1 A1.drop.drop s1 e1 k1 gives_range (by rw [rangeD_len]; exact hz.2.2)
          · rw [if_neg hz] at q; exact q.elim
        | _ => rw [ed, ed2] at q; exact q.elim
      | _ => rw [ed] at q; exact q.elim
end

/-! ### comprehensions -/
def wipeG {α : Type} (l : List (Option α)) : List Nat → List (Option α)
  | [] => l
  | v :: vs => (wipeG l vs).set v none
def restG {α : Type} (l0 l : List (Option α)) : List Nat → List (Option α)
  | [] => l
  | v :: vs => restG l0 (l.set v ((wipeG l0 vs)[v]?.join)) vs
theorem wipe_eq (σ : St) : ∀ vs, wipe σ vs = wipeG σ vs
  | [] => rfl
  | v :: vs => by rw [wipe, wipeG, wipe_eq σ vs]
theorem wipeG_len {α : Type} (l : List (Option α)) : ∀ vs, (wipeG l vs).length = l.length
  | [] => rfl
  | v :: vs => by rw [wipeG, List.length_set, wipeG_len l vs]
theorem wipeG_get {α : Type} (l : List (Option α)) : ∀ (vs : List Nat) (i : Nat), (wipeG l vs)[i]? = if i ∈ vs ∧ i < l.length then some none else l[i]?
  | [], i => by simp [wipeG]
  | v :: vs, i => by
    rw [wipeG]
    by_cases e : v = i
    · subst e
      by_cases hl : v < l.length
      · rw [List.getElem?_set_self (by rw [wipeG_len]; exact hl)]; simp [hl]
      · rw [List.getElem?_eq_none (by rw [List.length_set, wipeG_len]; omega)]
        simp [hl]
    · rw [List.getElem?_set_ne e, wipeG_get l vs i]
      have : ¬ i = v := fun z => e z.symm
      simp [this]
theorem dsl_wipe (sl : TS') : ∀ vs, dsl (wipeG sl vs) = wipeG (dsl sl) vs
  | [] => rfl
  | v :: vs => by rw [wipeG, wipeG, dsl_set, dsl_wipe sl vs]; rfl
theorem dsl_join (sl : TS') (v : Nat) : (sl[v]?.join).map T.d = (dsl sl)[v]?.join := by
  unfold dsl
  rw [List.getElem?_map]
  cases sl[v]? with
  | none => rfl
  | some o => cases o <;> rfl
theorem dsl_rest (sl0 : TS') : ∀ (sl : TS') (vs : List Nat), dsl (restG sl0 sl vs) = restG (dsl sl0) (dsl sl) vs
  | sl, [] => rfl
  | sl, v :: vs => by rw [restG, restG, dsl_rest sl0 _ vs, dsl_set, dsl_join, dsl_wipe]
section
variable {Γ : Gm} {F : Fr} {σ σ' : St} {H G : Hp} {sl : TS'} {tm : List T} {t : T}
theorem Abs.sig (A : Abs Γ F σ H G sl tm) (hl : σ'.length = σ.length) (hs : ∀ (i : Nat) (t : T), sl[i]? = some (some t) → σ'[i]? = σ[i]?) : Abs Γ F σ' H G sl tm :=
  ⟨A.len.trans hl.symm, fun i t h => (hs i t h).trans (A.val i t h), A.sub, A.keep, A.dom, A.g0, A.goodS, A.goodT, A.one, A.sep, A.fresh, A.tabs⟩
/-- slots are put aside, and brought back -/
theorem Abs.hide (A : Abs Γ F σ H G sl tm) : ∀ vs : List Nat, ∃ hs : List T, Abs Γ F (wipe σ vs) H G (wipeG sl vs) (hs ++ tm) ∧
    ∀ H' G' sl' tm', Abs Γ F (wipe σ vs) H' G' sl' (hs ++ tm') → Abs Γ F σ H' G' (restG sl sl' vs) tm'
  | [] => ⟨[], A, fun H' G' sl' tm' B => B⟩
  | v :: vs => by
    obtain ⟨hs, B, R⟩ := A.hide vs
    have lenB := B.len
    cases ho : (wipeG sl vs)[v]?.join with
    | none =>
      have hno : ∀ t, (wipeG sl vs)[v]? ≠ some (some t) := fun t z => by rw [z] at ho; cases ho
      refine ⟨hs, ?_, fun H' G' sl' tm' C => ?_⟩
      · have same : (wipeG sl vs).set v none = wipeG sl vs := by
          apply List.ext_getElem?
          intro j
          by_cases e : v = j
          · subst e
            cases hg : (wipeG sl vs)[v]? with
            | none => exact List.getElem?_eq_none (by rw [List.length_set]; exact List.getElem?_eq_none_iff.mp hg)
            | some o =>
              cases o with
              | some t => exact absurd hg (hno t)
              | none => rw [List.getElem?_set_self (List.getElem?_eq_some_iff.mp hg).1]
          · rw [List.getElem?_set_ne e]
        rw [wipeG, same, wipe]
        refine B.sig (by simp) fun i t h => ?_
        have : v ≠ i := fun z => hno t (z ▸ h)
        rw [List.getElem?_set_ne this]
      · rw [restG, ho]
        refine R H' G' _ tm' ?_
        have lenC := C.len
        by_cases hv : v < sl'.length
        · refine (C.forget hv).sig ?_ fun i t h => ?_
          · rw [wipe]; simp
          · have : v ≠ i := fun z => by
              subst z
              rw [List.getElem?_set_self hv] at h
              cases h
            rw [wipe, List.getElem?_set_ne this]
        · have : sl'.set v none = sl' := by
            apply List.ext_getElem?
            intro j
            by_cases e : v = j
            · subst e
              rw [List.getElem?_eq_none (by simp; omega), List.getElem?_eq_none (by omega)]
            · rw [List.getElem?_set_ne e]
          rw [this]
          refine C.sig (by rw [wipe]; simp) fun i t h => ?_
          have : v ≠ i := fun z => hv (z ▸ (List.getElem?_eq_some_iff.mp h).1)
          rw [wipe, List.getElem?_set_ne this]
    | some t =>
      have hg : (wipeG sl vs)[v]? = some (some t) := by
        cases hg : (wipeG sl vs)[v]? with
        | none => rw [hg] at ho; cases ho
        | some o => rw [hg] at ho; cases o with
          | none => cases ho
          | some u => cases ho; rfl
      have hσ := B.val v t hg
      have hv : v < (wipe σ vs).length := (List.getElem?_eq_some_iff.mp hσ).1
      refine ⟨t :: hs, ?_, fun H' G' sl' tm' C => ?_⟩
      · rw [wipeG, wipe]
        refine (B.take hg).sig (by simp) fun i u h => ?_
        have : v ≠ i := fun z => by
          subst z
          rw [List.getElem?_set_self (by rw [lenB]; exact hv)] at h
          cases h
        rw [List.getElem?_set_ne this]
      · rw [restG, ho]
        have hl : sl'.length = (wipe σ vs).length := by rw [C.len, wipe]; simp
        have C1 := C.store (i := v) (t := t) (by rw [hl]; exact hv)
        refine R H' G' _ tm' (C1.sig ?_ fun i u h => ?_)
        · rw [wipe]; simp
        · rw [wipe, List.set_set]
          by_cases e : v = i
          · subst e
            rw [List.getElem?_set_self hv, hσ]
          · rw [List.getElem?_set_ne e]
theorem Abs.wipeS (A : Abs Γ F σ H G sl tm) : ∀ vs : List Nat, Abs Γ F (wipe σ vs) H G (wipeG sl vs) tm := fun vs => by
  obtain ⟨hs, B, _⟩ := A.hide vs
  exact B.dropN
/-- a temp goes behind the temp list below it -/
theorem Abs.push {p : Addr} {ts : List T} (A : Abs Γ F σ H G sl (t :: .lst p ts :: tm)) (hz : ts.length < sizeLine) : H p = some (.lst (ts.map T.v)) ∧ Abs Γ F σ (upd H p (.lst (ts.map T.v ++ [t.v]))) G sl (.lst p (ts ++ [t]) :: tm) := by
  have g : Good Γ G H (.lst p ts) := A.goodT _ (by simp)
  have hp := g.1.1
  refine ⟨hp, ?_⟩
  have one := A.one
  have cz : ∀ a, T.cnts a (t :: .lst p ts :: tm) = t.cnt a + ((if p = a then 1 else 0) + T.cnts a ts) + T.cnts a tm := fun a => by rw [T.cnts, T.cnts, T.cnt]; omega
  have cn : ∀ a, T.cnts a (.lst p (ts ++ [t]) :: tm) = t.cnt a + ((if p = a then 1 else 0) + T.cnts a ts) + T.cnts a tm := fun a => by rw [T.cnts, T.cnt, cnts_append, T.cnts, T.cnts]; omega
  have np := one p
  rw [cz, if_pos rfl] at np
  obtain ⟨hG, _, _⟩ := A.sep p (by rw [cz, if_pos rfl]; omega)
  have gm : ∀ u : T, u.cnt p = 0 → Good Γ G H u → Good Γ G (upd H p (.lst (ts.map T.v ++ [t.v]))) u := fun u h0 gu => gu.mono (Sub.refl G) u fun a ha => upd_ne (show a ≠ p from fun z => by subst z; omega)
  refine ⟨A.len, A.val, fun a o h => ?_, fun a o h1 h2 h3 => ?_, fun a h => ?_, A.g0, fun i u h => gm u (by have := cS_get (a := p) h; omega) (A.goodS i u h), fun u hu => ?_, fun a => by rw [cn, ← cz]; exact one a, fun a ha => ?_, A.fresh, tabs_upd A.tabs hp (nTbl_lst _) (nCod_lst _)⟩
  · have : a ≠ p := fun z => by rw [z, hG] at h; cases h
    rw [upd_ne this]
    exact A.sub a o h
  · have : a ≠ p := fun z => by
      subst z
      rcases (A.sep a (by rw [cz, if_pos rfl]; omega)).2.2 with q | q
      · rw [h1] at q; cases q
      · exact h3 q
    rw [upd_ne this]
    exact A.keep a o h1 h2 h3
  · by_cases e : a = p
    · rw [e, upd_same]; exact ⟨_, rfl, nTbl_lst _⟩
    · rw [upd_ne e]; exact A.dom a h
  · rcases List.mem_cons.mp hu with rfl | hu
    · refine ⟨⟨by rw [upd_same, List.map_append]; rfl, by rw [List.length_append]; exact hz⟩, Goods_iff.mpr fun u hu => ?_⟩
      rcases List.mem_append.mp hu with hu | hu
      · exact gm u (by have := cnts_mem (a := p) hu; omega) (Goods_iff.mp g.2 u hu)
      · have : u = t := by simpa using hu
        subst this
        exact gm u (by omega) (A.goodT u List.mem_cons_self)
    · exact gm u (by have := cnts_mem (a := p) hu; omega) (A.goodT u (List.mem_cons_of_mem _ (List.mem_cons_of_mem _ hu)))
  · rw [cn, ← cz] at ha
    obtain ⟨h1, h2, h3⟩ := A.sep a ha
    refine ⟨h1, ?_, h3⟩
    by_cases e : a = p
    · rw [e, upd_same]; exact fun z => nomatch z
    · rw [upd_ne e]; exact h2
end
end L2.Pv
end
section
set_option Elab.async false
set_option linter.all false
set_option autoImplicit false
set_option maxRecDepth 100000
namespace L2.Pv
open PySem PySem.Spec PyProof.Rows

/-- a clause's tests -/
def STs (X : Cx) (Γ : Gm) (E : WX) (W : List Nat) (ifs : List Expr) (f : EvT) : Prop := X.K = Γ.K → PTs X ifs (tT Γ E W f)
theorem _root_.L2.PTs.imp {X : Cx} {e : List Expr} {t t' : TT} (h : PTs X e t) (k : ∀ σ H Q, t' σ H Q → t σ H Q) : PTs X e t' := ⟨fun pins s σ H Q I q => h.run pins s σ H Q I (k σ H Q q)⟩
def cYes : EvT := fun δ => .ok true δ
section
variable {X : Cx} {Γ : Gm} {E : WX} {W : List Nat} {e : Expr} {f : EvT}
theorem sts_nil : STs X Γ E [] [] cYes := fun _ => pts_nil.imp fun σ H Q ⟨F, G, sl, tm, A, q⟩ => q H G sl A (Sub.refl G) rfl (Keep.refl _ _)
theorem sts_one (h : SC X Γ E W e f) : STs X Γ E W [e] f := fun hK => pts_one (h hK)
end
/-- the turns of a list comprehension -/
def lcL (vs : List Nat) (ft : Eg) (fc : EvT) (fe : Ev) : List D → DS → Option (List D × DS)
  | [], δ => some ([], δ)
  | d :: ds, δ => (ft d δ).bind fun δ1 => match fc δ1 with
    | .ok true δ2 => match fe δ2 with
      | .ok y δ3 => (lcL vs ft fc fe ds (wipeG δ3 vs)).map fun p => (y :: p.1, p.2)
      | _ => none
    | .ok false δ2 => lcL vs ft fc fe ds (wipeG δ2 vs)
    | _ => none
def eLc (vs : List Nat) (fi : EvA) (ft : Eg) (fc : EvT) (fe : Ev) : Ev := fun δ => (fi δ).bd fun ds δ1 => match lcL vs ft fc fe ds (wipeG δ1 vs) with
  | some (ys, δ2) => .ok (.lst true ys) (restG δ1 δ2 vs)
  | none => .stuck
def E0' : WX := fun _ _ _ _ => False
theorem Keep.wipe {W : List Nat} (sl : TS') (vs : List Nat) (h : ∀ v ∈ vs, v ∈ W) : Keep W sl (wipeG sl vs) := fun i hi => by
  rw [wipeG_get, if_neg fun z => hi (h i z.1)]
theorem Keep.rest {W : List Nat} (sl0 : TS') : ∀ (sl : TS') (vs : List Nat), (∀ v ∈ vs, v ∈ W) → Keep W sl (restG sl0 sl vs)
  | sl, [], _ => Keep.refl _ _
  | sl, v :: vs, h => fun i hi => by
    rw [restG, Keep.rest sl0 _ vs (fun u hu => h u (List.mem_cons_of_mem _ hu)) i hi]
    rw [List.getElem?_set_ne (show v ≠ i from fun z => hi (z ▸ h v List.mem_cons_self))]
theorem Keep.mono {W W' : List Nat} {sl sl' : TS'} (k : Keep W sl sl') (h : ∀ i, i ∈ W → i ∈ W') : Keep W' sl sl' := fun i hi => k i fun z => hi (h i z)
theorem Keep.tr {W : List Nat} {sl sl1 sl2 : TS'} (a : Keep W sl sl1) (b : Keep W sl1 sl2) : Keep W sl sl2 := fun i hi => (b i hi).trans (a i hi)
theorem wipe_only {vs S : List Nat} {σ σ' : St} (o : Only S (wipe σ vs) σ') (h : ∀ i ∈ S, i ∈ vs) : wipe σ' vs = wipe σ vs := by
  apply List.ext_getElem?
  intro i
  rw [wipe_eq, wipe_eq, wipeG_get, wipeG_get]
  have hl : σ'.length = σ.length := by rw [o.1, wipe_length]
  rw [hl]
  by_cases hi : i ∈ vs
  · by_cases h2 : i < σ.length
    · rw [if_pos ⟨hi, h2⟩, if_pos ⟨hi, h2⟩]
    · rw [if_neg fun z => h2 z.2, if_neg fun z => h2 z.2, List.getElem?_eq_none (by omega), List.getElem?_eq_none (by omega)]
  · rw [if_neg fun z => hi z.1, if_neg fun z => hi z.1]
    have := o.2 i fun z => hi (h i z)
    rw [this, wipe_eq, wipeG_get, if_neg fun z => hi z.1]
section
variable {X : Cx} {Γ : Gm} {E : WX} {Wi Wc We S : List Nat} {elt tg iter : Expr} {ifs : List Expr} {scope : Scope} {own : List (Str × Nat)} {pos : Pos} {fi : EvA} {ft : Eg} {fc : EvT} {fe : Ev}
/-- the comprehension's reading -/
theorem lc_run {vs : List Nat} {σ : St} {H : Hp} {Q : VK} (hS : ∀ i ∈ S, i ∈ vs) (q : tE Γ E (Wi ++ (vs ++ (Wc ++ We))) (eLc vs fi ft fc fe) σ H Q) :
    tLc (tI Γ E Wi fi) (tG Γ S ft) (tT Γ E0' Wc fc) (tE Γ E0' We fe) vs σ H Q := by
  obtain ⟨F, G, sl, tm, A, q⟩ := q
  refine ⟨F, G, sl, tm, A, ?_⟩
  unfold eLc at q
  cases hf : fi (dsl sl) with
  | stuck => rw [hf] at q; exact q
  | exc c fs δ => rw [hf] at q; exact q
  | ok ds δ1 =>
    rw [hf, bd_ok] at q
    intro J H1 G1 sl1 A1 s1 e1 k1 gv hz D hD
    cases hl : lcL vs ft fc fe ds (wipeG δ1 vs) with
    | none => rw [hl] at q; exact q.elim
    | some r =>
      obtain ⟨ysT, δT⟩ := r
      rw [hl] at q
      dsimp only at q
      have A2 : Abs Γ F σ (upd H1 D (.lst [])) G1 sl1 (.lst D [] :: tm) := Abs.newLst (ts := []) A1 hD (Nat.zero_le _)
      obtain ⟨hsT, B, R⟩ := A1.hide vs
      have B2 : Abs Γ F (wipe σ vs) (upd H1 D (.lst [])) G1 (wipeG sl1 vs) (.lst D [] :: (hsT ++ tm)) := Abs.newLst (ts := []) B hD (Nat.zero_le _)
      refine ⟨fun i m H' => m = ds.length - i ∧ ∃ G' sl' ts ys, Abs Γ F (wipe σ vs) H' G' sl' (.lst D ts :: (hsT ++ tm)) ∧ Sub G1 G' ∧ Keep (vs ++ (Wc ++ We)) (wipeG sl1 vs) sl' ∧ ts.length ≤ i ∧
        lcL vs ft fc fe (ds.drop i) (dsl sl') = some (ys, δT) ∧ ts.map T.d ++ ys = ysT,
        ⟨_, rfl, G1, wipeG sl1 vs, [], ysT, B2, Sub.refl _, Keep.refl _ _, Nat.le_refl _, by rw [dsl_wipe, e1]; exact hl, rfl⟩, ?_⟩
      rintro i m H' ⟨rfl, G', sl', ts, ys, A', s', k', hlen, hL, hys⟩
      obtain ⟨hgo, hst⟩ := gv F _ H' G' sl' _ A' s' i
      cases hd : ds[i]? with
      | none =>
        refine .inl ⟨hst hd, ?_⟩
        rw [show ds.drop i = [] from List.drop_eq_nil_iff.mpr (List.getElem?_eq_none_iff.mp hd)] at hL
        have hL : some ([], dsl sl') = some (ys, δT) := hL
        cases hL
        rw [List.append_nil] at hys
        have C := R H' G' sl' (.lst D ts :: tm) A'.swap'
        refine q H' G' _ (.lst D ts) C (s1.trans s') (by rw [T.d, T.ds_map, hys]) (by rw [dsl_rest, e1]) (k1.trans ?_)
        -- slots outside: as they were
        intro j hj
        have hjv : j ∉ vs := fun z => hj (List.mem_append_left _ z)
        rw [Keep.rest (W := vs) sl1 sl' vs (fun _ h => h) j hjv, k' j hj, wipeG_get, if_neg fun z => hjv z.1]
      | some d =>
        obtain ⟨h1, h2⟩ := hgo d hd
        have hlt : i < ds.length := (List.getElem?_eq_some_iff.mp hd).1
        rw [drop_cons hd] at hL
        refine .inr ⟨h1, fun H'' => ∃ G' sl' ts ys, Abs Γ F (wipe σ vs) H'' G' sl' (.lst D ts :: (hsT ++ tm)) ∧ Sub G1 G' ∧ Keep (vs ++ (Wc ++ We)) (wipeG sl1 vs) sl' ∧ ts.length ≤ i + 1 ∧
          lcL vs ft fc fe (ds.drop (i + 1)) (dsl sl') = some (ys, δT) ∧ ts.map T.d ++ ys = ysT, fun H'' w => ⟨ds.length - (i + 1), by omega, rfl, w⟩, fun x H3 y => ?_⟩
        obtain ⟨G3, t, A3, s3, ev, ed⟩ := h2 x H3 y
        refine ⟨F, G3, sl', _, t, A3, ev, ?_⟩
        rw [ed]
        unfold lcL at hL
        cases hft : ft d (dsl sl') with
        | none => rw [hft] at hL; cases hL
        | some δ2 =>
          rw [hft] at hL
          intro σ4 H4 G4 sl4 A4 s4 o4 k4 e4
          refine ⟨wipe_only o4 hS, F, G4, sl4, _, A4, ?_⟩
          rw [e4]
          have hL : (match fc δ2 with
            | .ok true δ2 => match fe δ2 with
              | .ok y δ3 => (lcL vs ft fc fe (ds.drop (i + 1)) (wipeG δ3 vs)).map fun p => (y :: p.1, p.2)
              | _ => none
            | .ok false δ2 => lcL vs ft fc fe (ds.drop (i + 1)) (wipeG δ2 vs)
            | _ => none) = some (ys, δT) := hL
          -- the turn's end
          have fin : ∀ {H6 G6 : Hp} {sl6 : TS'} {ts' : List T}, Abs Γ F σ4 H6 G6 sl6 (.lst D ts' :: (hsT ++ tm)) → Abs Γ F (wipe σ vs) H6 G6 (wipeG sl6 vs) (.lst D ts' :: (hsT ++ tm)) := fun {H6 G6 sl6 ts'} A6 => by
            have := A6.wipeS vs
            rw [wipe_only o4 hS] at this
            exact this
          have inW : ∀ v ∈ vs, v ∈ vs ++ (Wc ++ We) := fun v h => List.mem_append_left _ h
          have k4' : Keep (vs ++ (Wc ++ We)) sl' sl4 := k4.mono fun i h => inW i (hS i h)
          cases hfc : fc δ2 with
          | stuck => rw [hfc] at hL; cases hL
          | exc c fs δ => rw [hfc] at hL; cases hL
          | ok b δ3 =>
            rw [hfc] at hL
            intro H5 G5 sl5 A5 s5 e5 k5
            have k5' : Keep (vs ++ (Wc ++ We)) sl4 sl5 := k5.mono fun i h => List.mem_append_right _ (List.mem_append_left _ h)
            cases b with
            | false =>
              rw [if_neg Bool.false_ne_true]
              exact ⟨G5, wipeG sl5 vs, ts, ys, fin A5, s'.trans (s3.trans (s4.trans s5)), ((k'.tr k4').tr k5').tr (Keep.wipe _ _ inW), by omega, by rw [dsl_wipe, e5]; exact hL, hys⟩
            | true =>
              rw [if_pos rfl]
              refine ⟨F, G5, sl5, _, A5, ?_⟩
              rw [e5]
              have hL : (match fe δ3 with
                | .ok y δ3 => (lcL vs ft fc fe (ds.drop (i + 1)) (wipeG δ3 vs)).map fun p => (y :: p.1, p.2)
                | _ => none) = some (ys, δT) := hL
              cases hfe : fe δ3 with
              | stuck => rw [hfe] at hL; cases hL
              | exc c fs δ => rw [hfe] at hL; cases hL
              | ok y' δ4 =>
                rw [hfe] at hL
                intro H6 G6 sl6 t6 A6 s6 e6 e6' k6
                have hlt2 : ts.length < sizeLine := by omega
                obtain ⟨hp, A7⟩ := A6.push hlt2
                refine ⟨ts.map T.v, hp, by rw [List.length_map]; exact hlt2, ?_⟩
                have k6' : Keep (vs ++ (Wc ++ We)) sl5 sl6 := k6.mono fun i h => List.mem_append_right _ (List.mem_append_right _ h)
                have hL : (lcL vs ft fc fe (ds.drop (i + 1)) (wipeG δ4 vs)).map (fun p => (y' :: p.1, p.2)) = some (ys, δT) := hL
                cases hr : lcL vs ft fc fe (ds.drop (i + 1)) (wipeG δ4 vs) with
                | none => rw [hr] at hL; cases hL
                | some pr =>
                  rw [hr] at hL
                  have hL : some (y' :: pr.1, pr.2) = some (ys, δT) := hL
                  cases hL
                  refine ⟨G6, wipeG sl6 vs, ts ++ [t6], pr.1, fin A7, s'.trans (s3.trans (s4.trans (s5.trans s6))), (((k'.tr k4').tr k5').tr k6').tr (Keep.wipe _ _ inW), by simp; omega, by rw [dsl_wipe, e6', hr], ?_⟩
                  rw [← hys, List.map_append, List.append_assoc]
                  rw [show List.map T.d [t6] = [y'] by rw [← e6]; rfl]
                  rfl
theorem se_lc (hc : X.calm = true) (hN : X.N.Nodup) (hi : SI X Γ E Wi tg iter fi) (ok : BlkOk X.N X.env.scope scope own)
    (hg : ∀ (s : Shared) (H : Hp) (C : Addr) (cl : List (Str × Addr)) (fp : List Addr), SG (X.blk s H scope (compEnvC scope cl C X.env) fp) Γ S tg ft)
    (ht : ∀ (s : Shared) (H : Hp) (C : Addr) (cl : List (Str × Addr)) (fp : List Addr), STs (X.blk s H scope (compEnvC scope cl C X.env) fp) Γ E0' Wc ifs fc)
    (he : ∀ (s : Shared) (H : Hp) (C : Addr) (cl : List (Str × Addr)) (fp : List Addr), SE (X.blk s H scope (compEnvC scope cl C X.env) fp) Γ E0' We elt fe) (hs : ∀ x, foldedSetIterable iter X.env x = pure x)
    (hS : ∀ i ∈ S, i ∈ own.map (·.2)) :
    SE X Γ E (Wi ++ (own.map (·.2) ++ (Wc ++ We))) (.ListComp elt [⟨tg, iter, ifs, 0⟩] scope pos) (eLc (own.map (·.2)) fi ft fc fe) := fun hK =>
  (pe_lc hc hN (hi hK) ok (fun s H C cl fp => hg s H C cl fp hK) (fun s H C cl fp => ht s H C cl fp hK) (fun s H C cl fp => he s H C cl fp hK) hs).imp fun σ H Q q => lc_run hS q
/-- y = [..], y a local name -/
theorem ss_setLc {P : List Nat} {i : Nat} {y : Str} {py spos : Pos} (hc : X.calm = true) (hN : X.N.Nodup) (hy : X.N[i]? = some y) (hyl : X.env.scope.names.lookup y = some .local)
    (hsw : swapsWith (.ListComp elt [⟨tg, iter, ifs, 0⟩] scope pos) (some (.Name y py)) spos.line X.env = pure true) (hi : SI X Γ E Wi tg iter fi) (ok : BlkOk X.N X.env.scope scope own)
    (hg : ∀ (s : Shared) (H : Hp) (C : Addr) (cl : List (Str × Addr)) (fp : List Addr), SG (X.blk s H scope (compEnvC scope cl C X.env) fp) Γ S tg ft)
    (ht : ∀ (s : Shared) (H : Hp) (C : Addr) (cl : List (Str × Addr)) (fp : List Addr), STs (X.blk s H scope (compEnvC scope cl C X.env) fp) Γ E0' Wc ifs fc)
    (he : ∀ (s : Shared) (H : Hp) (C : Addr) (cl : List (Str × Addr)) (fp : List Addr), SE (X.blk s H scope (compEnvC scope cl C X.env) fp) Γ E0' We elt fe) (hs : ∀ x, foldedSetIterable iter X.env x = pure x)
    (hS : ∀ i ∈ S, i ∈ own.map (·.2)) (hp : i ∉ P) :
    SS X Γ E P (.Assign [.Name y py] (.ListComp elt [⟨tg, iter, ifs, 0⟩] scope pos) spos) (sSet i (eLc (own.map (·.2)) fi ft fc fe)) := fun hK =>
  (ps_setLc hc hN hy hyl hsw (hi hK) ok (fun s H C cl fp => hg s H C cl fp hK) (fun s H C cl fp => ht s H C cl fp hK) (fun s H C cl fp => he s H C cl fp hK) hs).imp fun Z σ H ⟨F, G, sl, tm, A, q⟩ =>
  lc_run (E := E) hS (e_run A q fun d δ H' G' sl' t A' s ed e _ q' => PostS.put A' hp (by rw [ed, e]; exact q'))
end
end L2.Pv
end
section
set_option Elab.async false
set_option linter.all false
set_option autoImplicit false
set_option maxRecDepth 100000
namespace L2.Pv
open PySem PySem.Spec PyProof.Rows

/-! ### sequences, read -/
def nOwn (d : D) : Bool := !d.own
mutual
/-- by the whole heap, flags aside -/
def View (Γ : Gm) (H : Hp) (v : V) : D → Prop
  | .non => v = .non
  | .bl b => v = .bl b
  | .int i => v = .int i
  | .str x => v = .str x
  | .tup ds => ds.length ≤ sizeLine ∧ ∃ a vs, v = .ref a ∧ SqT Γ.K H a vs ∧ Views Γ H vs ds
  | .lst _ ds => ds.length ≤ sizeLine ∧ ∃ a vs, v = .ref a ∧ H a = some (.lst vs) ∧ Views Γ H vs ds
  | .scr ns => ns.length ≤ sizeLine ∧ ∃ a, v = .ref a ∧ SqL Γ.K H a (ns.map V.int)
  | .fn f => v = .ref (Γ.fa f)
  | .rf a => v = .ref a
  | .lam a _ _ => v = .ref a
  | .ldc ks ds => (ds.length ≤ sizeLine ∧ ks.fit ds.length) ∧ ∃ a vs o, v = .ref a ∧ H a = some (.frz o (dicHO ks vs)) ∧ Views Γ H vs ds
  | .dic _ ks ds => (ds.length ≤ sizeLine ∧ ks.fit ds.length) ∧ ∃ a vs, v = .ref a ∧ H a = some (dicHO ks vs) ∧ Views Γ H vs ds
  | .obj _ c ds => ds.length ≤ 900 ∧ ∃ a dx vs, v = .ref a ∧ H a = some (.ins (Γ.ca c) dx ((Γ.fl c).zip vs)) ∧ H dx = some (.own a) ∧ Views Γ H vs ds
def Views (Γ : Gm) (H : Hp) (vs : List V) : List D → Prop
  | [] => vs = []
  | d :: ds => ∃ v r, vs = v :: r ∧ View Γ H v d ∧ Views Γ H r ds
end
mutual
theorem Rep.view {Γ : Gm} {G H : Hp} (s : Sub G H) : ∀ {v : V} (d : D), Rep Γ G v d → View Γ H v d
  | _, .non, h => h
  | _, .bl _, h => h
  | _, .int _, h => h
  | _, .str _, h => h
  | _, .tup ds, ⟨z, a, vs, e, q, r⟩ => ⟨z, a, vs, e, sqT_of s q, Reps.view s ds r⟩
  | _, .lst o ds, ⟨z, a, vs, e, q, r⟩ => ⟨z.2, a, vs, e, s _ _ q, Reps.view s ds r⟩
  | _, .scr ns, ⟨z, a, e, q⟩ => ⟨z, a, e, sqL_mono s q⟩
  | _, .fn _, h => h
  | _, .rf _, h => h
  | _, .lam _ _ _, h => h.1
  | _, .ldc ks ds, ⟨z, a, vs, o, e, q, r⟩ => ⟨z, a, vs, o, e, s _ _ q, Reps.view s ds r⟩
  | _, .dic o ks ds, ⟨z, a, vs, e, q, r⟩ => ⟨z.2, a, vs, e, s _ _ q, Reps.view s ds r⟩
  | _, .obj o c ds, ⟨z, a, dx, vs, e, q, q2, r⟩ => ⟨z.2, a, dx, vs, e, s _ _ q, s _ _ q2, Reps.view s ds r⟩
theorem Reps.view {Γ : Gm} {G H : Hp} (s : Sub G H) : ∀ {vs : List V} (ds : List D), Reps Γ G vs ds → Views Γ H vs ds
  | _, [], h => h
  | _, d :: ds, ⟨v, r, e, h1, h2⟩ => ⟨v, r, e, Rep.view s d h1, Reps.view s ds h2⟩
end
mutual
theorem Good.view {Γ : Gm} {G H : Hp} (s : Sub G H) : ∀ (t : T), Good Γ G H t → View Γ H t.v t.d
  | .leaf v d, h => Rep.view s d h
  | .lst a xs, h => ⟨by rw [T.ds_map, List.length_map]; exact h.1.2, a, xs.map T.v, rfl, h.1.1, Goods.view s xs h.2⟩
  | .dic a ks xs, h => ⟨by rw [T.ds_map, List.length_map]; exact h.1.2, a, xs.map T.v, rfl, h.1.1, Goods.view s xs h.2⟩
  | .obj a dx c xs, h => ⟨by rw [T.ds_map, List.length_map]; exact h.1.2.2, a, dx, xs.map T.v, rfl, h.1.1, h.1.2.1, Goods.view s xs h.2⟩
theorem Goods.view {Γ : Gm} {G H : Hp} (s : Sub G H) : ∀ (ts : List T), Goods Γ G H ts → Views Γ H (ts.map T.v) (T.ds ts)
  | [], _ => rfl
  | t :: ts, h => ⟨t.v, ts.map T.v, rfl, Good.view s t h.1, Goods.view s ts h.2⟩
end
theorem Views.len {Γ : Gm} {H : Hp} : ∀ {vs : List V} {ds : List D}, Views Γ H vs ds → vs.length = ds.length
  | vs, [], h => by rw [show vs = [] from h]; rfl
  | _, d :: ds, h => by
    obtain ⟨v, r, e, _, h2⟩ := h
    subst e
    simp [Views.len h2]
theorem Views.get {Γ : Gm} {H : Hp} : ∀ {vs : List V} {ds : List D} {i : Nat} {d : D}, Views Γ H vs ds → ds[i]? = some d → ∃ v, vs[i]? = some v ∧ View Γ H v d
  | _, [], _, _, _, h => by simp at h
  | _, d :: ds, i, x, h, g => by
    obtain ⟨v, r, e, h1, h2⟩ := h
    subst e
    cases i with
    | zero => simp at g; subst g; exact ⟨v, by simp, h1⟩
    | succ i => simpa using Views.get h2 (by simpa using g)
theorem ints_views {Γ : Gm} {H : Hp} : ∀ {ns : List Int} {vs : List V}, Views Γ H vs (ns.map D.int) → vs = ns.map V.int
  | [], vs, h => h
  | n :: ns, vs, h => by
    obtain ⟨v, r, e, h1, h2⟩ := h
    subst e
    rw [show v = V.int n from h1, ints_views h2]
    rfl
/-- a list none of whose items is owned, a tuple: its items by the frozen part -/
theorem lst_of {Γ : Gm} {G H : Hp} (s : Sub G H) {t : T} {o : Bool} {ds : List D} (g : Good Γ G H t) (e : t.d = .lst o ds) (h : ds.all nOwn = true) : ds.length ≤ sizeLine ∧ ∃ a vs, t.v = .ref a ∧ H a = some (.lst vs) ∧ Reps Γ G vs ds := by
  cases t with
  | leaf v d =>
    have e : d = .lst o ds := e
    subst e
    obtain ⟨z, a, vs, ev, q, r⟩ := g
    exact ⟨z.2, a, vs, ev, s _ _ q, r⟩
  | lst a xs =>
    have e : D.lst true (T.ds xs) = .lst o ds := e
    cases e
    refine ⟨by rw [T.ds_map, List.length_map]; exact g.1.2, a, xs.map T.v, rfl, g.1.1, ?_⟩
    have go : ∀ xs : List T, Goods Γ G H xs → (T.ds xs).all nOwn = true → Reps Γ G (xs.map T.v) (T.ds xs) := by
      intro xs
      induction xs with
      | nil => intro _ _; rfl
      | cons x xs ih =>
        intro gx hx
        rw [T.ds, List.all_cons, Bool.and_eq_true] at hx
        refine ⟨x.v, xs.map T.v, rfl, ?_, ih gx.2 hx.2⟩
        have el := leaf_of_own gx.1 (by simpa [nOwn] using hx.1)
        have g1 := gx.1
        rw [el] at g1
        exact g1
    exact go xs g.2 h
  | dic a ks xs => exact nomatch e
  | obj a dx c xs => exact nomatch e
theorem tup_of {Γ : Gm} {G H : Hp} {t : T} {ds : List D} (g : Good Γ G H t) (e : t.d = .tup ds) : ds.length ≤ sizeLine ∧ ∃ a vs, t.v = .ref a ∧ G a = some (.tup vs) ∧ Reps Γ G vs ds := by
  have el := leaf_of_own g (by rw [e]; rfl)
  rw [el, e] at g
  exact g

/-! ### what is handed on -/
section
variable {Γ : Gm} {F : Fr} {σ : St} {H G : Hp} {sl : TS'} {tm : List T} {Q : VK}
theorem Hands.tup {ds : List D} (h : Hands Γ F σ G sl tm (.tup ds) Q) (A : Abs Γ F σ H G sl tm) {vs : List V} (r : Reps Γ G vs ds) (hz : ds.length ≤ sizeLine) {p : Addr} (hp : H p = none) : Q (.ref p) (upd H p (.tup vs)) := by
  have B := A.newFrz (o := .tup vs) hp (fun _ z => nomatch z)
  obtain ⟨n1, _⟩ := A.new0 hp
  have s1 : Sub G (upd G p (.tup vs)) := fun a u h => by rw [upd_ne (ne_of_none h n1)]; exact h
  exact h _ _ (.leaf (.ref p) (.tup ds)) (B.leaf ⟨hz, p, vs, rfl, upd_same, Reps.mono s1 ds r⟩) s1 rfl
theorem Hands.lst {ds : List D} (h : Hands Γ F σ G sl tm (.lst true ds) Q) (A : Abs Γ F σ H G sl tm) {vs : List V} (r : Reps Γ G vs ds) (hz : ds.length ≤ sizeLine) {p : Addr} (hp : H p = none) : Q (.ref p) (upd H p (.lst vs)) := by
  obtain ⟨ts, B, e1, e2⟩ := A.leaves r
  have C := B.newLst (p := p) hp (by rw [← List.length_map (f := T.d), e2]; exact hz)
  rw [e1] at C
  exact h _ _ (.lst p ts) C (Sub.refl G) (by rw [T.d, T.ds_map, e2])
end

/-! ### arithmetic -/
def dAdd (a b : D) : Option D := match a, b with
  | .int i, .int j => some (.int (i + j))
  | .tup xs, .tup ys => if xs.length + ys.length ≤ sizeLine then some (.tup (xs ++ ys)) else none
  | .lst _ xs, .lst _ ys => if xs.length + ys.length ≤ sizeLine ∧ xs.all nOwn = true ∧ ys.all nOwn = true then some (.lst true (xs ++ ys)) else none
  | .str x, .str y => if x.length + y.length ≤ sizeLine then some (.str (x ++ y)) else none
  | _, _ => none
def dSub (a b : D) : Option D := match a, b with
  | .int i, .int j => some (.int (i - j))
  | _, _ => none
def mulOk (i j : Int) : Bool := (decide (-(2 ^ 64) < i) && decide (i < 2 ^ 64)) || (decide (-(2 ^ 64) < j) && decide (j < 2 ^ 64))
def dMul (a b : D) : Option D := match a, b with
  | .int i, .int j => if mulOk i j then some (.int (i * j)) else none
  | .lst _ xs, .int k => if -1000 ≤ k ∧ k ≤ 1000 ∧ xs.length ≤ 1000 ∧ xs.all nOwn = true then some (.lst true (List.replicate k.toNat xs).flatten) else none
  | .tup xs, .int k => if xs ≠ [] ∧ 2 ≤ k ∧ k ≤ 1000 ∧ xs.length ≤ 1000 then some (.tup (List.replicate k.toNat xs).flatten) else none
  | _, _ => none
def dFdiv (a b : D) : Option D := match a, b with
  | .int i, .int j => if 0 < j ∧ j < 1073741824 then some (.int (i / j)) else none
  | _, _ => none
def dMod (a b : D) : Option D := match a, b with
  | .int i, .int j => if 0 < j then some (.int (i % j)) else none
  | _, _ => none
def dPow (a b : D) : Option D := match a, b with
  | .int i, .int j => if 0 ≤ j ∧ j ≤ 1000000 ∧ i.natAbs < 2 ^ 64 then some (.int (i ^ j.toNat)) else none
  | _, _ => none
def dNeg (a : D) : Option D := match a with
  | .int i => some (.int (-i))
  | _ => none
theorem Reps.rep {Γ : Gm} {G : Hp} {vs : List V} {ds : List D} (r : Reps Γ G vs ds) : ∀ k : Nat, Reps Γ G (List.replicate k vs).flatten (List.replicate k ds).flatten
  | 0 => rfl
  | k + 1 => by
    rw [List.replicate_succ, List.replicate_succ, List.flatten_cons, List.flatten_cons]
    exact r.append (r.rep k)
theorem flat_len {α : Type} (xs : List α) (k : Nat) : (List.replicate k xs).flatten.length = k * xs.length := by simp
theorem sz1000 {a b : Nat} (ha : a ≤ 1000) (hb : b ≤ 1000) : a * b ≤ sizeLine := by
  rw [sizeLine_eq]
  have : a * b ≤ 1000 * 1000 := Nat.mul_le_mul ha hb
  omega
theorem sz_lt {n : Nat} (h : n ≤ 1000) : n < 2 ^ 62 := by omega
section
variable {X : Cx} {Γ : Gm}
theorem o_add : Op2 X Γ (binaryOp .Add) dAdd := fun hK => by
  refine ⟨_, ((op_add.or op_catA).or op_cat).or op_add_str, ?_⟩
  rintro F σ H G sl tm ta tb d Q A g1 g2 hg h
  unfold dAdd at hg
  split at hg
  · rename_i i j e1 e2
    cases hg
    exact .inl (.inl (.inl ⟨i, j, int_of g1 e1, int_of g2 e2, h.here A rfl⟩))
  · rename_i xs ys e1 e2
    split at hg
    · rename_i hz
      cases hg
      obtain ⟨z1, a, vs, ev1, q1, r1⟩ := tup_of g1 e1
      obtain ⟨z2, b, ws, ev2, q2, r2⟩ := tup_of g2 e2
      refine .inl (.inl (.inr ⟨a, b, vs, ws, ev1, ev2, by rw [hK]; exact sqT_of A.sub q1, by rw [hK]; exact sqT_of A.sub q2, by rw [r1.len, r2.len]; exact hz, fun hx => ?_, fun _ hy => ?_, fun _ _ p hp => ?_⟩))
      · have : xs = [] := List.eq_nil_of_length_eq_zero (by rw [← r1.len, hx]; rfl)
        subst this
        have g2' : Rep Γ G (.ref b) (.tup ys) := ⟨z2, b, ws, rfl, q2, r2⟩
        exact h.here A g2'
      · have : ys = [] := List.eq_nil_of_length_eq_zero (by rw [← r2.len, hy]; rfl)
        subst this
        rw [List.append_nil] at h
        have g1' : Rep Γ G (.ref a) (.tup xs) := ⟨z1, a, vs, rfl, q1, r1⟩
        exact h.here A g1'
      · exact h.tup A (r1.append r2) (by rw [List.length_append]; exact hz) hp
    · cases hg
  · rename_i o1 xs o2 ys e1 e2
    split at hg
    · rename_i hz
      cases hg
      obtain ⟨z1, a, vs, ev1, q1, r1⟩ := lst_of A.sub g1 e1 hz.2.1
      obtain ⟨z2, b, ws, ev2, q2, r2⟩ := lst_of A.sub g2 e2 hz.2.2
      exact .inl (.inr ⟨a, b, vs, ws, ev1, ev2, q1, q2, by rw [r1.len, r2.len]; exact hz.1, fun p hp => h.lst A (r1.append r2) (by rw [List.length_append]; exact hz.1) hp⟩)
    · cases hg
  · rename_i x y e1 e2
    split at hg
    · rename_i hz
      cases hg
      exact .inr ⟨x, y, str_of g1 e1, str_of g2 e2, hz, h.here A rfl⟩
    · cases hg
  · cases hg
theorem o_sub : Op2 X Γ (binaryOp .Sub) dSub := fun hK => by
  refine ⟨_, op_sub, ?_⟩
  rintro F σ H G sl tm ta tb d Q A g1 g2 hg h
  unfold dSub at hg
  split at hg
  · rename_i i j e1 e2
    cases hg
    exact ⟨i, j, int_of g1 e1, int_of g2 e2, h.here A rfl⟩
  · cases hg
theorem o_mul : Op2 X Γ (binaryOp .Mult) dMul := fun hK => by
  refine ⟨_, (op_mul.or op_rep).or op_repT, ?_⟩
  rintro F σ H G sl tm ta tb d Q A g1 g2 hg h
  unfold dMul at hg
  split at hg
  · rename_i i j e1 e2
    split at hg
    · rename_i hz
      cases hg
      unfold mulOk at hz
      rw [Bool.or_eq_true, Bool.and_eq_true, Bool.and_eq_true, decide_eq_true_eq, decide_eq_true_eq, decide_eq_true_eq, decide_eq_true_eq] at hz
      exact .inl (.inl ⟨i, j, int_of g1 e1, int_of g2 e2, hz, h.here A rfl⟩)
    · cases hg
  · rename_i o xs k e1 e2
    split at hg
    · rename_i hz
      cases hg
      obtain ⟨z1, a, vs, ev1, q1, r1⟩ := lst_of A.sub g1 e1 hz.2.2.2
      have hk : k.toNat ≤ 1000 := by omega
      refine .inl (.inr ⟨a, k, vs, ev1, int_of g2 e2, q1, by omega, by omega, ?_, fun p hp => h.lst A (r1.rep _) ?_ hp⟩)
      · rw [r1.len]; exact sz1000 hz.2.2.1 hk
      · rw [flat_len]; exact sz1000 hk hz.2.2.1
    · cases hg
  · rename_i xs k e1 e2
    split at hg
    · rename_i hz
      cases hg
      obtain ⟨z1, a, vs, ev1, q1, r1⟩ := tup_of g1 e1
      have hk : k.toNat ≤ 1000 := by omega
      refine .inr ⟨a, k, vs, ev1, int_of g2 e2, by rw [hK]; exact sqT_of A.sub q1, fun z => hz.1 (List.eq_nil_of_length_eq_zero (by rw [← r1.len, z]; rfl)), hz.2.1, hz.2.2.1, by rw [r1.len]; exact hz.2.2.2, fun p hp => h.tup A (r1.rep _) ?_ hp⟩
      rw [flat_len]; exact sz1000 hk hz.2.2.2
    · cases hg
  · cases hg
theorem o_fdiv : Op2 X Γ (binaryOp .FloorDiv) dFdiv := fun hK => by
  refine ⟨_, op_fdiv, ?_⟩
  rintro F σ H G sl tm ta tb d Q A g1 g2 hg h
  unfold dFdiv at hg
  split at hg
  · rename_i i j e1 e2
    split at hg
    · rename_i hz
      cases hg
      exact ⟨i, j, int_of g1 e1, int_of g2 e2, hz, h.here A rfl⟩
    · cases hg
  · cases hg
theorem o_mod : Op2 X Γ (binaryOp .Mod) dMod := fun hK => by
  refine ⟨_, op_mod, ?_⟩
  rintro F σ H G sl tm ta tb d Q A g1 g2 hg h
  unfold dMod at hg
  split at hg
  · rename_i i j e1 e2
    split at hg
    · rename_i hz
      cases hg
      exact ⟨i, j, int_of g1 e1, int_of g2 e2, hz, h.here A rfl⟩
    · cases hg
  · cases hg
theorem o_pow : Op2 X Γ (binaryOp .Pow) dPow := fun hK => by
  refine ⟨_, op_pow, ?_⟩
  rintro F σ H G sl tm ta tb d Q A g1 g2 hg h
  unfold dPow at hg
  split at hg
  · rename_i i j e1 e2
    split at hg
    · rename_i hz
      cases hg
      exact ⟨i, j, int_of g1 e1, int_of g2 e2, hz, h.here A rfl⟩
    · cases hg
  · cases hg
theorem o_neg : Op1 X Γ (unaryOp .USub) dNeg := fun hK => by
  refine ⟨_, un_neg, ?_⟩
  rintro F σ H G sl tm ta d Q A g1 hg h
  unfold dNeg at hg
  split at hg
  · rename_i i e1
    cases hg
    exact ⟨i, int_of g1 e1, h.here A rfl⟩
  · cases hg
/-! ### order, is -/
def dLt (a b : D) : Option D := match a, b with
  | .int i, .int j => some (.bl (decide (i < j)))
  | _, _ => none
def dLe (a b : D) : Option D := match a, b with
  | .int i, .int j => some (.bl (decide (i ≤ j)))
  | _, _ => none
def dGt (a b : D) : Option D := match a, b with
  | .int i, .int j => some (.bl (decide (j < i)))
  | _, _ => none
def dGe (a b : D) : Option D := match a, b with
  | .int i, .int j => some (.bl (decide (j ≤ i)))
  | _, _ => none
theorem o_ints {op : CmpOp} {p : Int → Int → Bool} {g : D → D → Option D} (ho : OpR X (compareOp op) (rI0 fun i j => .bl (p i j))) (hg : ∀ a b d, g a b = some d → ∃ i j, a = .int i ∧ b = .int j ∧ d = .bl (p i j)) : Op2 X Γ (compareOp op) g := fun hK => by
  refine ⟨_, ho, ?_⟩
  rintro F σ H G sl tm ta tb d Q A g1 g2 e h
  obtain ⟨i, j, e1, e2, ed⟩ := hg _ _ _ e
  subst ed
  exact ⟨i, j, int_of g1 e1, int_of g2 e2, h.here A rfl⟩
theorem o_lt : Op2 X Γ (compareOp .Lt) dLt := o_ints op_lt fun a b d h => by
  unfold dLt at h
  split at h
  · cases h; exact ⟨_, _, rfl, rfl, rfl⟩
  · cases h
theorem o_le : Op2 X Γ (compareOp .LtE) dLe := o_ints op_le fun a b d h => by
  unfold dLe at h
  split at h
  · cases h; exact ⟨_, _, rfl, rfl, rfl⟩
  · cases h
theorem o_gt : Op2 X Γ (compareOp .Gt) dGt := o_ints op_gt fun a b d h => by
  unfold dGt at h
  split at h
  · cases h; exact ⟨_, _, rfl, rfl, rfl⟩
  · cases h
theorem o_ge : Op2 X Γ (compareOp .GtE) dGe := o_ints op_ge fun a b d h => by
  unfold dGe at h
  split at h
  · cases h; exact ⟨_, _, rfl, rfl, rfl⟩
  · cases h
def isNon : D → Bool
  | .non => true
  | _ => false
def dIs (a b : D) : Option D := match b with
  | .non => some (.bl (isNon a))
  | .bl y => match a with
    | .bl x => some (.bl (decide (x = y)))
    | _ => none
  | _ => none
def dIsN (a b : D) : Option D := match b with
  | .non => some (.bl (!isNon a))
  | .bl y => match a with
    | .bl x => some (.bl (!decide (x = y)))
    | _ => none
  | _ => none
theorem isNon_v {G H : Hp} {t : T} (g : Good Γ G H t) : decide (t.v = .non) = isNon t.d := by
  cases t with
  | lst a xs => rfl
  | dic a ks xs => rfl
  | obj a dx c xs => rfl
  | leaf v d =>
    have g : Rep Γ G v d := g
    show decide (v = .non) = isNon d
    cases d with
    | non => rw [show v = .non from g]; rfl
    | bl b => rw [show v = .bl b from g]; rfl
    | int b => rw [show v = .int b from g]; rfl
    | str b => rw [show v = .str b from g]; rfl
    | tup ds => obtain ⟨_, a, vs, e, _⟩ := g; rw [e]; rfl
    | lst o ds => obtain ⟨_, a, vs, e, _⟩ := g; rw [e]; rfl
    | scr ds => obtain ⟨_, a, e, _⟩ := g; rw [e]; rfl
    | fn f => rw [show v = .ref (Γ.fa f) from g]; rfl
    | rf f => rw [show v = .ref f from g]; rfl
    | lam f c q => rw [show v = .ref f from g.1]; rfl
    | ldc ks ds => obtain ⟨_, a, vs, o, e, _⟩ := g; rw [e]; rfl
    | dic o ks ds => obtain ⟨_, a, vs, e, _⟩ := g; rw [e]; rfl
    | obj o c ds => obtain ⟨_, a, dx, vs, e, _⟩ := g; rw [e]; rfl
theorem o_is : Op2 X Γ (compareOp .Is) dIs := fun hK => by
  refine ⟨_, op_isN.or op_isBl, ?_⟩
  rintro F σ H G sl tm ta tb d Q A g1 g2 hg h
  unfold dIs at hg
  split at hg
  · rename_i e2
    cases hg
    exact .inl ⟨non_of g2 e2, by rw [isNon_v g1]; exact h.here A rfl⟩
  · rename_i y e2
    split at hg
    · rename_i x e1
      cases hg
      exact .inr ⟨x, y, bl_of g1 e1, bl_of g2 e2, h.here A rfl⟩
    · cases hg
  · cases hg
theorem o_isN : Op2 X Γ (compareOp .IsNot) dIsN := fun hK => by
  refine ⟨_, op_notN.or op_notBl, ?_⟩
  rintro F σ H G sl tm ta tb d Q A g1 g2 hg h
  unfold dIsN at hg
  split at hg
  · rename_i e2
    cases hg
    exact .inl ⟨non_of g2 e2, by rw [isNon_v g1]; exact h.here A rfl⟩
  · rename_i y e2
    split at hg
    · rename_i x e1
      cases hg
      exact .inr ⟨x, y, bl_of g1 e1, bl_of g2 e2, h.here A rfl⟩
    · cases hg
  · cases hg
/-! ### equality of data -/
def b2n (b : Bool) : Int := if b then 1 else 0
mutual
def D.eqb : D → D → Bool
  | .non, .non => true
  | .bl a, .bl b => a == b
  | .bl a, .int j => b2n a == j
  | .int i, .bl b => i == b2n b
  | .int i, .int j => i == j
  | .str x, .str y => x == y
  | .tup xs, .tup ys => D.eqbs xs ys
  | .lst _ xs, .lst _ ys => D.eqbs xs ys
  | _, _ => false
def D.eqbs : List D → List D → Bool
  | [], [] => true
  | x :: xs, y :: ys => D.eqb x y && D.eqbs xs ys
  | _, _ => false
end
mutual
/-- what == serves here, nested at most n deep -/
def D.eqOk (n : Nat) : D → Bool
  | .non => true
  | .bl _ => true
  | .int _ => true
  | .str x => PyData.canLay0 (.str x)
  | .tup xs => match n with
    | 0 => false
    | n + 1 => D.eqOks n xs
  | .lst _ xs => match n with
    | 0 => false
    | n + 1 => D.eqOks n xs
  | _ => false
def D.eqOks (n : Nat) : List D → Bool
  | [] => true
  | x :: xs => D.eqOk n x && D.eqOks n xs
end
mutual
def D.py : D → PyData
  | .non => .none
  | .bl b => .bool b
  | .int i => .int i
  | .str x => .str x
  | .tup xs => .tuple (D.pys xs)
  | .lst _ xs => .list (D.pys xs)
  | _ => .none
def D.pys : List D → List PyData
  | [] => []
  | x :: xs => D.py x :: D.pys xs
end
mutual
theorem View.dp {Γ : Gm} {H : Hp} : ∀ {v : V} (d : D) (n : Nat), View Γ H v d → d.eqOk n = true → Dp Γ.K H v d.py
  | v, .non, _, h, _ => by rw [show v = .non from h]; exact .non
  | v, .bl b, _, h, _ => by rw [show v = .bl b from h]; exact .bl b
  | v, .int i, _, h, _ => by rw [show v = .int i from h]; exact .int i
  | v, .str x, _, h, _ => by rw [show v = .str x from h]; exact .str x
  | v, .tup ds, 0, _, k => nomatch k
  | v, .tup ds, n + 1, ⟨_, a, vs, e, q, r⟩, k => by
    subst e
    exact .tup q (Views.dp ds n r k)
  | v, .lst o ds, 0, _, k => nomatch k
  | v, .lst o ds, n + 1, ⟨_, a, vs, e, q, r⟩, k => by
    subst e
    exact .lst (SqL.of q) (Views.dp ds n r k)
  | v, .scr ns, _, _, k => nomatch k
  | v, .fn f, _, _, k => nomatch k
  | v, .rf f, _, _, k => nomatch k
  | v, .lam f _ _, _, _, k => nomatch k
  | v, .ldc _ _, _, _, k => nomatch k
  | v, .dic _ _ _, _, _, k => nomatch k
  | v, .obj _ _ _, _, _, k => nomatch k
theorem Views.dp {Γ : Gm} {H : Hp} : ∀ {vs : List V} (ds : List D) (n : Nat), Views Γ H vs ds → D.eqOks n ds = true → DpAll Γ.K H vs (D.pys ds)
  | vs, [], _, h, _ => by rw [show vs = [] from h]; exact .nil
  | vs, d :: ds, n, ⟨v, r, e, h1, h2⟩, k => by
    subst e
    rw [D.eqOks, Bool.and_eq_true] at k
    exact .cons (View.dp d n h1 k.1) (Views.dp ds n h2 k.2)
end
mutual
theorem D.py_lay : ∀ (d : D) (n : Nat), d.eqOk n = true → d.py.canLay0 = true ∧ d.py.depth ≤ n
  | .non, _, _ => ⟨rfl, Nat.zero_le _⟩
  | .bl _, _, _ => ⟨rfl, Nat.zero_le _⟩
  | .int _, _, _ => ⟨rfl, Nat.zero_le _⟩
  | .str x, _, h => ⟨h, Nat.zero_le _⟩
  | .tup ds, 0, h => nomatch h
  | .tup ds, n + 1, h => by
    obtain ⟨h1, h2⟩ := D.pys_lay ds n h
    exact ⟨by rw [D.py, PyData.canLay0]; exact h1, by rw [D.py, PyData.depth]; omega⟩
  | .lst o ds, 0, h => nomatch h
  | .lst o ds, n + 1, h => by
    obtain ⟨h1, h2⟩ := D.pys_lay ds n h
    exact ⟨by rw [D.py, PyData.canLay0]; exact h1, by rw [D.py, PyData.depth]; omega⟩
  | .scr ns, _, k => nomatch k
  | .fn f, _, k => nomatch k
  | .rf f, _, k => nomatch k
  | .lam _ _ _, _, k => nomatch k
  | .ldc _ _, _, k => nomatch k
  | .dic _ _ _, _, k => nomatch k
  | .obj _ _ _, _, k => nomatch k
theorem D.pys_lay : ∀ (ds : List D) (n : Nat), D.eqOks n ds = true → PyData.canLayAll0 (D.pys ds) = true ∧ PyData.depthAll (D.pys ds) ≤ n
  | [], _, _ => ⟨rfl, Nat.zero_le _⟩
  | d :: ds, n, h => by
    rw [D.eqOks, Bool.and_eq_true] at h
    obtain ⟨h1, h2⟩ := D.py_lay d n h.1
    obtain ⟨h3, h4⟩ := D.pys_lay ds n h.2
    exact ⟨by rw [D.pys, PyData.canLayAll0, h1, h3]; rfl, by rw [D.pys, PyData.depthAll]; omega⟩
end
theorem D.shaped {d : D} (h : d.eqOk 64 = true) : SeqAt.shaped d.py = true := by
  obtain ⟨h1, h2⟩ := D.py_lay d 64 h
  unfold SeqAt.shaped
  rw [h1, decide_eq_true h2]
  rfl
mutual
theorem D.eqv_eqb : ∀ (a b : D) (n m : Nat), a.eqOk n = true → b.eqOk m = true → PyData.eqv a.py b.py = D.eqb a b
  | .non, b, n, m, h1, h2 => by cases b <;> first | rfl | exact nomatch h2
  | .bl x, b, n, m, h1, h2 => by cases b <;> first | rfl | exact nomatch h2
  | .int x, b, n, m, h1, h2 => by cases b <;> first | rfl | exact nomatch h2
  | .str x, b, n, m, h1, h2 => by cases b <;> first | rfl | exact nomatch h2
  | .tup xs, .tup ys, n + 1, m + 1, h1, h2 => by
    rw [D.py, D.py, PyData.eqv, D.eqb]
    exact D.eqvs_eqbs xs ys n m h1 h2
  | .tup xs, b, 0, m, h1, h2 => nomatch h1
  | .tup xs, .tup ys, n + 1, 0, h1, h2 => nomatch h2
  | .tup xs, .non, n + 1, m, h1, h2 => rfl
  | .tup xs, .bl _, n + 1, m, h1, h2 => rfl
  | .tup xs, .int _, n + 1, m, h1, h2 => rfl
  | .tup xs, .str _, n + 1, m, h1, h2 => rfl
  | .tup xs, .lst _ _, n + 1, m, h1, h2 => rfl
  | .tup xs, .scr _, n + 1, m, h1, h2 => nomatch h2
  | .tup xs, .fn _, n + 1, m, h1, h2 => nomatch h2
  | .tup xs, .rf _, n + 1, m, h1, h2 => nomatch h2
  | .tup xs, .lam _ _ _, n + 1, m, h1, h2 => nomatch h2
  | .tup xs, .ldc _ _, n + 1, m, h1, h2 => nomatch h2
  | .tup xs, .dic _ _ _, n + 1, m, h1, h2 => nomatch h2
  | .tup xs, .obj _ _ _, n + 1, m, h1, h2 => nomatch h2
  | .lst o xs, .lst o' ys, n + 1, m + 1, h1, h2 => by
    rw [D.py, D.py, PyData.eqv, D.eqb]
    exact D.eqvs_eqbs xs ys n m h1 h2
  | .lst o xs, b, 0, m, h1, h2 => nomatch h1
  | .lst o xs, .lst o' ys, n + 1, 0, h1, h2 => nomatch h2
  | .lst o xs, .non, n + 1, m, h1, h2 => rfl
  | .lst o xs, .bl _, n + 1, m, h1, h2 => rfl
  | .lst o xs, .int _, n + 1, m, h1, h2 => rfl
  | .lst o xs, .str _, n + 1, m, h1, h2 => rfl
  | .lst o xs, .tup _, n + 1, m, h1, h2 => rfl
  | .lst o xs, .scr _, n + 1, m, h1, h2 => nomatch h2
  | .lst o xs, .fn _, n + 1, m, h1, h2 => nomatch h2
  | .lst o xs, .rf _, n + 1, m, h1, h2 => nomatch h2
  | .lst o xs, .lam _ _ _, n + 1, m, h1, h2 => nomatch h2
  | .lst o xs, .ldc _ _, n + 1, m, h1, h2 => nomatch h2
  | .lst o xs, .dic _ _ _, n + 1, m, h1, h2 => nomatch h2
  | .lst o xs, .obj _ _ _, n + 1, m, h1, h2 => nomatch h2
  | .scr _, _, _, _, h1, _ => nomatch h1
  | .fn _, _, _, _, h1, _ => nomatch h1
theorem D.eqvs_eqbs : ∀ (as bs : List D) (n m : Nat), D.eqOks n as = true → D.eqOks m bs = true → PyData.eqvAll (D.pys as) (D.pys bs) = D.eqbs as bs
  | [], [], _, _, _, _ => rfl
  | [], _ :: _, _, _, _, _ => rfl
  | _ :: _, [], _, _, _, _ => rfl
  | a :: as, b :: bs, n, m, h1, h2 => by
    rw [D.eqOks, Bool.and_eq_true] at h1 h2
    rw [D.pys, D.pys, PyData.eqvAll, D.eqbs, D.eqv_eqb a b n m h1.1 h2.1, D.eqvs_eqbs as bs n m h1.2 h2.2]
end
def dEq (a b : D) : Option D := if a.eqOk 64 = true ∧ b.eqOk 64 = true then some (.bl (D.eqb a b)) else none
def dNe (a b : D) : Option D := if a.eqOk 64 = true ∧ b.eqOk 64 = true then some (.bl (!D.eqb a b)) else none
theorem o_eq (hu : X.A.units + 64 < cLine) : Op2 X Γ (compareOp .Eq) dEq := fun hK => by
  refine ⟨_, op_eqD hu, ?_⟩
  rintro F σ H G sl tm ta tb d Q A g1 g2 hg h
  unfold dEq at hg
  split at hg
  · rename_i hz
    cases hg
    have v1 := View.dp _ 64 (g1.view A.sub) hz.1
    have v2 := View.dp _ 64 (g2.view A.sub) hz.2
    rw [← hK] at v1 v2
    exact ⟨_, _, v1, v2, D.shaped hz.1, D.shaped hz.2, by rw [D.eqv_eqb _ _ 64 64 hz.1 hz.2]; exact h.here A rfl⟩
  · cases hg
theorem o_ne (hu : X.A.units + 64 < cLine) : Op2 X Γ (compareOp .NotEq) dNe := fun hK => by
  refine ⟨_, op_neD hu, ?_⟩
  rintro F σ H G sl tm ta tb d Q A g1 g2 hg h
  unfold dNe at hg
  split at hg
  · rename_i hz
    cases hg
    have v1 := View.dp _ 64 (g1.view A.sub) hz.1
    have v2 := View.dp _ 64 (g2.view A.sub) hz.2
    rw [← hK] at v1 v2
    exact ⟨_, _, v1, v2, D.shaped hz.1, D.shaped hz.2, by rw [D.eqv_eqb _ _ 64 64 hz.1 hz.2]; exact h.here A rfl⟩
  · cases hg
/-! ### in -/
def D.isIn (x : D) (ys : List D) : Bool := ys.any fun y => D.eqb y x
theorem isIn_py (x : D) (hx : x.eqOk 64 = true) : ∀ (ys : List D), D.eqOks 63 ys = true → ((D.pys ys).any fun z => PyData.eqv z x.py) = D.isIn x ys
  | [], _ => rfl
  | y :: ys, h => by
    rw [D.eqOks, Bool.and_eq_true] at h
    rw [D.pys, List.any_cons, D.eqv_eqb y x 63 64 h.1 hx, isIn_py x hx ys h.2]
    rfl
def dIn (x s : D) : Option D := match s with
  | .lst _ ys => if x.eqOk 64 = true ∧ D.eqOks 63 ys = true then some (.bl (D.isIn x ys)) else none
  | .tup ys => if x.eqOk 64 = true ∧ D.eqOks 63 ys = true then some (.bl (D.isIn x ys)) else none
  | _ => none
def dNotIn (x s : D) : Option D := match s with
  | .lst _ ys => if x.eqOk 64 = true ∧ D.eqOks 63 ys = true then some (.bl (!D.isIn x ys)) else none
  | .tup ys => if x.eqOk 64 = true ∧ D.eqOks 63 ys = true then some (.bl (!D.isIn x ys)) else none
  | _ => none
def rInT (K : PySem.W.Frag) (neg : Bool) : R2 := fun x y H Q => ∃ d ds, Dp K H x d ∧ Dp K H y (.tuple ds) ∧ SeqAt.shaped d = true ∧ SeqAt.shaped (.tuple ds) = true ∧ Q (.bl (if neg then !(ds.any fun z => PyData.eqv z d) else (ds.any fun z => PyData.eqv z d))) H
theorem op_inT (hu : X.A.units + 65 < cLine) : OpR X (compareOp .In) (rInT X.K false) := by
  intro pins s σ H x y v u Q I rx ry h
  obtain ⟨d, ds, hd, he, sd, se, q⟩ := h
  obtain ⟨as, r1⟩ := Dp.reads I d x v hd rx
  obtain ⟨bs, r2⟩ := Dp.reads I (.tuple ds) y u he ry
  exact SeqAt.in_tuple_reads r2 r1 (SeqAt.canLay_of_shaped se) (SeqAt.canLay_of_shaped sd) (room_in_shaped sd hu) ⟨.bl _, H, I, rfl, q⟩
theorem op_notInT (hu : X.A.units + 65 < cLine) : OpR X (compareOp .NotIn) (rInT X.K true) := by
  intro pins s σ H x y v u Q I rx ry h
  obtain ⟨d, ds, hd, he, sd, se, q⟩ := h
  obtain ⟨as, r1⟩ := Dp.reads I d x v hd rx
  obtain ⟨bs, r2⟩ := Dp.reads I (.tuple ds) y u he ry
  exact SeqAt.notIn_tuple_reads r2 r1 (SeqAt.canLay_of_shaped se) (SeqAt.canLay_of_shaped sd) (room_in_shaped sd hu) ⟨.bl _, H, I, rfl, q⟩
theorem o_in (hu : X.A.units + 65 < cLine) : Op2 X Γ (compareOp .In) dIn := fun hK => by
  refine ⟨_, (op_inD hu).or (op_inT hu), ?_⟩
  rintro F σ H G sl tm ta tb d Q A g1 g2 hg h
  unfold dIn at hg
  split at hg
  · rename_i o ys e2
    split at hg
    · rename_i hz
      cases hg
      have v1 := View.dp _ 64 (g1.view A.sub) hz.1
      have v2 := View.dp _ 64 (g2.view A.sub) (by rw [e2]; exact hz.2)
      rw [← hK] at v1 v2
      rw [e2] at v2
      exact .inl ⟨_, _, v1, v2, D.shaped hz.1, D.shaped (d := .lst o ys) hz.2, by rw [isIn_py _ hz.1 _ hz.2]; exact h.here A rfl⟩
    · cases hg
  · rename_i ys e2
    split at hg
    · rename_i hz
      cases hg
      have v1 := View.dp _ 64 (g1.view A.sub) hz.1
      have v2 := View.dp _ 64 (g2.view A.sub) (by rw [e2]; exact hz.2)
      rw [← hK] at v1 v2
      rw [e2] at v2
      exact .inr ⟨_, _, v1, v2, D.shaped hz.1, D.shaped (d := .tup ys) hz.2, by rw [isIn_py _ hz.1 _ hz.2]; exact h.here A rfl⟩
    · cases hg
  · cases hg
theorem o_notIn (hu : X.A.units + 65 < cLine) : Op2 X Γ (compareOp .NotIn) dNotIn := fun hK => by
  refine ⟨_, (op_notInD hu).or (op_notInT hu), ?_⟩
  rintro F σ H G sl tm ta tb d Q A g1 g2 hg h
  unfold dNotIn at hg
  split at hg
  · rename_i o ys e2
    split at hg
    · rename_i hz
      cases hg
      have v1 := View.dp _ 64 (g1.view A.sub) hz.1
      have v2 := View.dp _ 64 (g2.view A.sub) (by rw [e2]; exact hz.2)
      rw [← hK] at v1 v2
      rw [e2] at v2
      exact .inl ⟨_, _, v1, v2, D.shaped hz.1, D.shaped (d := .lst o ys) hz.2, by rw [isIn_py _ hz.1 _ hz.2]; exact h.here A rfl⟩
    · cases hg
  · rename_i ys e2
    split at hg
    · rename_i hz
      cases hg
      have v1 := View.dp _ 64 (g1.view A.sub) hz.1
      have v2 := View.dp _ 64 (g2.view A.sub) (by rw [e2]; exact hz.2)
      rw [← hK] at v1 v2
      rw [e2] at v2
      exact .inr ⟨_, _, v1, v2, D.shaped hz.1, D.shaped (d := .tup ys) hz.2, by rw [isIn_py _ hz.1 _ hz.2]; exact h.here A rfl⟩
    · cases hg
  · cases hg
end
end L2.Pv
end
section
set_option Elab.async false
set_option linter.all false
set_option autoImplicit false
set_option maxRecDepth 100000
namespace L2.Pv
open PySem PySem.Spec PyProof.Rows

/-! ### keys of dicts -/
def posOf {α : Type} [DecidableEq α] : List α → α → Option Nat
  | [], _ => none
  | x :: xs, y => if x = y then some 0 else (posOf xs y).map (· + 1)
def D.key1 : D → Option Key
  | .int i => some (.inl i)
  | .str s => some (.inr s)
  | _ => none
def D.keys1 : List D → Option (List Key)
  | [] => some []
  | d :: ds => match d.key1 with
    | some k => (D.keys1 ds).map (k :: ·)
    | none => none
def D.keyT : D → Option (List Key)
  | .tup ds => D.keys1 ds
  | _ => none
/-- where the key d stands; none: it is no key of that kind -/
def DKs.ix (ks : DKs) (d : D) : Option (Option Nat) := match ks with
  | .k ks => d.key1.map (posOf ks)
  | .t ks => d.keyT.map (posOf ks)
theorem posOf_lt {α : Type} [DecidableEq α] : ∀ {xs : List α} {y : α} {j : Nat}, posOf xs y = some j → xs[j]? = some y
  | [], y, j, h => nomatch h
  | x :: xs, y, j, h => by
    unfold posOf at h
    by_cases e : x = y
    · rw [if_pos e] at h
      cases h
      simp [e]
    · rw [if_neg e] at h
      cases hp : posOf xs y with
      | none => rw [hp] at h; cases h
      | some k =>
        rw [hp] at h
        cases h
        simpa using posOf_lt hp
theorem posOf_none {α : Type} [DecidableEq α] : ∀ {xs : List α} {y : α}, posOf xs y = none → y ∉ xs
  | [], y, h => by simp
  | x :: xs, y, h => by
    unfold posOf at h
    by_cases e : x = y
    · rw [if_pos e] at h; cases h
    · rw [if_neg e] at h
      cases hp : posOf xs y with
      | some k => rw [hp] at h; cases h
      | none =>
        intro z
        rcases List.mem_cons.mp z with z | z
        · exact e z.symm
        · exact posOf_none hp z
theorem valV_zip {κ : Type} [DecidableEq κ] : ∀ {ks : List κ} {vs : List V} {k : κ}, ks.length = vs.length → valV (ks.zip vs) k = (posOf ks k).bind (vs[·]?)
  | [], vs, k, h => rfl
  | x :: ks, [], k, h => by simp at h
  | x :: ks, v :: vs, k, h => by
    rw [List.zip_cons_cons]
    unfold posOf
    by_cases e : x = k
    · rw [valV_pos (by exact e), if_pos e]; rfl
    · rw [valV_neg (by exact e), if_neg e, valV_zip (by simpa using h)]
      cases posOf ks k with
      | none => rfl
      | some j => simp
section
variable {Γ : Gm} {H G : Hp}
theorem key1_v {t : T} {k : Key} (g : Good Γ G H t) (h : t.d.key1 = some k) : t.v = kV k := by
  cases e : t.d with
  | int i => rw [e] at h; cases h; exact int_of g e
  | str i => rw [e] at h; cases h; exact str_of g e
  | _ => rw [e] at h; cases h
theorem rep_key1 {v : V} {d : D} {k : Key} (r : Rep Γ G v d) (h : d.key1 = some k) : v = kV k := by
  cases d with
  | int i => cases h; exact r
  | str i => cases h; exact r
  | _ => cases h
theorem reps_keys : ∀ {vs : List V} {ds : List D} {ks : List Key}, Reps Γ G vs ds → D.keys1 ds = some ks → vs = ks.map kV
  | vs, [], ks, r, h => by cases h; exact r
  | vs, d :: ds, ks, ⟨v, r, e, h1, h2⟩, h => by
    unfold D.keys1 at h
    cases hk : d.key1 with
    | none => rw [hk] at h; cases h
    | some k =>
      rw [hk] at h
      cases hs : D.keys1 ds with
      | none => rw [hs] at h; cases h
      | some ks' =>
        rw [hs] at h
        cases h
        rw [e, rep_key1 h1 hk, reps_keys h2 hs]
        rfl
theorem keyT_v (s : Sub G H) {t : T} {ks : List Key} (g : Good Γ G H t) (h : t.d.keyT = some ks) : ∃ b, t.v = .ref b ∧ G b = some (.tup (ks.map kV)) := by
  cases e : t.d with
  | tup ds =>
    rw [e] at h
    obtain ⟨z, a, vs, ev, q, r⟩ := tup_of g e
    have h : D.keys1 ds = some ks := h
    rw [reps_keys r h] at q
    exact ⟨a, ev, q⟩
  | _ => rw [e] at h; cases h
/-- a dict that is read -/
theorem dget_of (s : Sub G H) {a : Addr} {ks : DKs} {vs : List V} {t : T} {o : Option Nat} (hd : Rd H a (dicHO ks vs)) (hl : ks.len = vs.length) (g : Good Γ G H t) (h : ks.ix t.d = some o) : DGet H a t.v (o.bind (vs[·]?)) := by
  cases ks with
  | k ks =>
    unfold DKs.ix at h
    cases hk : t.d.key1 with
    | none => rw [hk] at h; cases h
    | some k =>
      rw [hk] at h
      cases h
      exact .inl ⟨_, k, hd, key1_v g hk, (valV_zip hl).symm⟩
  | t ks =>
    unfold DKs.ix at h
    cases hk : t.d.keyT with
    | none => rw [hk] at h; cases h
    | some k =>
      rw [hk] at h
      cases h
      obtain ⟨b, ev, eb⟩ := keyT_v s g hk
      exact .inr ⟨_, k, b, hd, ev, s _ _ eb, (valV_zip hl).symm⟩
end
/-! ### subscripts and in of dicts, by values -/
def rIxDic : R2 := fun x y H Q => ∃ a v, x = .ref a ∧ DGet H a y (some v) ∧ Q v H
theorem ix_dic {X : Cx} (hu : X.A.units + 1 < cLine) : IxR X rIxDic := by
  intro value slice pins s σ H x y v u Q I rx ry h hs
  obtain ⟨a, z, rfl, g, q⟩ := h
  obtain rfl : v = Value.ref a := rx
  exact tail_any (dict_typeIs I g) slot_dict_getitem.lookup (d_getItem hu I g ry fun w' s' I' rw' => ⟨z, H, I', rw', q⟩) hs
def rInDic : R2 := fun x y H Q => ∃ a o, y = .ref a ∧ DGet H a x o ∧ Q (.bl o.isSome) H
def rNotInDic : R2 := fun x y H Q => ∃ a o, y = .ref a ∧ DGet H a x o ∧ Q (.bl (!o.isSome)) H
theorem op_inDic {X : Cx} (hu : X.A.units + 1 < cLine) : OpR X (compareOp .In) rInDic := by
  intro pins s σ H x y v u Q I rx ry h
  obtain ⟨a, o, rfl, g, q⟩ := h
  obtain rfl : u = Value.ref a := ry
  exact d_in hu I g rx fun s' I' => ⟨.bl o.isSome, H, I', rfl, q⟩
theorem op_notInDic {X : Cx} (hu : X.A.units + 1 < cLine) : OpR X (compareOp .NotIn) rNotInDic := by
  intro pins s σ H x y v u Q I rx ry h
  obtain ⟨a, o, rfl, g, q⟩ := h
  obtain rfl : u = Value.ref a := ry
  exact d_notIn hu I g rx fun s' I' => ⟨.bl (!o.isSome), H, I', rfl, q⟩
section
variable {X : Cx} {Γ : Gm}
theorem dic_view {H G : Hp} (s : Sub G H) {t : T} {o : Bool} {ks : DKs} {ds : List D} (g : Good Γ G H t) (e : t.d = .dic o ks ds) : (ds.length ≤ sizeLine ∧ ks.len = ds.length) ∧ ∃ a vs, t.v = .ref a ∧ H a = some (dicHO ks vs) ∧ vs.length = ds.length := by
  have vw := g.view s
  rw [e] at vw
  obtain ⟨z, a, vs, ev, q, r⟩ := vw
  exact ⟨⟨z.1, z.2.1⟩, a, vs, ev, q, r.len⟩
theorem ldc_view {H G : Hp} (s : Sub G H) {t : T} {ks : DKs} {ds : List D} (g : Good Γ G H t) (e : t.d = .ldc ks ds) : (ds.length ≤ sizeLine ∧ ks.len = ds.length) ∧ ∃ a vs, t.v = .ref a ∧ Rd H a (dicHO ks vs) ∧ vs.length = ds.length := by
  have vw := g.view s
  rw [e] at vw
  obtain ⟨z, a, vs, o, ev, q, r⟩ := vw
  exact ⟨⟨z.1, z.2.1⟩, a, vs, ev, .inr ⟨o, q⟩, r.len⟩
def dInX (x s : D) : Option D := match s with
  | .ldc ks _ => (ks.ix x).map fun o => .bl (o.isSome)
  | .dic _ ks _ => (ks.ix x).map fun o => .bl o.isSome
  | _ => dIn x s
def dNotInX (x s : D) : Option D := match s with
  | .ldc ks _ => (ks.ix x).map fun o => .bl (!o.isSome)
  | .dic _ ks _ => (ks.ix x).map fun o => .bl (!o.isSome)
  | _ => dNotIn x s
theorem posOf_vs {ks : DKs} {d : D} {o : Option Nat} {vs : List V} (h : ks.ix d = some o) (hl : ks.len = vs.length) : (o.bind (vs[·]?)).isSome = o.isSome := by
  cases o with
  | none => rfl
  | some j =>
    have : j < vs.length := by
      rw [← hl]
      cases ks with
      | k ks =>
        unfold DKs.ix at h
        cases hk : d.key1 with
        | none => rw [hk] at h; cases h
        | some k =>
          rw [hk] at h
          have h : posOf ks k = some j := Option.some.inj h
          exact (List.getElem?_eq_some_iff.mp (posOf_lt h)).1
      | t ks =>
        unfold DKs.ix at h
        cases hk : d.keyT with
        | none => rw [hk] at h; cases h
        | some k =>
          rw [hk] at h
          have h : posOf ks k = some j := Option.some.inj h
          exact (List.getElem?_eq_some_iff.mp (posOf_lt h)).1
    simp [List.getElem?_eq_getElem this]
theorem o_inX (hu : X.A.units + 65 < cLine) : Op2 X Γ (compareOp .In) dInX := fun hK => by
  obtain ⟨r, ho, hs⟩ := o_in (Γ := Γ) hu hK
  refine ⟨_, ho.or (op_inDic (by omega)), ?_⟩
  rintro F σ H G sl tm ta tb d Q A g1 g2 hg h
  cases e : tb.d with
  | ldc ks ds =>
    rw [e] at hg
    unfold dInX at hg
    dsimp only at hg
    cases hx : ks.ix ta.d with
    | none => rw [hx] at hg; cases hg
    | some o =>
      rw [hx] at hg
      cases hg
      obtain ⟨z, a, vs, ev, q, hl⟩ := ldc_view A.sub g2 e
      have hl' : ks.len = vs.length := z.2.trans hl.symm
      exact .inr ⟨a, _, ev, dget_of A.sub q hl' g1 hx, by rw [posOf_vs hx hl']; exact h.here A rfl⟩
  | dic o ks ds =>
    rw [e] at hg
    unfold dInX at hg
    dsimp only at hg
    cases hx : ks.ix ta.d with
    | none => rw [hx] at hg; cases hg
    | some o =>
      rw [hx] at hg
      cases hg
      obtain ⟨z, a, vs, ev, q, hl⟩ := dic_view A.sub g2 e
      have hl' : ks.len = vs.length := z.2.trans hl.symm
      exact .inr ⟨a, _, ev, dget_of A.sub (.inl q) hl' g1 hx, by rw [posOf_vs hx hl']; exact h.here A rfl⟩
  | _ => exact .inl (hs F σ H G sl tm ta tb d Q A g1 g2 (by rw [e] at hg ⊢; exact hg) h)
theorem o_notInX (hu : X.A.units + 65 < cLine) : Op2 X Γ (compareOp .NotIn) dNotInX := fun hK => by
  obtain ⟨r, ho, hs⟩ := o_notIn (Γ := Γ) hu hK
  refine ⟨_, ho.or (op_notInDic (by omega)), ?_⟩
  rintro F σ H G sl tm ta tb d Q A g1 g2 hg h
  cases e : tb.d with
  | ldc ks ds =>
    rw [e] at hg
    unfold dNotInX at hg
    dsimp only at hg
    cases hx : ks.ix ta.d with
    | none => rw [hx] at hg; cases hg
    | some o =>
      rw [hx] at hg
      cases hg
      obtain ⟨z, a, vs, ev, q, hl⟩ := ldc_view A.sub g2 e
      have hl' : ks.len = vs.length := z.2.trans hl.symm
      exact .inr ⟨a, _, ev, dget_of A.sub q hl' g1 hx, by rw [posOf_vs hx hl']; exact h.here A rfl⟩
  | dic o ks ds =>
    rw [e] at hg
    unfold dNotInX at hg
    dsimp only at hg
    cases hx : ks.ix ta.d with
    | none => rw [hx] at hg; cases hg
    | some o =>
      rw [hx] at hg
      cases hg
      obtain ⟨z, a, vs, ev, q, hl⟩ := dic_view A.sub g2 e
      have hl' : ks.len = vs.length := z.2.trans hl.symm
      exact .inr ⟨a, _, ev, dget_of A.sub (.inl q) hl' g1 hx, by rw [posOf_vs hx hl']; exact h.here A rfl⟩
  | _ => exact .inl (hs F σ H G sl tm ta tb d Q A g1 g2 (by rw [e] at hg ⊢; exact hg) h)
end
end L2.Pv
end
section
set_option Elab.async false
set_option linter.all false
set_option autoImplicit false
set_option maxRecDepth 100000
namespace L2.Pv
open PySem PySem.Spec PyProof.Rows

/-! ### subscripts -/
def dIxA (a b : D) : Option D := match a, b with
  | .lst _ xs, .int i => atI xs i
  | .tup xs, .int i => atI xs i
  | .dic _ ks xs, k => (ks.ix k).bind fun o => o.bind (xs[·]?)
  | .ldc ks xs, k => (ks.ix k).bind fun o => o.bind (xs[·]?)
  | _, _ => none
def dIx (a b : D) : Option D := match dIxA a b with
  | some d => if nOwn d then some d else none
  | none => none
/-- the j-th part of a sequence -/
theorem part_of {Γ : Gm} {G H : Hp} (s : Sub G H) {t : T} {ds : List D} {j : Nat} {d : D} (g : Good Γ G H t) (e : t.d = .tup ds ∨ ∃ o, t.d = .lst o ds) (h : ds[j]? = some d) : ∃ a vs u, t.v = .ref a ∧ vs[j]? = some u.v ∧ u.d = d ∧ Good Γ G H u ∧ (∀ b, u.cnt b ≤ t.cnt b) ∧
    ((∃ hT : t.d = .tup ds, G a = some (.tup vs)) ∨ H a = some (.lst vs)) ∧ vs.length = ds.length := by
  cases t with
  | leaf v d' =>
    rcases e with e | ⟨o, e⟩
    · have e : d' = .tup ds := e
      subst e
      obtain ⟨z, a, vs, ev, q, r⟩ := g
      obtain ⟨w, hw, rw'⟩ := r.get h
      exact ⟨a, vs, .leaf w d, ev, hw, rfl, rw', fun b => by rw [T.cnt]; exact Nat.zero_le _, .inl ⟨rfl, q⟩, r.len⟩
    · have e : d' = .lst o ds := e
      subst e
      obtain ⟨z, a, vs, ev, q, r⟩ := g
      obtain ⟨w, hw, rw'⟩ := r.get h
      exact ⟨a, vs, .leaf w d, ev, hw, rfl, rw', fun b => by rw [T.cnt]; exact Nat.zero_le _, .inr (s _ _ q), r.len⟩
  | lst a xs =>
    rcases e with e | ⟨o, e⟩
    · exact nomatch e
    · have e : D.lst true (T.ds xs) = .lst o ds := e
      cases e
      rw [T.ds_map, List.getElem?_map] at h
      cases hx : xs[j]? with
      | none => rw [hx] at h; cases h
      | some u =>
        rw [hx] at h
        have h : some u.d = some d := h
        cases h
        refine ⟨a, xs.map T.v, u, rfl, by rw [List.getElem?_map, hx]; rfl, rfl, Goods_iff.mp g.2 u (List.mem_of_getElem? hx), fun b => ?_, .inr g.1.1, by rw [T.ds_map]; simp⟩
        have := cnts_mem (a := b) (List.mem_of_getElem? hx)
        rw [T.cnt]
        omega
  | dic a ks xs =>
    rcases e with e | ⟨o, e⟩
    · exact nomatch e
    · exact nomatch e
  | obj a dx c xs =>
    rcases e with e | ⟨o, e⟩
    · exact nomatch e
    · exact nomatch e
/-- .. of a dict -/
theorem ldpart_of {Γ : Gm} {G H : Hp} (s : Sub G H) {t : T} {ks : DKs} {ds : List D} {j : Nat} {d : D} (g : Good Γ G H t) (e : t.d = .ldc ks ds) (h : ds[j]? = some d) : ∃ a vs u, t.v = .ref a ∧ vs[j]? = some u.v ∧ u.d = d ∧ Good Γ G H u ∧ (∀ b, u.cnt b ≤ t.cnt b) ∧
    Rd H a (dicHO ks vs) ∧ ks.len = vs.length := by
  cases t with
  | leaf v d' =>
    have e : d' = .ldc ks ds := e
    subst e
    obtain ⟨z, a, vs, o, ev, q, r⟩ := g
    obtain ⟨w, hw, rw'⟩ := r.get h
    exact ⟨a, vs, .leaf w d, ev, hw, rfl, rw', fun b => by rw [T.cnt]; exact Nat.zero_le _, .inr ⟨o, s _ _ q⟩, z.2.1.trans r.len.symm⟩
  | dic a ks' xs => exact nomatch e
  | lst a xs => exact nomatch e
  | obj a dx c xs => exact nomatch e
theorem dpart_of {Γ : Gm} {G H : Hp} (s : Sub G H) {t : T} {o : Bool} {ks : DKs} {ds : List D} {j : Nat} {d : D} (g : Good Γ G H t) (e : t.d = .dic o ks ds) (h : ds[j]? = some d) : ∃ a vs u, t.v = .ref a ∧ vs[j]? = some u.v ∧ u.d = d ∧ Good Γ G H u ∧ (∀ b, u.cnt b ≤ t.cnt b) ∧
    H a = some (dicHO ks vs) ∧ ks.len = vs.length := by
  cases t with
  | leaf v d' =>
    have e : d' = .dic o ks ds := e
    subst e
    obtain ⟨z, a, vs, ev, q, r⟩ := g
    obtain ⟨w, hw, rw'⟩ := r.get h
    exact ⟨a, vs, .leaf w d, ev, hw, rfl, rw', fun b => by rw [T.cnt]; exact Nat.zero_le _, s _ _ q, z.2.2.1.trans r.len.symm⟩
  | dic a ks' xs =>
    have e : D.dic true ks' (T.ds xs) = .dic o ks ds := e
    cases e
    rw [T.ds_map, List.getElem?_map] at h
    cases hx : xs[j]? with
    | none => rw [hx] at h; cases h
    | some u =>
      rw [hx] at h
      have h : some u.d = some d := h
      cases h
      refine ⟨a, xs.map T.v, u, rfl, by rw [List.getElem?_map, hx]; rfl, rfl, Goods_iff.mp g.2 u (List.mem_of_getElem? hx), fun b => ?_, g.1.1, by rw [List.length_map]; exact g.1.2.2.1⟩
      have := cnts_mem (a := b) (List.mem_of_getElem? hx)
      rw [T.cnt]
      omega
  | lst a xs => exact nomatch e
  | obj a dx c xs => exact nomatch e
theorem atI_ix {α : Type} {xs : List α} {i : Int} {v : α} (h : atI xs i = some v) : ∃ j, ixN xs.length i = some j ∧ xs[j]? = some v := by
  unfold atI at h
  cases hx : ixN xs.length i with
  | none => rw [hx] at h; cases h
  | some j => rw [hx] at h; exact ⟨j, rfl, h⟩
theorem atI_of {α : Type} {xs : List α} {i : Int} {v : α} {j : Nat} (h1 : ixN xs.length i = some j) (h2 : xs[j]? = some v) : atI xs i = some v := by
  unfold atI
  rw [h1]
  exact h2
section
variable {X : Cx} {Γ : Gm} {E : WX} {W Wa Wb Wc : List Nat} {ra rb rc : Option Nat} {a b c : Expr} {fa fb fc : Ev} {pos : Pos}
/-- the part that a subscript reads -/
theorem ix_part (hK : X.K = Γ.K) {F : Fr} {σ : St} {H G : Hp} {sl : TS'} {tm : List T} (A : Abs Γ F σ H G sl tm) {ta tb : T} {d : D} (g1 : Good Γ G H ta) (g2 : Good Γ G H tb) (hd : dIxA ta.d tb.d = some d) {Q : VK}
    (q : ∀ u : T, Good Γ G H u → u.d = d → (∀ b, u.cnt b ≤ ta.cnt b) → Q u.v H) : (rIxL X.K ta.v tb.v H Q ∨ rIxT X.K ta.v tb.v H Q) ∨ rIxDic ta.v tb.v H Q := by
  unfold dIxA at hd
  split at hd
  · rename_i o xs i e1 e2
    obtain ⟨j, hj, hx⟩ := atI_ix hd
    obtain ⟨a, vs, u, ev, hv, eu, gu, le, hh, hl⟩ := part_of A.sub g1 (.inr ⟨o, e1⟩) hx
    rcases hh with ⟨hT, _⟩ | hh
    · rw [e1] at hT; cases hT
    · exact .inl (.inl ⟨a, vs, i, u.v, ev, int_of g2 e2, SqL.of hh, atI_of (by rw [hl]; exact hj) hv, q u gu eu le⟩)
  · rename_i xs i e1 e2
    obtain ⟨j, hj, hx⟩ := atI_ix hd
    obtain ⟨a, vs, u, ev, hv, eu, gu, le, hh, hl⟩ := part_of A.sub g1 (.inl e1) hx
    rcases hh with ⟨_, hT⟩ | hh
    · exact .inl (.inr ⟨a, vs, i, u.v, ev, int_of g2 e2, by rw [hK]; exact sqT_of A.sub hT, atI_of (by rw [hl]; exact hj) hv, q u gu eu le⟩)
    · obtain ⟨_, a', vs', ev', q', _⟩ := tup_of g1 e1
      rw [ev] at ev'
      cases ev'
      -- a tuple's address holds no list
      have := A.sub _ _ q'
      rw [hh] at this
      cases this
  · rename_i _ o ks xs e1
    cases hx : ks.ix tb.d with
    | none => rw [hx] at hd; cases hd
    | some oj =>
      rw [hx] at hd
      cases oj with
      | none => cases hd
      | some j =>
        have hd : xs[j]? = some d := hd
        obtain ⟨a, vs, u, ev, hv, eu, gu, le, hh, hl⟩ := dpart_of A.sub g1 e1 hd
        have hg := dget_of A.sub (.inl hh) hl g2 hx
        rw [show (some j).bind (vs[·]?) = some u.v from hv] at hg
        exact .inr ⟨a, u.v, ev, hg, q u gu eu le⟩
  · rename_i _ ks xs e1
    cases hx : ks.ix tb.d with
    | none => rw [hx] at hd; cases hd
    | some oj =>
      rw [hx] at hd
      cases oj with
      | none => cases hd
      | some j =>
        have hd : xs[j]? = some d := hd
        obtain ⟨a, vs, u, ev, hv, eu, gu, le, hh, hl⟩ := ldpart_of A.sub g1 e1 hd
        have hg := dget_of A.sub hh hl g2 hx
        rw [show (some j).bind (vs[·]?) = some u.v from hv] at hg
        exact .inr ⟨a, u.v, ev, hg, q u gu eu le⟩
  · cases hd
theorem se_ix (hu : X.A.units + 1 < cLine) (ha : SV X Γ E Wa ra a fa) (hb : SV X Γ E Wb rb b fb) (hr : ∀ i, ra = some i → i ∉ Wb) (hs : PlainIx b) : SE X Γ E (Wa ++ Wb) (.Subscript a b pos) (ev2 dIx fa fb) := fun hK =>
  (pe_ix ((ix_list.or ix_tup).or (ix_dic hu)) (ha hK) (hb hK) hs).imp fun σ H Q ⟨F, G, sl, tm, A, q⟩ => two_run (R := fun x y H2 => (rIxL X.K x y H2 Q ∨ rIxT X.K x y H2 Q) ∨ rIxDic x y H2 Q) hr A q fun H2 G2 sl2 ta tb d A2 g1 g2 e h => by
  unfold dIx at e
  cases hd : dIxA ta.d tb.d with
  | none => rw [hd] at e; cases e
  | some d' =>
    rw [hd] at e
    dsimp only at e
    split at e
    · rename_i ho
      cases e
      refine ix_part hK A2 g1 g2 hd fun u gu eu _ => ?_
      have el := leaf_of_own gu (by rw [eu]; simpa [nOwn] using ho)
      rw [el] at gu
      rw [← eu] at h
      exact h.here A2 gu
    · cases e
/-- .. of a part of an owned thing: looked at -/
theorem sv_ix {i : Nat} (hu : X.A.units + 1 < cLine) (ha : SV X Γ E Wa (some i) a fa) (hb : SV X Γ E Wb rb b fb) (hr : i ∉ Wb) (hs : PlainIx b) : SV X Γ E (Wa ++ Wb) (some i) (.Subscript a b pos) (ev2 dIxA fa fb) := fun hK =>
  (pe_ix ((ix_list.or ix_tup).or (ix_dic hu)) (ha hK) (hb hK) hs).imp fun σ H Q ⟨F, G, sl, tm, A, q⟩ => by
  show tV Γ E Wa (some i) fa σ H fun x H1 => tV Γ E Wb rb fb σ H1 fun y H2 => (rIxL X.K x y H2 Q ∨ rIxT X.K x y H2 Q) ∨ rIxDic x y H2 Q
  refine ⟨F, G, sl, tm, A, ?_⟩
  unfold ev2 at q
  cases h1 : fa (dsl sl) with
  | stuck => rw [h1] at q; exact q
  | exc c fs δ => rw [h1] at q; exact q
  | ok da δ1 =>
    rw [h1, bd_ok] at q
    intro H1 G1 sl1 ex ta A1 w1 s1 e1 e1' k1
    obtain ⟨ee, _, w, hw, le⟩ := id w1
    subst ee
    refine ⟨F, G1, sl1, tm, A1, ?_⟩
    rw [e1']
    cases h2 : fb δ1 with
    | stuck => rw [h2] at q; exact q
    | exc c fs δ => rw [h2] at q; exact q
    | ok db δ2 =>
      rw [h2, bd_ok] at q
      intro H2 G2 sl2 ex2 tb A2 w2 s2 e2 e2' k2
      have g1 := w1.later A1 A2 s2 (fun u hu => absurd hu (by simp)) fun j hj => k2 j (by cases hj; exact hr)
      have g2 := w2.good A2
      cases h3 : dIxA da db with
      | none => rw [h3] at q; exact q.elim
      | some d =>
        rw [h3, lft_some] at q
        refine ix_part hK A2.dropN g1 g2 (by rw [e1, e2]; exact h3) fun u gu eu le2 => ?_
        exact q H2 G2 sl2 [] u A2.dropN ⟨rfl, gu, w, (k2 i hr).trans hw, fun b => Nat.le_trans (le2 b) (le b)⟩ (s1.trans s2) eu e2' (k1.trans k2)

/-! ### slices -/
abbrev EvO := DS → Out (Option Int)
def tO' (Γ : Gm) (E : WX) (W : List Nat) (f : EvO) : TO := fun σ H Q => ∃ F G sl tm, Abs Γ F σ H G sl tm ∧
  match f (dsl sl) with
  | .ok o δ => ∀ H' G' sl', Abs Γ F σ H' G' sl' tm → Sub G G' → dsl sl' = δ → Keep W sl sl' → Q o H'
  | .exc c fs δ => PX Γ E F σ tm c fs δ
  | .stuck => False
def SO (X : Cx) (Γ : Gm) (E : WX) (W : List Nat) (e : Option Expr) (f : EvO) : Prop := X.K = Γ.K → PO X e (tO' Γ E W f)
theorem _root_.L2.PO.imp {X : Cx} {e : Option Expr} {t t' : TO} (h : PO X e t) (k : ∀ σ H Q, t' σ H Q → t σ H Q) : PO X e t' := ⟨fun pins s σ H Q I q => h.run pins s σ H Q I (k σ H Q q)⟩
def oNone : EvO := fun δ => .ok none δ
def oSome (f : Ev) : EvO := fun δ => (f δ).bd fun d δ' => match d with
  | .int i => .ok (some i) δ'
  | _ => .stuck
theorem so_none : SO X Γ E [] none oNone := fun _ => po_none.imp fun σ H Q ⟨F, G, sl, tm, A, q⟩ => q H G sl A (Sub.refl G) rfl (Keep.refl _ _)
theorem so_some (h : SV X Γ E Wa ra a fa) : SO X Γ E Wa (some a) (oSome fa) := fun hK => (po_some (h hK)).imp fun σ H Q ⟨F, G, sl, tm, A, q⟩ => by
  refine ⟨F, G, sl, tm, A, ?_⟩
  unfold oSome at q
  cases h1 : fa (dsl sl) with
  | stuck => rw [h1] at q; exact q
  | exc c fs δ => rw [h1] at q; exact q
  | ok d δ1 =>
    rw [h1, bd_ok] at q
    intro H1 G1 sl1 ex t A1 w1 s1 e1 e1' k1
    cases d with
    | int i => exact ⟨i, int_of (w1.good A1) e1, q H1 G1 sl1 A1.dropN s1 e1' k1⟩
    | _ => exact q.elim
def dCut (ds : List D) (lo hi : Option Int) : List D := (ds.drop (HT.sIx ds.length 0 lo)).take (HT.sIx ds.length ds.length hi - HT.sIx ds.length 0 lo)
theorem Reps.cut {Γ : Gm} {G : Hp} {vs : List V} {ds : List D} (r : Reps Γ G vs ds) (lo hi : Option Int) : Reps Γ G (cutV vs lo hi) (dCut ds lo hi) := by
  unfold cutV dCut
  rw [r.len]
  exact (r.drop _).take _
theorem dCut_len (ds : List D) (lo hi : Option Int) : (dCut ds lo hi).length ≤ ds.length := by
  unfold dCut
  rw [List.length_take, List.length_drop]
  omega
def dSl (a : D) (lo hi : Option Int) : Option D := match a with
  | .lst _ xs => if xs.all nOwn = true then some (.lst true (dCut xs lo hi)) else none
  | .tup xs => some (.tup (dCut xs lo hi))
  | .scr ns => some (.lst true ((ns.drop (HT.sIx ns.length 0 lo)).take (HT.sIx ns.length ns.length hi - HT.sIx ns.length 0 lo) |>.map D.int))
  | _ => none
def eSl (fa : Ev) (fl fh : EvO) : Ev := fun δ => (fa δ).bd fun a δ1 => (fl δ1).bd fun lo δ2 => (fh δ2).bd fun hi δ3 => lft (dSl a lo hi) δ3
theorem reps_ints {Γ : Gm} {G : Hp} : ∀ ns : List Int, Reps Γ G (ns.map V.int) (ns.map D.int)
  | [] => rfl
  | n :: ns => ⟨_, _, rfl, rfl, reps_ints ns⟩
theorem se_slice {Wl Wh : List Nat} {lo hi : Option Expr} {fl fh : EvO} {p2 : Pos} (ha : SV X Γ E Wa ra a fa) (hl : SO X Γ E Wl lo fl) (hh : SO X Γ E Wh hi fh) (hr : ∀ i, ra = some i → i ∉ Wl ∧ i ∉ Wh) :
    SE X Γ E (Wa ++ (Wl ++ Wh)) (.Subscript a (.Slice lo hi none p2) pos) (eSl fa fl fh) := fun hK =>
  (pe_slice (sl_list.or sl_tupA) (ha hK) (hl hK) (hh hK)).imp fun σ H Q ⟨F, G, sl, tm, A, q⟩ => by
  refine ⟨F, G, sl, tm, A, ?_⟩
  unfold eSl at q
  cases h1 : fa (dsl sl) with
  | stuck => rw [h1] at q; exact q
  | exc c fs δ => rw [h1] at q; exact q
  | ok da δ1 =>
    rw [h1, bd_ok] at q
    intro H1 G1 sl1 ex t A1 w1 s1 e1 e1' k1
    refine ⟨F, G1, sl1, ex ++ tm, A1, ?_⟩
    rw [e1']
    cases h2 : fl δ1 with
    | stuck => rw [h2] at q; exact q
    | exc c fs δ => rw [h2] at q; exact PX.more q
    | ok l δ2 =>
      rw [h2, bd_ok] at q
      intro H2 G2 sl2 A2 s2 e2 k2
      refine ⟨F, G2, sl2, ex ++ tm, A2, ?_⟩
      rw [e2]
      cases h3 : fh δ2 with
      | stuck => rw [h3] at q; exact q
      | exc c fs δ => rw [h3] at q; exact PX.more q
      | ok u δ3 =>
        rw [h3, bd_ok] at q
        intro H3 G3 sl3 A3 s3 e3 k3
        have g1 := w1.later A1 A3 (s2.trans s3) (fun u hu => List.mem_append_left _ hu) fun i hi => (k3 i (hr i hi).2).trans (k2 i (hr i hi).1)
        have A4 := A3.dropN
        cases hd : dSl da l u with
        | none => rw [hd] at q; exact q.elim
        | some d =>
          rw [hd, lft_some] at q
          have hands : Hands Γ F σ G3 sl3 tm d Q := fun H' G' t A' s' e' => q H' G' sl3 t A' (s1.trans (s2.trans (s3.trans s'))) e' e3 (k1.trans (k2.trans k3))
          unfold dSl at hd
          split at hd
          · rename_i o xs
            split at hd
            · rename_i ho
              cases hd
              obtain ⟨z, p, vs, ev, hq, r⟩ := lst_of A4.sub g1 e1 ho
              exact .inl ⟨p, vs, ev, SqL.of hq, fun p' hp' => hands.lst A4 (r.cut l u) (Nat.le_trans (dCut_len _ _ _) z) hp'⟩
            · cases hd
          · rename_i xs
            cases hd
            obtain ⟨z, p, vs, ev, hq, r⟩ := tup_of g1 e1
            refine .inr ⟨p, vs, ev, by rw [hK]; exact sqT_of A4.sub hq, fun hw => ?_, fun _ p' hp' => hands.tup A4 (r.cut l u) (Nat.le_trans (dCut_len _ _ _) z) hp'⟩
            rw [r.len] at hw
            have : dCut xs l u = xs := by
              unfold dCut
              rw [hw.1, hw.2]
              simp
            rw [this] at hands
            have g : Rep Γ G3 (.ref p) (.tup xs) := ⟨z, p, vs, rfl, hq, r⟩
            exact hands.here A4 g
          · rename_i ns
            cases hd
            have el := leaf_of_own g1 (by rw [e1]; rfl)
            rw [el, e1] at g1
            obtain ⟨z, p, ev, hq⟩ := g1
            refine .inl ⟨p, ns.map V.int, ev, by rw [hK]; exact sqL_mono A4.sub hq, fun p' hp' => ?_⟩
            have e : cutV (ns.map V.int) l u = ((ns.drop (HT.sIx ns.length 0 l)).take (HT.sIx ns.length ns.length u - HT.sIx ns.length 0 l)).map V.int := by
              unfold cutV
              rw [List.length_map, List.map_take, List.map_drop]
            rw [e]
            refine hands.lst A4 (reps_ints _) ?_ hp'
            rw [List.length_map, List.length_take, List.length_drop]
            omega
          · cases hd
end
end L2.Pv
end
section
set_option Elab.async false
set_option linter.all false
set_option autoImplicit false
set_option maxRecDepth 100000
namespace L2.Pv
open PySem PySem.Spec PyProof.Rows

/-! ### tests -/
def cVal (f : Ev) : EvT := fun δ => (f δ).bd fun d δ' => match d with
  | .bl b => .ok b δ'
  | _ => .stuck
def cAnd (f g : EvT) : EvT := fun δ => (f δ).bd fun b δ' => if b then g δ' else .ok false δ'
def cOr (f g : EvT) : EvT := fun δ => (f δ).bd fun b δ' => if b then .ok true δ' else g δ'
def cNot (f : EvT) : EvT := fun δ => (f δ).bd fun b δ' => .ok (!b) δ'
def eIf (c : EvT) (f g : Ev) : Ev := fun δ => (c δ).bd fun b δ' => if b then f δ' else g δ'
def eAnd (f g : Ev) : Ev := fun δ => (f δ).bd fun d δ' => match d with
  | .bl true => g δ'
  | .bl false => .ok (.bl false) δ'
  | _ => .stuck
def eOr (f g : Ev) : Ev := fun δ => (f δ).bd fun d δ' => match d with
  | .bl true => .ok (.bl true) δ'
  | .bl false => g δ'
  | _ => .stuck
def dNot (a : D) : Option D := match a with
  | .bl b => some (.bl (!b))
  | _ => none
def SW (X : Cx) (Γ : Gm) (E : WX) (W : List Nat) (e : Expr) (f : EvT) : Prop := X.K = Γ.K → PW X e (tT Γ E W f)
theorem _root_.L2.PW.imp {X : Cx} {e : Expr} {t t' : TT} (h : PW X e t) (k : ∀ σ H Q, t' σ H Q → t σ H Q) : PW X e t' := ⟨fun wh pins s σ H Q I q => h.run wh pins s σ H Q I (k σ H Q q)⟩
section
variable {X : Cx} {Γ : Gm} {E : WX} {W Wa Wb Wc : List Nat} {ra rb rc : Option Nat} {a b c e : Expr} {fa fb fc f : Ev} {ca cb cc : EvT} {pos : Pos} {rest : List Expr}
theorem val_run {σ : St} {H : Hp} {Q : Bool → Hp → Prop} (h : tT Γ E W (cVal f) σ H Q) : tE Γ E W f σ H fun x H1 => ∃ k, x = .bl k ∧ Q k H1 := by
  obtain ⟨F, G, sl, tm, A, q⟩ := h
  refine ⟨F, G, sl, tm, A, ?_⟩
  unfold cVal at q
  cases h1 : f (dsl sl) with
  | stuck => rw [h1] at q; exact q
  | exc c fs δ => rw [h1] at q; exact q
  | ok d δ1 =>
    rw [h1, bd_ok] at q
    intro H1 G1 sl1 t A1 s1 e1 e1' k1
    cases d with
    | bl b => exact ⟨b, bl_of (A1.goodT t List.mem_cons_self) e1, q H1 G1 sl1 A1.drop s1 e1' k1⟩
    | _ => exact q.elim
theorem sc_val (h : SE X Γ E W e f) (he : ∀ whole, isTrue e X.env whole = (do let v ← whole; standAt e.pos; holding [v] (truthy v))) : SC X Γ E W e (cVal f) := fun hK => (pt_val (h hK) he).imp fun σ H Q q => val_run q
theorem sc_cmp {op : CmpOp} {g : D → D → Option D} (O : Op2 X Γ (compareOp op) g) (ha : SV X Γ E Wa ra a fa) (hb : SV X Γ E Wb rb b fb) (hr : ∀ i, ra = some i → i ∉ Wb) (hm : behindInMarks op b = false) :
    SC X Γ E (Wa ++ Wb) (.Compare a [op] [b] pos) (cVal (ev2 g fa fb)) := fun hK => by
  obtain ⟨r, ho, hs⟩ := O hK
  refine (pt_cmpR ho (ha hK) (hb hK) hm).imp fun σ H Q q => ?_
  obtain ⟨F, G, sl, tm, A, q⟩ := val_run q
  exact two_run (R := fun x y H2 => r x y H2 fun z H3 => ∃ k, z = .bl k ∧ Q k H3) hr A q fun H2 G2 sl2 ta tb d A2 g1 g2 e h => hs F σ H2 G2 sl2 tm ta tb d _ A2 g1 g2 e h
theorem sc_and_run {σ : St} {H : Hp} {Q : Bool → Hp → Prop} (h : tT Γ E (Wa ++ Wb) (cAnd ca cb) σ H Q) : tAnd (tT Γ E Wa ca) (tT Γ E Wb cb) σ H Q := by
  obtain ⟨F, G, sl, tm, A, q⟩ := h
  refine ⟨F, G, sl, tm, A, ?_⟩
  unfold cAnd at q
  cases h1 : ca (dsl sl) with
  | stuck => rw [h1] at q; exact q
  | exc c fs δ => rw [h1] at q; exact q
  | ok b δ1 =>
    rw [h1, bd_ok] at q
    intro H1 G1 sl1 A1 s1 e1 k1
    cases b with
    | false =>
      rw [if_neg Bool.false_ne_true] at q ⊢
      exact q H1 G1 sl1 A1 s1 e1 (k1.mono fun i h => List.mem_append_left _ h)
    | true =>
      rw [if_pos rfl] at q ⊢
      refine ⟨F, G1, sl1, tm, A1, ?_⟩
      rw [e1]
      cases h2 : cb δ1 with
      | stuck => rw [h2] at q; exact q
      | exc c fs δ => rw [h2] at q; exact q
      | ok b2 δ2 =>
        rw [h2] at q
        exact fun H2 G2 sl2 A2 s2 e2 k2 => q H2 G2 sl2 A2 (s1.trans s2) e2 (k1.trans k2)
theorem sc_or_run {σ : St} {H : Hp} {Q : Bool → Hp → Prop} (h : tT Γ E (Wa ++ Wb) (cOr ca cb) σ H Q) : tOr (tT Γ E Wa ca) (tT Γ E Wb cb) σ H Q := by
  obtain ⟨F, G, sl, tm, A, q⟩ := h
  refine ⟨F, G, sl, tm, A, ?_⟩
  unfold cOr at q
  cases h1 : ca (dsl sl) with
  | stuck => rw [h1] at q; exact q
  | exc c fs δ => rw [h1] at q; exact q
  | ok b δ1 =>
    rw [h1, bd_ok] at q
    intro H1 G1 sl1 A1 s1 e1 k1
    cases b with
    | true =>
      rw [if_pos rfl] at q ⊢
      exact q H1 G1 sl1 A1 s1 e1 (k1.mono fun i h => List.mem_append_left _ h)
    | false =>
      rw [if_neg Bool.false_ne_true] at q ⊢
      refine ⟨F, G1, sl1, tm, A1, ?_⟩
      rw [e1]
      cases h2 : cb δ1 with
      | stuck => rw [h2] at q; exact q
      | exc c fs δ => rw [h2] at q; exact q
      | ok b2 δ2 =>
        rw [h2] at q
        exact fun H2 G2 sl2 A2 s2 e2 k2 => q H2 G2 sl2 A2 (s1.trans s2) e2 (k1.trans k2)
theorem sw_and1 (h : SC X Γ E Wa a ca) : SW X Γ E Wa (.BoolOp .And [a] pos) ca := fun hK => pw_and1 (h hK)
theorem sw_or1 (h : SC X Γ E Wa a ca) : SW X Γ E Wa (.BoolOp .Or [a] pos) ca := fun hK => pw_or1 (h hK)
theorem sw_and (h : SC X Γ E Wa a ca) (h' : SW X Γ E Wb (.BoolOp .And (b :: rest) pos) cb) : SW X Γ E (Wa ++ Wb) (.BoolOp .And (a :: b :: rest) pos) (cAnd ca cb) := fun hK => (pw_and (h hK) (h' hK)).imp fun σ H Q q => sc_and_run q
theorem sw_or (h : SC X Γ E Wa a ca) (h' : SW X Γ E Wb (.BoolOp .Or (b :: rest) pos) cb) : SW X Γ E (Wa ++ Wb) (.BoolOp .Or (a :: b :: rest) pos) (cOr ca cb) := fun hK => (pw_or (h hK) (h' hK)).imp fun σ H Q q => sc_or_run q
theorem sc_w (h : SW X Γ E W e ca) : SC X Γ E W e ca := fun hK => (h hK).pt
theorem sc_not (h : SC X Γ E W a ca) : SC X Γ E W (.UnaryOp .Not a pos) (cNot ca) := fun hK => (pt_not (h hK)).imp fun σ H Q ⟨F, G, sl, tm, A, q⟩ => by
  refine ⟨F, G, sl, tm, A, ?_⟩
  unfold cNot at q
  cases h1 : ca (dsl sl) with
  | stuck => rw [h1] at q; exact q
  | exc c fs δ => rw [h1] at q; exact q
  | ok b δ1 =>
    rw [h1, bd_ok] at q
    exact q
theorem se_if (hc : SC X Γ E Wc c cc) (ha : SE X Γ E Wa a fa) (hb : SE X Γ E Wb b fb) : SE X Γ E (Wc ++ (Wa ++ Wb)) (.IfExp c a b pos) (eIf cc fa fb) := fun hK => (pe_ifExp (hc hK) (ha hK) (hb hK)).imp fun σ H Q ⟨F, G, sl, tm, A, q⟩ => by
  refine ⟨F, G, sl, tm, A, ?_⟩
  unfold eIf at q
  cases h1 : cc (dsl sl) with
  | stuck => rw [h1] at q; exact q
  | exc c fs δ => rw [h1] at q; exact q
  | ok b δ1 =>
    rw [h1, bd_ok] at q
    intro H1 G1 sl1 A1 s1 e1 k1
    cases b with
    | true =>
      rw [if_pos rfl] at q ⊢
      refine ⟨F, G1, sl1, tm, A1, ?_⟩
      rw [e1]
      cases h2 : fa δ1 with
      | stuck => rw [h2] at q; exact q
      | exc c fs δ => rw [h2] at q; exact q
      | ok d δ2 =>
        rw [h2] at q
        exact fun H2 G2 sl2 t A2 s2 ed e2 k2 => q H2 G2 sl2 t A2 (s1.trans s2) ed e2 (k1.trans (k2.mono fun i h => List.mem_append_left _ h))
    | false =>
      rw [if_neg Bool.false_ne_true] at q ⊢
      refine ⟨F, G1, sl1, tm, A1, ?_⟩
      rw [e1]
      cases h2 : fb δ1 with
      | stuck => rw [h2] at q; exact q
      | exc c fs δ => rw [h2] at q; exact q
      | ok d δ2 =>
        rw [h2] at q
        exact fun H2 G2 sl2 t A2 s2 ed e2 k2 => q H2 G2 sl2 t A2 (s1.trans s2) ed e2 (k1.trans (k2.mono fun i h => List.mem_append_right _ h))
theorem se_one {op : BoolOp} (h : SE X Γ E W a fa) : SE X Γ E W (.BoolOp op [a] pos) fa := fun hK => pe_one (h hK)
theorem se_and (h : SE X Γ E Wa a fa) (h' : SE X Γ E Wb (.BoolOp .And (b :: rest) pos) fb) : SE X Γ E (Wa ++ Wb) (.BoolOp .And (a :: b :: rest) pos) (eAnd fa fb) := fun hK => (pe_and (h hK) (h' hK)).imp fun σ H Q ⟨F, G, sl, tm, A, q⟩ => by
  refine ⟨F, G, sl, tm, A, ?_⟩
  unfold eAnd at q
  cases h1 : fa (dsl sl) with
  | stuck => rw [h1] at q; exact q
  | exc c fs δ => rw [h1] at q; exact q
  | ok d δ1 =>
    rw [h1, bd_ok] at q
    intro H1 G1 sl1 t A1 s1 ed e1 k1
    cases d with
    | bl k =>
      refine ⟨k, bl_of (A1.goodT t List.mem_cons_self) ed, ?_⟩
      cases k with
      | false =>
        rw [if_neg Bool.false_ne_true]
        exact q H1 G1 sl1 (.leaf (.bl false) (.bl false)) (A1.drop.leaf rfl) s1 rfl e1 (k1.mono fun i h => List.mem_append_left _ h)
      | true =>
        rw [if_pos rfl]
        refine ⟨F, G1, sl1, tm, A1.drop, ?_⟩
        rw [e1]
        dsimp only at q
        cases h2 : fb δ1 with
        | stuck => rw [h2] at q; exact q
        | exc c fs δ => rw [h2] at q; exact q
        | ok d2 δ2 =>
          rw [h2] at q
          exact fun H2 G2 sl2 t A2 s2 ed e2 k2 => q H2 G2 sl2 t A2 (s1.trans s2) ed e2 (k1.trans k2)
    | _ => exact q.elim
theorem se_or (h : SE X Γ E Wa a fa) (h' : SE X Γ E Wb (.BoolOp .Or (b :: rest) pos) fb) : SE X Γ E (Wa ++ Wb) (.BoolOp .Or (a :: b :: rest) pos) (eOr fa fb) := fun hK => (pe_or (h hK) (h' hK)).imp fun σ H Q ⟨F, G, sl, tm, A, q⟩ => by
  refine ⟨F, G, sl, tm, A, ?_⟩
  unfold eOr at q
  cases h1 : fa (dsl sl) with
  | stuck => rw [h1] at q; exact q
  | exc c fs δ => rw [h1] at q; exact q
  | ok d δ1 =>
    rw [h1, bd_ok] at q
    intro H1 G1 sl1 t A1 s1 ed e1 k1
    cases d with
    | bl k =>
      refine ⟨k, bl_of (A1.goodT t List.mem_cons_self) ed, ?_⟩
      cases k with
      | true =>
        rw [if_pos rfl]
        exact q H1 G1 sl1 (.leaf (.bl true) (.bl true)) (A1.drop.leaf rfl) s1 rfl e1 (k1.mono fun i h => List.mem_append_left _ h)
      | false =>
        rw [if_neg Bool.false_ne_true]
        refine ⟨F, G1, sl1, tm, A1.drop, ?_⟩
        rw [e1]
        dsimp only at q
        cases h2 : fb δ1 with
        | stuck => rw [h2] at q; exact q
        | exc c fs δ => rw [h2] at q; exact q
        | ok d2 δ2 =>
          rw [h2] at q
          exact fun H2 G2 sl2 t A2 s2 ed e2 k2 => q H2 G2 sl2 t A2 (s1.trans s2) ed e2 (k1.trans k2)
    | _ => exact q.elim
theorem one_run {σ : St} {H : Hp} {Q : VK} {R : V → Hp → Prop} {g : D → Option D} (h : tE Γ E Wa (ev1 g fa) σ H Q)
    (hR : ∀ F G1 H1 sl1 tm t d, Abs Γ F σ H1 G1 sl1 tm → Good Γ G1 H1 t → g t.d = some d → Hands Γ F σ G1 sl1 tm d Q → R t.v H1) : tV Γ E Wa ra fa σ H R := by
  obtain ⟨F, G, sl, tm, A, q⟩ := h
  refine ⟨F, G, sl, tm, A, ?_⟩
  unfold ev1 at q
  cases h1 : fa (dsl sl) with
  | stuck => rw [h1] at q; exact q
  | exc c fs δ => rw [h1] at q; exact q
  | ok da δ1 =>
    rw [h1, bd_ok] at q
    intro H1 G1 sl1 ex ta A1 w1 s1 e1 e1' k1
    cases h3 : g da with
    | none => rw [h3] at q; exact q.elim
    | some d =>
      rw [h3, lft_some] at q
      exact hR F G1 H1 sl1 tm ta d A1.dropN (w1.good A1) (by rw [e1]; exact h3) fun H' G' t A' s' e' => q H' G' sl1 t A' (s1.trans s') e' e1' k1
theorem se_not (h : SV X Γ E W ra a fa) : SE X Γ E W (.UnaryOp .Not a pos) (ev1 dNot fa) := fun hK => (pe_not (h hK)).imp fun σ H Q q => one_run (R := fun x H1 => ∃ c, x = .bl c ∧ Q (.bl (!c)) H1) q fun F G1 H1 sl1 tm t d A1 g e h => by
  unfold dNot at e
  split at e
  · rename_i b eb
    cases e
    exact ⟨b, bl_of g eb, h.here A1 rfl⟩
  · cases e
theorem se_un {op : UnaryOp} {g : D → Option D} (O : Op1 X Γ (unaryOp op) g) (h : SV X Γ E W ra a fa) : SE X Γ E W (.UnaryOp op a pos) (ev1 g fa) := fun hK => by
  obtain ⟨r, ho, hs⟩ := O hK
  exact (pe_un ho (h hK)).imp fun σ H Q q => one_run (R := fun x H1 => r x H1 Q) q fun F G1 H1 sl1 tm t d A1 g e h => hs F σ H1 G1 sl1 tm t d Q A1 g e h
/-- a op b op' c -/
def eChain (g g' : D → D → Option D) (fa fb fc : Ev) : Ev := fun δ => (fa δ).bd fun a δ1 => (fb δ1).bd fun b δ2 => match g a b with
  | some (.bl true) => (fc δ2).bd fun c δ3 => lft (g' b c) δ3
  | some (.bl false) => .ok (.bl false) δ2
  | _ => .stuck
theorem chain_run {op op' : CmpOp} {g g' : D → D → Option D} {σ : St} {H : Hp} {Q : VK} {r r' : R2} (hr : ∀ i, ra = some i → i ∉ Wb) (hr2 : ∀ i, rb = some i → i ∉ Wc)
    (hs : ∀ F σ H G sl tm ta tb d Q, Abs Γ F σ H G sl tm → Good Γ G H ta → Good Γ G H tb → g ta.d tb.d = some d → Hands Γ F σ G sl tm d Q → r ta.v tb.v H Q)
    (hs' : ∀ F σ H G sl tm ta tb d Q, Abs Γ F σ H G sl tm → Good Γ G H ta → Good Γ G H tb → g' ta.d tb.d = some d → Hands Γ F σ G sl tm d Q → r' ta.v tb.v H Q)
    (mono : ∀ x y H Q, r x y H Q → r x y H Q)
    (h : tE Γ E (Wa ++ (Wb ++ Wc)) (eChain g g' fa fb fc) σ H Q) : tChain r r' (tV Γ E Wa ra fa) (tV Γ E Wb rb fb) (tV Γ E Wc rc fc) σ H Q := by
  obtain ⟨F, G, sl, tm, A, q⟩ := h
  refine ⟨F, G, sl, tm, A, ?_⟩
  unfold eChain at q
  cases h1 : fa (dsl sl) with
  | stuck => rw [h1] at q; exact q
  | exc c fs δ => rw [h1] at q; exact q
  | ok da δ1 =>
    rw [h1, bd_ok] at q
    intro H1 G1 sl1 ex ta A1 w1 s1 e1 e1' k1
    refine ⟨F, G1, sl1, ex ++ tm, A1, ?_⟩
    rw [e1']
    cases h2 : fb δ1 with
    | stuck => rw [h2] at q; exact q
    | exc c fs δ => rw [h2] at q; exact PX.more q
    | ok db δ2 =>
      rw [h2, bd_ok] at q
      intro H2 G2 sl2 ex2 tb A2 w2 s2 e2 e2' k2
      have g1 := w1.later A1 A2 s2 (fun u hu => List.mem_append_right _ (List.mem_append_left _ hu)) fun i hi => k2 i (hr i hi)
      have g2 := w2.good A2
      cases hg : g da db with
      | none => rw [hg] at q; exact q.elim
      | some d =>
        rw [hg] at q
        cases d with
        | bl k =>
          refine hs F σ H2 G2 sl2 (ex2 ++ (ex ++ tm)) ta tb (.bl k) _ A2 g1 g2 (by rw [e1, e2]; exact hg) fun H3 G3 t A3 s3 e3 => ?_
          refine ⟨k, bl_of (A3.goodT t List.mem_cons_self) e3, ?_⟩
          have A4 := A3.drop
          cases k with
          | false =>
            rw [if_neg Bool.false_ne_true]
            exact q H3 G3 sl2 (.leaf (.bl false) (.bl false)) (A4.dropN.dropN.leaf rfl) (s1.trans (s2.trans s3)) rfl e2' (k1.trans (k2.mono fun i h => List.mem_append_left _ h))
          | true =>
            rw [if_pos rfl]
            dsimp only at q
            refine ⟨F, G3, sl2, ex2 ++ (ex ++ tm), A4, ?_⟩
            rw [e2']
            cases h3 : fc δ2 with
            | stuck => rw [h3] at q; exact q
            | exc c fs δ => rw [h3] at q; exact PX.more (PX.more q)
            | ok dc δ3 =>
              rw [h3, bd_ok] at q
              intro H5 G5 sl5 ex5 tc A5 w5 s5 e5 e5' k5
              have g3 := w2.later A2 A5 (s3.trans s5) (fun u hu => List.mem_append_right _ (List.mem_append_left _ hu)) fun i hi => k5 i (hr2 i hi)
              have g4 := w5.good A5
              cases hg' : g' db dc with
              | none => rw [hg'] at q; exact q.elim
              | some d' =>
                rw [hg', lft_some] at q
                exact hs' F σ H5 G5 sl5 tm tb tc d' Q A5.dropN.dropN.dropN g3 g4 (by rw [e2, e5]; exact hg') fun H6 G6 t6 A6 s6 e6 => q H6 G6 sl5 t6 A6 (s1.trans (s2.trans (s3.trans (s5.trans s6)))) e6 e5' (k1.trans (k2.trans k5))
        | _ => exact q.elim
theorem se_chain {op op' : CmpOp} {g g' : D → D → Option D} (O : Op2 X Γ (compareOp op) g) (O' : Op2 X Γ (compareOp op') g') (ha : SV X Γ E Wa ra a fa) (hb : SV X Γ E Wb rb b fb) (hc : SV X Γ E Wc rc c fc)
    (hr : ∀ i, ra = some i → i ∉ Wb) (hr2 : ∀ i, rb = some i → i ∉ Wc) (hm : lastMarks [op, op'] [b, c] = false) : SE X Γ E (Wa ++ (Wb ++ Wc)) (.Compare a [op, op'] [b, c] pos) (eChain g g' fa fb fc) := fun hK => by
  obtain ⟨r, ho, hs⟩ := O hK
  obtain ⟨r', ho', hs'⟩ := O' hK
  exact (pe_chain ho ho' (ha hK) (hb hK) (hc hK) hm).imp fun σ H Q q => chain_run (op := op) (op' := op') hr hr2 hs hs' (fun _ _ _ _ h => h) q
theorem sc_chain {op op' : CmpOp} {g g' : D → D → Option D} (O : Op2 X Γ (compareOp op) g) (O' : Op2 X Γ (compareOp op') g') (ha : SV X Γ E Wa ra a fa) (hb : SV X Γ E Wb rb b fb) (hc : SV X Γ E Wc rc c fc)
    (hr : ∀ i, ra = some i → i ∉ Wb) (hr2 : ∀ i, rb = some i → i ∉ Wc) (hm : lastMarks [op, op'] [b, c] = false) : SC X Γ E (Wa ++ (Wb ++ Wc)) (.Compare a [op, op'] [b, c] pos) (cVal (eChain g g' fa fb fc)) := fun hK => by
  obtain ⟨r, ho, hs⟩ := O hK
  obtain ⟨r', ho', hs'⟩ := O' hK
  exact (pt_chain ho ho' (ha hK) (hb hK) (hc hK) hm).imp fun σ H Q q => chain_run (op := op) (op' := op') hr hr2 hs hs' (fun _ _ _ _ h => h) (val_run q)

/-! ### built-ins -/
/-- a call by values, looked at -/
def Cal1 (X : Cx) (Γ : Gm) (f : Value) (g : D → Option D) : Prop := X.K = Γ.K → ∃ r : List V → Hp → VK → Prop, CallR X f r ∧
  ∀ F σ H G sl tm t d Q, Abs Γ F σ H G sl tm → Good Γ G H t → g t.d = some d → Hands Γ F σ G sl tm d Q → r [t.v] H Q
theorem pa1 {te : TE} (h : PE X a te) (hs : starEach [a] X.env = (false, eval a X.env) :: starEach [] X.env) : PA X [a] (tCons te tNil) := pa_cons h pa_nil hs
theorem se_callB1 {id : String} {x : Str} {p : Pos} {g : D → Option D} (O : Cal1 X Γ (.builtin id) g) (hg : Gl X x) (hm : X.mg x = none) (hv : bootBuiltins x = some (.builtin id)) (ha : SV X Γ E W ra a fa) (hn : x ≠ "__name__") (hdb : (x == ("__debug__" : Str)) = false)
    (he : starEach [a] X.env = (false, eval a X.env) :: starEach [] X.env) (hpl : (backTo pos (starEach [] X.env)).any (·.1) = false) : SE X Γ E W (.Call (.Name x p) [a] [] pos) (ev1 g fa) := fun hK => by
  obtain ⟨r, ho, hs⟩ := O hK
  exact (pe_callB ho hg hm hv (pa1 (ha hK) he) hn hdb he hpl).imp fun σ H Q q => one_run (R := fun x H1 => r [x] H1 Q) q fun F G1 H1 sl1 tm t d A1 g e h => hs F σ H1 G1 sl1 tm t d Q A1 g e h
theorem se_callT1 {T : String} {x : Str} {p : Pos} {g : D → Option D} (O : Cal1 X Γ (.type T) g) (hg : Gl X x) (hm : X.mg x = none) (hv : bootBuiltins x = some (.type T)) (ha : SV X Γ E W ra a fa) (hn : x ≠ "__name__") (hdb : (x == ("__debug__" : Str)) = false)
    (he : starEach [a] X.env = (false, eval a X.env) :: starEach [] X.env) (hpl : (backTo pos (starEach [] X.env)).any (·.1) = false) : SE X Γ E W (.Call (.Name x p) [a] [] pos) (ev1 g fa) := fun hK => by
  obtain ⟨r, ho, hs⟩ := O hK
  exact (pe_callTy ho hg hm hv (pa1 (ha hK) he) hn hdb he hpl).imp fun σ H Q q => one_run (R := fun x H1 => r [x] H1 Q) q fun F G1 H1 sl1 tm t d A1 g e h => hs F σ H1 G1 sl1 tm t d Q A1 g e h
def dLen (a : D) : Option D := match a with
  | .lst _ xs => some (.int xs.length)
  | .tup xs => some (.int xs.length)
  | .scr ns => some (.int ns.length)
  | .str x => if x.length ≤ sizeLine then some (.int x.length) else none
  | _ => none
theorem k_len : Cal1 X Γ (.builtin "len") dLen := fun hK => by
  refine ⟨_, call_len_seq.or call_len_str, ?_⟩
  rintro F σ H G sl tm t d Q A g hg h
  unfold dLen at hg
  have vw := g.view A.sub
  split at hg
  · rename_i o xs e
    cases hg
    rw [e] at vw
    obtain ⟨z, a, vs, ev, q, r⟩ := vw
    exact .inl ⟨a, vs, by rw [ev], .inl (SqL.of q), by rw [r.len]; exact h.here A rfl⟩
  · rename_i xs e
    cases hg
    rw [e] at vw
    obtain ⟨z, a, vs, ev, q, r⟩ := vw
    exact .inl ⟨a, vs, by rw [ev], .inr (by rw [hK]; exact q), by rw [r.len]; exact h.here A rfl⟩
  · rename_i ns e
    cases hg
    rw [e] at vw
    obtain ⟨z, a, ev, q⟩ := vw
    exact .inl ⟨a, _, by rw [ev], .inl (by rw [hK]; exact q), by rw [List.length_map]; exact h.here A rfl⟩
  · rename_i x e
    split at hg
    · rename_i hz
      cases hg
      exact .inr ⟨x, by rw [str_of g e], hz, h.here A rfl⟩
    · cases hg
  · cases hg
def dInt (a : D) : Option D := match a with
  | .int i => some (.int i)
  | .bl b => some (.int (b2n b))
  | _ => none
theorem k_int : Cal1 X Γ (.type "int") dInt := fun hK => by
  refine ⟨_, call_int1, ?_⟩
  rintro F σ H G sl tm t d Q A g hg h
  unfold dInt at hg
  split at hg
  · rename_i i e
    cases hg
    exact .inl ⟨i, by rw [int_of g e], h.here A rfl⟩
  · rename_i b e
    cases hg
    exact .inr ⟨b, by rw [bl_of g e], h.here A rfl⟩
  · cases hg
def dAbs (a : D) : Option D := match a with
  | .int i => some (.int (if i < 0 then -i else i))
  | _ => none
theorem k_abs : Cal1 X Γ (.builtin "abs") dAbs := fun hK => by
  refine ⟨_, call_abs, ?_⟩
  rintro F σ H G sl tm t d Q A g hg h
  unfold dAbs at hg
  split at hg
  · rename_i i e
    cases hg
    exact ⟨i, by rw [int_of g e], h.here A rfl⟩
  · cases hg
def intsOf : List D → Option (List Int)
  | [] => some []
  | .int i :: ds => (intsOf ds).map (i :: ·)
  | _ => none
def blsOf : List D → Option (List Bool)
  | [] => some []
  | .bl i :: ds => (blsOf ds).map (i :: ·)
  | _ => none
theorem intsOf_eq : ∀ {ds : List D} {ns : List Int}, intsOf ds = some ns → ds = ns.map D.int
  | [], ns, h => by cases h; rfl
  | d :: ds, ns, h => by
    cases d with
    | int i =>
      unfold intsOf at h
      cases e : intsOf ds with
      | none => rw [e] at h; cases h
      | some ms => rw [e] at h; cases h; rw [intsOf_eq e]; rfl
    | _ => exact nomatch h
theorem blsOf_eq : ∀ {ds : List D} {ns : List Bool}, blsOf ds = some ns → ds = ns.map D.bl
  | [], ns, h => by cases h; rfl
  | d :: ds, ns, h => by
    cases d with
    | bl i =>
      unfold blsOf at h
      cases e : blsOf ds with
      | none => rw [e] at h; cases h
      | some ms => rw [e] at h; cases h; rw [blsOf_eq e]; rfl
    | _ => exact nomatch h
@[simp] theorem intsOf_map (ns : List Int) : intsOf (ns.map D.int) = some ns := by
  induction ns with
  | nil => rfl
  | cons n ns ih => rw [List.map_cons, intsOf, ih]; rfl
@[simp] theorem blsOf_map (ns : List Bool) : blsOf (ns.map D.bl) = some ns := by
  induction ns with
  | nil => rfl
  | cons n ns ih => rw [List.map_cons, blsOf, ih]; rfl
theorem bls_views {H : Hp} : ∀ {ns : List Bool} {vs : List V}, Views Γ H vs (ns.map D.bl) → vs = ns.map V.bl
  | [], vs, h => h
  | n :: ns, vs, h => by
    obtain ⟨v, r, e, h1, h2⟩ := h
    subst e
    rw [show v = V.bl n from h1, bls_views h2]
    rfl
def dSum (a : D) : Option D := match a with
  | .lst _ xs => (intsOf xs).map fun ns => .int ns.sum
  | _ => none
theorem k_sum (hc : X.calm = true) : Cal1 X Γ (.builtin "sum") dSum := fun hK => by
  refine ⟨_, cr_sum hc, ?_⟩
  rintro F σ H G sl tm t d Q A g hg h
  unfold dSum at hg
  have vw := g.view A.sub
  split at hg
  · rename_i o xs e
    cases hi : intsOf xs with
    | none => rw [hi] at hg; cases hg
    | some ns =>
      rw [hi] at hg
      cases hg
      rw [e] at vw
      obtain ⟨z, a, vs, ev, q, r⟩ := vw
      rw [intsOf_eq hi] at r
      exact ⟨a, ns, by rw [ev], SqL.of (by rw [← ints_views r]; exact q), h.here A rfl⟩
  · cases hg
def dAll (a : D) : Option D := match a with
  | .lst _ xs => (blsOf xs).map fun ns => .bl (ns.all id)
  | _ => none
theorem k_all (hc : X.calm = true) : Cal1 X Γ (.builtin "all") dAll := fun hK => by
  refine ⟨_, cr_all hc, ?_⟩
  rintro F σ H G sl tm t d Q A g hg h
  unfold dAll at hg
  have vw := g.view A.sub
  split at hg
  · rename_i o xs e
    cases hi : blsOf xs with
    | none => rw [hi] at hg; cases hg
    | some ns =>
      rw [hi] at hg
      cases hg
      rw [e] at vw
      obtain ⟨z, a, vs, ev, q, r⟩ := vw
      rw [blsOf_eq hi] at r
      exact ⟨a, ns, by rw [ev], SqL.of (by rw [← bls_views r]; exact q), h.here A rfl⟩
  · cases hg
def dAny (a : D) : Option D := match a with
  | .lst _ xs => (blsOf xs).map fun ns => .bl (ns.any id)
  | _ => none
theorem k_any (hc : X.calm = true) : Cal1 X Γ (.builtin "any") dAny := fun hK => by
  refine ⟨_, cr_any hc, ?_⟩
  rintro F σ H G sl tm t d Q A g hg h
  unfold dAny at hg
  have vw := g.view A.sub
  split at hg
  · rename_i o xs e
    cases hi : blsOf xs with
    | none => rw [hi] at hg; cases hg
    | some ns =>
      rw [hi] at hg
      cases hg
      rw [e] at vw
      obtain ⟨z, a, vs, ev, q, r⟩ := vw
      rw [blsOf_eq hi] at r
      exact ⟨a, ns, by rw [ev], SqL.of (by rw [← bls_views r]; exact q), h.here A rfl⟩
  · cases hg
def dTup (a : D) : Option D := match a with
  | .lst _ xs => if xs.all nOwn = true then some (.tup xs) else none
  | .tup xs => some (.tup xs)
  | _ => none
theorem k_tup : Cal1 X Γ (.type "tuple") dTup := fun hK => by
  refine ⟨_, call_tuple_of, ?_⟩
  rintro F σ H G sl tm t d Q A g hg h
  unfold dTup at hg
  split at hg
  · rename_i o xs e
    split at hg
    · rename_i ho
      cases hg
      obtain ⟨z, a, vs, ev, q, r⟩ := lst_of A.sub g e ho
      exact ⟨a, vs, by rw [ev], .inl ⟨SqL.of q, fun p hp => h.tup A r z hp⟩⟩
    · cases hg
  · rename_i xs e
    cases hg
    obtain ⟨z, a, vs, ev, q, r⟩ := tup_of g e
    have g' : Rep Γ G (.ref a) (.tup xs) := ⟨z, a, vs, rfl, q, r⟩
    exact ⟨a, vs, by rw [ev], .inr ⟨by rw [hK]; exact sqT_of A.sub q, h.here A g'⟩⟩
  · cases hg
def dList (a : D) : Option D := match a with
  | .lst _ xs => if xs.all nOwn = true then some (.lst true xs) else none
  | .tup xs => some (.lst true xs)
  | _ => none
theorem k_list : Cal1 X Γ (.type "list") dList := fun hK => by
  refine ⟨_, call_list_of, ?_⟩
  rintro F σ H G sl tm t d Q A g hg h
  unfold dList at hg
  split at hg
  · rename_i o xs e
    split at hg
    · rename_i ho
      cases hg
      obtain ⟨z, a, vs, ev, q, r⟩ := lst_of A.sub g e ho
      exact ⟨a, vs, by rw [ev], .inl (SqL.of q), fun p hp => h.lst A r z hp⟩
    · cases hg
  · rename_i xs e
    cases hg
    obtain ⟨z, a, vs, ev, q, r⟩ := tup_of g e
    exact ⟨a, vs, by rw [ev], .inr (by rw [hK]; exact sqT_of A.sub q), fun p hp => h.lst A r z hp⟩
  · cases hg
/-! ### isinstance(x, T), T a built-in class -/
def D.tyn : D → Option String
  | .non => some "NoneType"
  | .bl _ => some "bool"
  | .int _ => some "int"
  | .str _ => some "str"
  | .tup _ => some "tuple"
  | .lst _ _ => some "list"
  | .scr _ => some "list"
  | .dic _ _ _ => some "dict"
  | .ldc (.k _) _ => some "dict"
  | _ => none
def dIsi (T : String) (a : D) : Option D := match a.tyn with
  | some n => (kitB n T).map .bl
  | none => none
theorem tyx_of {K : PySem.W.Frag} (hK : K = Γ.K) {F : Fr} {σ : St} {H G : Hp} {sl : TS'} {tm : List T} (A : Abs Γ F σ H G sl tm) {t : T} (g : Good Γ G H t) {n : String} (h : t.d.tyn = some n) : TyX K H t.v (.type n) := by
  have vw := g.view A.sub
  cases e : t.d with
  | non => rw [e] at h; cases h; rw [non_of g e]; exact .base .non
  | bl b => rw [e] at h; cases h; rw [bl_of g e]; exact .base (.bl b)
  | int b => rw [e] at h; cases h; rw [int_of g e]; exact .base (.int b)
  | str b => rw [e] at h; cases h; rw [str_of g e]; exact .base (.str b)
  | lst o xs =>
    rw [e] at h vw
    cases h
    obtain ⟨z, a, vs, ev, q, r⟩ := vw
    rw [ev]
    exact .base (.lst q)
  | tup xs =>
    rw [e] at h vw
    cases h
    obtain ⟨z, a, vs, ev, q, r⟩ := vw
    rw [ev]
    rcases q with (q | ⟨o, q⟩) | ⟨o, its, m, hk, hc, hs, hz, hr⟩
    · exact .base (.tup q)
    · exact .fTuple q
    · exact .kTuple (by rw [hK]; exact hk) hc
  | scr ns =>
    rw [e] at h vw
    cases h
    obtain ⟨z, a, ev, q⟩ := vw
    rw [ev]
    rcases q with (q | ⟨o, q⟩) | ⟨o, its, m, hk, hc, hd, hs, hz, hr⟩
    · exact .base (.lst q)
    · exact .base (.frz q)
    · exact .kList (by rw [hK]; exact hk) hc
  | fn f => rw [e] at h; cases h
  | rf f => rw [e] at h; cases h
  | lam f c q => rw [e] at h; cases h
  | obj o c f => rw [e] at h; cases h
  | dic o ks xs =>
    rw [e] at h vw
    cases h
    obtain ⟨z, a, vs, ev, q, r⟩ := vw
    rw [ev]
    cases ks with
    | k ks => exact .base (.dK q)
    | t ks => exact .base (.dT q)
  | ldc ks xs =>
    rw [e] at h vw
    cases ks with
    | t ks => cases h
    | k ks =>
      cases h
      obtain ⟨z, a, vs, o, ev, q, r⟩ := vw
      rw [ev]
      exact .fDict q
theorem se_isi {x y : Str} {p p2 : Pos} {T : String} (hg : Gl X x) (hm : X.mg x = none) (hv : bootBuiltins x = some (.builtin "isinstance")) (ha : SV X Γ E W ra a fa) (hn : x ≠ "__name__") (hdb : (x == ("__debug__" : Str)) = false)
    (hT : PE X (.Name y p2) (tC (.ty T))) (he : starEach [a, .Name y p2] X.env = (false, eval a X.env) :: starEach [.Name y p2] X.env) (he2 : starEach [.Name y p2] X.env = (false, eval (.Name y p2) X.env) :: starEach [] X.env)
    (hpl : (backTo pos (starEach [.Name y p2] X.env)).any (·.1) = false) : SE X Γ E W (.Call (.Name x p) [a, .Name y p2] [] pos) (ev1 (dIsi T) fa) := fun hK =>
  (pe_callB call_isi hg hm hv (pa_cons (ha hK) (pa_cons hT pa_nil he2) he) hn hdb he hpl).imp fun σ H Q q => one_run (R := fun x H1 => rIsi X.K [x, .ty T] H1 Q) q fun F G1 H1 sl1 tm t d A1 g e h => by
  unfold dIsi at e
  cases hn : t.d.tyn with
  | none => rw [hn] at e; cases e
  | some n =>
    rw [hn] at e
    dsimp only at e
    cases hk : kitB n T with
    | none => rw [hk] at e; cases e
    | some b =>
      rw [hk] at e
      cases e
      exact ⟨t.v, .ty T, .type n, .type T, b, rfl, .ty T, tyx_of hK A1 g hn, kit_ty hk, h.here A1 rfl⟩
end
end L2.Pv
end
section
set_option Elab.async false
set_option linter.all false
set_option autoImplicit false
set_option maxRecDepth 100000
namespace L2.Pv
open PySem PySem.Spec PyProof.Rows

/-! ### a tree's nodes -/
def T.kids : T → List T
  | .leaf _ _ => []
  | .lst _ xs => xs
  | .dic _ _ xs => xs
  | .obj _ _ _ xs => xs
def T.wk : T → List T → T
  | .leaf v d, _ => .leaf v d
  | .lst a _, xs => .lst a xs
  | .dic a ks _, xs => .dic a ks xs
  | .obj a dx c _, xs => .obj a dx c xs
def D.kids : D → List D
  | .lst true xs => xs
  | .dic true _ xs => xs
  | .obj true _ xs => xs
  | _ => []
def D.wk : D → List D → D
  | .lst true _, xs => .lst true xs
  | .dic true ks _, xs => .dic true ks xs
  | .obj true c _, xs => .obj true c xs
  | d, _ => d
def T.at : T → List Nat → Option T
  | t, [] => some t
  | t, k :: pi => match t.kids[k]? with
    | some x => T.at x pi
    | none => none
def T.upd : T → List Nat → T → T
  | _, [], n => n
  | t, k :: pi, n => match t.kids[k]? with
    | some x => t.wk (t.kids.set k (T.upd x pi n))
    | none => t
def D.at : D → List Nat → Option D
  | t, [] => some t
  | t, k :: pi => match t.kids[k]? with
    | some x => D.at x pi
    | none => none
def D.upd : D → List Nat → D → D
  | _, [], n => n
  | t, k :: pi, n => match t.kids[k]? with
    | some x => t.wk (t.kids.set k (D.upd x pi n))
    | none => t
theorem T.kids_d {Γ : Gm} {G H : Hp} {t : T} (g : Good Γ G H t) : t.d.kids = t.kids.map T.d := by
  cases t with
  | leaf v d =>
    have h := own_of_leaf g
    show d.kids = []
    cases d with
    | lst o xs => have h : o = false := h; subst h; rfl
    | dic o ks xs => have h : o = false := h; subst h; rfl
    | obj o c xs => have h : o = false := h; subst h; rfl
    | _ => rfl
  | lst a xs => exact T.ds_map xs
  | dic a ks xs => exact T.ds_map xs
  | obj a dx c xs => exact T.ds_map xs
theorem T.wk_d {Γ : Gm} {G H : Hp} {t : T} (g : Good Γ G H t) (xs : List T) : (t.wk xs).d = t.d.wk (xs.map T.d) := by
  cases t with
  | leaf v d =>
    have h := own_of_leaf g
    show d = d.wk _
    cases d with
    | lst o xs => have h : o = false := h; subst h; rfl
    | dic o ks xs => have h : o = false := h; subst h; rfl
    | obj o c xs => have h : o = false := h; subst h; rfl
    | _ => rfl
  | lst a ys => show D.lst true (T.ds xs) = D.lst true _; rw [T.ds_map]
  | dic a ks ys => show D.dic true ks (T.ds xs) = D.dic true ks _; rw [T.ds_map]
  | obj a dx c ys => show D.obj true c (T.ds xs) = D.obj true c _; rw [T.ds_map]
theorem T.kids_good {Γ : Gm} {G H : Hp} {t : T} (g : Good Γ G H t) {x : T} (h : x ∈ t.kids) : Good Γ G H x := by
  cases t with
  | leaf v d => exact absurd h (by simp [T.kids])
  | lst a xs => exact Goods_iff.mp g.2 x h
  | dic a ks xs => exact Goods_iff.mp g.2 x h
  | obj a dx c xs => exact Goods_iff.mp g.2 x h
theorem T.at_d {Γ : Gm} {G H : Hp} : ∀ {pi : List Nat} {t u : T}, Good Γ G H t → T.at t pi = some u → D.at t.d pi = some u.d ∧ Good Γ G H u
  | [], t, u, g, h => by cases h; exact ⟨rfl, g⟩
  | k :: pi, t, u, g, h => by
    unfold T.at at h
    unfold D.at
    rw [T.kids_d g, List.getElem?_map]
    cases hk : t.kids[k]? with
    | none => rw [hk] at h; cases h
    | some x =>
      rw [hk] at h
      exact T.at_d (T.kids_good g (List.mem_of_getElem? hk)) h
theorem T.at_of {Γ : Gm} {G H : Hp} : ∀ {pi : List Nat} {t : T} {d : D}, Good Γ G H t → D.at t.d pi = some d → ∃ u, T.at t pi = some u ∧ u.d = d
  | [], t, d, g, h => by cases h; exact ⟨t, rfl, rfl⟩
  | k :: pi, t, d, g, h => by
    unfold D.at at h
    rw [T.kids_d g, List.getElem?_map] at h
    unfold T.at
    cases hk : t.kids[k]? with
    | none => rw [hk] at h; cases h
    | some x =>
      rw [hk] at h
      exact T.at_of (T.kids_good g (List.mem_of_getElem? hk)) h
theorem T.upd_d {Γ : Gm} {G H : Hp} (n : T) : ∀ {pi : List Nat} {t : T}, Good Γ G H t → (T.upd t pi n).d = D.upd t.d pi n.d
  | [], t, g => rfl
  | k :: pi, t, g => by
    unfold T.upd D.upd
    rw [T.kids_d g, List.getElem?_map]
    cases hk : t.kids[k]? with
    | none => rfl
    | some x =>
      show (t.wk _).d = t.d.wk _
      rw [T.wk_d g, List.map_set, T.upd_d n (T.kids_good g (List.mem_of_getElem? hk))]
theorem T.wk_cnt (b : Addr) (t : T) (xs : List T) : (t.wk xs).cnt b + T.cnts b t.kids = t.cnt b + (match t with | .leaf _ _ => 0 | _ => T.cnts b xs) := by
  cases t with
  | leaf v d => rfl
  | lst a ys => simp only [T.wk, T.cnt, T.kids]; omega
  | dic a ks ys => simp only [T.wk, T.cnt, T.kids]; omega
  | obj a dx c ys => simp only [T.wk, T.cnt, T.kids]; omega
theorem cnts_set (b : Addr) (y : T) : ∀ {xs : List T} {k : Nat} {x : T}, xs[k]? = some x → T.cnts b (xs.set k y) + x.cnt b = T.cnts b xs + y.cnt b
  | [], k, x, h => by simp at h
  | z :: xs, 0, x, h => by
    simp at h
    subst h
    simp only [List.set_cons_zero, T.cnts]
    omega
  | z :: xs, k + 1, x, h => by
    have ih := cnts_set b y (xs := xs) (k := k) (x := x) (by simpa using h)
    simp only [List.set_cons_succ, T.cnts]
    omega
theorem T.kids_cnt (b : Addr) (t : T) : T.cnts b t.kids ≤ t.cnt b := by
  cases t with
  | leaf v d => exact Nat.le_refl _
  | lst a ys => simp only [T.cnt, T.kids]; omega
  | dic a ks ys => simp only [T.cnt, T.kids]; omega
  | obj a dx c ys => simp only [T.cnt, T.kids]; omega
theorem T.upd_cnt (b : Addr) (n : T) : ∀ {pi : List Nat} {t u : T}, T.at t pi = some u → (T.upd t pi n).cnt b + u.cnt b = t.cnt b + n.cnt b
  | [], t, u, h => by cases h; exact Nat.add_comm _ _
  | k :: pi, t, u, h => by
    unfold T.at at h
    unfold T.upd
    cases hk : t.kids[k]? with
    | none => rw [hk] at h; cases h
    | some x =>
      rw [hk] at h
      have ih := T.upd_cnt b n (pi := pi) (t := x) (u := u) h
      have h1 := T.wk_cnt b t (t.kids.set k (T.upd x pi n))
      have h2 := cnts_set b (T.upd x pi n) hk
      show (t.wk (t.kids.set k (T.upd x pi n))).cnt b + u.cnt b = t.cnt b + n.cnt b
      cases t with
      | leaf v d => simp [T.kids] at hk
      | _ => simp only [T.kids] at h1 h2 ⊢; omega
theorem T.at_cnt (b : Addr) : ∀ {pi : List Nat} {t u : T}, T.at t pi = some u → u.cnt b ≤ t.cnt b
  | [], t, u, h => by cases h; exact Nat.le_refl _
  | k :: pi, t, u, h => by
    unfold T.at at h
    cases hk : t.kids[k]? with
    | none => rw [hk] at h; cases h
    | some x =>
      rw [hk] at h
      have ih := T.at_cnt b (pi := pi) (t := x) (u := u) h
      have h1 := cnts_mem (a := b) (List.mem_of_getElem? hk)
      have h2 := T.kids_cnt b t
      omega
theorem T.wk_v (t : T) (xs : List T) : (t.wk xs).v = t.v := by cases t <;> rfl
theorem T.upd_v {n : T} : ∀ {pi : List Nat} {t u : T}, T.at t pi = some u → n.v = u.v → (T.upd t pi n).v = t.v
  | [], t, u, h, e => by cases h; exact e
  | k :: pi, t, u, h, e => by
    unfold T.at at h
    unfold T.upd
    cases hk : t.kids[k]? with
    | none => simp [hk] at h
    | some x => exact T.wk_v _ _
theorem map_set_same {α β : Type} (f : α → β) {xs : List α} {k : Nat} {x y : α} (h : xs[k]? = some x) (e : f y = f x) : (xs.set k y).map f = xs.map f := by
  rw [List.map_set, e]
  apply List.ext_getElem?
  intro j
  by_cases hj : k = j
  · subst hj
    rw [List.getElem?_set_self (by simpa using (List.getElem?_eq_some_iff.mp h).1), List.getElem?_map, h]
    rfl
  · rw [List.getElem?_set_ne hj]
/-- the parts beside the place stay -/
theorem T.upd_good {Γ : Gm} {G H H' : Hp} {p : Addr} {n : T} (hH : ∀ a, a ≠ p → H' a = H a) (hn : Good Γ G H' n) : ∀ {pi : List Nat} {t u : T}, T.at t pi = some u → Good Γ G H t → t.cnt p ≤ 1 → 1 ≤ u.cnt p → n.v = u.v → Good Γ G H' (T.upd t pi n)
  | [], t, u, h, g, c1, c2, e => hn
  | k :: pi, t, u, h, g, c1, c2, e => by
    unfold T.at at h
    unfold T.upd
    cases hk : t.kids[k]? with
    | none => rw [hk] at h; cases h
    | some x =>
      rw [hk] at h
      have hx1 := T.at_cnt p (pi := pi) h
      have hm := cnts_mem (a := p) (List.mem_of_getElem? hk)
      have hkc := T.kids_cnt p t
      have ih := T.upd_good hH hn (pi := pi) (t := x) (u := u) h (T.kids_good g (List.mem_of_getElem? hk)) (by omega) c2 e
      have ev := T.upd_v (n := n) h e
      have rest : ∀ xs : List T, Goods Γ G H xs → ∀ {k : Nat}, xs[k]? = some x → T.cnts p xs ≤ 1 → Goods Γ G H' (xs.set k (T.upd x pi n)) := by
        intro xs
        induction xs with
        | nil => intro _ k hk _; simp at hk
        | cons y ys ih2 =>
          intro gy k hk2 hc
          cases k with
          | zero =>
            simp at hk2
            subst hk2
            refine ⟨ih, gy.2.mono (Sub.refl G) ys fun a ha => hH a fun z => ?_⟩
            subst z
            rw [T.cnts] at hc
            omega
          | succ k =>
            have hk2 : ys[k]? = some x := by simpa using hk2
            have hm2 := cnts_mem (a := p) (List.mem_of_getElem? hk2)
            rw [T.cnts] at hc
            refine ⟨gy.1.mono (Sub.refl G) y fun a ha => hH a fun z => ?_, ih2 gy.2 hk2 (by omega)⟩
            subst z
            omega
      show Good Γ G H' (t.wk (t.kids.set k (T.upd x pi n)))
      cases t with
      | leaf v d => simp [T.kids] at hk
      | lst a xs =>
        simp only [T.kids] at hk hm hkc
        have na : a ≠ p := fun z => by
          subst z
          rw [T.cnt, if_pos rfl] at c1
          omega
        refine ⟨⟨?_, by simpa [T.wk, T.kids] using g.1.2⟩, rest xs g.2 hk (by omega)⟩
        rw [hH a na, g.1.1]
        show some (HO.lst (xs.map T.v)) = some (HO.lst ((xs.set k (T.upd x pi n)).map T.v))
        rw [map_set_same T.v hk ev]
      | dic a ks xs =>
        simp only [T.kids] at hk hm hkc
        have na : a ≠ p := fun z => by
          subst z
          rw [T.cnt, if_pos rfl] at c1
          omega
        refine ⟨⟨?_, by simpa [T.wk, T.kids] using g.1.2⟩, rest xs g.2 hk (by omega)⟩
        rw [hH a na, g.1.1]
        show some (dicHO ks (xs.map T.v)) = some (dicHO ks ((xs.set k (T.upd x pi n)).map T.v))
        rw [map_set_same T.v hk ev]
      | obj a dx c xs =>
        simp only [T.kids] at hk hm hkc
        have na : a ≠ p := fun z => by
          subst z
          rw [T.cnt, if_pos rfl] at c1
          omega
        have nd : dx ≠ p := fun z => by
          subst z
          rw [T.cnt, if_pos (rfl : dx = dx)] at c1
          omega
        refine ⟨⟨?_, by rw [hH dx nd]; exact g.1.2.1, by simpa [T.wk, T.kids] using g.1.2.2⟩, rest xs g.2 hk (by omega)⟩
        rw [hH a na, g.1.1]
        show some (HO.ins (Γ.ca c) dx ((Γ.fl c).zip (xs.map T.v))) = some (HO.ins (Γ.ca c) dx ((Γ.fl c).zip ((xs.set k (T.upd x pi n)).map T.v)))
        rw [map_set_same T.v hk ev]

theorem dsl_set' (sl : TS') (i : Nat) (t : T) : dsl (sl.set i (some t)) = (dsl sl).set i (some t.d) := dsl_set sl i (some t)
def T.adr : T → Option Addr
  | .leaf _ _ => none
  | .lst a _ => some a
  | .dic a _ _ => some a
  | .obj a _ _ _ => some a
theorem T.adr_cnt {t : T} {p : Addr} (h : t.adr = some p) : 1 ≤ t.cnt p := by
  cases t with
  | leaf v d => cases h
  | lst a xs => cases h; rw [T.cnt, if_pos rfl]; omega
  | dic a ks xs => cases h; rw [T.cnt, if_pos rfl]; omega
  | obj a dx c xs => cases h; rw [T.cnt, if_pos rfl]; omega
theorem T.adr_v {t : T} {p : Addr} (h : t.adr = some p) : t.v = .ref p := by
  cases t with
  | leaf v d => cases h
  | _ => cases h; rfl
section
variable {Γ : Gm} {F : Fr} {σ : St} {H G : Hp} {sl : TS'} {tm us rs : List T} {w u n : T} {pi : List Nat} {p : Addr} {j : Nat} {o o0 : HO}
/-- a node of slot j is written: us go in, rs come out -/
theorem Abs.write (A : Abs Γ F σ H G sl (us ++ tm)) (hj : sl[j]? = some (some w)) (hu : T.at w pi = some u) (hup : u.adr = some p) (hnp : n.adr = some p) (ho : H p = some o0) (n1 : NTbl o0) (n2 : ∀ c q, o0 ≠ LamX.CodeO c q)
    (hc : ∀ b, n.cnt b + T.cnts b rs ≤ u.cnt b + T.cnts b us) (hr : ∀ r ∈ rs, Good Γ G H r) (hn : (∀ x, x.cnt p = 0 → Good Γ G H x → Good Γ G (upd H p o) x) → Good Γ G (upd H p o) n) :
    Abs Γ F σ (upd H p o) G (sl.set j (some (T.upd w pi n))) (rs ++ tm) := by
  have hjl : j < sl.length := (List.getElem?_eq_some_iff.mp hj).1
  have cup := T.adr_cnt hup
  have cnp := T.adr_cnt hnp
  have cw : w.cnt p ≤ 1 ∧ cS p (sl.set j none) + T.cnts p (us ++ tm) + w.cnt p ≤ 1 := by
    have h1 := A.one p
    have h2 := cS_set p none sl j hjl
    rw [hj] at h2
    have h3 : cO p ((some (some w)).join) = w.cnt p := rfl
    have h4 : cO p none = 0 := rfl
    rw [h3, h4] at h2
    exact ⟨by omega, by omega⟩
  have cuw := T.at_cnt p hu
  have hG : G p = none := (A.sep p (by have := cS_get (a := p) hj; omega)).1
  have hF : F.H0 p = none ∨ F.B p := (A.sep p (by have := cS_get (a := p) hj; omega)).2.2
  have hH : ∀ a, a ≠ p → upd H p o a = H a := fun a ha => upd_ne ha
  have keepG : ∀ x, x.cnt p = 0 → Good Γ G H x → Good Γ G (upd H p o) x := fun x hx g => g.mono (Sub.refl G) x fun a ha => hH a fun z => by subst z; omega
  have gw := A.goodS j w hj
  have gW : Good Γ G (upd H p o) (T.upd w pi n) := T.upd_good hH (hn keepG) hu gw cw.1 cup (by rw [T.adr_v hnp, T.adr_v hup])
  have ec : ∀ b, (T.upd w pi n).cnt b + u.cnt b = w.cnt b + n.cnt b := fun b => T.upd_cnt b n hu
  have es : ∀ b, cS b (sl.set j (some (T.upd w pi n))) + w.cnt b = cS b sl + (T.upd w pi n).cnt b := fun b => by
    have h2 := cS_set b (some (T.upd w pi n)) sl j hjl
    rw [hj] at h2
    exact h2
  have tot : ∀ b, cS b (sl.set j (some (T.upd w pi n))) + T.cnts b (rs ++ tm) ≤ cS b sl + T.cnts b (us ++ tm) := fun b => by
    have h1 := ec b
    have h2 := es b
    have h3 := hc b
    have h4 := T.at_cnt b hu
    have h5 := cS_get (a := b) hj
    rw [cnts_append, cnts_append]
    omega
  refine ⟨by simp [A.len], fun i t h => ?_, fun a q h => ?_, fun a q h1 h2 h3 => ?_, fun a h => ?_, A.g0, fun i t h => ?_, fun t h => ?_, fun a => Nat.le_trans (tot a) (A.one a), fun a ha => ?_, A.fresh, tabs_upd A.tabs ho n1 n2⟩
  · by_cases e : j = i
    · subst e
      rw [List.getElem?_set_self hjl] at h
      cases h
      rw [T.upd_v hu (by rw [T.adr_v hnp, T.adr_v hup])]
      exact A.val j w hj
    · rw [List.getElem?_set_ne e] at h
      exact A.val i t h
  · have : a ≠ p := fun z => by rw [z, hG] at h; cases h
    rw [hH a this]
    exact A.sub a q h
  · have : a ≠ p := fun z => by
      subst z
      rcases hF with z | z
      · rw [h1] at z; cases z
      · exact h3 z
    rw [hH a this]
    exact A.keep a q h1 h2 h3
  · by_cases e : a = p
    · rw [e, upd_same]; exact ⟨o, rfl, fun ps z => by subst z; exact Good.noTbl n (hn keepG) cnp upd_same⟩
    · rw [hH a e]; exact A.dom a h
  · by_cases e : j = i
    · subst e
      rw [List.getElem?_set_self hjl] at h
      cases h
      exact gW
    · rw [List.getElem?_set_ne e] at h
      refine keepG t ?_ (A.goodS i t h)
      have h6 : (sl.set j none)[i]? = some (some t) := by rw [List.getElem?_set_ne e]; exact h
      have := cS_get (a := p) h6
      omega
  · rcases List.mem_append.mp h with h | h
    · refine keepG t ?_ (hr t h)
      have := cnts_mem (a := p) h
      have := hc p
      have := cw.2
      have h7 : T.cnts p us ≤ T.cnts p (us ++ tm) := by rw [cnts_append]; omega
      omega
    · refine keepG t ?_ (A.goodT t (List.mem_append_right _ h))
      have := cnts_mem (a := p) (List.mem_append_right us h)
      have := cw.2
      omega
  · have ha' : 0 < cS a sl + T.cnts a (us ++ tm) := Nat.lt_of_lt_of_le ha (tot a)
    obtain ⟨h1, h2, h3⟩ := A.sep a ha'
    refine ⟨h1, ?_, h3⟩
    by_cases e : a = p
    · rw [e, upd_same]; exact fun z => nomatch z
    · rw [hH a e]; exact h2
end
end L2.Pv
end
section
set_option Elab.async false
set_option linter.all false
set_option autoImplicit false
set_option maxRecDepth 100000
namespace L2.Pv
open PySem PySem.Spec PyProof.Rows

/-! ### places -/
abbrev Ep := DS → Out (List Nat)
def tP (Γ : Gm) (E : WX) (W : List Nat) (j : Nat) (f : Ep) : TE := fun σ H Q => ∃ F G sl tm, Abs Γ F σ H G sl tm ∧
  match f (dsl sl) with
  | .ok pi δ => ∀ H' G' sl' w u, Abs Γ F σ H' G' sl' tm → sl'[j]? = some (some w) → T.at w pi = some u → Sub G G' → dsl sl' = δ → Keep W sl sl' → Q u.v H'
  | .exc c fs δ => PX Γ E F σ tm c fs δ
  | .stuck => False
def SP (X : Cx) (Γ : Gm) (E : WX) (W : List Nat) (j : Nat) (e : Expr) (f : Ep) : Prop := X.K = Γ.K → PE X e (tP Γ E W j f)
def nodeAt (j : Nat) (pi : List Nat) (δ : DS) : Option D := match δ[j]? with
  | some (some d) => D.at d pi
  | _ => none
def pNm (j : Nat) : Ep := fun δ => match δ[j]? with
  | some (some _) => .ok [] δ
  | _ => .stuck
def kidIx (n d : D) : Option Nat := match n with
  | .lst true xs => match d with
    | .int i => ixN xs.length i
    | _ => none
  | .dic true ks xs => (ks.ix d).bind id
  | _ => none
def pIx (j : Nat) (fo : Ep) (fi : Ev) : Ep := fun δ => (fo δ).bd fun pi δ1 => (fi δ1).bd fun d δ2 => match nodeAt j pi δ2 with
  | some n => lft ((kidIx n d).map fun k => pi ++ [k]) δ2
  | none => .stuck
theorem T.at_app : ∀ {pi : List Nat} {t u x : T} {k : Nat}, T.at t pi = some u → u.kids[k]? = some x → T.at t (pi ++ [k]) = some x
  | [], t, u, x, k, h, hk => by
    cases h
    show (match t.kids[k]? with | some x => T.at x [] | none => none) = some x
    rw [hk]
    rfl
  | i :: pi, t, u, x, k, h, hk => by
    unfold T.at at h
    show (match t.kids[i]? with | some x => T.at x (pi ++ [k]) | none => none) = some x
    cases hi : t.kids[i]? with
    | none => rw [hi] at h; cases h
    | some y =>
      rw [hi] at h
      exact T.at_app h hk
theorem node_lst {Γ : Gm} {G H : Hp} {u : T} {ds : List D} (g : Good Γ G H u) (h : u.d = .lst true ds) : ∃ p xs, u = .lst p xs ∧ xs.map T.d = ds ∧ H p = some (.lst (xs.map T.v)) ∧ xs.length ≤ sizeLine := by
  cases u with
  | leaf v d =>
    have h : d = .lst true ds := h
    subst h
    exact absurd g.1.1 (by simp)
  | lst p xs =>
    have h : D.lst true (T.ds xs) = .lst true ds := h
    cases h
    exact ⟨p, xs, rfl, (T.ds_map xs).symm, g.1.1, g.1.2⟩
  | dic p ks xs => exact nomatch h
  | obj p dx c xs => exact nomatch h
theorem node_dic {Γ : Gm} {G H : Hp} {u : T} {ks : DKs} {ds : List D} (g : Good Γ G H u) (h : u.d = .dic true ks ds) : ∃ p xs, u = .dic p ks xs ∧ xs.map T.d = ds ∧ H p = some (dicHO ks (xs.map T.v)) ∧ xs.length ≤ sizeLine ∧ ks.fit xs.length := by
  cases u with
  | leaf v d =>
    have h : d = .dic true ks ds := h
    subst h
    exact absurd g.1.1 (by simp)
  | dic p ks' xs =>
    have h : D.dic true ks' (T.ds xs) = .dic true ks ds := h
    cases h
    exact ⟨p, xs, rfl, (T.ds_map xs).symm, g.1.1, g.1.2.1, g.1.2.2⟩
  | lst p xs => exact nomatch h
  | obj p dx c xs => exact nomatch h
theorem node_at {Γ : Gm} {F : Fr} {σ : St} {H G : Hp} {sl : TS'} {tm : List T} {j : Nat} {w u : T} {pi : List Nat} (A : Abs Γ F σ H G sl tm) (hj : sl[j]? = some (some w)) (hu : T.at w pi = some u) : nodeAt j pi (dsl sl) = some u.d ∧ Good Γ G H u := by
  have h := T.at_d (A.goodS j w hj) hu
  refine ⟨?_, h.2⟩
  unfold nodeAt dsl
  rw [List.getElem?_map, hj]
  exact h.1
theorem node_of {Γ : Gm} {F : Fr} {σ : St} {H G : Hp} {sl : TS'} {tm : List T} {j : Nat} {pi : List Nat} {n : D} (A : Abs Γ F σ H G sl tm) (h : nodeAt j pi (dsl sl) = some n) : ∃ w u, sl[j]? = some (some w) ∧ T.at w pi = some u ∧ u.d = n := by
  unfold nodeAt at h
  split at h
  · rename_i d hd
    obtain ⟨w, hw, ew⟩ := dsl_get hd
    subst ew
    obtain ⟨u, hu, eu⟩ := T.at_of (A.goodS j w hw) h
    exact ⟨w, u, hw, hu, eu⟩
  · cases h
section
variable {X : Cx} {Γ : Gm} {E : WX} {W Wo Wi Wa We : List Nat} {j : Nat} {fo : Ep} {fi fe : Ev} {o i e : Expr} {ri : Option Nat} {pos : Pos}
theorem sp_nm {x : Str} (h : PE X (.Name x pos) (tVar j)) : SP X Γ E [] j (.Name x pos) (pNm j) := fun hK => h.imp fun σ H Q ⟨F, G, sl, tm, A, q⟩ => by
  unfold pNm at q
  split at q
  · rename_i r pi δ hm
    split at hm
    · rename_i d hd
      cases hm
      obtain ⟨t, ht, _⟩ := dsl_get hd
      exact ⟨t.v, A.val j t ht, q H G sl t t A ht rfl (Sub.refl G) rfl (Keep.refl _ _)⟩
    · cases hm
  · rename_i hm
    split at hm <;> cases hm
  · exact q.elim
theorem sp_ix (hu : X.A.units + 1 < cLine) (ho : SP X Γ E Wo j o fo) (hi : SV X Γ E Wi ri i fi) (hj : j ∉ Wi) (hs : PlainIx i) : SP X Γ E (Wo ++ Wi) j (.Subscript o i pos) (pIx j fo fi) := fun hK =>
  (pe_ix (ix_list.or (ix_dic hu)) (ho hK) (hi hK) hs).imp fun σ H Q ⟨F, G, sl, tm, A, q⟩ => by
  show tP Γ E Wo j fo σ H fun x H1 => tV Γ E Wi ri fi σ H1 fun y H2 => rIxL X.K x y H2 Q ∨ rIxDic x y H2 Q
  refine ⟨F, G, sl, tm, A, ?_⟩
  unfold pIx at q
  cases h1 : fo (dsl sl) with
  | stuck => rw [h1] at q; exact q
  | exc c fs δ => rw [h1] at q; exact q
  | ok pi δ1 =>
    rw [h1, bd_ok] at q
    intro H1 G1 sl1 w u A1 hw hu' s1 e1 k1
    refine ⟨F, G1, sl1, tm, A1, ?_⟩
    rw [e1]
    cases h2 : fi δ1 with
    | stuck => rw [h2] at q; exact q
    | exc c fs δ => rw [h2] at q; exact q
    | ok d δ2 =>
      rw [h2, bd_ok] at q
      intro H2 G2 sl2 ex t A2 w2 s2 e2 e2' k2
      have hw2 : sl2[j]? = some (some w) := (k2 j hj).trans hw
      obtain ⟨hn, gu⟩ := node_at A2 hw2 hu'
      have gt := w2.good A2
      rw [e2'] at hn
      rw [hn] at q
      dsimp only at q
      cases hk : kidIx u.d d with
      | none => rw [hk] at q; exact q.elim
      | some k =>
        rw [hk] at q
        have q' : ∀ c, u.kids[k]? = some c → Q c.v H2 := fun c hc => q H2 G2 sl2 w c A2.dropN hw2 (T.at_app hu' hc) (s1.trans s2) e2' (k1.trans k2)
        unfold kidIx at hk
        split at hk
        · rename_i xs en
          split at hk
          · rename_i ii
            obtain ⟨p, ts, eu, ets, hH, hz⟩ := node_lst gu en
            subst eu
            subst ets
            rw [List.length_map] at hk
            have hlt := (ixN_seq hk).2.1
            have hc : ts[k]? = some ts[k] := List.getElem?_eq_getElem hlt
            exact .inl ⟨p, ts.map T.v, ii, (ts[k]).v, rfl, int_of gt e2, SqL.of hH, atI_of (by rw [List.length_map]; exact hk) (by rw [List.getElem?_map, hc]; rfl), q' _ hc⟩
          · cases hk
        · rename_i ks xs en
          obtain ⟨p, ts, eu, ets, hH, hz, hl⟩ := node_dic gu en
          subst eu
          cases hx : ks.ix d with
          | none => rw [hx] at hk; cases hk
          | some oj =>
            rw [hx] at hk
            have hk : oj = some k := hk
            subst hk
            have hg := dget_of A2.sub (.inl hH) (by rw [List.length_map]; exact hl.1) gt (by rw [e2]; exact hx)
            have hp := posOf_vs hx (vs := ts.map T.v) (by rw [List.length_map]; exact hl.1)
            have hlt : k < ts.length := by
              have hp : ((ts.map T.v)[k]?).isSome = true := hp
              rw [List.getElem?_map, Option.isSome_map] at hp
              cases hc : ts[k]? with
              | none => rw [hc] at hp; cases hp
              | some c => exact (List.getElem?_eq_some_iff.mp hc).1
            have hc : ts[k]? = some ts[k] := List.getElem?_eq_getElem hlt
            rw [show (some k).bind ((ts.map T.v)[·]?) = some (ts[k]).v from by show (ts.map T.v)[k]? = _; rw [List.getElem?_map, hc]; rfl] at hg
            exact .inr ⟨p, _, rfl, hg, q' _ hc⟩
        · cases hk
end
/-! ### a node is written -/
def updAt (j : Nat) (pi : List Nat) (g : D → Option D) (δ : DS) : Option DS := match δ[j]? with
  | some (some w) => match D.at w pi with
    | some n => (g n).map fun n' => δ.set j (some (D.upd w pi n'))
    | none => none
  | _ => none
def DKs.snoc (ks : DKs) (d : D) : Option DKs := match ks with
  | .k ks => d.key1.map fun k => .k (ks ++ [k])
  | .t ks => d.keyT.map fun k => .t (ks ++ [k])
def putD (n k v : D) : Option D := match n with
  | .lst true xs => match k with
    | .int i => (ixN xs.length i).map fun j => .lst true (xs.set j v)
    | _ => none
  | .dic true ks xs => match ks.ix k with
    | some (some j) => if xs.length < sizeLine then some (.dic true ks (xs.set j v)) else none
    | some none => if xs.length < sizeLine then (ks.snoc k).map fun ks' => .dic true ks' (xs ++ [v]) else none
    | none => none
  | _ => none
theorem nCod_dic (ks : DKs) (vs : List V) (c : Addr) (q : Str) : dicHO ks vs ≠ LamX.CodeO c q := fun z => by
  cases ks <;> exact nomatch z
theorem nTbl_dic (ks : DKs) (vs : List V) : NTbl (dicHO ks vs) := fun _ z => by
  cases ks <;> exact nomatch z
theorem goods_set {Γ : Gm} {G H : Hp} {t : T} (ht : Good Γ G H t) : ∀ {xs : List T} {k : Nat}, Goods Γ G H xs → Goods Γ G H (xs.set k t)
  | [], k, h => by simpa using h
  | x :: xs, 0, h => ⟨ht, h.2⟩
  | x :: xs, k + 1, h => ⟨h.1, goods_set ht h.2⟩
theorem cnts_set_le (b : Addr) (t : T) : ∀ (xs : List T) (k : Nat), T.cnts b (xs.set k t) ≤ T.cnts b xs + t.cnt b
  | [], k => by simp [T.cnts]
  | x :: xs, 0 => by simp only [List.set_cons_zero, T.cnts]; omega
  | x :: xs, k + 1 => by
    have := cnts_set_le b t xs k
    simp only [List.set_cons_succ, T.cnts]
    omega
theorem goods_app {Γ : Gm} {G H : Hp} : ∀ {xs ys : List T}, Goods Γ G H xs → Goods Γ G H ys → Goods Γ G H (xs ++ ys)
  | [], ys, _, h => h
  | x :: xs, ys, h, h2 => ⟨h.1, goods_app h.2 h2⟩
theorem kv_set {κ : Type} [DecidableEq κ] : ∀ {ks : List κ} {vs : List V} {k : κ} {j : Nat} (v : V), posOf ks k = some j → ks.length = vs.length → ks.Nodup → (ks.zip vs).map (fun kv => if kv.1 = k then (kv.1, v) else kv) = ks.zip (vs.set j v)
  | [], vs, k, j, v, h, _, _ => nomatch h
  | x :: ks, [], k, j, v, h, hl, _ => by simp at hl
  | x :: ks, y :: vs, k, j, v, h, hl, nd => by
    unfold posOf at h
    obtain ⟨nx, nd⟩ := List.nodup_cons.mp nd
    by_cases e : x = k
    · rw [if_pos e] at h
      cases h
      subst e
      simp only [List.zip_cons_cons, List.map_cons, if_true, List.set_cons_zero]
      congr 1
      refine (List.map_congr_left fun p hp => ?_).trans (List.map_id _)
      have : p.1 ≠ x := fun z => nx (z ▸ (List.of_mem_zip hp).1)
      rw [if_neg this]
      rfl
    · rw [if_neg e] at h
      cases hp : posOf ks k with
      | none => rw [hp] at h; cases h
      | some i =>
        rw [hp] at h
        cases h
        simp only [List.zip_cons_cons, List.map_cons, if_neg e, List.set_cons_succ]
        rw [kv_set v hp (by simpa using hl) nd]
theorem any_pos {κ : Type} [DecidableEq κ] {ks : List κ} {vs : List V} {k : κ} (hl : ks.length = vs.length) : ((ks.zip vs).any fun kv => decide (kv.1 = k)) = (posOf ks k).isSome := by
  rw [valV_any, valV_zip hl]
  cases h : posOf ks k with
  | none => rfl
  | some j =>
    have : j < vs.length := by rw [← hl]; exact (List.getElem?_eq_some_iff.mp (posOf_lt h)).1
    simp [List.getElem?_eq_getElem this]
theorem putK_there {κ : Type} [DecidableEq κ] {ks : List κ} {vs : List V} {k : κ} {j : Nat} (v : V) (h : posOf ks k = some j) (hl : ks.length = vs.length) (nd : ks.Nodup) : putK (ks.zip vs) k v = ks.zip (vs.set j v) := by
  unfold putK
  rw [any_pos hl, h]
  exact kv_set v h hl nd
theorem putK_not {κ : Type} [DecidableEq κ] {ks : List κ} {vs : List V} {k : κ} (v : V) (h : posOf ks k = none) (hl : ks.length = vs.length) : putK (ks.zip vs) k v = (ks ++ [k]).zip (vs ++ [v]) := by
  rw [putK_new v (by rw [valV_zip hl, h]; rfl), List.zip_append hl]
  rfl
end L2.Pv
end
section
set_option Elab.async false
set_option linter.all false
set_option autoImplicit false
set_option maxRecDepth 100000
namespace L2.Pv
open PySem PySem.Spec PyProof.Rows

theorem nd_snoc {α : Type} {ks : List α} {k : α} (nd : ks.Nodup) (h : k ∉ ks) : (ks ++ [k]).Nodup := by
  rw [List.nodup_append]
  refine ⟨nd, by simp, fun a ha b hb => ?_⟩
  have : b = k := by simpa using hb
  subst this
  exact fun z => h (z ▸ ha)
section
variable {Γ : Gm} {F : Fr} {σ : St} {H G : Hp} {sl : TS'} {tm us : List T} {w u t kt : T} {pi : List Nat} {j : Nat} {nd : D}
/-- x[k] = v, what it does to the heap -/
theorem Abs.put (A : Abs Γ F σ H G sl (t :: tm)) (hj : sl[j]? = some (some w)) (hu : T.at w pi = some u) (gk : Good Γ G H kt) (h : putD u.d kt.d t.d = some nd) :
    ∃ p o n, u.v = .ref p ∧ n.d = nd ∧ Abs Γ F σ (upd H p o) G (sl.set j (some (T.upd w pi n))) tm ∧
      ((∃ xs i k, kt.v = .int i ∧ H p = some (.lst xs) ∧ ixN xs.length i = some k ∧ o = .lst (xs.set k t.v)) ∨ DPut H p kt.v t.v (upd H p o)) := by
  have gu := (node_at A hj hu).2
  have gt : Good Γ G H t := A.goodT t List.mem_cons_self
  have cnt1 : ∀ b, T.cnts b [t] = t.cnt b := fun b => by rw [T.cnts, T.cnts]; omega
  have one := A.one
  -- t holds no address of w
  have apart : ∀ b, 0 < u.cnt b → t.cnt b = 0 := fun b hb => by
    have h1 := one b
    have h2 := cS_get (a := b) hj
    have h3 := T.at_cnt b hu
    rw [T.cnts] at h1
    omega
  unfold putD at h
  split at h
  · rename_i xs en
    split at h
    · rename_i i ek
      cases hx : ixN xs.length i with
      | none => rw [hx] at h; cases h
      | some k =>
        rw [hx] at h
        cases h
        obtain ⟨p, ts, eu, ets, hH, hz⟩ := node_lst gu en
        subst eu
        subst ets
        rw [List.length_map] at hx
        refine ⟨p, .lst (((ts.map T.v)).set k t.v), .lst p (ts.set k t), rfl, by rw [T.d, T.ds_map, List.map_set], ?_, .inl ⟨ts.map T.v, i, k, int_of gk ek, hH, by rw [List.length_map]; exact hx, rfl⟩⟩
        refine Abs.write (us := [t]) (rs := []) (u := .lst p ts) A hj hu rfl rfl hH (nTbl_lst _) (nCod_lst _) (fun b => ?_) (fun r hr => absurd hr (by simp)) fun kp => ?_
        · have := cnts_set_le b t ts k
          rw [cnt1, T.cnt, T.cnt]
          simp only [T.cnts]
          omega
        · have pz : t.cnt p = 0 := apart p (by rw [T.cnt, if_pos rfl]; omega)
          have cw : T.cnts p ts = 0 := by
            have h1 := one p
            have h2 := cS_get (a := p) hj
            have h3 := T.at_cnt p hu
            rw [T.cnt, if_pos rfl] at h3
            omega
          refine ⟨⟨by rw [upd_same, List.map_set], by rw [List.length_set]; exact hz⟩, goods_set (kp t pz gt) (Goods_iff.mpr fun x hx => kp x (by have := cnts_mem (a := p) hx; omega) (Goods_iff.mp gu.2 x hx))⟩
    · cases h
  · rename_i ks xs en
    obtain ⟨p, ts, eu, ets, hH, hz, hl, hnd⟩ := node_dic gu en
    subst eu
    subst ets
    have pz : t.cnt p = 0 := apart p (by rw [T.cnt, if_pos rfl]; omega)
    have cw : T.cnts p ts = 0 := by
      have h1 := one p
      have h2 := cS_get (a := p) hj
      have h3 := T.at_cnt p hu
      rw [T.cnt, if_pos rfl] at h3
      omega
    have kids : ∀ kp : (∀ x, x.cnt p = 0 → Good Γ G H x → Good Γ G (upd H p (dicHO ks ((ts.map T.v)))) x), True := fun _ => trivial
    split at h
    · rename_i i hx
      split at h
      · rename_i hz2
        cases h
        rw [List.length_map] at hz2
        refine ⟨p, dicHO ks ((ts.map T.v).set i t.v), .dic p ks (ts.set i t), rfl, by rw [T.d, T.ds_map, List.map_set], ?_, .inr ?_⟩
        · refine Abs.write (us := [t]) (rs := []) (u := .dic p ks ts) A hj hu rfl rfl hH (nTbl_dic _ _) (nCod_dic _ _) (fun b => ?_) (fun r hr => absurd hr (by simp)) fun kp => ?_
          · have := cnts_set_le b t ts i
            rw [cnt1, T.cnt, T.cnt]
            simp only [T.cnts]
            omega
          · exact ⟨⟨by rw [upd_same, List.map_set], by rw [List.length_set]; exact hz, by rw [List.length_set]; exact ⟨hl, hnd⟩⟩, goods_set (kp t pz gt) (Goods_iff.mpr fun x hx => kp x (by have := cnts_mem (a := p) hx; omega) (Goods_iff.mp gu.2 x hx))⟩
        · cases ks with
          | k ks =>
            unfold DKs.ix at hx
            cases hk : kt.d.key1 with
            | none => rw [hk] at hx; cases hx
            | some k =>
              rw [hk] at hx
              have hx : posOf ks k = some i := Option.some.inj hx
              have hl : ks.length = ts.length := hl
              refine .inl ⟨_, k, hH, key1_v gk hk, by rw [List.length_zip, List.length_map]; omega, ?_⟩
              rw [putK_there t.v hx (by rw [List.length_map]; exact hl) hnd]
              rfl
          | t ks =>
            unfold DKs.ix at hx
            cases hk : kt.d.keyT with
            | none => rw [hk] at hx; cases hx
            | some k =>
              rw [hk] at hx
              have hx : posOf ks k = some i := Option.some.inj hx
              have hl : ks.length = ts.length := hl
              obtain ⟨b, ev, eb⟩ := keyT_v A.sub gk hk
              refine .inr ⟨_, k, b, hH, ev, A.sub _ _ eb, by rw [List.length_zip, List.length_map]; omega, ?_⟩
              rw [putK_there t.v hx (by rw [List.length_map]; exact hl) hnd]
              rfl
      · cases h
    · rename_i hx
      split at h
      · rename_i hz2
        rw [List.length_map] at hz2
        have wr : ∀ ks' : DKs, ks'.len = ts.length + 1 → ks'.nd → Abs Γ F σ (upd H p (dicHO ks' ((ts ++ [t]).map T.v))) G (sl.set j (some (T.upd w pi (.dic p ks' (ts ++ [t]))))) tm := fun ks' h1 h2 => by
          refine Abs.write (us := [t]) (rs := []) (u := .dic p ks ts) A hj hu rfl rfl hH (nTbl_dic _ _) (nCod_dic _ _) (fun b => ?_) (fun r hr => absurd hr (by simp)) fun kp => ?_
          · rw [cnt1, T.cnt, T.cnt, cnts_append, cnt1]
            simp only [T.cnts]
            omega
          · exact ⟨⟨upd_same, by rw [List.length_append]; exact hz2, by rw [List.length_append]; exact ⟨h1, h2⟩⟩, goods_app (Goods_iff.mpr fun x hx => kp x (by have := cnts_mem (a := p) hx; omega) (Goods_iff.mp gu.2 x hx)) ⟨kp t pz gt, trivial⟩⟩
        cases ks with
        | k ks =>
          unfold DKs.ix at hx
          unfold DKs.snoc at h
          cases hk : kt.d.key1 with
          | none => rw [hk] at hx; cases hx
          | some k =>
            rw [hk] at hx h
            have hx : posOf ks k = none := Option.some.inj hx
            have hl : ks.length = ts.length := hl
            cases h
            refine ⟨p, _, .dic p (.k (ks ++ [k])) (ts ++ [t]), rfl, by rw [T.d, T.ds_map, List.map_append]; rfl, wr (.k (ks ++ [k])) (by show (ks ++ [k]).length = _; rw [List.length_append, hl]; rfl) (nd_snoc hnd (posOf_none hx)), .inr (.inl ⟨_, k, hH, key1_v gk hk, by rw [List.length_zip, List.length_map]; omega, ?_⟩)⟩
            rw [putK_not t.v hx (by rw [List.length_map]; exact hl), List.map_append]
            rfl
        | t ks =>
          unfold DKs.ix at hx
          unfold DKs.snoc at h
          cases hk : kt.d.keyT with
          | none => rw [hk] at hx; cases hx
          | some k =>
            rw [hk] at hx h
            have hx : posOf ks k = none := Option.some.inj hx
            have hl : ks.length = ts.length := hl
            cases h
            obtain ⟨b, ev, eb⟩ := keyT_v A.sub gk hk
            refine ⟨p, _, .dic p (.t (ks ++ [k])) (ts ++ [t]), rfl, by rw [T.d, T.ds_map, List.map_append]; rfl, wr (.t (ks ++ [k])) (by show (ks ++ [k]).length = _; rw [List.length_append, hl]; rfl) (nd_snoc hnd (posOf_none hx)), .inr (.inr ⟨_, k, b, hH, ev, A.sub _ _ eb, by rw [List.length_zip, List.length_map]; omega, ?_⟩)⟩
            rw [putK_not t.v hx (by rw [List.length_map]; exact hl), List.map_append]
            rfl
      · cases h
    · cases h
  · cases h
end
theorem PSet.or {X : Cx} {r r' : TSet} (h : PSet X r) (h' : PSet X r') : PSet X (fun o i v H Q => r o i v H Q ∨ r' o i v H Q) := by
  intro pins s σ H o i v ov iv u Q I ro ri rv q
  rcases q with q | q
  · exact h pins s σ H o i v ov iv u Q I ro ri rv q
  · exact h' pins s σ H o i v ov iv u Q I ro ri rv q
theorem updAt_of {Γ : Gm} {F : Fr} {σ : St} {H G : Hp} {sl : TS'} {tm : List T} {j : Nat} {pi : List Nat} {g : D → Option D} {δ : DS} (A : Abs Γ F σ H G sl tm) (h : updAt j pi g (dsl sl) = some δ) : ∃ w u n, sl[j]? = some (some w) ∧ T.at w pi = some u ∧ g u.d = some n ∧ δ = (dsl sl).set j (some (D.upd w.d pi n)) := by
  unfold updAt at h
  split at h
  · rename_i d hd
    obtain ⟨w, hw, ew⟩ := dsl_get hd
    subst ew
    split at h
    · rename_i n hn
      obtain ⟨u, hu, eu⟩ := T.at_of (A.goodS j w hw) hn
      subst eu
      cases hg : g u.d with
      | none => rw [hg] at h; cases h
      | some n' =>
        rw [hg] at h
        cases h
        exact ⟨w, u, n', hw, hu, hg, rfl⟩
    · cases h
  · cases h
/-- o[i] = e -/
def sPut (j : Nat) (fe : Ev) (fo : Ep) (fi : Ev) : Es := fun δ => (fe δ).st fun d δ1 => (fo δ1).st fun pi δ2 => (fi δ2).st fun k δ3 => og (updAt j pi (fun n => putD n k d) δ3) fun δ4 => .nx δ4
section
variable {X : Cx} {Γ : Gm} {E : WX} {P W Wo Wi Wa We : List Nat} {j : Nat} {fo : Ep} {fi fe : Ev} {o i e : Expr} {ri : Option Nat} {pos pos' : Pos}
theorem ss_put (hu : X.A.units + 1 < cLine) (he : SE X Γ E We e fe) (ho : SP X Γ E Wo j o fo) (hi : SV X Γ E Wi ri i fi) (hj : j ∉ Wi)
    (ha : ∀ v, assign (.Subscript o i pos') X.env v = (do
      let ov ← holding [v] (eval o X.env)
      let iv ← holding [v, ov] (eval i X.env)
      standAt pos'
      holding [v, ov, iv] (setItem ov iv v)
      release [v, ov, iv] []))
    (hs : swapsWithSole [.Subscript o i pos'] e pos.line X.env = pure false) (hw : swappedStores [.Subscript o i pos'] e X.env = pure none)
    (h1 : (assignEach [.Subscript o i pos'] X.env).map (·.2) = [assign (.Subscript o i pos') X.env]) : SS X Γ E P (.Assign [.Subscript o i pos'] e pos) (sPut j fe fo fi) := fun hK =>
  (ps_asg (he hK) (pg_sub (ho hK) (hi hK) (PSet.or set_list (set_dict hu)) ha) hs hw h1).imp fun Z σ H ⟨F, G, sl, tm, A, q⟩ => by
  refine e_run A q fun d δ H1 G1 sl1 t A1 s1 ed e1 _ q1 => ?_
  refine ⟨F, G1, sl1, t :: tm, A1, ?_⟩
  rw [e1]
  cases h1 : fo δ with
  | stuck => rw [h1] at q1; exact q1
  | exc c fs δ' => rw [h1] at q1; exact PX.more (ex := [t]) (q1 σ (Prot.refl _ _))
  | ok pi δ1 =>
    rw [h1] at q1
    intro H2 G2 sl2 w u A2 hw2 hu2 s2 e2 k2
    refine ⟨F, G2, sl2, t :: tm, A2, ?_⟩
    rw [e2]
    cases h2 : fi δ1 with
    | stuck => rw [st_ok, h2] at q1; exact q1
    | exc c fs δ' => rw [st_ok, h2] at q1; exact PX.more (ex := [t]) (q1 σ (Prot.refl _ _))
    | ok k δ2 =>
      rw [st_ok, h2, st_ok] at q1
      intro H3 G3 sl3 ex kt A3 w3 s3 e3 e3' k3
      have gk := w3.good A3
      have A4 := A3.dropN
      cases hp : updAt j pi (fun n => putD n k d) δ2 with
      | none => rw [hp] at q1; exact q1.elim
      | some δ3 =>
        rw [hp, og_some] at q1
        rw [← e3'] at hp
        obtain ⟨w', u', n, hw', hu', hn, eδ⟩ := updAt_of A4 hp
        have ew : w' = w := by
          have z := (k3 j hj).trans hw2
          rw [hw'] at z
          cases z
          rfl
        subst ew
        have eu : u' = u := by rw [hu2] at hu'; cases hu'; rfl
        subst eu
        rw [← ed, ← e3] at hn
        obtain ⟨p, oo, n', ev, en, B, hor⟩ := A4.put hw' hu' gk hn
        have fin : Z.nx σ (upd H3 p oo) := q1 σ _ _ _ B (s2.trans s3) (Prot.refl _ _) (by rw [dsl_set', T.upd_d n' (A4.goodS j _ hw'), en, eδ])
        rw [ev]
        rcases hor with ⟨xs, ii, kk, e5, e6, e7, e8⟩ | hd
        · refine .inl ⟨p, xs, ii, kk, rfl, e5, e6, e7, ?_⟩
          rw [← e8]
          exact fin
        · exact .inr ⟨p, _, rfl, hd, fin⟩
end
end L2.Pv
end
section
set_option Elab.async false
set_option linter.all false
set_option autoImplicit false
set_option maxRecDepth 100000
namespace L2.Pv
open PySem PySem.Spec PyProof.Rows

/-! ### methods of a place: o.m(..) -/
abbrev Mg := D → List D → Option (D × D)
def tyOk (T : String) (n : D) : Bool := match n with
  | .lst true _ => T == "list"
  | .dic true _ _ => T == "dict"
  | _ => false
def updM (j : Nat) (pi : List Nat) (g : D → Option (D × D)) (δ : DS) : Option (DS × D) := match δ[j]? with
  | some (some w) => match D.at w pi with
    | some n => (g n).map fun r => (δ.set j (some (D.upd w pi r.1)), r.2)
    | none => none
  | _ => none
def eMeth (T : String) (j : Nat) (fo : Ep) (fa : EvA) (g : Mg) : Ev := fun δ => (fo δ).bd fun pi δ1 => match nodeAt j pi δ1 with
  | some n => if tyOk T n then (fa δ1).bd fun ds δ2 => match updM j pi (fun n => g n ds) δ2 with
      | some r => .ok r.2 r.1
      | none => .stuck
    else .stuck
  | none => .stuck
def MtG (X : Cx) (Γ : Gm) (id : String) (g : Mg) : Prop := X.K = Γ.K → ∃ r, MtR X id r ∧ ∀ F σ H G sl tm ts w u j pi nd rd (Q : VK), Abs Γ F σ H G sl (ts ++ tm) → sl[j]? = some (some w) → T.at w pi = some u → g u.d (ts.map T.d) = some (nd, rd) →
  (∀ H' G' n t, Abs Γ F σ H' G' (sl.set j (some (T.upd w pi n))) (t :: tm) → Sub G G' → n.d = nd → t.d = rd → Q t.v H') → r u.v (ts.map T.v) H Q
theorem updM_of {Γ : Gm} {F : Fr} {σ : St} {H G : Hp} {sl : TS'} {tm : List T} {j : Nat} {pi : List Nat} {g : D → Option (D × D)} {r : DS × D} (A : Abs Γ F σ H G sl tm) (h : updM j pi g (dsl sl) = some r) : ∃ w u n, sl[j]? = some (some w) ∧ T.at w pi = some u ∧ g u.d = some (n, r.2) ∧ r.1 = (dsl sl).set j (some (D.upd w.d pi n)) := by
  unfold updM at h
  split at h
  · rename_i d hd
    obtain ⟨w, hw, ew⟩ := dsl_get hd
    subst ew
    split at h
    · rename_i n hn
      obtain ⟨u, hu, eu⟩ := T.at_of (A.goodS j w hw) hn
      subst eu
      cases hg : g u.d with
      | none => rw [hg] at h; cases h
      | some n' =>
        rw [hg] at h
        cases h
        exact ⟨w, u, n'.1, hw, hu, hg, rfl⟩
    · cases h
  · cases h
theorem tyV_of {K : PySem.W.Frag} {Γ : Gm} {G H : Hp} {u : T} {T : String} (g : Good Γ G H u) (h : tyOk T u.d = true) : tyV K T u.v H := by
  unfold tyOk at h
  split at h
  · rename_i xs e
    obtain ⟨p, ts, rfl, _, hH, _⟩ := node_lst g e
    exact .inl ⟨by simpa using h, _, SqL.of hH⟩
  · rename_i ks xs e
    obtain ⟨p, ts, rfl, _, hH, _⟩ := node_dic g e
    refine .inr (.inr (.inl ⟨by simpa using h, ?_⟩))
    cases ks with
    | k ks => exact .inl ⟨_, hH⟩
    | t ks => exact .inr ⟨_, hH⟩
  · cases h
section
variable {X : Cx} {Γ : Gm} {E : WX} {P W Wo Wi Wa We : List Nat} {j n : Nat} {fo : Ep} {fi fe : Ev} {fa : EvA} {o i e : Expr} {es : List Expr} {ri : Option Nat} {pos pos' apos cpos : Pos} {T' id : String} {name : Str} {g : Mg}
/-- the method's run, its arguments read -/
theorem meth_run (hK : X.K = Γ.K) {r : V → List V → Hp → VK → Prop} (hs : ∀ F σ H G sl tm ts w u j pi nd rd (Q : VK), Abs Γ F σ H G sl (ts ++ tm) → sl[j]? = some (some w) → T.at w pi = some u → g u.d (ts.map T.d) = some (nd, rd) →
      (∀ H' G' n t, Abs Γ F σ H' G' (sl.set j (some (T.upd w pi n))) (t :: tm) → Sub G G' → n.d = nd → t.d = rd → Q t.v H') → r u.v (ts.map T.v) H Q) (hj : j ∉ Wa) {σ : St} {H : Hp} {Q : VK}
    (q : tE Γ E (Wo ++ (Wa ++ [j])) (eMeth T' j fo fa g) σ H Q) : tP Γ E Wo j fo σ H fun x H1 => tyV X.K T' x H1 ∧ tA Γ E Wa n fa σ H1 fun xs H2 => r x xs H2 Q := by
  obtain ⟨F, G, sl, tm, A, q⟩ := q
  refine ⟨F, G, sl, tm, A, ?_⟩
  unfold eMeth at q
  cases h1 : fo (dsl sl) with
  | stuck => rw [h1] at q; exact q
  | exc c fs δ => rw [h1] at q; exact q
  | ok pi δ1 =>
    rw [h1, bd_ok] at q
    intro H1 G1 sl1 w u A1 hw hu s1 e1 k1
    obtain ⟨hn, gu⟩ := node_at A1 hw hu
    rw [e1] at hn
    rw [hn] at q
    dsimp only at q
    cases ht : tyOk T' u.d with
    | false => rw [ht, if_neg Bool.false_ne_true] at q; exact q.elim
    | true =>
      rw [ht, if_pos rfl] at q
      refine ⟨tyV_of gu ht, F, G1, sl1, tm, A1, ?_⟩
      rw [e1]
      cases h2 : fa δ1 with
      | stuck => rw [h2] at q; exact q
      | exc c fs δ => rw [h2] at q; exact q
      | ok ds δ2 =>
        rw [h2, bd_ok] at q
        intro H2 G2 sl2 ts A2 s2 hl ets e2 k2
        have hw2 : sl2[j]? = some (some w) := (k2 j hj).trans hw
        cases hm : updM j pi (fun n => g n ds) δ2 with
        | none => rw [hm] at q; exact q.elim
        | some rr =>
          rw [hm] at q
          dsimp only at q
          rw [← e2] at hm
          obtain ⟨w', u', n, hw', hu', hg, er⟩ := updM_of A2 hm
          rw [hw2] at hw'
          cases hw'
          rw [hu] at hu'
          cases hu'
          rw [← ets] at hg
          refine hs F σ H2 G2 sl2 tm ts w u j pi n rr.2 Q A2 hw2 hu hg fun H3 G3 nn t A3 s3 en et => ?_
          refine q H3 G3 _ t A3 (s1.trans (s2.trans s3)) et ?_ (k1.trans (k2.trans fun i hi => ?_))
          · rw [dsl_set', T.upd_d nn (A2.goodS j w hw2), en, er]
          · rw [List.getElem?_set_ne (show j ≠ i from fun z => hi (by simp [z]))]
theorem se_meth (O : MtG X Γ id g) (pa : PlainAttrs T') (slot : Slot T' name id) (hty : typeOf (.builtin id) = pure (.type "method_descriptor")) (ho : SP X Γ E Wo j o fo) (ha : SA X Γ E Wa n (e :: es) fa) (hj : j ∉ Wa)
    (hbase : attributeBase o name X.env (eval o X.env) = eval o X.env)
    (hfew : ((backTo cpos (starEach (e :: es) X.env)).all (fun x => !x.1) && (backToKw cpos (keywordEach [] X.env)).all (fun x => x.1.isSome)
      && decide ((e :: es).length + ([] : List Keyword).length + (if ([] : List Keyword).isEmpty then 0 else 1) < 30)) = true)
    (hline : (apos.endLine == cpos.line) = true) (hs : starEach (e :: es) X.env = (false, eval e X.env) :: starEach es X.env) (hplain : (backTo cpos (starEach es X.env)).any (·.1) = false) :
    SE X Γ E (Wo ++ (Wa ++ [j])) (.Call (.Attribute o name apos) (e :: es) [] cpos) (eMeth T' j fo fa g) := fun hK => by
  obtain ⟨r, hm, hr⟩ := O hK
  exact (pe_bm pa slot hty hm (ho hK) (ha hK) hbase hfew hline hs hplain).imp fun σ H Q q => meth_run hK hr hj q
theorem se_meth0 (O : MtG X Γ id g) (pa : PlainAttrs T') (slot : Slot T' name id) (hty : typeOf (.builtin id) = pure (.type "method_descriptor")) (ho : SP X Γ E Wo j o fo)
    (hbase : attributeBase o name X.env (eval o X.env) = eval o X.env) (hline : (apos.endLine == cpos.line) = true) :
    SE X Γ E (Wo ++ ([] ++ [j])) (.Call (.Attribute o name apos) [] [] cpos) (eMeth T' j fo aNil g) := fun hK => by
  obtain ⟨r, hm, hr⟩ := O hK
  refine (pe_bm0 pa slot hty hm (ho hK) hbase hline).imp fun σ H Q q => ?_
  obtain ⟨F, G, sl, tm, A, k⟩ := meth_run (Wa := []) (n := 0) (fa := aNil) hK hr (by simp) q
  refine ⟨F, G, sl, tm, A, ?_⟩
  cases hf : fo (dsl sl) with
  | stuck => rw [hf] at k; exact k
  | exc c fs δ => rw [hf] at k; exact k
  | ok pi δ =>
    rw [hf] at k
    intro H1 G1 sl1 w u A1 hw hu s1 e1 k1
    obtain ⟨ty, F', G', sl', tm', A', z⟩ := k H1 G1 sl1 w u A1 hw hu s1 e1 k1
    exact ⟨ty, z H1 G' sl' [] A' (Sub.refl _) rfl rfl rfl (Keep.refl _ _)⟩
/-! ### append, pop, extend -/
def mAppend : Mg := fun n ds => match n, ds with
  | .lst true xs, [d] => if xs.length < sizeLine then some (.lst true (xs ++ [d]), .non) else none
  | _, _ => none
theorem m_append : MtG X Γ "list.append" mAppend := fun hK => by
  refine ⟨_, mt_append, ?_⟩
  intro F σ H G sl tm ts w u j pi nd rd Q A hj hu hg q
  have gu := (node_at A hj hu).2
  unfold mAppend at hg
  split at hg
  · rename_i xs d en ed
    split at hg
    · rename_i hz
      cases hg
      obtain ⟨p, us, eu, ets, hH, hz'⟩ := node_lst gu en
      subst eu ets
      cases ts with
      | nil => cases ed
      | cons t ts =>
        cases ts with
        | cons t2 ts => cases ed
        | nil =>
          cases ed
          have gt : Good Γ G H t := A.goodT t (by simp)
          rw [List.length_map] at hz
          refine ⟨p, us.map T.v, t.v, rfl, rfl, hH, by rw [List.length_map]; exact hz, ?_⟩
          have one := A.one
          have h3 : ∀ b, (T.lst p us).cnt b ≤ cS b sl := fun b => Nat.le_trans (T.at_cnt b hu) (cS_get hj)
          have pz : t.cnt p = 0 ∧ T.cnts p us = 0 := by
            have h1 := one p
            have h2 := h3 p
            rw [T.cnt, if_pos rfl] at h2
            rw [List.cons_append, T.cnts] at h1
            omega
          have A' := Abs.write (us := [t]) (rs := []) (n := .lst p (us ++ [t])) (o := .lst (us.map T.v ++ [t.v])) A hj hu rfl rfl hH (nTbl_lst _) (nCod_lst _) (fun b => by
            have : T.cnts b [t] = t.cnt b := by rw [T.cnts, T.cnts]; omega
            rw [T.cnt, T.cnt, cnts_append, this]; simp only [T.cnts]; omega) (fun r hr => absurd hr (by simp)) fun kp => by
              refine ⟨⟨by rw [upd_same, List.map_append]; rfl, by rw [List.length_append]; exact hz⟩, goods_app (Goods_iff.mpr fun x hx => kp x (by have := cnts_mem (a := p) hx; omega) (Goods_iff.mp gu.2 x hx)) ⟨kp t pz.1 gt, trivial⟩⟩
          exact q _ G (.lst p (us ++ [t])) (.leaf .non .non) (A'.leaf rfl) (Sub.refl G) (by rw [T.d, T.ds_map, List.map_append]; rfl) rfl
    · cases hg
  · cases hg
def mPop : Mg := fun n ds => match n, ds with
  | .lst true xs, [] => (xs[xs.length - 1]?).map fun d => (.lst true xs.dropLast, d)
  | _, _ => none
def mPopAt : Mg := fun n ds => match n, ds with
  | .lst true xs, [.int i] => if -(2 ^ 63) ≤ i ∧ i < 2 ^ 63 then (ixN xs.length i).bind fun k => (xs[k]?).map fun d => (.lst true (xs.eraseIdx k), d) else none
  | _, _ => none
theorem cnts_erase (b : Addr) : ∀ {xs : List T} {k : Nat} {t : T}, xs[k]? = some t → T.cnts b (xs.eraseIdx k) + t.cnt b = T.cnts b xs
  | [], k, t, h => by simp at h
  | x :: xs, 0, t, h => by simp at h; subst h; simp only [List.eraseIdx_cons_zero, T.cnts]; omega
  | x :: xs, k + 1, t, h => by
    have := cnts_erase b (xs := xs) (k := k) (t := t) (by simpa using h)
    simp only [List.eraseIdx_cons_succ, T.cnts]
    omega
theorem erase_last {α : Type} (xs : List α) : xs.eraseIdx (xs.length - 1) = xs.dropLast := by
  induction xs with
  | nil => rfl
  | cons x xs ih =>
    cases xs with
    | nil => rfl
    | cons y ys =>
      show (x :: y :: ys).eraseIdx ((y :: ys).length - 1 + 1) = x :: (y :: ys).dropLast
      rw [List.eraseIdx_cons_succ, ih]
/-- one of the list's parts goes out -/
theorem Abs.takeAt {F : Fr} {σ : St} {H G : Hp} {sl : TS'} {tm ts us : List T} {w : T} {j k : Nat} {pi : List Nat} {p : Addr} {t : T} (A : Abs Γ F σ H G sl (ts ++ tm)) (hj : sl[j]? = some (some w)) (hu : T.at w pi = some (.lst p us)) (hk : us[k]? = some t) :
    H p = some (.lst (us.map T.v)) ∧ Abs Γ F σ (upd H p (.lst ((us.map T.v).eraseIdx k))) G (sl.set j (some (T.upd w pi (.lst p (us.eraseIdx k))))) (t :: tm) := by
  have gu := (node_at A hj hu).2
  refine ⟨gu.1.1, ?_⟩
  have h3 : ∀ b, (T.lst p us).cnt b ≤ cS b sl := fun b => Nat.le_trans (T.at_cnt b hu) (cS_get hj)
  have pz : T.cnts p us = 0 := by
    have h1 := A.one p
    have h2 := h3 p
    rw [T.cnt, if_pos rfl] at h2
    omega
  have ce := cnts_erase (xs := us) (k := k) (t := t)
  have A' := Abs.write (us := ts) (rs := [t]) (n := .lst p (us.eraseIdx k)) (o := .lst ((us.map T.v).eraseIdx k)) A hj hu rfl rfl gu.1.1 (nTbl_lst _) (nCod_lst _) (fun b => by
    have := ce b hk
    have e1 : T.cnts b [t] = t.cnt b := by rw [T.cnts, T.cnts]; omega
    rw [T.cnt, T.cnt, e1]; omega) (fun r hr => by
      have : r = t := by simpa using hr
      subst this
      exact Goods_iff.mp gu.2 _ (List.mem_of_getElem? hk)) fun kp => by
        refine ⟨⟨by rw [upd_same, map_eraseI], Nat.le_trans (List.length_eraseIdx_le ..) gu.1.2⟩, Goods_iff.mpr fun x hx => kp x (by have := cnts_mem (a := p) (List.mem_of_mem_eraseIdx hx); omega) (Goods_iff.mp gu.2 x (List.mem_of_mem_eraseIdx hx))⟩
  exact A'
where map_eraseI {α β : Type} {f : α → β} {l : List α} {k : Nat} : (l.map f).eraseIdx k = (l.eraseIdx k).map f := by
        induction l generalizing k with
        | nil => rfl
        | cons x l ih => cases k with
          | zero => rfl
          | succ k => simp [ih]
theorem map_erase' {α β : Type} (f : α → β) : ∀ (l : List α) (k : Nat), (l.map f).eraseIdx k = (l.eraseIdx k).map f
  | [], k => rfl
  | x :: l, 0 => rfl
  | x :: l, k + 1 => by simp [map_erase' f l k]
theorem m_pop : MtG X Γ "list.pop" mPop := fun hK => by
  refine ⟨_, mt_pop, ?_⟩
  intro F σ H G sl tm ts w u j pi nd rd Q A hj hu hg q
  have gu := (node_at A hj hu).2
  unfold mPop at hg
  split at hg
  · rename_i xs en ed
    cases hx : xs[xs.length - 1]? with
    | none => rw [hx] at hg; cases hg
    | some d =>
      rw [hx] at hg
      cases hg
      obtain ⟨p, us, eu, ets, hH, hz'⟩ := node_lst gu en
      subst eu ets
      have ets : ts = [] := by simpa using ed
      subst ets
      rw [List.length_map, List.getElem?_map] at hx
      cases ht : us[us.length - 1]? with
      | none => rw [ht] at hx; cases hx
      | some t =>
        rw [ht] at hx
        cases hx
        obtain ⟨_, B⟩ := Abs.takeAt (ts := []) A hj hu ht
        have e1 : (us.map T.v).eraseIdx (us.length - 1) = (us.map T.v).dropLast := by
          have := erase_last (us.map T.v)
          rw [List.length_map] at this
          exact this
        rw [e1] at B
        refine ⟨p, us.map T.v, t.v, rfl, rfl, hH, by rw [List.length_map, List.getElem?_map, ht]; rfl, ?_⟩
        refine q _ G (.lst p (us.eraseIdx (us.length - 1))) t B (Sub.refl G) ?_ rfl
        rw [T.d, T.ds_map, ← map_erase']
        have := erase_last (us.map T.d)
        rw [List.length_map] at this
        rw [this]
  · cases hg
theorem m_popAt : MtG X Γ "list.pop" mPopAt := fun hK => by
  refine ⟨_, mt_popAt, ?_⟩
  intro F σ H G sl tm ts w u j pi nd rd Q A hj hu hg q
  have gu := (node_at A hj hu).2
  unfold mPopAt at hg
  split at hg
  · rename_i xs i en ed
    split at hg
    · rename_i hi
      cases hx : ixN xs.length i with
      | none => rw [hx] at hg; cases hg
      | some k =>
        rw [hx] at hg
        obtain ⟨p, us, eu, ets, hH, hz'⟩ := node_lst gu en
        subst eu ets
        have hg : ((us.map T.d)[k]?).map (fun d => (D.lst true ((us.map T.d).eraseIdx k), d)) = some (nd, rd) := hg
        rw [List.getElem?_map] at hg
        cases ht : us[k]? with
        | none => rw [ht] at hg; cases hg
        | some t =>
          rw [ht] at hg
          cases hg
          rw [List.length_map] at hx
          cases ts with
          | nil => cases ed
          | cons t2 ts =>
            cases ts with
            | cons t3 ts => exact absurd ed (by simp)
            | nil =>
              have ed : t2.d = .int i := by simpa using ed
              have gi := A.goodT t2 (by simp)
              obtain ⟨_, B⟩ := Abs.takeAt (ts := [t2]) A hj hu ht
              refine ⟨p, us.map T.v, i, k, t.v, rfl, by rw [List.map_cons, List.map_nil, int_of gi ed], hH, hi.1, hi.2, by rw [List.length_map]; exact (ixN_seq hx).1, by rw [List.getElem?_map, ht]; rfl, ?_⟩
              exact q _ G (.lst p (us.eraseIdx k)) t B (Sub.refl G) (by rw [T.d, T.ds_map, map_erase']) rfl
    · cases hg
  · cases hg
end
end L2.Pv
end
section
set_option Elab.async false
set_option linter.all false
set_option autoImplicit false
set_option maxRecDepth 100000
namespace L2.Pv
open PySem PySem.Spec PyProof.Rows

/-! ### two clauses -/
def lc2L (vs vs1 : List Nat) (ft : Eg) (fc : EvT) (fi1 : EvA) (ft1 : Eg) (fc1 : EvT) (fe : Ev) : List D → DS → Option (List D × DS)
  | [], δ => some ([], δ)
  | d :: ds, δ => (ft d δ).bind fun δ1 => match fc δ1 with
    | .ok true δ2 => match fi1 δ2 with
      | .ok es δ3 => (lcL vs1 ft1 fc1 fe es (wipeG δ3 vs1)).bind fun p => (lc2L vs vs1 ft fc fi1 ft1 fc1 fe ds (wipeG p.2 vs)).map fun r => (p.1 ++ r.1, r.2)
      | _ => none
    | .ok false δ2 => lc2L vs vs1 ft fc fi1 ft1 fc1 fe ds (wipeG δ2 vs)
    | _ => none
def eLc2 (vs vs1 : List Nat) (fi : EvA) (ft : Eg) (fc : EvT) (fi1 : EvA) (ft1 : Eg) (fc1 : EvT) (fe : Ev) : Ev := fun δ => (fi δ).bd fun ds δ1 => match lc2L vs vs1 ft fc fi1 ft1 fc1 fe ds (wipeG δ1 vs) with
  | some (ys, δ2) => if ys.length ≤ sizeLine then .ok (.lst true ys) (restG δ1 δ2 vs) else .stuck
  | none => .stuck
theorem wipe_wipe {σ : St} {vs vs1 : List Nat} (h : ∀ i ∈ vs1, i ∈ vs) : wipe (wipe σ vs1) vs = wipe σ vs := by
  apply List.ext_getElem?
  intro i
  rw [wipe_eq (wipe σ vs1), wipe_eq σ vs, wipeG_get, wipeG_get, wipe_length]
  by_cases hi : i ∈ vs ∧ i < σ.length
  · rw [if_pos hi, if_pos hi]
  · rw [if_neg hi, if_neg hi, wipe_eq, wipeG_get, if_neg fun z => hi ⟨h i z.1, z.2⟩]
section
variable {X : Cx} {Γ : Gm} {E : WX} {Wi Wc We Wi1 Wc1 S S1 : List Nat} {elt tg iter tg1 iter1 : Expr} {ifs ifs1 : List Expr} {scope : Scope} {own : List (Str × Nat)} {pos : Pos} {fi fi1 : EvA} {ft ft1 : Eg} {fc fc1 : EvT} {fe : Ev}
theorem lc2_run {vs vs1 : List Nat} {σ : St} {H : Hp} {Q : VK} (hS : ∀ i ∈ S, i ∈ vs) (hS1 : ∀ i ∈ S1, i ∈ vs1) (hv : ∀ i ∈ vs1, i ∈ vs) (q : tE Γ E (Wi ++ (vs ++ (Wc ++ (Wi1 ++ (Wc1 ++ We))))) (eLc2 vs vs1 fi ft fc fi1 ft1 fc1 fe) σ H Q) :
    tLc2 (tI Γ E Wi fi) (tG Γ S ft) (tT Γ E0' Wc fc) (tI Γ E0' Wi1 fi1) (tG Γ S1 ft1) (tT Γ E0' Wc1 fc1) (tE Γ E0' We fe) vs vs1 σ H Q := by
  obtain ⟨F, G, sl, tm, A, q⟩ := q
  refine ⟨F, G, sl, tm, A, ?_⟩
  unfold eLc2 at q
  cases hf : fi (dsl sl) with
  | stuck => rw [hf] at q; exact q
  | exc c fs δ => rw [hf] at q; exact q
  | ok ds δ1 =>
    rw [hf, bd_ok] at q
    intro J H1 G1 sl1 A1 s1 e1 k1 gv hz D hD
    cases hl : lc2L vs vs1 ft fc fi1 ft1 fc1 fe ds (wipeG δ1 vs) with
    | none => rw [hl] at q; exact q.elim
    | some r =>
      obtain ⟨ysT, δT⟩ := r
      rw [hl] at q
      dsimp only at q
      by_cases hzT : ysT.length ≤ sizeLine
      case neg => rw [if_neg hzT] at q; exact q.elim
      rw [if_pos hzT] at q
      let WW := vs ++ (Wc ++ (Wi1 ++ (Wc1 ++ We)))
      obtain ⟨hsT, B, R⟩ := A1.hide vs
      have B2 : Abs Γ F (wipe σ vs) (upd H1 D (.lst [])) G1 (wipeG sl1 vs) (.lst D [] :: (hsT ++ tm)) := Abs.newLst (ts := []) B hD (Nat.zero_le _)
      -- what stands between the turns
      let Iv : List L2.Pv.D → Hp → Prop := fun rest H' => ∃ G' sl' ts ys, Abs Γ F (wipe σ vs) H' G' sl' (.lst D ts :: (hsT ++ tm)) ∧ Sub G1 G' ∧ Keep WW (wipeG sl1 vs) sl' ∧ lc2L vs vs1 ft fc fi1 ft1 fc1 fe rest (dsl sl') = some (ys, δT) ∧ ts.map T.d ++ ys = ysT
      refine ⟨fun i m H' => m = ds.length - i ∧ Iv (ds.drop i) H', ⟨_, rfl, G1, wipeG sl1 vs, [], ysT, B2, Sub.refl _, Keep.refl _ _, by rw [dsl_wipe, e1]; exact hl, rfl⟩, ?_⟩
      rintro i m H' ⟨rfl, G', sl', ts, ys, A', s', k', hL, hys⟩
      obtain ⟨hgo, hst⟩ := gv F _ H' G' sl' _ A' s' i
      cases hd : ds[i]? with
      | none =>
        refine .inl ⟨hst hd, ?_⟩
        rw [show ds.drop i = [] from List.drop_eq_nil_iff.mpr (List.getElem?_eq_none_iff.mp hd)] at hL
        have hL : some ([], dsl sl') = some (ys, δT) := hL
        cases hL
        rw [List.append_nil] at hys
        have C := R H' G' sl' (.lst D ts :: tm) A'.swap'
        refine q H' G' _ (.lst D ts) C (s1.trans s') (by rw [T.d, T.ds_map, hys]) (by rw [dsl_rest, e1]) (k1.trans ?_)
        intro j hj
        have hjv : j ∉ vs := fun z => hj (List.mem_append_left _ z)
        rw [Keep.rest (W := vs) sl1 sl' vs (fun _ h => h) j hjv, k' j hj, wipeG_get, if_neg fun z => hjv z.1]
      | some d =>
        obtain ⟨h1, h2⟩ := hgo d hd
        have hlt : i < ds.length := (List.getElem?_eq_some_iff.mp hd).1
        rw [drop_cons hd] at hL
        refine .inr ⟨h1, Iv (ds.drop (i + 1)), fun H'' w => ⟨ds.length - (i + 1), by omega, rfl, w⟩, fun x H3 y => ?_⟩
        obtain ⟨G3, t, A3, s3, ev, ed⟩ := h2 x H3 y
        refine ⟨F, G3, sl', _, t, A3, ev, ?_⟩
        rw [ed]
        unfold lc2L at hL
        cases hft : ft d (dsl sl') with
        | none => rw [hft] at hL; cases hL
        | some δ2 =>
          rw [hft] at hL
          intro σ4 H4 G4 sl4 A4 s4 o4 k4 e4
          refine ⟨wipe_only o4 hS, F, G4, sl4, _, A4, ?_⟩
          rw [e4]
          have hL : (match fc δ2 with
            | .ok true δ2 => match fi1 δ2 with
              | .ok es δ3 => (lcL vs1 ft1 fc1 fe es (wipeG δ3 vs1)).bind fun p => (lc2L vs vs1 ft fc fi1 ft1 fc1 fe (ds.drop (i + 1)) (wipeG p.2 vs)).map fun r => (p.1 ++ r.1, r.2)
              | _ => none
            | .ok false δ2 => lc2L vs vs1 ft fc fi1 ft1 fc1 fe (ds.drop (i + 1)) (wipeG δ2 vs)
            | _ => none) = some (ys, δT) := hL
          have inV : ∀ v ∈ vs, v ∈ WW := fun v h => List.mem_append_left _ h
          have in1 : ∀ v ∈ Wc, v ∈ WW := fun v h => List.mem_append_right _ (List.mem_append_left _ h)
          have in2 : ∀ v ∈ Wi1, v ∈ WW := fun v h => List.mem_append_right _ (List.mem_append_right _ (List.mem_append_left _ h))
          have in3 : ∀ v ∈ Wc1, v ∈ WW := fun v h => List.mem_append_right _ (List.mem_append_right _ (List.mem_append_right _ (List.mem_append_left _ h)))
          have in4 : ∀ v ∈ We, v ∈ WW := fun v h => List.mem_append_right _ (List.mem_append_right _ (List.mem_append_right _ (List.mem_append_right _ h)))
          have k4' : Keep WW sl' sl4 := k4.mono fun i h => inV i (hS i h)
          cases hfc : fc δ2 with
          | stuck => rw [hfc] at hL; cases hL
          | exc c fs δ => rw [hfc] at hL; cases hL
          | ok b δ3 =>
            rw [hfc] at hL
            intro H5 G5 sl5 A5 s5 e5 k5
            have k5' : Keep WW sl4 sl5 := k5.mono in1
            cases b with
            | false =>
              rw [if_neg Bool.false_ne_true]
              have A6 := A5.wipeS vs
              rw [wipe_only o4 hS] at A6
              exact ⟨G5, wipeG sl5 vs, ts, ys, A6, s'.trans (s3.trans (s4.trans s5)), ((k'.tr k4').tr k5').tr (Keep.wipe _ _ inV), by rw [dsl_wipe, e5]; exact hL, hys⟩
            | true =>
              rw [if_pos rfl]
              refine ⟨F, G5, sl5, _, A5, ?_⟩
              rw [e5]
              have hL : (match fi1 δ3 with
                | .ok es δ3 => (lcL vs1 ft1 fc1 fe es (wipeG δ3 vs1)).bind fun p => (lc2L vs vs1 ft fc fi1 ft1 fc1 fe (ds.drop (i + 1)) (wipeG p.2 vs)).map fun r => (p.1 ++ r.1, r.2)
                | _ => none) = some (ys, δT) := hL
              cases hfi : fi1 δ3 with
              | stuck => rw [hfi] at hL; cases hL
              | exc c fs δ => rw [hfi] at hL; cases hL
              | ok es δ4 =>
                rw [hfi] at hL
                intro J1 H6 G6 sl6 A6 s6 e6 k6 gv1 hz1
                have k6' : Keep WW sl5 sl6 := k6.mono in2
                have hL : (lcL vs1 ft1 fc1 fe es (wipeG δ4 vs1)).bind (fun p => (lc2L vs vs1 ft fc fi1 ft1 fc1 fe (ds.drop (i + 1)) (wipeG p.2 vs)).map fun r => (p.1 ++ r.1, r.2)) = some (ys, δT) := hL
                cases hin : lcL vs1 ft1 fc1 fe es (wipeG δ4 vs1) with
                | none => rw [hin] at hL; cases hL
                | some p =>
                  rw [hin] at hL
                  have hL : (lc2L vs vs1 ft fc fi1 ft1 fc1 fe (ds.drop (i + 1)) (wipeG p.2 vs)).map (fun r => (p.1 ++ r.1, r.2)) = some (ys, δT) := hL
                  cases hre : lc2L vs vs1 ft fc fi1 ft1 fc1 fe (ds.drop (i + 1)) (wipeG p.2 vs) with
                  | none => rw [hre] at hL; cases hL
                  | some rr =>
                    rw [hre] at hL
                    have hL : some (p.1 ++ rr.1, rr.2) = some (ys, δT) := hL
                    cases hL
                    have kk := ((k'.tr k4').tr k5').tr k6'
                    have ss : Sub G1 G6 := s'.trans (s3.trans (s4.trans (s5.trans s6)))
                    let Iw : List L2.Pv.D → Hp → Prop := fun rest H' => ∃ G' sl' ts' ys', Abs Γ F (wipe σ4 vs1) H' G' sl' (.lst D ts' :: (hsT ++ tm)) ∧ Sub G6 G' ∧ Keep WW (wipeG sl1 vs) sl' ∧ lcL vs1 ft1 fc1 fe rest (dsl sl') = some (ys', p.2) ∧ ts'.map T.d ++ (ys' ++ rr.1) = ysT
                    refine ⟨fun j m H' => m = es.length - j ∧ Iw (es.drop j) H', ⟨_, rfl, G6, wipeG sl6 vs1, ts, p.1, A6.wipeS vs1, Sub.refl _, kk.tr (Keep.wipe _ _ fun v h => inV v (hv v h)), by rw [dsl_wipe, e6]; exact hin, hys⟩, ?_⟩
                    rintro j m H' ⟨rfl, G', sl7, ts7, ys7, A7, s7, k7, hL7, hys7⟩
                    obtain ⟨hgo1, hst1⟩ := gv1 F _ H' G' sl7 _ A7 s7 j
                    cases hd1 : es[j]? with
                    | none =>
                      refine .inl ⟨hst1 hd1, ?_⟩
                      rw [show es.drop j = [] from List.drop_eq_nil_iff.mpr (List.getElem?_eq_none_iff.mp hd1)] at hL7
                      have hL7 : some ([], dsl sl7) = some (ys7, p.2) := hL7
                      have e7 : ys7 = [] := ((Prod.mk.inj (Option.some.inj hL7)).1).symm
                      have e7' : dsl sl7 = p.2 := (Prod.mk.inj (Option.some.inj hL7)).2
                      subst e7
                      have A8 := A7.wipeS vs
                      rw [wipe_wipe hv, wipe_only o4 hS] at A8
                      exact ⟨G', wipeG sl7 vs, ts7, rr.1, A8, ss.trans s7, k7.tr (Keep.wipe _ _ inV), by rw [dsl_wipe, e7']; exact hre, by simpa using hys7⟩
                    | some d1 =>
                      obtain ⟨h11, h12⟩ := hgo1 d1 hd1
                      have hlt1 : j < es.length := (List.getElem?_eq_some_iff.mp hd1).1
                      rw [drop_cons hd1] at hL7
                      refine .inr ⟨h11, Iw (es.drop (j + 1)), fun H'' w => ⟨es.length - (j + 1), by omega, rfl, w⟩, fun x1 H8 y1 => ?_⟩
                      obtain ⟨G8, t8, A8, s8, ev8, ed8⟩ := h12 x1 H8 y1
                      refine ⟨F, G8, sl7, _, t8, A8, ev8, ?_⟩
                      rw [ed8]
                      unfold lcL at hL7
                      cases hft1 : ft1 d1 (dsl sl7) with
                      | none => rw [hft1] at hL7; cases hL7
                      | some δ9 =>
                        rw [hft1] at hL7
                        intro σ9 H9 G9 sl9 A9 s9 o9 k9 e9
                        refine ⟨wipe_only o9 hS1, F, G9, sl9, _, A9, ?_⟩
                        rw [e9]
                        have hL7 : (match fc1 δ9 with
                          | .ok true δ2 => match fe δ2 with
                            | .ok y δ3 => (lcL vs1 ft1 fc1 fe (es.drop (j + 1)) (wipeG δ3 vs1)).map fun p => (y :: p.1, p.2)
                            | _ => none
                          | .ok false δ2 => lcL vs1 ft1 fc1 fe (es.drop (j + 1)) (wipeG δ2 vs1)
                          | _ => none) = some (ys7, p.2) := hL7
                        have k9' : Keep WW sl7 sl9 := k9.mono fun i h => inV i (hv i (hS1 i h))
                        have fin : ∀ {H6 G6 : Hp} {sl6 : TS'} {ts' : List T}, Abs Γ F σ9 H6 G6 sl6 (.lst D ts' :: (hsT ++ tm)) → Abs Γ F (wipe σ4 vs1) H6 G6 (wipeG sl6 vs1) (.lst D ts' :: (hsT ++ tm)) := fun {H6 G6 sl6 ts'} A6 => by
                          have := A6.wipeS vs1
                          rw [wipe_only o9 hS1] at this
                          exact this
                        cases hfc1 : fc1 δ9 with
                        | stuck => rw [hfc1] at hL7; cases hL7
                        | exc c fs δ => rw [hfc1] at hL7; cases hL7
                        | ok b1 δ10 =>
                          rw [hfc1] at hL7
                          intro H10 G10 sl10 A10 s10 e10 k10
                          have k10' : Keep WW sl9 sl10 := k10.mono in3
                          cases b1 with
                          | false =>
                            rw [if_neg Bool.false_ne_true]
                            exact ⟨G10, wipeG sl10 vs1, ts7, ys7, fin A10, s7.trans (s8.trans (s9.trans s10)), ((k7.tr k9').tr k10').tr (Keep.wipe _ _ fun v h => inV v (hv v h)), by rw [dsl_wipe, e10]; exact hL7, hys7⟩
                          | true =>
                            rw [if_pos rfl]
                            refine ⟨F, G10, sl10, _, A10, ?_⟩
                            rw [e10]
                            have hL7 : (match fe δ10 with
                              | .ok y δ3 => (lcL vs1 ft1 fc1 fe (es.drop (j + 1)) (wipeG δ3 vs1)).map fun p => (y :: p.1, p.2)
                              | _ => none) = some (ys7, p.2) := hL7
                            cases hfe : fe δ10 with
                            | stuck => rw [hfe] at hL7; cases hL7
                            | exc c fs δ => rw [hfe] at hL7; cases hL7
                            | ok y' δ11 =>
                              rw [hfe] at hL7
                              intro H11 G11 sl11 t11 A11 s11 e11 e11' k11
                              have k11' : Keep WW sl10 sl11 := k11.mono in4
                              have hL7 : (lcL vs1 ft1 fc1 fe (es.drop (j + 1)) (wipeG δ11 vs1)).map (fun p => (y' :: p.1, p.2)) = some (ys7, p.2) := hL7
                              cases hr : lcL vs1 ft1 fc1 fe (es.drop (j + 1)) (wipeG δ11 vs1) with
                              | none => rw [hr] at hL7; cases hL7
                              | some pr =>
                                rw [hr] at hL7
                                have hL7 : some (y' :: pr.1, pr.2) = some (ys7, p.2) := hL7
                                have e12 : ys7 = y' :: pr.1 := ((Prod.mk.inj (Option.some.inj hL7)).1).symm
                                have e13 : pr.2 = p.2 := (Prod.mk.inj (Option.some.inj hL7)).2
                                subst e12
                                have hlt2 : ts7.length < sizeLine := by
                                  have := congrArg List.length hys7
                                  simp only [List.length_append, List.length_map, List.length_cons] at this
                                  omega
                                obtain ⟨hp, A12⟩ := A11.push hlt2
                                refine ⟨ts7.map T.v, hp, by rw [List.length_map]; exact hlt2, ?_⟩
                                refine ⟨G11, wipeG sl11 vs1, ts7 ++ [t11], pr.1, fin A12, s7.trans (s8.trans (s9.trans (s10.trans s11))), (((k7.tr k9').tr k10').tr k11').tr (Keep.wipe _ _ fun v h => inV v (hv v h)), by rw [dsl_wipe, e11', hr, ← e13], ?_⟩
                                rw [← hys7, List.map_append, List.append_assoc]
                                rw [show List.map T.d [t11] = [y'] by rw [← e11]; rfl]
                                rfl
theorem se_lc2 {vs1 : List Nat} (hc : X.calm = true) (hN : X.N.Nodup) (hi : SI X Γ E Wi tg iter fi) (ok : BlkOk X.N X.env.scope scope own) (hv : ∀ i ∈ vs1, i ∈ own.map (·.2))
    (hg : ∀ (s : Shared) (H : Hp) (C : Addr) (cl : List (Str × Addr)) (fp : List Addr), SG (X.blk s H scope (compEnvC scope cl C X.env) fp) Γ S tg ft)
    (ht : ∀ (s : Shared) (H : Hp) (C : Addr) (cl : List (Str × Addr)) (fp : List Addr), STs (X.blk s H scope (compEnvC scope cl C X.env) fp) Γ E0' Wc ifs fc)
    (hi1 : ∀ (s : Shared) (H : Hp) (C : Addr) (cl : List (Str × Addr)) (fp : List Addr), SI (X.blk s H scope (compEnvC scope cl C X.env) fp) Γ E0' Wi1 tg1 iter1 fi1)
    (hg1 : ∀ (s : Shared) (H : Hp) (C : Addr) (cl : List (Str × Addr)) (fp : List Addr), SG (X.blk s H scope (compEnvC scope cl C X.env) fp) Γ S1 tg1 ft1)
    (ht1 : ∀ (s : Shared) (H : Hp) (C : Addr) (cl : List (Str × Addr)) (fp : List Addr), STs (X.blk s H scope (compEnvC scope cl C X.env) fp) Γ E0' Wc1 ifs1 fc1)
    (he : ∀ (s : Shared) (H : Hp) (C : Addr) (cl : List (Str × Addr)) (fp : List Addr), SE (X.blk s H scope (compEnvC scope cl C X.env) fp) Γ E0' We elt fe) (hs : ∀ x, foldedSetIterable iter X.env x = pure x) (hs1 : ∀ env x, foldedSetIterable iter1 env x = pure x)
    (hS : ∀ i ∈ S, i ∈ own.map (·.2)) (hS1 : ∀ i ∈ S1, i ∈ vs1) :
    SE X Γ E (Wi ++ (own.map (·.2) ++ (Wc ++ (Wi1 ++ (Wc1 ++ We))))) (.ListComp elt [⟨tg, iter, ifs, 0⟩, ⟨tg1, iter1, ifs1, 0⟩] scope pos) (eLc2 (own.map (·.2)) vs1 fi ft fc fi1 ft1 fc1 fe) := fun hK =>
  (pe_lc2 hc hN (hi hK) ok hv (fun s H C cl fp => hg s H C cl fp hK) (fun s H C cl fp => ht s H C cl fp hK) (fun s H C cl fp => hi1 s H C cl fp hK) (fun s H C cl fp => hg1 s H C cl fp hK) (fun s H C cl fp => ht1 s H C cl fp hK) (fun s H C cl fp => he s H C cl fp hK) hs hs1).imp fun σ H Q q => lc2_run hS hS1 hv q
theorem ss_setLc2 {P vs1 : List Nat} {i : Nat} {y : Str} {py spos : Pos} (hc : X.calm = true) (hN : X.N.Nodup) (hy : X.N[i]? = some y) (hyl : X.env.scope.names.lookup y = some .local)
    (hsw : swapsWith (.ListComp elt [⟨tg, iter, ifs, 0⟩, ⟨tg1, iter1, ifs1, 0⟩] scope pos) (some (.Name y py)) spos.line X.env = pure true) (hi : SI X Γ E Wi tg iter fi) (ok : BlkOk X.N X.env.scope scope own) (hv : ∀ i ∈ vs1, i ∈ own.map (·.2))
    (hg : ∀ (s : Shared) (H : Hp) (C : Addr) (cl : List (Str × Addr)) (fp : List Addr), SG (X.blk s H scope (compEnvC scope cl C X.env) fp) Γ S tg ft)
    (ht : ∀ (s : Shared) (H : Hp) (C : Addr) (cl : List (Str × Addr)) (fp : List Addr), STs (X.blk s H scope (compEnvC scope cl C X.env) fp) Γ E0' Wc ifs fc)
    (hi1 : ∀ (s : Shared) (H : Hp) (C : Addr) (cl : List (Str × Addr)) (fp : List Addr), SI (X.blk s H scope (compEnvC scope cl C X.env) fp) Γ E0' Wi1 tg1 iter1 fi1)
    (hg1 : ∀ (s : Shared) (H : Hp) (C : Addr) (cl : List (Str × Addr)) (fp : List Addr), SG (X.blk s H scope (compEnvC scope cl C X.env) fp) Γ S1 tg1 ft1)
    (ht1 : ∀ (s : Shared) (H : Hp) (C : Addr) (cl : List (Str × Addr)) (fp : List Addr), STs (X.blk s H scope (compEnvC scope cl C X.env) fp) Γ E0' Wc1 ifs1 fc1)
    (he : ∀ (s : Shared) (H : Hp) (C : Addr) (cl : List (Str × Addr)) (fp : List Addr), SE (X.blk s H scope (compEnvC scope cl C X.env) fp) Γ E0' We elt fe) (hs : ∀ x, foldedSetIterable iter X.env x = pure x) (hs1 : ∀ env x, foldedSetIterable iter1 env x = pure x)
    (hS : ∀ i ∈ S, i ∈ own.map (·.2)) (hS1 : ∀ i ∈ S1, i ∈ vs1) (hp : i ∉ P) :
    SS X Γ E P (.Assign [.Name y py] (.ListComp elt [⟨tg, iter, ifs, 0⟩, ⟨tg1, iter1, ifs1, 0⟩] scope pos) spos) (sSet i (eLc2 (own.map (·.2)) vs1 fi ft fc fi1 ft1 fc1 fe)) := fun hK =>
  (ps_setLc2 hc hN hy hyl hsw (hi hK) ok hv (fun s H C cl fp => hg s H C cl fp hK) (fun s H C cl fp => ht s H C cl fp hK) (fun s H C cl fp => hi1 s H C cl fp hK) (fun s H C cl fp => hg1 s H C cl fp hK) (fun s H C cl fp => ht1 s H C cl fp hK) (fun s H C cl fp => he s H C cl fp hK) hs hs1).imp fun Z σ H ⟨F, G, sl, tm, A, q⟩ =>
  lc2_run (E := E) hS hS1 hv (e_run A q fun d δ H' G' sl' t A' s ed e _ q' => PostS.put A' hp (by rw [ed, e]; exact q'))
end
end L2.Pv
end
section
set_option Elab.async false
set_option linter.all false
set_option maxRecDepth 100000
/-! enumerate(a tuple) -/
namespace EnT
open PySem PySem.Spec PyProof.Rows L2
set_option maxHeartbeats 1000000 in
theorem meets_newB {v : Value} {o : Obj} {H : Heap → Prop} (B : Begins v o H) :
    Meets (Builtin.«enumerate.__new__» ⟨[.type "enumerate", v], []⟩) (fun _ R s => H s.heap ∧
      R (.ok (.ret (.ref (s.heap.push o).objs.size))) { s with heap := (s.heap.push o).push { cls := .type "enumerate", data := .fields #[.none, .bool false, .ref s.heap.objs.size, rawInt 0, .none, .none] } }) :=
  .of_wp fun prog w A R s h => by
    obtain ⟨hp, g, d, tk, os⟩ := s; obtain ⟨h1, h⟩ := h
    have hsub := sub_enumerate
    have q1 : ∀ {A' : Around} {E : Value → Shared → Prop} {Q : Value → Shared → Prop}, Q (.ref hp.objs.size) ⟨hp.push o, g, d, tk, os⟩ → wpAny (model prog w) A' (pyIter v) Q E ⟨hp, g, d, tk, os⟩ :=
      fun q => B.iter prog w _ _ ⟨hp, g, d, tk, os⟩ _ h1 q
    wp_walk using q1
    refine wpAny_stack_any fun st => wpAny_pure ?_
    split
    · rename_i c _ _ _ _ _
      cases (c == Value.type "enumerate")
      · wp_walk using q1
        exact ⟨_, rfl, h⟩
      · wp_walk using q1
        exact ⟨_, rfl, h⟩
    · wp_walk using q1
      exact ⟨_, rfl, h⟩
section
variable {prog : Program} {w : World} {A : Around} {E : Value → Shared → Prop} {s : Shared}
theorem call_enum {v : Value} {o : Obj} {H : Heap → Prop} {Q : Value → Shared → Prop} (B : Begins v o H) (h1 : H s.heap)
    (h : ∀ h', IsEnum h' (s.heap.objs.size + 1) s.heap.objs.size 0 .none → h'.get? s.heap.objs.size = some o → h'.objs.size = s.heap.objs.size + 2 →
      (∀ b o, s.heap.get? b = some o → h'.get? b = some o) → Q (.ref (s.heap.objs.size + 1)) { s with heap := h' }) :
    wpAny (model prog w) A (call (.type "enumerate") [v]) Q E s := by
  refine callType_new F.called_enumerate (by decide) (F.typeCall_enumerate_1 _) (F.newCall_enumerate_1 _) (fun obj => F.args_object_init_2 obj _) F.entry_enumerate_new
    (meets_newB B) ⟨h1, ?_⟩
  have hz : (s.heap.push o).objs.size = s.heap.objs.size + 1 := Heap.size_push ..
  show _ ∧ _
  rw [hz]
  have he : IsEnum ((s.heap.push o).push { cls := .type "enumerate", data := .fields #[.none, .bool false, .ref s.heap.objs.size, rawInt 0, .none, .none] }) (s.heap.objs.size + 1) s.heap.objs.size 0 .none := by
    have := Heap.get?_push_size (s.heap.push o) (o := { cls := .type "enumerate", data := .fields #[.none, .bool false, .ref s.heap.objs.size, rawInt 0, .none, .none] }) rfl
    rw [hz] at this; exact this
  refine ⟨⟨_, he, rfl⟩, h _ he (Heap.get?_push_of_some _ (Heap.get?_push_size _ B.free)) (by rw [Heap.size_push, hz]) fun b o x => Heap.get?_push_of_some _ (Heap.get?_push_of_some _ x)⟩
end
theorem begins_tup (a : Addr) (items : Array Value) : Begins (.ref a) { cls := .type "tuple_iterator", data := .fields #[.ref a, .int 0 0] } (fun h => h.IsTuple a items) where
  iter := fun prog w A E s Q h q => wpAny_pyIter_tuple h q
  keeps := fun h h' x hk => let ⟨o, ho, r⟩ := x; ⟨o, hk a o ho, r⟩
  free := rfl
/-- the tuple at a, each item in a new pair -/
def IteT (K : PySem.W.Frag) (a : Addr) : It :=
  ⟨fun i H => ∃ (xs : List V) (x : V), SqT K H a xs ∧ xs[i]? = some x, fun i H v H' => ∃ T x, v = .ref T ∧ H T = none ∧ H' = upd H T (.tup [.int (i : Nat), x]) ∧ ∀ xs, SqT K H a xs → xs[i]? = some x, fun i H => ∃ xs : List V, SqT K H a xs ∧ xs.length ≤ i⟩
theorem turn_enumT {P : Program} {w : World} {K : PySem.W.Frag} {elts : List Expr} {kk : Nat} {tpos : Pos} (a e it : Addr) (hai : a ≠ it) (hae : a ≠ e) :
    Turn P w K (.Tuple elts kk tpos) (IteT K a) [e, it] e (fun i h => (∃ old, IsEnum h e it ((i : Nat) : Int) old) ∧ h.IsTupleIter it a i ∧ e ≠ it) where
  mem := by simp
  obj := fun i h st b hb => by
    obtain ⟨⟨old, he⟩, ⟨o, ho, hc, hd⟩, _⟩ := st
    have e' : b = e ∨ b = it := by simpa using hb
    rcases e' with z | z
    · rw [z]; exact ⟨_, he, fun v q => nomatch q⟩
    · rw [z]; exact ⟨o, ho, fun v q => by rw [hd] at q; cases q⟩
  keep := fun i h h' st k => let ⟨⟨old, he⟩, hi, hne⟩ := st; ⟨⟨old, k e (by simp) _ he⟩, hi.at fun o q => k it (by simp) o q, hne⟩
  item := by
    intro X hP hw hK hc i pins s σ H E I hf st hg
    subst hP hw hK
    obtain ⟨⟨old, he⟩, hit, hne⟩ := st
    obtain ⟨xs, x, hq, hx⟩ := hg
    obtain ⟨its, rv, p, hz⟩ := I.tuple hq
    obtain ⟨u, hu, ru⟩ := rv.get hx
    have hel : e < s.heap.objs.size := Heap.lt_size he
    have hil : it < s.heap.objs.size := by obtain ⟨_, q, _⟩ := hit; exact Heap.lt_size q
    have hlt : i < its.toArray.size := by
      have := (List.getElem?_eq_some_iff.mp hu).1
      simpa using this
    refine wpAny_pyNext_enum_itemD (Draws.tuple (prog := X.prog) (w := X.w) (A := X.A.in1) (show X.A.in1.handled = none from I.ok.hd hc) it a hai its.toArray) he ⟨hit, p⟩ hlt hne (by simp [hne, Ne.symm hae]) fun x2 h' tk hx2 ho st' hT hsz hk => ?_
    have ex : x2 = u := by
      rw [show its.toArray[i]? = some u by simpa using hu] at hx2
      exact (Option.some.inj hx2).symm
    subst ex
    refine ⟨_, rfl, wpAny_letOwnedTupleGo_enum (s := { s with heap := h', toks := tk + 1 }) ho fun h'' he' sb => ?_⟩
    have hT2 : h''.get? s.heap.objs.size = some { cls := .type "tuple", data := .seq #[.int i tk, x2] } := (sb.2 _ (Nat.ne_of_gt hel)).trans hT
    have new : ObjOk X.prog X.w (upd H s.heap.objs.size (.tup [.int (i : Nat), x])) h'' s.heap.objs.size (.tup [.int (i : Nat), x]) :=
      ⟨by show 2 ≤ sizeLine; decide, [.int i tk, x2], .cons ⟨_, rfl⟩ (.cons ru .nil), ⟨_, hT2, rfl, _, rfl⟩⟩
    have I1 : Inv X pins σ (upd H s.heap.objs.size (.tup [.int (i : Nat), x])) { s with heap := h'', toks := tk + 1 } :=
      I.turnedNew (ch := [e, it]) (fun b ob hb q => (sb.2 b (fun z => hb (by simp [z]))).trans (hk b ob (fun z => hb (by simp [z])) (fun z => hb (by simp [z])) q)) hf (Nat.le_refl _) new
    refine ⟨.ref s.heap.objs.size, _, I1, rfl, ⟨_, x, rfl, I.hok.fresh (Nat.le_refl _), rfl, fun ys hy => by rw [I.tuple_inj hy hq]; exact hx⟩, ⟨⟨x2, ?_⟩, st'.1.at fun o q => (sb.2 it (Ne.symm hne)).trans q, hne⟩, fun b hb => ?_⟩
    · have e1 : ((i + 1 : Nat) : Int) = (i : Int) + 1 := by omega
      rw [e1]; exact he'
    · have hb' : b < s.heap.objs.size := by
        have e' : b = e ∨ b = it := by simpa using hb
        rcases e' with z | z
        · rw [z]; exact hel
        · rw [z]; exact hil
      rw [upd_ne (Nat.ne_of_lt hb')]
      exact (hf b hb).1
  done := by
    intro X hP hw hK hc i pins s σ H E I hf st hg
    subst hP hw hK
    obtain ⟨⟨old, he⟩, hit, hne⟩ := st
    obtain ⟨xs, hq, hx⟩ := hg
    obtain ⟨its, rv, p, hz⟩ := I.tuple hq
    obtain ⟨f0, f1, f2, f3, f4, f5⟩ := hf it (by simp)
    have hl := rv.length
    have hh : X.A.in1.handled = none := by first | exact I.ok.hd hc | (rw [show X.A.in1.handled = X.A.handled from rfl]; exact I.ok.hd hc)
    have D0 : Draws X.prog X.w X.A.in1 it [it, a] its.toArray.size (fun k v => its.toArray[k]? = some v) (fun k h => (∃ j : Nat, (k < its.toArray.size → j = k) ∧ (its.toArray.size ≤ k → its.toArray.size ≤ j) ∧ h.IsTupleIter it a j) ∧ h.IsTuple a its.toArray) := {
      live := fun _ _ st => by
        obtain ⟨⟨j, _, _, o, ho, _⟩, _⟩ := st
        exact ⟨o, ho⟩
      frame := fun _ _ _ st hk => by
        obtain ⟨⟨j, h1, h2, h3⟩, h4⟩ := st
        exact ⟨⟨j, h1, h2, h3.at fun o e => hk it (by simp) o e⟩, h4.at fun o e => hk a (by simp) o e⟩
      item := fun k s Q E hi st hQ => by
        obtain ⟨⟨j, h1, h2, h3⟩, h4⟩ := st
        have := h1 hi
        subst this
        refine PySem.wpAny_nextOf_tuple_item h3 h4 (x := its.toArray[j]) (by simp) fun h' hit' hs' => ?_
        exact hQ _ h' s.toks (by simp) ⟨⟨j + 1, fun _ => rfl, fun h => h, hit'⟩, h4.extBut hs'.extBut hai⟩ hs'
      done := fun s Q E st hE => by
        obtain ⟨⟨j, h1, h2, h3⟩, h4⟩ := st
        have h5 := h2 (Nat.le_refl _)
        exact PySem.wpAny_nextOf_tuple_end hh h3 h4 (by simpa using h5) hE }
    exact wpAny_pyNext_enum_endD D0 he ⟨⟨i, fun h => absurd h (by simp only [List.size_toArray]; omega), fun _ => by simp only [List.size_toArray]; omega, hit⟩, p⟩ fun h' eb => ⟨rfl, I.turned (t' := s.toks) (fun b o hb q => eb b o hb q) f0 f1 f3 f4 f5⟩
  self := fun A i s Q E st h => let ⟨⟨_, he⟩, _⟩ := st; wpAny_pyIter_enum he h
def iEnumT (K : PySem.W.Frag) (ta : TA) : TI := fun σ H R => ta σ H fun vs H1 => ∃ a xs, vs = [.ref a] ∧ SqT K H1 a xs ∧ R (IteT K a) H1
theorem pi_enumT {X : Cx} {e : Expr} {ta : TA} {p pos tpos : Pos} {elts : List Expr} {kk : Nat} (hg : Gl X "enumerate") (hm : X.mg "enumerate" = none) (ha : PA X [e] ta) (hs : starEach [e] X.env = [(false, eval e X.env)]) :
    PI X (.Tuple elts kk tpos) (.Call (.Name "enumerate" p) [e] [] pos) (iEnumT X.K ta) := by
  refine ⟨fun pins s σ H R I h => ?_⟩
  refine Call_ (ld_blt I hg hm boot_enumerate (PyProof.Rows.callWith_type1 (thn (ha.run pos pins s σ H _ I h) fun us s1 ⟨vs, H1, I1, r1, q1⟩ => ?_) hs rfl))
  obtain ⟨a, xs, ex, hq, q⟩ := q1
  subst ex
  cases r1 with
  | cons r rr =>
    cases rr
    cases r
    obtain ⟨its, rv, p', hz⟩ := I1.tuple hq
    obtain ⟨oa, hoa, _⟩ := id p'
    have hla : a < s1.heap.objs.size := Heap.lt_size hoa
    refine call_enum (begins_tup a its.toArray) (show s1.heap.IsTuple a its.toArray from p') fun h' he hit hsz hk => wpAny_pyIter_enum he ?_
    have I2 : Inv X pins σ H1 { s1 with heap := h' } := I1.kept (t' := s1.toks) hk
    refine ⟨s1.heap.objs.size + 1, [s1.heap.objs.size + 1, s1.heap.objs.size], _, _, H1, rfl, I2, turn_enumT a (s1.heap.objs.size + 1) s1.heap.objs.size (Nat.ne_of_lt hla) (Nat.ne_of_lt (Nat.lt_succ_of_lt hla)), ⟨⟨.none, he⟩, ⟨_, hit, rfl, rfl⟩, Nat.succ_ne_self _⟩, fun b hb => ?_, q⟩
    have e' : b = s1.heap.objs.size + 1 ∨ b = s1.heap.objs.size := by simpa using hb
    have hle : s1.heap.objs.size ≤ b := by
      rcases e' with z | z
      · rw [z]; exact Nat.le_add_right _ _
      · rw [z]; exact Nat.le_refl _
    exact I1.fpOk hle (I1.hok.fresh hle)
end EnT
end
section
set_option Elab.async false
set_option linter.all false
set_option autoImplicit false
set_option maxRecDepth 100000
namespace L2.Pv
open PySem PySem.Spec PyProof.Rows

/-! ### zip, enumerate as sources -/
def zipD (xs ys : List D) : List D := List.zipWith (fun a b => D.tup [a, b]) xs ys
def enumD (xs : List D) : List D := xs.mapIdx fun i d => D.tup [.int (i : Nat), d]
section
variable {Γ : Gm} {G : Hp}
/-- a new pair -/
theorem Abs.pair {F : Fr} {σ : St} {H G' : Hp} {sl : TS'} {tm : List T} {x y : V} {a b : D} {p : Addr} (A : Abs Γ F σ H G' sl tm) (h1 : Rep Γ G' x a) (h2 : Rep Γ G' y b) (hp : H p = none) :
    ∃ G2 t, Abs Γ F σ (upd H p (.tup [x, y])) G2 sl (t :: tm) ∧ Sub G' G2 ∧ t.v = .ref p ∧ t.d = .tup [a, b] := by
  have B := A.newFrz (o := .tup [x, y]) hp (fun _ z => nomatch z)
  obtain ⟨n1, _⟩ := A.new0 hp
  have s1 : Sub G' (upd G' p (.tup [x, y])) := fun a u h => by rw [upd_ne (ne_of_none h n1)]; exact h
  exact ⟨_, .leaf (.ref p) (.tup [a, b]), B.leaf ⟨by show 2 ≤ sizeLine; decide, p, [x, y], rfl, upd_same, x, [y], rfl, h1.mono s1 a, y, [], rfl, h2.mono s1 b, rfl⟩, s1, rfl, rfl⟩
theorem zip_get {xs ys : List D} {i : Nat} {d : D} (h : (zipD xs ys)[i]? = some d) : ∃ a b, xs[i]? = some a ∧ ys[i]? = some b ∧ d = .tup [a, b] := by
  unfold zipD at h
  rw [List.getElem?_zipWith] at h
  cases h1 : xs[i]? with
  | none => rw [h1] at h; cases h
  | some a =>
    cases h2 : ys[i]? with
    | none => rw [h1, h2] at h; cases h
    | some b => rw [h1, h2] at h; cases h; exact ⟨a, b, rfl, rfl, rfl⟩
theorem zip_end {xs ys : List D} {i : Nat} (h : (zipD xs ys)[i]? = none) : xs.length ≤ i ∨ ys.length ≤ i := by
  have := List.getElem?_eq_none_iff.mp h
  unfold zipD at this
  rw [List.length_zipWith] at this
  omega
theorem gives_zipL {a b : Addr} {vs ws : List V} {ds es : List D} (h : G a = some (.lst vs)) (r : Reps Γ G vs ds) (h' : G b = some (.lst ws)) (r' : Reps Γ G ws es) : Gives Γ G (Itz Γ.K a b) (zipD ds es) := fun F σ2 H2 G2 sl2 tm2 A2 s i => by
  have hq : SqL Γ.K H2 a vs := SqL.of (A2.sub _ _ (s _ _ h))
  have hq' : SqL Γ.K H2 b ws := SqL.of (A2.sub _ _ (s _ _ h'))
  refine ⟨fun d hd => ?_, fun hd => ⟨vs, ws, hq, hq', ?_⟩⟩
  · obtain ⟨d1, d2, e1, e2, rfl⟩ := zip_get hd
    obtain ⟨v, hv, rv⟩ := r.get e1
    obtain ⟨w, hw, rw'⟩ := r'.get e2
    refine ⟨⟨vs, ws, v, w, hq, hq', hv, hw⟩, fun x H3 ⟨T, x1, x2, e, hT, eH, y1, y2⟩ => ?_⟩
    have ex1 := (y1 vs hq).symm.trans hv
    have ex2 := (y2 ws hq').symm.trans hw
    cases ex1
    cases ex2
    subst e eH
    obtain ⟨G3, t, B, s3, ev, ed⟩ := A2.pair (rv.mono s d1) (rw'.mono s d2) hT
    exact ⟨G3, t, B, s3, ev, ed⟩
  · rcases zip_end hd with z | z
    · exact .inl (by rw [r.len]; exact z)
    · exact .inr (by rw [r'.len]; exact z)
theorem gives_zipT {a b : Addr} {vs ws : List V} {ds es : List D} (h : G a = some (.tup vs)) (r : Reps Γ G vs ds) (h' : G b = some (.tup ws)) (r' : Reps Γ G ws es) : Gives Γ G (RZ.ItzT Γ.K a b) (zipD ds es) := fun F σ2 H2 G2 sl2 tm2 A2 s i => by
  have hq : SqT Γ.K H2 a vs := sqT_of (s.trans A2.sub) h
  have hq' : SqT Γ.K H2 b ws := sqT_of (s.trans A2.sub) h'
  refine ⟨fun d hd => ?_, fun hd => ⟨vs, ws, hq, hq', ?_⟩⟩
  · obtain ⟨d1, d2, e1, e2, rfl⟩ := zip_get hd
    obtain ⟨v, hv, rv⟩ := r.get e1
    obtain ⟨w, hw, rw'⟩ := r'.get e2
    refine ⟨⟨vs, ws, v, w, hq, hq', hv, hw⟩, fun x H3 ⟨T, x1, x2, e, hT, eH, y1, y2⟩ => ?_⟩
    have ex1 := (y1 vs hq).symm.trans hv
    have ex2 := (y2 ws hq').symm.trans hw
    cases ex1
    cases ex2
    subst e eH
    obtain ⟨G3, t, B, s3, ev, ed⟩ := A2.pair (rv.mono s d1) (rw'.mono s d2) hT
    exact ⟨G3, t, B, s3, ev, ed⟩
  · rcases zip_end hd with z | z
    · exact .inl (by rw [r.len]; exact z)
    · exact .inr (by rw [r'.len]; exact z)
theorem enum_get {xs : List D} {i : Nat} {d : D} (h : (enumD xs)[i]? = some d) : ∃ a, xs[i]? = some a ∧ d = .tup [.int (i : Nat), a] := by
  unfold enumD at h
  rw [List.getElem?_mapIdx] at h
  cases h1 : xs[i]? with
  | none => rw [h1] at h; cases h
  | some a => rw [h1] at h; cases h; exact ⟨a, rfl, rfl⟩
theorem enum_end {xs : List D} {i : Nat} (h : (enumD xs)[i]? = none) : xs.length ≤ i := by
  have := List.getElem?_eq_none_iff.mp h
  unfold enumD at this
  simpa using this
theorem gives_enumL {a : Addr} {vs : List V} {ds : List D} (h : G a = some (.lst vs)) (r : Reps Γ G vs ds) : Gives Γ G (Ite Γ.K a) (enumD ds) := fun F σ2 H2 G2 sl2 tm2 A2 s i => by
  have hq : SqL Γ.K H2 a vs := SqL.of (A2.sub _ _ (s _ _ h))
  refine ⟨fun d hd => ?_, fun hd => ⟨vs, hq, by rw [r.len]; exact enum_end hd⟩⟩
  obtain ⟨d1, e1, rfl⟩ := enum_get hd
  obtain ⟨v, hv, rv⟩ := r.get e1
  refine ⟨⟨vs, v, hq, hv⟩, fun x H3 ⟨T, x1, e, hT, eH, y1⟩ => ?_⟩
  have ex1 := (y1 vs hq).symm.trans hv
  cases ex1
  subst e eH
  obtain ⟨G3, t, B, s3, ev, ed⟩ := A2.pair (a := .int (i : Nat)) (x := .int (i : Nat)) rfl (rv.mono s d1) hT
  exact ⟨G3, t, B, s3, ev, ed⟩
theorem gives_enumT {a : Addr} {vs : List V} {ds : List D} (h : G a = some (.tup vs)) (r : Reps Γ G vs ds) : Gives Γ G (EnT.IteT Γ.K a) (enumD ds) := fun F σ2 H2 G2 sl2 tm2 A2 s i => by
  have hq : SqT Γ.K H2 a vs := sqT_of (s.trans A2.sub) h
  refine ⟨fun d hd => ?_, fun hd => ⟨vs, hq, by rw [r.len]; exact enum_end hd⟩⟩
  obtain ⟨d1, e1, rfl⟩ := enum_get hd
  obtain ⟨v, hv, rv⟩ := r.get e1
  refine ⟨⟨vs, v, hq, hv⟩, fun x H3 ⟨T, x1, e, hT, eH, y1⟩ => ?_⟩
  have ex1 := (y1 vs hq).symm.trans hv
  cases ex1
  subst e eH
  obtain ⟨G3, t, B, s3, ev, ed⟩ := A2.pair (a := .int (i : Nat)) (x := .int (i : Nat)) rfl (rv.mono s d1) hT
  exact ⟨G3, t, B, s3, ev, ed⟩
end
def zipO (ds : List D) : Option (List D) := match ds with
  | [.lst _ xs, .lst _ ys] => some (zipD (D.frzs xs) (D.frzs ys))
  | [.tup xs, .tup ys] => some (zipD xs ys)
  | _ => none
def enumO (ds : List D) : Option (List D) := match ds with
  | [.lst _ xs] => some (enumD (D.frzs xs))
  | [.tup xs] => some (enumD xs)
  | _ => none
def iZipD (fa : EvA) : EvA := fun δ => (fa δ).bd fun ds δ' => lft (zipO ds) δ'
def iEnumD (fa : EvA) : EvA := fun δ => (fa δ).bd fun ds δ' => lft (enumO ds) δ'
theorem zipO_of {a b : D} {es : List D} (h : zipO [a, b] = some es) : (∃ o xs o' ys, a = .lst o xs ∧ b = .lst o' ys ∧ es = zipD (D.frzs xs) (D.frzs ys)) ∨ ∃ xs ys, a = .tup xs ∧ b = .tup ys ∧ es = zipD xs ys := by
  unfold zipO at h
  split at h
  · rename_i o xs o' ys e
    cases e
    cases h
    exact .inl ⟨_, _, _, _, rfl, rfl, rfl⟩
  · rename_i xs ys e
    cases e
    cases h
    exact .inr ⟨_, _, rfl, rfl, rfl⟩
  · cases h
theorem enumO_of {a : D} {es : List D} (h : enumO [a] = some es) : (∃ o xs, a = .lst o xs ∧ es = enumD (D.frzs xs)) ∨ ∃ xs, a = .tup xs ∧ es = enumD xs := by
  unfold enumO at h
  split at h
  · rename_i o xs e
    cases e
    cases h
    exact .inl ⟨_, _, rfl, rfl⟩
  · rename_i xs e
    cases e
    cases h
    exact .inr ⟨_, rfl, rfl⟩
  · cases h
section
variable {X : Cx} {Γ : Gm} {E : WX} {W : List Nat} {e e2 : Expr} {fa : EvA} {elts : List Expr} {kk : Nat} {p pos tpos : Pos}
theorem si_zip (hg : Gl X "zip") (hm : X.mg "zip" = none) (ha : SA X Γ E W 2 [e, e2] fa)
    (hs : starEach [e, e2] X.env = (false, eval e X.env) :: starEach [e2] X.env) (hpl : (backTo pos (starEach [e2] X.env)).any (·.1) = false) :
    SI X Γ E W (.Tuple elts kk tpos) (.Call (.Name "zip" p) [e, e2] [] pos) (iZipD fa) := fun hK => (RZ.pi_zipA hg hm (ha hK) hs hpl).imp fun σ H R ⟨F, G, sl, tm, A, q⟩ => by
  refine ⟨F, G, sl, tm, A, ?_⟩
  unfold iZipD at q
  cases hf : fa (dsl sl) with
  | stuck => rw [hf] at q; exact q
  | exc c fs δ => rw [hf] at q; exact q
  | ok ds δ =>
    rw [hf, bd_ok] at q
    intro H1 G1 sl1 ts A1 s1 hl ets e1 k1
    obtain ⟨t1, t2, rfl⟩ : ∃ t1 t2, ts = [t1, t2] := by
      match ts, hl with
      | [t1, t2], _ => exact ⟨t1, t2, rfl⟩
    obtain ⟨B, v1, r1, ev1, rp1, v2, r2, ev2, rp2, _⟩ := A1.freeze
    cases ev1
    cases ev2
    have s2 : Sub G1 (frzH G1 H1 [t1, t2]) := frzH_sub fun a ha => (A1.sep a (by rw [cnts_append]; omega)).1
    have ets : [t1.d, t2.d] = ds := ets
    subst ets
    cases hz : zipO [t1.d, t2.d] with
    | none => rw [hz] at q; exact q.elim
    | some es =>
      rw [hz, lft_some] at q
      have len : ∀ xs ys : List D, xs.length ≤ sizeLine → (zipD xs ys).length ≤ sizeLine := fun xs ys h => by unfold zipD; rw [List.length_zipWith]; omega
      rcases zipO_of hz with ⟨o, xs, o', ys, e1', e2', rfl⟩ | ⟨xs, ys, e1', e2', rfl⟩
      · rw [e1'] at rp1
        rw [e2'] at rp2
        obtain ⟨z1, a, vs, ev1, q1, r1⟩ := rp1
        obtain ⟨z2, b, ws, ev2, q2, r2⟩ := rp2
        refine ⟨a, b, vs, ws, by rw [List.map_cons, List.map_cons, ev1, ev2]; rfl, .inl ⟨SqL.of (B.sub _ _ q1), SqL.of (B.sub _ _ q2), ?_⟩⟩
        rw [hK]
        exact q _ H1 _ sl1 B (s1.trans s2) e1 k1 (gives_zipL q1 r1 q2 r2) (len _ _ z1.2)
      · rw [e1'] at rp1
        rw [e2'] at rp2
        obtain ⟨z1, a, vs, ev1, q1, r1⟩ := rp1
        obtain ⟨z2, b, ws, ev2, q2, r2⟩ := rp2
        refine ⟨a, b, vs, ws, by rw [List.map_cons, List.map_cons, ev1, ev2]; rfl, .inr ⟨by rw [hK]; exact sqT_of B.sub q1, by rw [hK]; exact sqT_of B.sub q2, ?_⟩⟩
        rw [hK]
        exact q _ H1 _ sl1 B (s1.trans s2) e1 k1 (gives_zipT q1 r1 q2 r2) (len _ _ z1)
theorem si_enum (hg : Gl X "enumerate") (hm : X.mg "enumerate" = none) (ha : SA X Γ E W 1 [e] fa) (hs : starEach [e] X.env = [(false, eval e X.env)]) :
    SI X Γ E W (.Tuple elts kk tpos) (.Call (.Name "enumerate" p) [e] [] pos) (iEnumD fa) := fun hK => ((pi_enum hg hm (ha hK) hs).or (EnT.pi_enumT hg hm (ha hK) hs)).imp fun σ H R ⟨F, G, sl, tm, A, q⟩ => by
  unfold iEnumD at q
  cases hf : fa (dsl sl) with
  | stuck => rw [hf] at q; exact q.elim
  | exc c fs δ =>
    left
    refine ⟨F, G, sl, tm, A, ?_⟩
    rw [hf] at q ⊢
    exact q
  | ok ds δ =>
    rw [hf, bd_ok] at q
    cases hz : enumO ds with
    | none => rw [hz] at q; exact q.elim
    | some es =>
      rw [hz, lft_some] at q
      have len : ∀ xs : List D, xs.length ≤ sizeLine → (enumD xs).length ≤ sizeLine := fun xs h => by unfold enumD; simpa using h
      have one : ∀ d, ds = [d] → (∃ o xs, d = .lst o xs) → tA Γ E W 1 fa σ H (fun vs H1 => ∃ a xs, vs = [.ref a] ∧ SqL X.K H1 a xs ∧ R (Ite X.K a) H1) := fun d hd ⟨o, xs, ed⟩ => by
        refine ⟨F, G, sl, tm, A, ?_⟩
        rw [hf]
        intro H1 G1 sl1 ts A1 s1 hl ets e1 k1
        obtain ⟨t1, rfl⟩ : ∃ t1, ts = [t1] := by
          match ts, hl with
          | [t1], _ => exact ⟨t1, rfl⟩
        obtain ⟨B, v1, r1, ev1, rp1, _⟩ := A1.freeze
        cases ev1
        have s2 : Sub G1 (frzH G1 H1 [t1]) := frzH_sub fun a ha => (A1.sep a (by rw [cnts_append]; omega)).1
        have et : t1.d = d := by rw [hd] at ets; exact (List.cons.inj ets).1
        rw [et, ed] at rp1
        obtain ⟨z1, a, vs, ev1, q1, r1⟩ := rp1
        refine ⟨a, vs, by rw [List.map_cons, ev1]; rfl, SqL.of (B.sub _ _ q1), ?_⟩
        rw [hK]
        rw [hd, ed] at hz
        cases hz
        exact q _ H1 _ sl1 B (s1.trans s2) e1 k1 (gives_enumL q1 r1) (len _ z1.2)
      have two : ∀ d, ds = [d] → (∃ xs, d = .tup xs) → tA Γ E W 1 fa σ H (fun vs H1 => ∃ a xs, vs = [.ref a] ∧ SqT X.K H1 a xs ∧ R (EnT.IteT X.K a) H1) := fun d hd ⟨xs, ed⟩ => by
        refine ⟨F, G, sl, tm, A, ?_⟩
        rw [hf]
        intro H1 G1 sl1 ts A1 s1 hl ets e1 k1
        obtain ⟨t1, rfl⟩ : ∃ t1, ts = [t1] := by
          match ts, hl with
          | [t1], _ => exact ⟨t1, rfl⟩
        obtain ⟨B, v1, r1, ev1, rp1, _⟩ := A1.freeze
        cases ev1
        have s2 : Sub G1 (frzH G1 H1 [t1]) := frzH_sub fun a ha => (A1.sep a (by rw [cnts_append]; omega)).1
        have et : t1.d = d := by rw [hd] at ets; exact (List.cons.inj ets).1
        rw [et, ed] at rp1
        obtain ⟨z1, a, vs, ev1, q1, r1⟩ := rp1
        refine ⟨a, vs, by rw [List.map_cons, ev1]; rfl, by rw [hK]; exact sqT_of B.sub q1, ?_⟩
        rw [hK]
        rw [hd, ed] at hz
        cases hz
        exact q _ H1 _ sl1 B (s1.trans s2) e1 k1 (gives_enumT q1 r1) (len _ z1)
      cases ds with
      | nil => cases hz
      | cons d ds => cases ds with
       | cons d2 ds => exact absurd hz (by unfold enumO; simp)
       | nil =>
        rcases enumO_of hz with ⟨o, xs, e1', rfl⟩ | ⟨xs, e1', rfl⟩
        · exact .inl (one d rfl ⟨o, xs, e1'⟩)
        · exact .inr (two d rfl ⟨xs, e1'⟩)
end
end L2.Pv
end
section
set_option Elab.async false
set_option linter.all false
set_option maxRecDepth 100000
/-! list(zip(a, b)) of two lists -/
namespace LZ
open PySem PySem.Spec PyProof.Rows PySem.W
theorem zip_no_len : typeLookup (.type "zip") "__len__" = pure none := am_miss_of_fast (by decide +kernel)
theorem zip_no_hint : typeLookup (.type "zip") "__length_hint__" = pure none := am_miss_of_fast (by decide +kernel)
def St (S z TI TO i1 i2 l1 l2 : Addr) (xs ys : Array Value) (i : Nat) (h : Heap) : Prop :=
  IsPair h TI (.ref i1) (.ref i2) ∧ h.IsListIter i1 l1 i ∧ h.IsListIter i2 l2 i ∧ h.IsList l1 xs ∧ h.IsList l2 ys ∧
    ((IsZip h z TI TO .none ∧ ∃ a b, IsPair h TO a b) ∨ ∃ T f oT, IsZipHeld h z TI TO T f ∧ h.get? T = some oT ∧ T ≠ z ∧ T ≠ i1 ∧ T ≠ i2 ∧ T ≠ S)
structure Off (S z TI TO i1 i2 l1 l2 : Addr) : Prop where
  z : S ≠ z
  TI : S ≠ TI
  TO : S ≠ TO
  i1 : S ≠ i1
  i2 : S ≠ i2
  l1 : S ≠ l1
  l2 : S ≠ l2
section
variable {prog : Program} {w : World} {A : Around} {E : Value → Shared → Prop} {s : Shared} {S z TI TO i1 i2 l1 l2 : Addr} {xs ys : Array Value}
theorem St.frame {i : Nat} {h₁ h₂ : Heap} (o : Off S z TI TO i1 i2 l1 l2) (st : St S z TI TO i1 i2 l1 l2 xs ys i h₁) (hk : ∀ b o, b ≠ S → h₁.get? b = some o → h₂.get? b = some o) : St S z TI TO i1 i2 l1 l2 xs ys i h₂ := by
  obtain ⟨hTI, h1, h2, hl1, hl2, hz⟩ := st
  refine ⟨hk _ _ (Ne.symm o.TI) hTI, h1.at fun _ e => hk _ _ (Ne.symm o.i1) e, h2.at fun _ e => hk _ _ (Ne.symm o.i2) e, hl1.at fun _ e => hk _ _ (Ne.symm o.l1) e, hl2.at fun _ e => hk _ _ (Ne.symm o.l2) e, ?_⟩
  rcases hz with ⟨hz, a, b, hTO⟩ | ⟨T, f, oT, hz, hT, r1, r2, r3, r4⟩
  · exact .inl ⟨hk _ _ (Ne.symm o.z) hz, a, b, hk _ _ (Ne.symm o.TO) hTO⟩
  · exact .inr ⟨T, f, oT, hk _ _ (Ne.symm o.z) hz, hk _ _ r4 hT, r1, r2, r3, r4⟩
theorem next {i : Nat} {x y : Value} {Q : Option Value → Shared → Prop} (D : ZipApart z TI TO i1 i2 l1 l2) (st : St S z TI TO i1 i2 l1 l2 xs ys i s.heap) (hS : S < s.heap.objs.size) (ex : xs[i]? = some x) (ey : ys[i]? = some y)
    (hQ : ∀ h', St S z TI TO i1 i2 l1 l2 xs ys (i + 1) h' → IsPair h' s.heap.objs.size x y → h'.objs.size = s.heap.objs.size + 1 → (∀ c o, c ≠ z → c ≠ TO → c ≠ i1 → c ≠ i2 → s.heap.get? c = some o → h'.get? c = some o) → Q (some (.ref s.heap.objs.size)) { s with heap := h' }) :
    wpAny (model prog w) A (pyNext (.ref z)) Q E s := by
  obtain ⟨hTI, h1, h2, hl1, hl2, hz⟩ := st
  have lt : ∀ {c o}, s.heap.get? c = some o → s.heap.objs.size ≠ c := fun e => Nat.ne_of_gt (Heap.lt_size e)
  have n1 : s.heap.objs.size ≠ i1 := let ⟨_, e, _⟩ := h1; lt e
  have n2 : s.heap.objs.size ≠ i2 := let ⟨_, e, _⟩ := h2; lt e
  rcases hz with ⟨hz, a, b, hTO⟩ | ⟨T, f, oT, hz, hT, r1, r2, r3, r4⟩
  · refine wpAny_pyNext_zip_item D hz hTI hTO h1 h2 hl1 hl2 ex ey fun h' a1 a2 a3 a4 a5 a6 hk => ?_
    exact hQ h' ⟨hk _ _ D.TIz D.TITO D.TIi1 D.TIi2 hTI, a3, a4, hl1.at fun o e => hk _ o D.l1z D.l1TO D.l1i1 D.l1i2 e, hl2.at fun o e => hk _ o D.l2z D.l2TO D.l2i1 D.l2i2 e,
      .inr ⟨s.heap.objs.size, false, _, a1, a5, lt hz, n1, n2, Nat.ne_of_gt hS⟩⟩ a5 a6 fun c o q1 q2 q3 q4 e => hk c o q1 q2 q3 q4 e
  · refine wpAny_pyNext_zip_item_held D hz hT hTI h1 h2 hl1 hl2 ex ey fun h' a1 a3 a4 a5 a6 hk => ?_
    exact hQ h' ⟨hk _ _ D.TIz D.TIi1 D.TIi2 hTI, a3, a4, hl1.at fun o e => hk _ o D.l1z D.l1i1 D.l1i2 e, hl2.at fun o e => hk _ o D.l2z D.l2i1 D.l2i2 e,
      .inr ⟨T, true, oT, a1, hk _ _ r1 r2 r3 hT, r1, r2, r3, r4⟩⟩ a5 a6 fun c o q1 q2 q3 q4 e => hk c o q1 q3 q4 e
theorem fin {i : Nat} {Q : Option Value → Shared → Prop} (hA : A.handled = none) (D : ZipApart z TI TO i1 i2 l1 l2) (st : St S z TI TO i1 i2 l1 l2 xs ys i s.heap) (hend : xs[i]? = none ∨ ys[i]? = none)
    (hQ : ∀ h', (∀ c o, c ≠ z → c ≠ TO → c ≠ i1 → c ≠ i2 → s.heap.get? c = some o → h'.get? c = some o) → Q none { s with heap := h' }) : wpAny (model prog w) A (pyNext (.ref z)) Q E s := by
  obtain ⟨hTI, h1, h2, hl1, hl2, hz⟩ := st
  rcases hz with ⟨hz, a, b, hTO⟩ | ⟨T, f, oT, hz, hT, r1, r2, r3, r4⟩
  · exact wpAny_pyNext_zip_end hA D hz hTI hTO h1 h2 hl1 hl2 hend fun h' hk => hQ h' fun c o q1 q2 q3 q4 e => hk c o q1 q2 q3 q4 e
  · exact wpAny_pyNext_zip_end_held hA D hz hT hTI h1 h2 hl1 hl2 hend fun h' hk => hQ h' fun c o q1 q2 q3 q4 e => hk c o q1 q3 q4 e
/-- the pairs that were made -/
structure Made (xs ys : Array Value) (lo : Addr) (h : Heap) (as : List Addr) : Prop where
  rise : as.Pairwise (· < ·)
  above : ∀ a ∈ as, lo ≤ a
  there : ∀ a ∈ as, a < h.objs.size
  pairs : ∀ (j : Nat) (a : Addr), as[j]? = some a → ∃ x y, xs[j]? = some x ∧ ys[j]? = some y ∧ IsPair h a x y
theorem loop {R : Result → Shared → Prop} {lo : Addr} (hh : A.handled = none) (D : ZipApart z TI TO i1 i2 l1 l2) (o : Off S z TI TO i1 i2 l1 l2) (hn : min xs.size ys.size ≤ sizeLine) (hSl : S < lo) (hlo : z < lo ∧ TO < lo ∧ i1 < lo ∧ i2 < lo) (res : Value) {h₁ : Heap}
    (hR : ∀ h' acc c as, (∀ b o, b ≠ S → b ≠ z → b ≠ TO → b ≠ i1 → b ≠ i2 → h₁.get? b = some o → h'.get? b = some o) → h'.get? S = some { cls := .type "list", dict := none, data := .seq acc c, slots := #[] } → as.length = min xs.size ys.size → Made xs ys lo h' as →
      acc.toList = as.map Value.ref → R (.ok (.ret res)) { s with heap := h' }) :
    ∀ (k i : Nat) (h : Heap) (c : Nat) (acc : Array Value) (as : List Addr), min xs.size ys.size - i = k → i ≤ min xs.size ys.size → St S z TI TO i1 i2 l1 l2 xs ys i h → (∀ b o, b ≠ S → b ≠ z → b ≠ TO → b ≠ i1 → b ≠ i2 → h₁.get? b = some o → h.get? b = some o) →
      h.get? S = some { cls := .type "list", dict := none, data := .seq acc c, slots := #[] } → acc.toList = as.map Value.ref → as.length = i → Made xs ys lo h as → lo ≤ h.objs.size →
      codeAny (model prog w) A (.builtin "list.extend.loop" ⟨[.ref S, .ref z, res], []⟩) R { s with heap := h } := by
  intro k
  induction k with
  | zero =>
    intro i h c acc as hk hi hst hkeep hS hacc hal hG hlo2
    refine codeAny_builtin PySem.F.entry_extend_loop ?_
    rw [Around.under_plainId PySem.F.plain_extend_loop _]
    show wpAny _ A.in1 (pyNext (.ref z) >>= _) _ _ _
    have hend : xs[i]? = none ∨ ys[i]? = none := by
      have : i = min xs.size ys.size := by omega
      subst this
      rcases Nat.le_total xs.size ys.size with h | h
      · exact .inl (Array.getElem?_eq_none (by rw [Nat.min_eq_left h]; exact Nat.le_refl _))
      · exact .inr (Array.getElem?_eq_none (by rw [Nat.min_eq_right h]; exact Nat.le_refl _))
    refine wpAny_bind (fin (s := { s with heap := h }) (A := A.in1) hh D hst hend fun h' he => ?_)
    have at_ : ∀ a ∈ as, ∀ ob, h.get? a = some ob → h'.get? a = some ob := fun a ha ob e => by
      exact he a ob (Nat.ne_of_gt (Nat.lt_of_lt_of_le hlo.1 (hG.above a ha))) (Nat.ne_of_gt (Nat.lt_of_lt_of_le hlo.2.1 (hG.above a ha))) (Nat.ne_of_gt (Nat.lt_of_lt_of_le hlo.2.2.1 (hG.above a ha))) (Nat.ne_of_gt (Nat.lt_of_lt_of_le hlo.2.2.2 (hG.above a ha))) e
    refine wpAny_pure (hR h' acc c as (fun b o h1 h2 h3 h4 h5 e => he b o h2 h3 h4 h5 (hkeep b o h1 h2 h3 h4 h5 e)) (he S _ o.z o.TO o.i1 o.i2 hS) (by omega) ⟨hG.rise, hG.above, fun a ha => ?_, fun j a hj => ?_⟩ hacc)
    · obtain ⟨j, hj⟩ := List.mem_iff_getElem?.mp ha
      obtain ⟨x, y, _, _, e3⟩ := hG.pairs j a hj
      exact Heap.lt_size (at_ a ha _ e3)
    · obtain ⟨x, y, e1, e2, e3⟩ := hG.pairs j a hj
      exact ⟨x, y, e1, e2, at_ a (List.mem_of_getElem? hj) _ e3⟩
  | succ k ih =>
    intro i h c acc as hk hi hst hkeep hS hacc hal hG hlo2
    have hlt : i < min xs.size ys.size := by omega
    have hix : i < xs.size := Nat.lt_of_lt_of_le hlt (Nat.min_le_left ..)
    have hiy : i < ys.size := Nat.lt_of_lt_of_le hlt (Nat.min_le_right ..)
    have hsz : acc.size = i := by rw [← Array.length_toList, hacc, List.length_map, hal]
    refine codeAny_builtin PySem.F.entry_extend_loop ?_
    rw [Around.under_plainId PySem.F.plain_extend_loop _]
    show wpAny _ A.in1 (pyNext (.ref z) >>= _) _ _ _
    refine wpAny_bind (next (s := { s with heap := h }) (S := S) D hst (Heap.lt_size hS) (Array.getElem?_eq_getElem hix) (Array.getElem?_eq_getElem hiy) fun h' hst' ht hz hkp => ?_)
    dsimp only at ht hz hkp ⊢
    have hS' := hkp S _ o.z o.TO o.i1 o.i2 hS
    have up : ∀ b o, b ≠ S → h'.get? b = some o → (h'.update S (Obj.mapSeq (·.push (Value.ref h.objs.size)))).get? b = some o := fun b o hb e => (Heap.get?_update_other _ _ (Ne.symm hb)).trans e
    have hSh : S < h.objs.size := Heap.lt_size hS
    have atH : ∀ a ∈ as, ∀ ob, h.get? a = some ob → (h'.update S (Obj.mapSeq (·.push (Value.ref h.objs.size)))).get? a = some ob := fun a ha ob e => by
      exact up a ob (Nat.ne_of_gt (Nat.lt_of_lt_of_le hSl (hG.above a ha))) (hkp a ob (Nat.ne_of_gt (Nat.lt_of_lt_of_le hlo.1 (hG.above a ha))) (Nat.ne_of_gt (Nat.lt_of_lt_of_le hlo.2.1 (hG.above a ha))) (Nat.ne_of_gt (Nat.lt_of_lt_of_le hlo.2.2.1 (hG.above a ha))) (Nat.ne_of_gt (Nat.lt_of_lt_of_le hlo.2.2.2 (hG.above a ha))) e)
    have newT := up _ _ (Nat.ne_of_gt hSh) ht
    show wpAny _ A.in1 (updateSeq S (·.push (Value.ref h.objs.size)) >>= _) _ _ _
    refine wpAny_bind ?_
    refine wpAny_updateSeq hS' rfl (wpAny_pure ⟨plainId_quiet PySem.F.plain_extend_loop _, ih (i + 1) _ _ (acc.push (Value.ref h.objs.size)) (as ++ [h.objs.size]) (by omega) hlt (hst'.frame o up)
      (fun b o h1 h2 h3 h4 h5 e => up b o h1 (hkp b o h2 h3 h4 h5 (hkeep b o h1 h2 h3 h4 h5 e))) (Heap.get?_update_self _ hS' rfl) (by rw [Array.toList_push, hacc, List.map_append]; rfl) (by rw [List.length_append, hal]; rfl) ⟨?_, ?_, ?_, ?_⟩ (Nat.le_trans hlo2 (Nat.le_of_lt (Heap.lt_size newT)))⟩) (by rw [hsz]; omega) (by show (acc.push (Value.ref h.objs.size)).size ≤ sizeLine + 1; rw [Array.size_push, hsz]; omega)
    · refine List.pairwise_append.mpr ⟨hG.rise, List.pairwise_singleton _ _, fun a ha b hb => ?_⟩
      rw [List.mem_singleton.mp hb]
      exact hG.there a ha
    · intro a ha
      rcases List.mem_append.mp ha with ha | ha
      · exact hG.above a ha
      · rw [List.mem_singleton.mp ha]; exact hlo2
    · intro a ha
      rcases List.mem_append.mp ha with ha | ha
      · obtain ⟨j, hj⟩ := List.mem_iff_getElem?.mp ha
        obtain ⟨x, y, _, _, e3⟩ := hG.pairs j a hj
        exact Heap.lt_size (atH a ha _ e3)
      · rw [List.mem_singleton.mp ha]; exact Heap.lt_size newT
    · intro j b hj
      rcases Nat.lt_trichotomy j as.length with h1 | h1 | h1
      · rw [List.getElem?_append_left h1] at hj
        obtain ⟨x, y, e1, e2, e3⟩ := hG.pairs j b hj
        exact ⟨x, y, e1, e2, atH b (List.mem_of_getElem? hj) _ e3⟩
      · subst h1
        have hb : h.objs.size = b := by simpa using hj
        subst hb
        subst hal
        exact ⟨_, _, Array.getElem?_eq_getElem hix, Array.getElem?_eq_getElem hiy, newT⟩
      · have hnone : (as ++ [h.objs.size])[j]? = none := List.getElem?_eq_none (by rw [List.length_append, List.length_singleton]; omega)
        rw [hnone] at hj; cases hj
/-- list(z), z a zip that is as new -/
theorem call_list {Q : Value → Shared → Prop} (hh : A.handled = none) (D : ZipApart z TI TO i1 i2 l1 l2) (hn : min xs.size ys.size ≤ sizeLine) (hz : IsZip s.heap z TI TO .none) (hTI : IsPair s.heap TI (.ref i1) (.ref i2)) (hTO : ∃ a b, IsPair s.heap TO a b)
    (h1 : s.heap.IsListIter i1 l1 0) (h2 : s.heap.IsListIter i2 l2 0) (hl1 : s.heap.IsList l1 xs) (hl2 : s.heap.IsList l2 ys)
    (hQ : ∀ h' acc c as, (∀ b o, b ≠ z → b ≠ TO → b ≠ i1 → b ≠ i2 → s.heap.get? b = some o → h'.get? b = some o) → h'.get? s.heap.objs.size = some { cls := .type "list", dict := none, data := .seq acc c, slots := #[] } → as.length = min xs.size ys.size → Made xs ys (s.heap.objs.size + 1) h' as →
      acc.toList = as.map Value.ref → Q (.ref s.heap.objs.size) { s with heap := h' }) :
    wpAny (model prog w) A (call (.type "list") [.ref z]) Q E s := by
  refine callType_codes (Q₁ := fun obj s₁ => obj = .ref s.heap.objs.size ∧ s₁ = { s with heap := s.heap.push { cls := .type "list", data := .seq #[] } }) PySem.F.called_list (PySem.F.typeCall_list_1 _) PySem.F.entry_list_init
    (code_list_new _ ⟨rfl, rfl⟩) fun obj s₁ h₁ => ?_
  obtain ⟨rfl, rfl⟩ := h₁
  have hS : (s.heap.push { cls := .type "list", data := .seq #[] }).get? s.heap.objs.size = some { cls := .type "list", data := .seq #[] } := Heap.get?_push_size _ rfl
  refine ⟨⟨_, hS, rfl⟩, PySem.F.args_list_init_2 _ _, ?_⟩
  have lt : ∀ {c o}, s.heap.get? c = some o → s.heap.objs.size ≠ c := fun e => Nat.ne_of_gt (Heap.lt_size e)
  have off : Off s.heap.objs.size z TI TO i1 i2 l1 l2 := by
    obtain ⟨a, b, e3⟩ := hTO
    obtain ⟨_, e4, _⟩ := h1
    obtain ⟨_, e5, _⟩ := h2
    obtain ⟨_, e6, _⟩ := hl1
    obtain ⟨_, e7, _⟩ := hl2
    exact ⟨lt hz, lt hTI, lt e3, lt e4, lt e5, lt e6, lt e7⟩
  have lts : z < s.heap.objs.size + 1 ∧ TO < s.heap.objs.size + 1 ∧ i1 < s.heap.objs.size + 1 ∧ i2 < s.heap.objs.size + 1 := by
    obtain ⟨a, b, e3⟩ := hTO
    obtain ⟨_, e4, _⟩ := h1
    obtain ⟨_, e5, _⟩ := h2
    exact ⟨Nat.lt_succ_of_lt (Heap.lt_size hz), Nat.lt_succ_of_lt (Heap.lt_size e3), Nat.lt_succ_of_lt (Heap.lt_size e4), Nat.lt_succ_of_lt (Heap.lt_size e5)⟩
  have st0 : St s.heap.objs.size z TI TO i1 i2 l1 l2 xs ys 0 s.heap := ⟨hTI, h1, h2, hl1, hl2, .inl ⟨hz, hTO⟩⟩
  generalize hSS : s.heap.objs.size = S at hS off lts st0 hQ ⊢
  have hTy : ∀ h : Heap, IsZip h z TI TO .none → (({ s with heap := h } : Shared)).TypeIs (.ref z) "zip" := fun h e => ⟨_, e, rfl⟩
  -- the loop, from any heap that is as s's beside S
  have key : ∀ (h : Heap) (c₁ : Nat), (∀ b o, b ≠ S → s.heap.get? b = some o → h.get? b = some o) → h.get? S = some { cls := .type "list", data := .seq #[] c₁ } → S + 1 ≤ h.objs.size →
      codeAny (model prog w) A.in1 (.builtin "list.extend.loop" ⟨[.ref S, .ref z, .none], []⟩) (wants (fun r s₂ => r = .none ∧ Q (.ref S) s₂) E) { s with heap := h } := by
    intro h c₁ hk hS₁ hsz
    refine loop (A := A.in1) (s := s) (h₁ := s.heap) (lo := S + 1) (show A.in1.handled = none from hh) D off hn (Nat.lt_succ_self _) lts .none (fun h' acc c as hk' hS' hl hG hacc => ?_) _ 0 h c₁ #[] [] (Nat.sub_zero _) (Nat.zero_le _) (st0.frame off hk) (fun b o q1 _ _ _ _ e => hk b o q1 e) hS₁ rfl rfl ⟨List.Pairwise.nil, (fun _ ha => nomatch ha), (fun _ ha => nomatch ha), (fun j a hj => by simp at hj)⟩ hsz
    refine ⟨rfl, hQ h' acc c as (fun b o q1 q2 q3 q4 e => hk' b o (fun z => ?_) q1 q2 q3 q4 e) hS' hl hG hacc⟩
    rw [z, ← hSS] at e
    exact Nat.lt_irrefl _ (Heap.lt_size e)
  show wpAny _ _ (do let old ← Builtin.List.listItems (.ref S); Builtin.List.listUpdate (.ref S) (fun _ => #[]); letGo old.toList.reverse; Builtin.List.listExtendWith (.ref S) (.ref z) .none) _ _ _
  refine wpAny_bind ?_
  unfold Builtin.List.listItems
  refine wpAny_bind (wpAny_seqItems hS rfl (wpAny_pure ?_))
  show wpAny _ _ (updateSeq S (fun _ => #[]) >>= fun _ => letGo (#[] : Array Value).toList.reverse >>= fun _ => Builtin.List.listExtendWith (.ref S) (.ref z) .none) _ _ _
  refine wpAny_bind (wpAny_updateSeq hS rfl ?_)
  have hS₂ := Heap.get?_update_self (Obj.mapSeq (fun _ => (#[] : Array Value))) hS rfl
  refine wpAny_bind (wpAny_letGo ?_)
  generalize hh2 : (s.heap.push { cls := .type "list", data := .seq #[] }).update S (Obj.mapSeq (fun _ => (#[] : Array Value))) = h2 at hS₂ ⊢
  have kp2 : ∀ b o, b ≠ S → s.heap.get? b = some o → h2.get? b = some o := fun b o hb e => by
    rw [← hh2]
    exact (Heap.get?_update_other _ _ (Ne.symm hb)).trans (Heap.get?_push_of_some _ e)
  have hz2 : IsZip h2 z TI TO .none := kp2 z _ (Ne.symm off.z) hz
  unfold Builtin.List.listExtendWith
  refine wpAny_bind (wpAny_typeOf (T := "zip") (hTy h2 hz2) ?_)
  have g1 : Builtin.List.listSameRef (.ref S) (.ref z) = false := by simp [Builtin.List.listSameRef, off.z]
  have g2 : (Value.type "zip" == Value.type "list") = false := by decide
  have g3 : (Value.type "zip" == Value.type "tuple") = false := by decide
  simp only [g1, g2, g3, Bool.or_false, Bool.false_eq_true, if_false]
  refine wpAny_bind (wpAny_pyIter_zip hz2 ?_)
  refine wpAny_bind (wpAny_holding ?_)
  unfold Builtin.List.listLengthHint
  refine wpAny_bind (wpAny_specialOf (hTy h2 hz2) zip_no_len ?_)
  show wpAny _ _ (specialOf (Value.ref z) (Str.ofString "__length_hint__") >>= _) _ _ _
  refine wpAny_bind (wpAny_specialOf (hTy h2 hz2) zip_no_hint ?_)
  refine wpAny_pure ?_
  show wpAny _ _ (rule "list.extend.makes-room" >>= fun _ => Builtin.List.listTouch (.ref S) >>= fun _ => again (.builtin "list.extend.loop" ⟨[.ref S, .ref z, .none], []⟩)) _ _ _
  refine wpAny_bind (wpAny_rule ?_)
  refine wpAny_bind ?_
  show wpAny _ _ (updateSeq S (·.push .none) >>= fun _ => updateSeq S (·.pop)) _ _ _
  refine wpAny_bind (wpAny_updateSeq (hz := by seq_fits) hS₂ rfl ?_)
  have hS₃ := Heap.get?_update_self (Obj.mapSeq (·.push Value.none)) hS₂ rfl
  refine wpAny_updateSeq (hz := by seq_fits) hS₃ rfl ?_
  have hS₄ := Heap.get?_update_self (Obj.mapSeq (·.pop)) hS₃ rfl
  refine wpAny_pure ⟨plainId_quiet PySem.F.plain_extend_loop _, key _ _ (fun b o hb e => ?_) hS₄ (Heap.lt_size hS₄)⟩
  exact (Heap.get?_update_other _ _ (Ne.symm hb)).trans ((Heap.get?_update_other _ _ (Ne.symm hb)).trans (kp2 b o hb e))
end
end LZ
end
section
set_option Elab.async false
set_option linter.all false
set_option maxRecDepth 100000
namespace LZ
open PySem PySem.Spec PyProof.Rows L2
def foldP : List (Addr × List V) → Hp → Hp
  | [], H => H
  | p :: L, H => foldP L (upd H p.1 (.tup p.2))
def pairsP (L : List (Addr × V × V)) : List (Addr × List V) := L.map fun p => (p.1, [p.2.1, p.2.2])
/-- pairs that stand already are tracked -/
theorem takeP {X : Cx} {pins : List (Addr × Obj)} {σ : L2.St} {H0 : Hp} {s : Shared} {h' : Heap} {tk : Nat} (I0 : Inv X pins σ H0 s) : ∀ (L : List (Addr × List V)) (H1 : Hp), Inv X pins σ H1 { s with heap := h', toks := tk } → (L.map (·.1)).Nodup →
    (∀ p ∈ L, s.heap.objs.size ≤ p.1 ∧ H1 p.1 = none ∧ ∀ H2, ObjOk X.prog X.w H2 h' p.1 (.tup p.2)) → Inv X pins σ (foldP L H1) { s with heap := h', toks := tk }
  | [], H1, I1, _, _ => I1
  | p :: L, H1, I1, hn, h => by
    obtain ⟨hb, hnone, ok⟩ := h p (List.mem_cons_self ..)
    have I2 : Inv X pins σ (upd H1 p.1 (.tup p.2)) { s with heap := h', toks := tk } := I1.take (h' := h') (t' := tk) (fun b ob _ e => e) (I0.fpOk hb hnone) (ok _)
    rw [List.map_cons, List.nodup_cons] at hn
    refine takeP I0 L _ I2 hn.2 fun c hc => ?_
    obtain ⟨c1, c2, c3⟩ := h c (List.mem_cons_of_mem _ hc)
    refine ⟨c1, ?_, c3⟩
    rw [upd_ne (fun z => hn.1 (by rw [← z]; exact List.mem_map_of_mem hc))]
    exact c2
theorem fold_out {b : Addr} : ∀ (L : List (Addr × List V)) (H1 : Hp), b ∉ L.map (·.1) → (foldP L H1) b = H1 b
  | [], H1, _ => rfl
  | p :: L, H1, h => by
    rw [foldP, fold_out L _ fun z => h (by rw [List.map_cons]; exact List.mem_cons_of_mem _ z), upd_ne fun z => h (by rw [List.map_cons, z]; exact List.mem_cons_self ..)]
def tLz (K : PySem.W.Frag) (ta : TA) : TE := fun σ H Q => ta σ H fun vs H1 => ∃ a b xs ys, vs = [.ref a, .ref b] ∧ SqL K H1 a xs ∧ SqL K H1 b ys ∧
  ∀ (L : List (Addr × V × V)) (l : Addr), L.length = min xs.length ys.length → (∀ (j : Nat) (p : Addr × V × V), L[j]? = some p → xs[j]? = some p.2.1 ∧ ys[j]? = some p.2.2 ∧ H1 p.1 = none) → (L.map (·.1)).Nodup → l ∉ L.map (·.1) → H1 l = none →
    Q (.ref l) (upd (foldP (pairsP L) H1) l (.lst (L.map fun p => V.ref p.1)))
section
variable {X : Cx} {e e2 : Expr} {ta : TA} {p p2 pos pos2 : Pos}
theorem pe_lz (hc : X.calm = true) (hgl : Gl X "list") (hml : X.mg "list" = none) (hgz : Gl X "zip") (hmz : X.mg "zip" = none) (ha : PA X [e, e2] ta)
    (hs : starEach [e, e2] X.env = (false, eval e X.env) :: starEach [e2] X.env) (hpl : (backTo pos2 (starEach [e2] X.env)).any (·.1) = false)
    (hs2 : starEach [.Call (.Name "zip" p2) [e, e2] [] pos2] X.env = (false, eval (.Call (.Name "zip" p2) [e, e2] [] pos2) X.env) :: starEach [] X.env) (hpl2 : (backTo pos (starEach [] X.env)).any (·.1) = false)
    (hnil : backTo pos (starEach [] X.env) = [])
    (he1 : eval (.Call (.Name "list" p) [.Call (.Name "zip" p2) [e, e2] [] pos2] [] pos) X.env = (do callWith pos (← eval (.Name "list" p) X.env) [] (backTo pos (starEach [.Call (.Name "zip" p2) [e, e2] [] pos2] X.env)) (backToKw pos (keywordEach [] X.env))))
    (he2 : eval (.Call (.Name "zip" p2) [e, e2] [] pos2) X.env = (do callWith pos2 (← eval (.Name "zip" p2) X.env) [] (backTo pos2 (starEach [e, e2] X.env)) (backToKw pos2 (keywordEach [] X.env)))) :
    PE X (.Call (.Name "list" p) [.Call (.Name "zip" p2) [e, e2] [] pos2] [] pos) (tLz X.K ta) := by
  refine ⟨fun pins s σ H Q I h => ?_⟩
  refine Call_ (ld_blt I hgl hml PyProof.Rows.boot_list (PyProof.Rows.callWith_type1 ?_ hs2 hpl2)) he1
  rw [hs2]
  show wpAny _ _ (spliced ((false, _) :: backTo pos (starEach [] X.env))) _ _ s
  rw [hnil]
  refine Calls.spliced_cons (Call_ (ld_blt I hgz hmz PyProof.Rows.boot_zip (PyProof.Rows.callWith_type1 (thn (ha.run pos2 pins s σ H _ I h) fun us s1 ⟨vs, H1, I1, r1, q1⟩ => ?_) hs hpl)) he2)
  obtain ⟨a, b, xs, ys, ex, hqx, hqy, q⟩ := q1
  subst ex
  cases r1 with
  | cons r rr =>
    cases rr with
    | cons r' rr =>
      cases rr
      cases r
      cases r'
      obtain ⟨its, rv, p1, zx⟩ := I1.list hqx
      obtain ⟨its2, rv2, p2, zy⟩ := I1.list hqy
      have l1 := rv.length
      have l2 := rv2.length
      refine call_zip_2 p1.isList p2.isList fun h' hz hTI hTO h1 h2 hsz hk => ?_
      refine Calls.spliced_nil ?_
      have D := PySem.W.ktu_apart s1.heap.objs.size a b p1.lt p2.lt
      have kl1 : h'.IsList a its.toArray := p1.isList.at fun o e => hk _ o e
      have kl2 : h'.IsList b its2.toArray := p2.isList.at fun o e => hk _ o e
      have hmin : min its.toArray.size its2.toArray.size = min xs.length ys.length := by rw [List.size_toArray, List.size_toArray, l1, l2]
      refine call_list (s := { s1 with heap := h' }) (I1.ok.hd hc) D (by rw [hmin]; exact Nat.le_trans (Nat.min_le_left _ _) (by first | exact zx | (rw [l1]; exact zx))) hz hTI ⟨_, _, hTO⟩ h1 h2 kl1 kl2 fun h2' acc c as hk2 hS hl hG hacc => ?_
      -- the pairs by their values
      have hS' : h2'.get? h'.objs.size = some { cls := .type "list", dict := none, data := .seq acc c, slots := #[] } := hS
      have hl : as.length = min xs.length ys.length := hl.trans hmin
      have hk3 : ∀ b o, s1.heap.get? b = some o → h2'.get? b = some o := fun b o e => by
        have hlt := Heap.lt_size e
        exact hk2 b o (Nat.ne_of_lt (Nat.lt_of_lt_of_le hlt (Nat.le_add_right _ _))) (Nat.ne_of_lt (Nat.lt_of_lt_of_le hlt (Nat.le_add_right _ _))) (Nat.ne_of_lt hlt) (Nat.ne_of_lt (Nat.lt_of_lt_of_le hlt (Nat.le_add_right _ _))) (hk b o e)
      have I2 : Inv X pins σ H1 { s1 with heap := h2' } := I1.kept (t' := s1.toks) hk3
      let L : List (Addr × V × V) := (as.zip (xs.zip ys))
      have hLl : L.length = min xs.length ys.length := by
        show (as.zip (xs.zip ys)).length = _
        rw [List.length_zip, List.length_zip, hl, Nat.min_self]
      have hL1 : L.map (·.1) = as := by
        show (as.zip (xs.zip ys)).map (·.1) = as
        exact List.map_fst_zip (by rw [hl, List.length_zip]; exact Nat.le_refl _)
      have lo : h'.objs.size = s1.heap.objs.size + 5 := hsz
      have above : ∀ a ∈ as, h'.objs.size + 1 ≤ a := hG.above
      have nd : as.Nodup := List.Pairwise.imp (fun h => Nat.ne_of_lt h) hG.rise
      have fresh : ∀ a, s1.heap.objs.size ≤ a → H1 a = none := fun a h => I1.hok.fresh h
      have big : ∀ a ∈ as, s1.heap.objs.size ≤ a := fun a ha => Nat.le_trans (by rw [lo]; exact Nat.le_add_right _ 6) (above a ha)
      have getL : ∀ (j : Nat) (p : Addr × V × V), L[j]? = some p → as[j]? = some p.1 ∧ xs[j]? = some p.2.1 ∧ ys[j]? = some p.2.2 := fun j p hj => by
        have hj : (as.zip (xs.zip ys))[j]? = some p := hj
        obtain ⟨h1, h2⟩ := List.getElem?_zip_eq_some.mp hj
        obtain ⟨h3, h4⟩ := List.getElem?_zip_eq_some.mp h2
        exact ⟨h1, h3, h4⟩
      have I3 : Inv X pins σ (foldP (pairsP L) H1) { s1 with heap := h2' } := by
        refine takeP (tk := s1.toks) I1 _ H1 I2 ?_ fun p hp => ?_
        · unfold pairsP
          rw [List.map_map]
          show (L.map fun p => p.1).Nodup
          rw [hL1]
          exact nd
        · obtain ⟨p', hp', ep⟩ := List.mem_map.mp hp
          obtain ⟨j, hj⟩ := List.mem_iff_getElem?.mp hp'
          obtain ⟨g1, g2, g3⟩ := getL j p' hj
          obtain ⟨x, y, e1, e2, e3⟩ := hG.pairs j _ g1
          subst ep
          have ha := List.mem_of_getElem? g1
          refine ⟨big _ ha, fresh _ (big _ ha), fun H2 => ⟨by show 2 ≤ sizeLine; decide, [x, y], ?_, ⟨_, e3, rfl, _, rfl⟩⟩⟩
          obtain ⟨u, hu, ru⟩ := rv.get g2
          obtain ⟨u', hu', ru'⟩ := rv2.get g3
          have e1 : its[j]? = some x := by simpa using e1
          have e2 : its2[j]? = some y := by simpa using e2
          rw [hu] at e1
          rw [hu'] at e2
          cases e1
          cases e2
          exact .cons ru (.cons ru' .nil)
      have hlS : h'.objs.size ∉ L.map (·.1) := fun z => by
        rw [hL1] at z
        exact Nat.lt_irrefl _ (above _ z)
      have bigS : s1.heap.objs.size ≤ h'.objs.size := by rw [lo]; exact Nat.le_add_right _ _
      have nS : (foldP (pairsP L) H1) h'.objs.size = none := by
        rw [fold_out _ _ (by unfold pairsP; rw [List.map_map]; exact hlS)]
        exact fresh _ bigS
      have rvL : Vals (L.map fun p => V.ref p.1) acc.toList := by
        rw [hacc]
        have e1 : (L.map fun p => V.ref p.1) = as.map V.ref := by
          rw [← hL1, List.map_map]
          rfl
        rw [e1]
        exact vals_maps (fun a : Addr => V.ref a) (fun a => Value.ref a) as fun _ _ => rfl
      have I4 : Inv X pins σ (upd (foldP (pairsP L) H1) h'.objs.size (.lst (L.map fun p => V.ref p.1))) { s1 with heap := h2' } :=
        I3.take (h' := h2') (t' := s1.toks) (fun b ob _ e => e) (I1.fpOk bigS nS) ⟨by rw [List.length_map, hLl]; exact Nat.le_trans (Nat.min_le_left _ _) (by first | exact zx | (rw [l1]; exact zx)), acc.toList, c, rvL, by rw [Array.toArray_toList]; exact hS'⟩
      exact ⟨.ref h'.objs.size, _, I4, rfl, q L h'.objs.size hLl (fun j p hj => by
        obtain ⟨g1, g2, g3⟩ := getL j p hj
        exact ⟨g2, g3, fresh _ (big _ (List.mem_of_getElem? g1))⟩) (by rw [hL1]; exact nd) hlS (fresh _ bigS)⟩
end
end LZ
end
section
set_option Elab.async false
set_option linter.all false
set_option autoImplicit false
set_option maxRecDepth 100000
namespace L2.Pv
open PySem PySem.Spec PyProof.Rows

/-! ### list(zip(a, b)) -/
section
variable {Γ : Gm} {F : Fr} {σ : St} {sl : TS'}
/-- pairs that are new -/
theorem Abs.pairs : ∀ (L : List (Addr × V × V)) {H G : Hp} {tm : List T} (ds es : List D), Abs Γ F σ H G sl tm → (∀ (j : Nat) (p : Addr × V × V), L[j]? = some p → ∃ a b, ds[j]? = some a ∧ es[j]? = some b ∧ Rep Γ G p.2.1 a ∧ Rep Γ G p.2.2 b ∧ H p.1 = none) → (L.map (·.1)).Nodup → L.length = (zipD ds es).length →
    ∃ G' ts, Abs Γ F σ (LZ.foldP (LZ.pairsP L) H) G' sl (ts ++ tm) ∧ Sub G G' ∧ ts.map T.v = L.map (fun p => V.ref p.1) ∧ ts.map T.d = zipD ds es
  | [], H, G, tm, ds, es, A, _, _, hl => ⟨G, [], A, Sub.refl G, rfl, by
    have : zipD ds es = [] := List.eq_nil_of_length_eq_zero hl.symm
    rw [this]; rfl⟩
  | p :: L, H, G, tm, ds, es, A, h, nd, hl => by
    obtain ⟨a, b, e1, e2, r1, r2, hn⟩ := h 0 p rfl
    cases ds with
    | nil => simp at e1
    | cons d ds =>
      cases es with
      | nil => simp at e2
      | cons e es =>
        have e1 : d = a := by simpa using e1
        have e2 : e = b := by simpa using e2
        subst e1 e2
        obtain ⟨G1, t, B, s1, ev, ed⟩ := A.pair r1 r2 hn
        rw [List.map_cons, List.nodup_cons] at nd
        obtain ⟨G2, ts, C, s2, ev2, ed2⟩ := Abs.pairs L (H := upd H p.1 (.tup [p.2.1, p.2.2])) ds es B (fun j q hj => by
          obtain ⟨a', b', f1, f2, f3, f4, f5⟩ := h (j + 1) q (by simpa using hj)
          refine ⟨a', b', by simpa using f1, by simpa using f2, f3.mono s1 a', f4.mono s1 b', ?_⟩
          rw [upd_ne (fun z => nd.1 (by rw [← z]; exact List.mem_map_of_mem (List.mem_of_getElem? hj)))]
          exact f5) nd.2 (by unfold zipD at hl ⊢; simpa using hl)
        refine ⟨G2, t :: ts, C.swap, s1.trans s2, by rw [List.map_cons, ev, ev2]; rfl, ?_⟩
        rw [List.map_cons, ed, ed2]
        rfl
end
def lzO (ds : List D) : Option D := match ds with
  | [.lst _ xs, .lst _ ys] => some (.lst true (zipD (D.frzs xs) (D.frzs ys)))
  | _ => none
theorem lzO_of {a b : D} {d : D} (h : lzO [a, b] = some d) : ∃ o xs o' ys, a = .lst o xs ∧ b = .lst o' ys ∧ d = .lst true (zipD (D.frzs xs) (D.frzs ys)) := by
  unfold lzO at h
  split at h
  · rename_i o xs o' ys e
    cases e
    cases h
    exact ⟨_, _, _, _, rfl, rfl, rfl⟩
  · cases h
def eLz (fa : EvA) : Ev := fun δ => (fa δ).bd fun ds δ' => lft (lzO ds) δ'
section
variable {X : Cx} {Γ : Gm} {E : WX} {W : List Nat} {e e2 : Expr} {fa : EvA} {p p2 pos pos2 : Pos}
theorem se_lz (hc : X.calm = true) (hgl : Gl X "list") (hml : X.mg "list" = none) (hgz : Gl X "zip") (hmz : X.mg "zip" = none) (ha : SA X Γ E W 2 [e, e2] fa)
    (hs : starEach [e, e2] X.env = (false, eval e X.env) :: starEach [e2] X.env) (hpl : (backTo pos2 (starEach [e2] X.env)).any (·.1) = false)
    (hs2 : starEach [.Call (.Name "zip" p2) [e, e2] [] pos2] X.env = (false, eval (.Call (.Name "zip" p2) [e, e2] [] pos2) X.env) :: starEach [] X.env) (hpl2 : (backTo pos (starEach [] X.env)).any (·.1) = false)
    (hnil : backTo pos (starEach [] X.env) = [])
    (he1 : eval (.Call (.Name "list" p) [.Call (.Name "zip" p2) [e, e2] [] pos2] [] pos) X.env = (do callWith pos (← eval (.Name "list" p) X.env) [] (backTo pos (starEach [.Call (.Name "zip" p2) [e, e2] [] pos2] X.env)) (backToKw pos (keywordEach [] X.env))))
    (he2 : eval (.Call (.Name "zip" p2) [e, e2] [] pos2) X.env = (do callWith pos2 (← eval (.Name "zip" p2) X.env) [] (backTo pos2 (starEach [e, e2] X.env)) (backToKw pos2 (keywordEach [] X.env)))) :
    SE X Γ E W (.Call (.Name "list" p) [.Call (.Name "zip" p2) [e, e2] [] pos2] [] pos) (eLz fa) := fun hK => (LZ.pe_lz hc hgl hml hgz hmz (ha hK) hs hpl hs2 hpl2 hnil he1 he2).imp fun σ H Q ⟨F, G, sl, tm, A, q⟩ => by
  refine ⟨F, G, sl, tm, A, ?_⟩
  unfold eLz at q
  cases hf : fa (dsl sl) with
  | stuck => rw [hf] at q; exact q
  | exc c fs δ => rw [hf] at q; exact q
  | ok ds δ =>
    rw [hf, bd_ok] at q
    intro H1 G1 sl1 ts A1 s1 hl ets e1 k1
    obtain ⟨t1, t2, rfl⟩ : ∃ t1 t2, ts = [t1, t2] := by
      match ts, hl with
      | [t1, t2], _ => exact ⟨t1, t2, rfl⟩
    obtain ⟨B, v1, r1, ev1, rp1, v2, r2, ev2, rp2, _⟩ := A1.freeze
    cases ev1
    cases ev2
    have s2 : Sub G1 (frzH G1 H1 [t1, t2]) := frzH_sub fun a ha => (A1.sep a (by rw [cnts_append]; omega)).1
    have ets : [t1.d, t2.d] = ds := ets
    subst ets
    cases hz : lzO [t1.d, t2.d] with
    | none => rw [hz] at q; exact q.elim
    | some d =>
      rw [hz, lft_some] at q
      obtain ⟨o, xs, o', ys, e1', e2', rfl⟩ := lzO_of hz
      rw [e1'] at rp1
      rw [e2'] at rp2
      obtain ⟨z1, a, vs, ev1, q1, r1⟩ := rp1
      obtain ⟨z2, b, ws, ev2, q2, r2⟩ := rp2
      refine ⟨a, b, vs, ws, by rw [List.map_cons, List.map_cons, ev1, ev2]; rfl, SqL.of (B.sub _ _ q1), SqL.of (B.sub _ _ q2), fun L l hL hj hn hll hl0 => ?_⟩
      obtain ⟨G2, ts, C, s3, ev, ed⟩ := Abs.pairs L (D.frzs xs) (D.frzs ys) B (fun j p hp => by
        obtain ⟨h1, h2, h3⟩ := hj j p hp
        have g1 : j < (D.frzs xs).length := by rw [← r1.len]; exact (List.getElem?_eq_some_iff.mp h1).1
        have g2 : j < (D.frzs ys).length := by rw [← r2.len]; exact (List.getElem?_eq_some_iff.mp h2).1
        obtain ⟨v, hv, rv⟩ := r1.get (List.getElem?_eq_getElem g1)
        obtain ⟨w, hw, rw'⟩ := r2.get (List.getElem?_eq_getElem g2)
        rw [h1] at hv
        rw [h2] at hw
        cases hv
        cases hw
        exact ⟨_, _, List.getElem?_eq_getElem g1, List.getElem?_eq_getElem g2, rv, rw', h3⟩) hn (by unfold zipD; rw [List.length_zipWith, hL, r1.len, r2.len])
      have hzl : (zipD (D.frzs xs) (D.frzs ys)).length ≤ sizeLine := by unfold zipD; rw [List.length_zipWith]; have := z1.2; omega
      have D' := C.newLst (p := l) (by rw [LZ.fold_out _ _ (by unfold LZ.pairsP; rw [List.map_map]; exact hll)]; exact hl0) (by rw [← List.length_map (f := T.d), ed]; exact hzl)
      rw [ev] at D'
      exact q _ G2 sl1 (.lst l ts) D' (s1.trans (s2.trans s3)) (by rw [T.d, T.ds_map, ed]) e1 k1
end
end L2.Pv
end
section
set_option Elab.async false
set_option linter.all false
set_option maxRecDepth 100000
/-! t[::-1] of a tuple -/
namespace RvT
open PySem PySem.Spec PyProof.Rows
section
variable {prog : Program} {w : World} {A : Around} {E : Value → Shared → Prop} {s : Shared}
theorem adj (n : Nat) : Builtin.Slice.sliceAdjust none none (-1) (n : Int) = ((n : Int) - 1, -1) := by
  unfold Builtin.Slice.sliceAdjust
  rfl
theorem plc (n : Nat) : Builtin.Slice.slicePlaces ((n : Int) - 1) (-1) (-1) = n := by
  unfold Builtin.Slice.slicePlaces
  have h0 : ¬ ((-1 : Int) > 0) := by omega
  have h1 : (- -1 : Int) = 1 := rfl
  simp only [h0, if_false, h1, Int.ediv_one]
  split <;> omega
theorem pick (xs : Array Value) : ((List.range xs.size).filterMap fun (m : Nat) => xs[((xs.size : Int) - 1 + (m : Int) * (-1)).toNat]?).toArray = xs.toList.reverse.toArray := by
  congr 1
  have e : ∀ l : List Value, ((List.range l.length).filterMap fun (m : Nat) => l.toArray[((l.length : Int) - 1 + (m : Int) * (-1)).toNat]?) = l.reverse := by
    intro l
    have key : ∀ m, m < l.length → l.toArray[((l.length : Int) - 1 + (m : Int) * (-1)).toNat]? = l.reverse[m]? := fun m hm => by
      have e1 : ((l.length : Int) - 1 + (m : Int) * (-1)).toNat = l.length - 1 - m := by omega
      rw [e1, List.getElem?_reverse hm]
      simp
    have h : ((List.range l.length).filterMap fun (m : Nat) => l.toArray[((l.length : Int) - 1 + (m : Int) * (-1)).toNat]?) = (List.range l.length).filterMap fun m => l.reverse[m]? := by
      have cong : ∀ (r : List Nat), (∀ m ∈ r, m < l.length) → (r.filterMap fun (m : Nat) => l.toArray[((l.length : Int) - 1 + (m : Int) * (-1)).toNat]?) = r.filterMap fun m => l.reverse[m]? := by
        intro r
        induction r with
        | nil => intro _; rfl
        | cons m r ih =>
          intro hr
          rw [List.filterMap_cons, List.filterMap_cons, ih fun k hk => hr k (List.mem_cons_of_mem _ hk), key m (hr m List.mem_cons_self)]
      exact cong _ fun m hm => List.mem_range.mp hm
    rw [h]
    have h2 := PySem.W.krv_all l.reverse.toArray
    simpa using h2
  have := e xs.toList
  simpa using this
theorem applied {sl : Addr} {vl vu vs : Value} {n : Nat} {Q : Int × Int × Nat → Shared → Prop} (hs : s.heap.IsSliceOf sl vl vu vs) (pl : IsPart vl none) (pu : IsPart vu none) (ps : IsPart vs (some (-1)))
    (h : Q ((n : Int) - 1, -1, n) s) : wpAny (model prog w) A (Builtin.Slice.sliceApplied (.ref sl) (pure (n : Int))) Q E s := by
  obtain ⟨os, hos, hcs, hds⟩ := id hs
  unfold Builtin.Slice.sliceApplied Builtin.Slice.sliceFields
  refine wpAny_bind (wpAny_bind (wpAny_field hos hds (x := vl) rfl (wpAny_bind (wpAny_field hos hds (x := vu) rfl (wpAny_bind (wpAny_field hos hds (x := vs) rfl (wpAny_pure ?_)))))))
  refine wpAny_bind (HT.slicePart_ ps ?_)
  show wpAny _ _ (if ((-1 : Int) == 0) = true then _ else _) _ _ s
  rw [if_neg (by decide)]
  refine wpAny_bind (HT.slicePart_ pl (wpAny_bind (HT.slicePart_ pu (wpAny_bind (wpAny_pure ?_)))))
  show wpAny _ _ (match Builtin.Slice.sliceAdjust none none (-1) (n : Int) with | (lo, hi) => pure (lo, (-1 : Int), Builtin.Slice.slicePlaces lo hi (-1))) _ _ s
  rw [adj n]
  show wpAny _ _ (pure (((n : Int) - 1), (-1 : Int), Builtin.Slice.slicePlaces ((n : Int) - 1) (-1) (-1))) _ _ s
  rw [plc]
  exact wpAny_pure h
theorem getItem_rev {t sl : Addr} {items : Array Value} {vl vu vs : Value} {Q : Value → Shared → Prop} (ht : IsTup s.heap t items) (hs : s.heap.IsSliceOf sl vl vu vs) (pl : IsPart vl none) (pu : IsPart vu none) (ps : IsPart vs (some (-1)))
    (h : Q (.ref s.heap.objs.size) { s with heap := s.heap.push { cls := .type "tuple", data := .seq items.toList.reverse.toArray } })
    (hsz : items.size ≤ sizeLine) : wpAny (model prog w) A (getItem (.ref t) (.ref sl)) Q E s := by
  have htake : sizeOk (.seq items.toList.reverse.toArray) := by
    show items.toList.reverse.toArray.size ≤ sizeLine
    simpa using hsz
  obtain ⟨os, hos, hcs, hds⟩ := id hs
  have hTs : s.TypeIs (.ref sl) "slice" := ⟨os, hos, hcs⟩
  unfold getItem
  try with_reducible refine wpAny_holding ?_
  first | refine wpAny_bind (wpAny_pure ?_) | skip
  refine wpAny_bind (wpAny_sequenceKey ht.typeIs (by decide) ?_)
  refine wpAny_bind (wpAny_callSpecial?_slot (name := Str.ofString "__getitem__") ht.typeIs PyProof.Rows.slot_tuple_getitem
    (wpAny_call_entry PyProof.Rows.slot_tuple_getitem ht.typeIs entry_tuple_getitem ?_ (args_tuple_getitem _ _)))
  show wpAny _ _ (Builtin.Tuple.tupleItemsOf (.ref t) >>= _) _ _ s
  refine wpAny_bind (tupleItemsOf_ ht ?_)
  refine wpAny_bind (wpAny_typeOf hTs ?_)
  rw [if_pos (by decide)]
  refine wpAny_bind (applied hs pl pu ps ?_)
  have hno : ¬ ((((items.size : Int) - 1) == 0 && (-1 : Int) == 1 && items.size == items.size) = true) := by
    intro q
    rw [Bool.and_eq_true, Bool.and_eq_true] at q
    exact absurd q.1.2 (by decide)
  show wpAny _ _ (if (((items.size : Int) - 1) == 0 && (-1 : Int) == 1 && items.size == items.size) = true then _ else _) _ _ s
  rw [if_neg hno, pick]
  first
    | exact wpAny_bind (m := Builtin.Tuple.tupleExact _) (wpAny_newObj_type (wpAny_pure ⟨_, rfl, wpAny_pure h⟩) htake)
    | exact wpAny_bind (m := Builtin.Tuple.tupleExact _) (wpAny_newObj_type (wpAny_bind (wpAny_pure (wpAny_pure ⟨_, rfl, wpAny_pure h⟩))) htake)
    | exact wpAny_bind (wpAny_bind (m := Builtin.Tuple.tupleExact _) (wpAny_newObj_type (wpAny_pure (wpAny_pure ⟨_, rfl, wpAny_pure h⟩)) htake))
    | exact wpAny_bind (wpAny_bind (m := Builtin.Tuple.tupleExact _) (wpAny_newObj_type (wpAny_pure ⟨_, rfl, wpAny_pure h⟩) htake))
end
end RvT
namespace L2
open PySem PySem.Spec PyProof.Rows
section
variable {X : Cx}
/-- xs[::-1], a list or a tuple -/
def tRevA (K : PySem.W.Frag) (te : TE) : TE := fun σ H Q => te σ H fun x H1 => ∃ a xs, x = .ref a ∧ ((SqL K H1 a xs ∧ ∀ p, H1 p = none → Q (.ref p) (upd H1 p (.lst xs.reverse))) ∨ (SqT K H1 a xs ∧ ∀ p, H1 p = none → Q (.ref p) (upd H1 p (.tup xs.reverse))))
theorem pe_revA {e : Expr} {te : TE} {k : Nat} {p1 p2 p3 pos : Pos} (he : PE X e te) : PE X (.Subscript e (.Slice none none (some (.UnaryOp .USub (.Constant (.int 1) k p1) p2)) p3) pos) (tRevA X.K te) := by
  refine ⟨fun pins s σ H Q I h => ?_⟩
  refine Subscript_ (thn (he.run pins s σ H _ I h) fun v s1 ⟨x, H1, I1, r1, q1⟩ => ?_)
  obtain ⟨a, xs, ex, q⟩ := q1
  subst ex
  cases r1
  have hst : PO X (some (.UnaryOp .USub (.Constant (.int 1) k p1) p2)) (tPart (tUn (rU fun i => .int (-i)) (tC (.int 1)))) := po_some (pe_un un_neg pe_int)
  refine wpAny_Slice (thn (po_none.run pins s1 σ H1 (fun o H2 => o = none ∧ H2 = H1) I1 ⟨rfl, rfl⟩) fun vl s2 ⟨l, H2, I2, pl, el, e2⟩ => ?_)
  subst el e2
  refine thn (po_none.run pins s2 σ H2 (fun o H3 => o = none ∧ H3 = H2) I2 ⟨rfl, rfl⟩) fun vu s3 ⟨u, H3, I3, pu, eu, e3⟩ => ?_
  subst eu e3
  refine thn (hst.run pins s3 σ H3 (fun o H4 => o = some (-1) ∧ H4 = H3) I3 ⟨1, rfl, -1, rfl, rfl, rfl⟩) fun vs s4 ⟨o, H4, I4, ps, eo, e4⟩ => ?_
  subst eo e4
  have I5 : Inv X pins σ H4 { s4 with heap := s4.heap.push { cls := .type "slice", data := .fields #[vl, vu, vs] } } := I4.kept (t' := s4.toks) fun b ob q => Heap.get?_push_of_some _ q
  show wpAny (model X.prog X.w) X.A (subscriptTail e (.Slice none none (some (.UnaryOp .USub (.Constant (.int 1) k p1) p2)) p3) (.ref a) (.ref s4.heap.objs.size)) (EP X pins σ Q) X.xe { s4 with heap := s4.heap.push { cls := .type "slice", data := .fields #[vl, vu, vs] } }
  rcases q with ⟨hx, q⟩ | ⟨hx, q⟩
  · obtain ⟨its, r, ht, hz⟩ := I5.list hx
    have hlen := r.length
    refine tail_any (ops := [.ref a, .ref s4.heap.objs.size]) ht.isList.typeIs (PySem.slot_list_getitem.lookup) ?_ (by with_unfolding_all rfl)
    refine wpAny_getItem_list_slice ht.isList (Heap.IsSliceOf.new _ vl vu vs) pl pu ps (by decide) ?_ (by rw [List.size_toArray]; omega)
    rw [PySem.W.krv_pick]
    refine ⟨.ref _, _, I5.laid (t' := s4.toks) (o := .lst xs.reverse) (fun b ob q => Heap.get?_push_of_some _ q) (Nat.le_refl _) ?_, rfl, q _ (I5.hok.fresh (Nat.le_refl _))⟩
    exact ⟨by rw [List.length_reverse]; exact hz, _, 0, r.reverse, Heap.get?_push_size _ rfl⟩
  · obtain ⟨its, r, ht, hz⟩ := I5.tuple hx
    have hlen := r.length
    refine tail_any (ops := [.ref a, .ref s4.heap.objs.size]) ht.typeIs (PyProof.Rows.slot_tuple_getitem.lookup) ?_ (by with_unfolding_all rfl)
    refine RvT.getItem_rev ht (Heap.IsSliceOf.new _ vl vu vs) pl pu ps ?_ (by rw [List.size_toArray]; omega)
    refine ⟨.ref _, _, I5.laid (t' := s4.toks) (o := .tup xs.reverse) (fun b ob q => Heap.get?_push_of_some _ q) (Nat.le_refl _) ?_, rfl, q _ (I5.hok.fresh (Nat.le_refl _))⟩
    exact ⟨by rw [List.length_reverse]; exact hz, its.reverse, r.reverse, ⟨_, Heap.get?_push_size _ rfl, rfl, 0, rfl⟩⟩
end
end L2
end
section
set_option Elab.async false
set_option linter.all false
set_option autoImplicit false
set_option maxRecDepth 100000
namespace L2.Pv
open PySem PySem.Spec PyProof.Rows

/-! ### assignments -/
def sAsg (fe : Ev) (fg : Eg) : Es := fun δ => (fe δ).st fun d δ1 => og (fg d δ1) fun δ2 => .nx δ2
def sPar (i j : Nat) (fa : EvA) : Es := fun δ => (fa δ).st fun ds δ1 => match ds with
  | [a, b] => if i < δ1.length ∧ j < δ1.length then .nx ((δ1.set i (some a)).set j (some b)) else .stuck
  | _ => .stuck
def sPar3 (i j k : Nat) (fa : EvA) : Es := fun δ => (fa δ).st fun ds δ1 => match ds with
  | [a, b, c] => if i < δ1.length ∧ j < δ1.length ∧ k < δ1.length then .nx (((δ1.set i (some a)).set j (some b)).set k (some c)) else .stuck
  | _ => .stuck
def sParT (n : Nat) (fa : EvA) (fg : Egs) : Es := fun δ => (fa δ).st fun ds δ1 => if ds.length = n then og (fg ds δ1) fun δ2 => .nx δ2 else .stuck
section
variable {X : Cx} {Γ : Gm} {E : WX} {P W S : List Nat} {e tg : Expr} {es tgs : List Expr} {fe : Ev} {fg : Eg} {fgs : Egs} {fa : EvA} {n : Nat} {pos : Pos}
theorem ss_asg (he : SE X Γ E W e fe) (hg : SG X Γ S tg fg) (hPS : ∀ i, i ∈ P → i ∉ S) (hs : swapsWithSole [tg] e pos.line X.env = pure false) (hw : swappedStores [tg] e X.env = pure none)
    (h1 : (assignEach [tg] X.env).map (·.2) = [assign tg X.env]) : SS X Γ E P (.Assign [tg] e pos) (sAsg fe fg) := fun hK => (ps_asg (he hK) (hg hK) hs hw h1).imp fun Z σ H ⟨F, G, sl, tm, A, q⟩ =>
  e_run A q fun d δ H1 G1 sl1 t A1 s1 ed e1 _ q1 => by
    refine ⟨F, G1, sl1, tm, t, A1, rfl, ?_⟩
    rw [ed, e1]
    cases hf : fg d δ with
    | none => rw [hf] at q1; exact q1.elim
    | some δ2 =>
      rw [hf, og_some] at q1
      exact fun σ' H' G' sl' A' s o _ e => q1 σ' H' G' sl' A' s (o.prot hPS) e
/-- the arguments' run -/
theorem a_run {σ : St} {H : Hp} {F : Fr} {G : Hp} {sl : TS'} {tm : List T} {Z : Ends} {k : List D → DS → SOut} (A : Abs Γ F σ H G sl tm) (q : PostS Γ E P F σ G tm Z ((fa (dsl sl)).st k)) {Q : List V → Hp → Prop}
    (h : ∀ ds δ H' G' sl' ts, Abs Γ F σ H' G' sl' (ts ++ tm) → Sub G G' → ts.length = n → ts.map T.d = ds → dsl sl' = δ → Keep W sl sl' → PostS Γ E P F σ G' tm Z (k ds δ) → Q (ts.map T.v) H') : tA Γ E W n fa σ H Q := by
  refine ⟨F, G, sl, tm, A, ?_⟩
  cases hf : fa (dsl sl) with
  | ok d δ =>
    rw [hf, st_ok] at q
    exact fun H' G' sl' ts A' s hl e e' k' => h d δ H' G' sl' ts A' s hl e e' k' (q.later s (Prot.refl _ _))
  | exc c fs δ => rw [hf, st_exc] at q; exact q σ (Prot.refl _ _)
  | stuck => rw [hf] at q; exact q
theorem ss_par {i j : Nat} {x y : Str} {a b : Expr} {px py pt : Pos} {kt k2 : Nat} {pt2 : Pos} (hc : X.calm = true) (hN : X.N.Nodup) (hi : X.N[i]? = some x) (hj : X.N[j]? = some y) (hij : i ≠ j)
    (hx : X.env.scope.names.lookup x = some .local) (hy : X.env.scope.names.lookup y = some .local) (ha : SA X Γ E W 2 [a, b] fa) (hpi : i ∉ P) (hpj : j ∉ P)
    (hw : swappedStores [.Tuple [.Name x px, .Name y py] kt pt] (.Tuple [a, b] k2 pt2) X.env = pure (some [x, y]))
    (hs : swapsWithSole [.Tuple [.Name x px, .Name y py] kt pt] (.Tuple [a, b] k2 pt2) pos.line X.env = pure false) :
    SS X Γ E P (.Assign [.Tuple [.Name x px, .Name y py] kt pt] (.Tuple [a, b] k2 pt2) pos) (sPar i j fa) := fun hK => (ps_par hc hN hi hj hij hx hy (ha hK) hw hs).imp fun Z σ H ⟨F, G, sl, tm, A, q⟩ =>
  a_run A q fun ds δ H1 G1 sl1 ts A1 s1 hl eds e1 _ q1 => by
    match ts, hl with
    | [t1, t2], _ =>
      subst eds
      refine ⟨t1.v, t2.v, rfl, ?_⟩
      have q1 : PostS Γ E P F σ G1 tm Z (if i < δ.length ∧ j < δ.length then .nx ((δ.set i (some t1.d)).set j (some t2.d)) else .stuck) := q1
      by_cases h : i < δ.length ∧ j < δ.length
      · rw [if_pos h] at q1
        rw [← e1, dsl_len] at h
        have B := A1.store (i := i) h.1
        have C := Abs.store (i := j) (show Abs Γ F _ H1 G1 (sl1.set i (some t1)) (t2 :: tm) from B) (by simpa using h.2)
        refine q1 _ H1 G1 _ C (Sub.refl _) (fun k hk => ?_) (by rw [dsl_set', dsl_set', e1])
        rw [List.getElem?_set_ne (show j ≠ k from fun z => hpj (z ▸ hk)), List.getElem?_set_ne (show i ≠ k from fun z => hpi (z ▸ hk))]
      · rw [if_neg h] at q1; exact q1.elim
theorem ss_par3 {i j l : Nat} {x y z : Str} {a b c : Expr} {px py pz pt : Pos} {kt k2 : Nat} {pt2 : Pos} (hc : X.calm = true) (hN : X.N.Nodup) (hi : X.N[i]? = some x) (hj : X.N[j]? = some y) (hl : X.N[l]? = some z) (hij : i ≠ j) (hil : i ≠ l) (hjl : j ≠ l)
    (hx : X.env.scope.names.lookup x = some .local) (hy : X.env.scope.names.lookup y = some .local) (hz : X.env.scope.names.lookup z = some .local) (ha : SA X Γ E W 3 [a, b, c] fa) (hpi : i ∉ P) (hpj : j ∉ P) (hpl : l ∉ P)
    (hw : swappedStores [.Tuple [.Name x px, .Name y py, .Name z pz] kt pt] (.Tuple [a, b, c] k2 pt2) X.env = pure (some [x, y, z]))
    (hs : swapsWithSole [.Tuple [.Name x px, .Name y py, .Name z pz] kt pt] (.Tuple [a, b, c] k2 pt2) pos.line X.env = pure false) :
    SS X Γ E P (.Assign [.Tuple [.Name x px, .Name y py, .Name z pz] kt pt] (.Tuple [a, b, c] k2 pt2) pos) (sPar3 i j l fa) := fun hK => (ps_par3 hc hN hi hj hl hij hil hjl hx hy hz (ha hK) hw hs).imp fun Z σ H ⟨F, G, sl, tm, A, q⟩ =>
  a_run A q fun ds δ H1 G1 sl1 ts A1 s1 hl eds e1 _ q1 => by
    match ts, hl with
    | [t1, t2, t3], _ =>
      subst eds
      refine ⟨t1.v, t2.v, t3.v, rfl, ?_⟩
      have q1 : PostS Γ E P F σ G1 tm Z (if i < δ.length ∧ j < δ.length ∧ l < δ.length then .nx (((δ.set i (some t1.d)).set j (some t2.d)).set l (some t3.d)) else .stuck) := q1
      by_cases h : i < δ.length ∧ j < δ.length ∧ l < δ.length
      · rw [if_pos h] at q1
        rw [← e1, dsl_len] at h
        have B := A1.store (i := i) h.1
        have C := Abs.store (i := j) (show Abs Γ F _ H1 G1 (sl1.set i (some t1)) (t2 :: ([t3] ++ tm)) from B) (by simpa using h.2.1)
        have D' := Abs.store (i := l) (show Abs Γ F _ H1 G1 ((sl1.set i (some t1)).set j (some t2)) (t3 :: tm) from C) (by simpa using h.2.2)
        refine q1 _ H1 G1 _ D' (Sub.refl _) (fun k hk => ?_) (by rw [dsl_set', dsl_set', dsl_set', e1])
        rw [List.getElem?_set_ne (show l ≠ k from fun z => hpl (z ▸ hk)), List.getElem?_set_ne (show j ≠ k from fun z => hpj (z ▸ hk)), List.getElem?_set_ne (show i ≠ k from fun z => hpi (z ▸ hk))]
      · rw [if_neg h] at q1; exact q1.elim
/-- (a, b, ..) = (x, y, ..), the tuple let go at once -/
theorem ss_parT {x1 k : Nat} {pt pt2 : Pos} (hc : X.calm = true) (ha : SA X Γ E W n es fa) (hg : SGs X Γ S tgs fgs) (hPS : ∀ i, i ∈ P → i ∉ S) (hnz : n ≤ sizeLine) (hn : (assignEach tgs X.env).length = n) (hst : (assignEach tgs X.env).findIdx? (·.1) = none)
    (hs : swapsWithSole [.Tuple tgs k pt] (.Tuple es x1 pt2) pos.line X.env = pure false) (hw : swappedStores [.Tuple tgs k pt] (.Tuple es x1 pt2) X.env = pure none)
    (h1 : (assignEach [.Tuple tgs k pt] X.env).map (·.2) = [assign (.Tuple tgs k pt) X.env]) : SS X Γ E P (.Assign [.Tuple tgs k pt] (.Tuple es x1 pt2) pos) (sParT n fa fgs) := fun hK => (ps_asg (pe_tup (ha hK)) (pg_tup hc (hg hK) hn hst) hs hw h1).imp fun Z σ H ⟨F, G, sl, tm, A, q⟩ =>
  a_run (Q := fun vs H1 => vs.length ≤ sizeLine ∧ ∀ p, H1 p = none → gTup X.K n (tGs Γ S fgs) (.ref p) σ (upd H1 p (.tup vs)) Z.nx) A q fun ds δ H1 G1 sl1 ts A1 s1 hl eds e1 _ q1 => by
    refine ⟨by rw [List.length_map, hl]; exact hnz, fun p hp => ?_⟩
    have hl2 : ds.length = n := by rw [← eds, List.length_map, hl]
    rw [if_pos hl2] at q1
    refine ⟨p, ts.map T.v, rfl, .inl (.inl upd_same), by rw [List.length_map, hl], F, G1, sl1, tm, ts, A1.grow hp, rfl, ?_⟩
    rw [eds, e1]
    cases hf : fgs ds δ with
    | none => rw [hf] at q1; exact q1.elim
    | some δ2 =>
      rw [hf, og_some] at q1
      exact fun σ' H' G' sl' A' s o _ e => q1 σ' H' G' sl' A' s (o.prot hPS) e
/-! ### name op= e, ints -/
def sAugI (g : Int → Int → Int) (i : Nat) (fe : Ev) : Es := fun δ => match δ[i]? with
  | some (some (.int a)) => (fe δ).st fun d δ1 => match d with
    | .int b => if i < δ1.length then .nx (δ1.set i (some (.int (g a b)))) else .stuck
    | _ => .stuck
  | _ => .stuck
theorem ss_aug {i : Nat} {x : Str} {op : Operator} {g : Int → Int → Int} {pos' : Pos} (hN : X.N.Nodup) (hi : X.N[i]? = some x) (hx : Loc X.env.scope x) (he : SE X Γ E W e fe) (ho : PIp X op (ipI g)) (hp : i ∉ P) (hf : X.fn x = true ∨ X.env.scope.names.lookup x = some .local) :
    SS X Γ E P (.AugAssign (.Name x pos') op e pos) (sAugI g i fe) := fun hK => (ps_aug hN hi hx (he hK) ho hf).imp fun Z σ H ⟨F, G, sl, tm, A, q⟩ => by
  unfold sAugI at q
  split at q
  · rename_i a hd
    obtain ⟨t, ht, ed⟩ := dsl_get hd
    have hv := A.val i t ht
    rw [int_of (A.goodS i t ht) ed] at hv
    refine ⟨_, hv, e_run A q fun d δ H1 G1 sl1 t1 A1 s1 ed1 e1 _ q1 => ?_⟩
    split at q1
    · rename_i b
      refine ⟨a, b, rfl, int_of (A1.goodT t1 List.mem_cons_self) ed1, ?_⟩
      split at q1
      · rename_i hlt
        rw [← e1, dsl_len] at hlt
        have B := Abs.store (i := i) (A1.drop.leaf (v := .int (g a b)) (d := .int (g a b)) rfl) hlt
        refine q1 _ H1 G1 _ B (Sub.refl _) (fun k hk => ?_) (by rw [dsl_set', e1]; rfl)
        rw [List.getElem?_set_ne (show i ≠ k from fun z => hp (z ▸ hk))]
      · exact q1.elim
    · exact q1.elim
  · exact q.elim
/-! ### frozen -/
def eFrz (f : Ev) : Ev := fun δ => (f δ).bd fun d δ1 => .ok d.frz δ1
theorem se_frz {f : Ev} (h : SE X Γ E W e f) : SE X Γ E W e (eFrz f) := fun hK => (h hK).imp fun σ H Q ⟨F, G, sl, tm, A, q⟩ => by
  refine ⟨F, G, sl, tm, A, ?_⟩
  unfold eFrz at q
  cases hf : f (dsl sl) with
  | stuck => rw [hf] at q; exact q
  | exc c fs δ => rw [hf] at q; exact q
  | ok d δ =>
    rw [hf, bd_ok] at q
    intro H1 G1 sl1 t A1 s1 ed e1 k1
    obtain ⟨G2, B, s2⟩ := A1.freeze1
    exact q H1 G2 sl1 (.leaf t.v t.d.frz) B (s1.trans s2) (by rw [← ed]; rfl) e1 k1
/-! ### xs[::-1] -/
def dRev (d : D) : Option D := match d with
  | .lst _ xs => if xs.all nOwn = true then some (.lst true xs.reverse) else none
  | .tup xs => some (.tup xs.reverse)
  | _ => none
theorem Reps.rev {G : Hp} : ∀ {vs : List V} {ds : List D}, Reps Γ G vs ds → Reps Γ G vs.reverse ds.reverse
  | _, [], h => by rw [show _ = [] from h]; rfl
  | _, d :: ds, h => by
    obtain ⟨v, r, e1, h1, h2⟩ := h
    subst e1
    rw [List.reverse_cons, List.reverse_cons]
    exact (Reps.rev h2).append ⟨v, [], rfl, h1, rfl⟩
theorem se_rev {r : Option Nat} {f : Ev} {k : Nat} {p1 p2 p3 : Pos} (h : SV X Γ E W r e f) : SE X Γ E W (.Subscript e (.Slice none none (some (.UnaryOp .USub (.Constant (.int 1) k p1) p2)) p3) pos) (ev1 dRev f) := fun hK =>
  (pe_revA (h hK)).imp fun σ H Q q => one_run (R := fun x H1 => ∃ a xs, x = .ref a ∧ ((SqL X.K H1 a xs ∧ ∀ p, H1 p = none → Q (.ref p) (upd H1 p (.lst xs.reverse))) ∨ (SqT X.K H1 a xs ∧ ∀ p, H1 p = none → Q (.ref p) (upd H1 p (.tup xs.reverse))))) q fun F G1 H1 sl1 tm t d A1 g e h => by
  unfold dRev at e
  split at e
  · rename_i o xs et
    split at e
    · rename_i ho
      cases e
      obtain ⟨z, a, vs, ev, q, r⟩ := lst_of A1.sub g et ho
      exact ⟨a, vs, ev, .inl ⟨SqL.of q, fun p hp => h.lst A1 r.rev (by rw [List.length_reverse]; exact z) hp⟩⟩
    · cases e
  · rename_i xs et
    cases e
    obtain ⟨z, a, vs, ev, q, r⟩ := tup_of g et
    exact ⟨a, vs, ev, .inr ⟨by rw [hK]; exact sqT_of A1.sub q, fun p hp => h.tup A1 r.rev (by rw [List.length_reverse]; exact z) hp⟩⟩
  · cases e
/-! ### names of the module -/
theorem se_glob {x : Str} {v : V} {u : Value} {d : D} (hg : Gl X x) (hm : X.mg x = some u) (r : RelV v u) (rd : ∀ G, Rep Γ G v d) (hd : (x == ("__debug__" : Str)) = false) : SE X Γ E [] (.Name x pos) (eC d) := se_const (pe_glob hg hm r hd) rd
/-! ### {} -/
def eDicK : Ev := fun δ => .ok (.dic true (.k []) []) δ
def eDicT : Ev := fun δ => .ok (.dic true (.t []) []) δ
theorem Abs.newDic {F : Fr} {σ : St} {H G : Hp} {sl : TS'} {tm : List T} (A : Abs Γ F σ H G sl tm) {p : Addr} (hp : H p = none) (ks : DKs) (h0 : ks = .k [] ∨ ks = .t []) : Abs Γ F σ (upd H p (dicHO ks [])) G sl (.dic p ks [] :: tm) := by
  have A1 := A.newLst (ts := []) (p := p) hp (Nat.zero_le _)
  -- as for a list, with another object
  have B := A.grow (o := dicHO ks []) hp
  obtain ⟨n1, n2⟩ := A.new0 hp
  have c0 : cS p sl + T.cnts p tm = 0 := by
    by_cases e : 0 < cS p sl + T.cnts p tm
    · exact absurd hp (A.sep p e).2.1
    · omega
  have ec : ∀ a, T.cnts a (T.dic p ks [] :: tm) = (if p = a then 1 else 0) + T.cnts a tm := fun a => by rw [T.cnts, T.cnt, T.cnts]; omega
  refine ⟨B.len, B.val, B.sub, B.keep, B.dom, B.g0, B.goodS, fun u hu => ?_, fun a => ?_, fun a ha => ?_, B.fresh, B.tabs⟩
  · rcases List.mem_cons.mp hu with rfl | hu
    · refine ⟨⟨upd_same, Nat.zero_le _, ?_⟩, trivial⟩
      rcases h0 with rfl | rfl
      · exact ⟨rfl, List.nodup_nil⟩
      · exact ⟨rfl, List.nodup_nil⟩
    · exact B.goodT u hu
  · rw [ec]
    by_cases e : p = a
    · subst e; rw [if_pos rfl]; omega
    · rw [if_neg e]; have := A.one a; omega
  · rw [ec] at ha
    by_cases e : p = a
    · subst e
      refine ⟨n1, ?_, .inl n2⟩
      rw [upd_same]
      exact fun z => nomatch z
    · rw [if_neg e] at ha
      exact B.sep a (by omega)
theorem se_dicK : SE X Γ E [] (.Dict [] [] pos) eDicK := fun _ => pe_dnewK.imp fun σ H Q ⟨F, G, sl, tm, A, q⟩ p hp => q _ G sl (.dic p (.k []) []) (A.newDic hp (.k []) (.inl rfl)) (Sub.refl G) rfl rfl (Keep.refl _ _)
theorem se_dicT : SE X Γ E [] (.Dict [] [] pos) eDicT := fun _ => pe_dnewT.imp fun σ H Q ⟨F, G, sl, tm, A, q⟩ p hp => q _ G sl (.dic p (.t []) []) (A.newDic hp (.t []) (.inr rfl)) (Sub.refl G) rfl rfl (Keep.refl _ _)
end
end L2.Pv
end
section
set_option Elab.async false
set_option linter.all false
set_option autoImplicit false
set_option maxRecDepth 100000
namespace L2.Pv
open PySem PySem.Spec PyProof.Rows

/-! ### a dict is locked for good -/
def tLockP (t : TE) : TE := fun σ H Q => t σ H fun v H1 => ∃ d u, v = .ref d ∧ H1 d = some u ∧ Mut (some u) ∧ ∀ od, Q v (upd H1 d (.frz od u))
theorem pe_lockP {X : Cx} {e : Expr} {t : TE} (h : PE X e t) : PE X e (tLockP t) := by
  refine ⟨fun pins s σ H Q I hw => ?_⟩
  refine thn (h.run pins s σ _ _ I hw) fun v s1 ⟨x, H1, I1, r, d, u, ex, hd, mu, q⟩ => ?_
  obtain ⟨od, I2⟩ := I1.lock hd mu
  exact ⟨x, _, I2, r, q od⟩
theorem mut_dic (ks : DKs) (vs : List V) : Mut (some (dicHO ks vs)) := by cases ks <;> trivial
section
variable {Γ : Gm} {F : Fr} {σ : St} {H G : Hp} {sl : TS'} {tm : List T} {t : T}
theorem Abs.open {a : Addr} {ks : DKs} {ts : List T} (A : Abs Γ F σ H G sl (.dic a ks ts :: tm)) : Abs Γ F σ H G sl (ts ++ tm) := by
  have ec : ∀ b, T.cnts b (ts ++ tm) ≤ T.cnts b (.dic a ks ts :: tm) := fun b => by rw [cnts_append, T.cnts, T.cnt]; omega
  refine ⟨A.len, A.val, A.sub, A.keep, A.dom, A.g0, A.goodS, fun u hu => ?_, fun b => ?_, fun b hb => ?_, A.fresh, A.tabs⟩
  · rcases List.mem_append.mp hu with hu | hu
    · exact Goods_iff.mp (A.goodT _ List.mem_cons_self).2 u hu
    · exact A.goodT u (List.mem_cons_of_mem _ hu)
  · have := A.one b; have := ec b; omega
  · exact A.sep b (by have := ec b; omega)
theorem Abs.lockDic {a : Addr} {ks : DKs} {ts : List T} (A : Abs Γ F σ H G sl (.dic a ks ts :: tm)) (od : Obj) : ∃ G', Abs Γ F σ (upd H a (.frz od (dicHO ks (ts.map T.v)))) G' sl (.leaf (.ref a) (.ldc ks (D.frzs (T.ds ts))) :: tm) ∧ Sub G G' := by
  obtain ⟨hH, hz, hl⟩ := (A.goodT _ List.mem_cons_self).1
  have oa : cS a sl + T.cnts a (.dic a ks ts :: tm) ≤ 1 := A.one a
  rw [T.cnts, T.cnt, if_pos rfl] at oa
  have sa := A.sep a (by rw [T.cnts, T.cnt, if_pos rfl]; omega)
  obtain ⟨B, r⟩ := A.open.freeze
  have n1 : frzH G H ts a = none := by unfold frzH; rw [if_neg (by omega)]; exact sa.1
  have s0 : Sub G (frzH G H ts) := frzH_sub fun b hb => (A.sep b (by rw [T.cnts, T.cnt]; omega)).1
  generalize hu : dicHO ks (ts.map T.v) = u at hH
  have nt : NTbl u := fun ps z => by rw [← hu] at z; cases ks <;> exact nomatch z
  have nc : ∀ c q, u ≠ LamX.CodeO c q := fun c q z => by rw [← hu] at z; cases ks <;> exact nomatch z
  have s1 : Sub (frzH G H ts) (upd (frzH G H ts) a (.frz od u)) := fun b o h => by rw [upd_ne (ne_of_none h n1)]; exact h
  have gd : ∀ w, w.cnt a = 0 → Good Γ (frzH G H ts) H w → Good Γ (upd (frzH G H ts) a (.frz od u)) (upd H a (.frz od u)) w := fun w k g => g.mono s1 w fun b hb => upd_ne (show b ≠ a from fun z => by rw [z] at hb; omega)
  have c0 : cS a sl + T.cnts a tm = 0 := by omega
  have C : Abs Γ F σ (upd H a (.frz od u)) (upd (frzH G H ts) a (.frz od u)) sl tm := by
    refine ⟨B.len, B.val, fun b o h => ?_, fun b o h1 h2 h3 => ?_, fun b h => ?_, B.g0.trans s1 (B.g0.2.2.upd fun _ z => nomatch z), fun i w h => gd w (by have := cS_get (a := a) h; omega) (B.goodS i w h), fun w h => gd w (by have := cnts_mem (a := a) h; omega) (B.goodT w h), B.one, fun b hb => ?_, fun b hb => ?_, tabs_upd B.tabs hH nt nc⟩
    · by_cases e : b = a
      · subst e; rw [upd_same] at h ⊢; exact h
      · rw [upd_ne e] at h ⊢; exact B.sub b o h
    · have e : b ≠ a := fun z => by
        subst z
        rcases sa.2.2 with q | q
        · rw [h1] at q; cases q
        · exact h3 q
      rw [upd_ne e]
      exact B.keep b o h1 h2 h3
    · by_cases e : b = a
      · subst e; rw [upd_same]; exact ⟨_, rfl, fun _ z => nomatch z⟩
      · rw [upd_ne e]; exact B.dom b h
    · have e : b ≠ a := fun z => by subst z; omega
      rw [upd_ne e, upd_ne e]
      exact B.sep b hb
    · by_cases e : b = a
      · subst e
        rcases sa.2.2 with q | q
        · exact .inr (.inl q)
        · exact .inr (.inr (.inl q))
      · rw [upd_ne e] at hb ⊢
        exact B.fresh b hb
  refine ⟨_, C.leaf ?_, s0.trans s1⟩
  have e2 : (D.frzs (T.ds ts)).length = ts.length := by rw [D.frzs_map, T.ds_map]; simp
  refine ⟨by rw [e2]; exact ⟨hz, hl⟩, a, ts.map T.v, od, rfl, ?_, Reps.mono s1 _ r⟩
  rw [upd_same, hu]
/-- a tuple of the heap joins what is frozen -/
theorem Abs.joinQ {p : Addr} {u : HO} (A : Abs Γ F σ H G sl tm) (h : H p = some u) (hu : Quiet u) : ∃ G', Abs Γ F σ H G' sl tm ∧ Sub G G' ∧ G' p = some u := by
  cases hg : G p with
  | some o =>
    have := A.sub p o hg
    rw [h] at this
    cases this
    exact ⟨G, A, Sub.refl G, hg⟩
  | none =>
    have s1 : Sub G (upd G p u) := fun b o h => by rw [upd_ne (ne_of_none h hg)]; exact h
    have nT : ∀ w, Good Γ G H w → w.cnt p = 0 := fun w g => by
      by_cases q : 0 < w.cnt p
      · exact (Good.noQuiet w g q h hu).elim
      · omega
    have c0 : ∀ b, 0 < cS b sl + T.cnts b tm → b ≠ p := fun b hb z => by
      subst z
      rcases Nat.lt_or_ge 0 (T.cnts b tm) with q | q
      · obtain ⟨u, hu, c⟩ := cnts_pos q
        have := nT u (A.goodT u hu)
        omega
      · obtain ⟨i, u, hu, c⟩ := cS_pos (a := b) (sl := sl) (by omega)
        have := nT u (A.goodS i u hu)
        omega
    refine ⟨_, ⟨A.len, A.val, fun b o q => ?_, A.keep, A.dom, A.g0.trans s1 (A.g0.2.2.upd fun ps z => by subst z; exact hu), fun i w q => (A.goodS i w q).mono s1 w fun _ _ => rfl, fun w q => (A.goodT w q).mono s1 w fun _ _ => rfl, A.one, fun b hb => ?_, fun b hb => ?_, A.tabs⟩, s1, upd_same⟩
    · by_cases e : b = p
      · subst e; rw [upd_same] at q; cases q; exact h
      · rw [upd_ne e] at q; exact A.sub b o q
    · rw [upd_ne (c0 b hb)]; exact A.sep b hb
    · by_cases e : b = p
      · subst e; exact .inr (.inr (.inr ⟨u, upd_same, hu⟩))
      · rw [upd_ne e] at hb ⊢; exact A.fresh b hb
end
section
variable {X : Cx} {Γ : Gm} {E : WX} {W : List Nat} {tg e : Expr} {f : Ev}
def dLock (d : D) : Option D := match d with
  | .dic true ks xs => some (.ldc ks (D.frzs xs))
  | _ => none
def eLock (f : Ev) : Ev := fun δ => (f δ).bd fun d δ1 => lft (dLock d) δ1
theorem se_lock {f : Ev} (h : SE X Γ E W e f) : SE X Γ E W e (eLock f) := fun hK => (pe_lockP (h hK)).imp fun σ H Q ⟨F, G, sl, tm, A, q⟩ => by
  refine ⟨F, G, sl, tm, A, ?_⟩
  unfold eLock at q
  cases hf : f (dsl sl) with
  | stuck => rw [hf] at q; exact q
  | exc c fs δ => rw [hf] at q; exact q
  | ok d δ =>
    rw [hf, bd_ok] at q
    intro H1 G1 sl1 t A1 s1 ed e1 k1
    cases hd : dLock d with
    | none => rw [hd] at q; exact q.elim
    | some d' =>
      rw [hd, lft_some] at q
      unfold dLock at hd
      split at hd
      · rename_i ks xs
        cases hd
        obtain ⟨p, ts, et, ex, hH, hz, hl⟩ := node_dic (A1.goodT t List.mem_cons_self) ed
        subst et
        subst ex
        refine ⟨p, _, rfl, hH, mut_dic _ _, fun od => ?_⟩
        obtain ⟨G2, B, s2⟩ := A1.lockDic od
        rw [T.ds_map] at B
        exact q _ G2 sl1 (.leaf (.ref p) _) B (s1.trans s2) rfl e1 k1
      · cases hd
def keyD : Key → D
  | .inl i => .int i
  | .inr x => .str x
def keysD : DKs → List D
  | .k ks => ks.map keyD
  | .t ks => ks.map fun k => .tup (k.map keyD)
theorem rep_key {G : Hp} (k : Key) : Rep Γ G (kV k) (keyD k) := by cases k <;> rfl
theorem reps_key {G : Hp} : ∀ ks : List Key, Reps Γ G (ks.map kV) (ks.map keyD)
  | [] => rfl
  | k :: ks => ⟨_, _, rfl, rep_key k, reps_key ks⟩
def dKeys (d : D) : Option (List D) := match d with
  | .ldc (.k ks) _ => some (keysD (.k ks))
  | .ldc (.t ks) _ => if ks.all (fun k => decide (k.length ≤ sizeLine)) = true then some (keysD (.t ks)) else none
  | _ => none
def iKeysE (f : Ev) : EvA := fun δ => (f δ).bd fun d δ1 => lft (dKeys d) δ1
theorem zip_key {κ : Type} {ks : List κ} {vs : List V} {i : Nat} {k : κ} (h : ks[i]? = some k) (hl : ks.length = vs.length) : ∃ v, (ks.zip vs)[i]? = some (k, v) := by
  have hi := (List.getElem?_eq_some_iff.mp h).1
  refine ⟨vs[i]'(by omega), ?_⟩
  rw [List.getElem?_zip_eq_some]
  exact ⟨h, List.getElem?_eq_getElem _⟩
theorem gives_keysK {G : Hp} {a : Addr} {o : Obj} {ks : List Key} {vs : List V} (hl : ks.length = vs.length) (h : G a = some (.frz o (.dK (ks.zip vs)))) : Gives Γ G (Itk a o (ks.zip vs)) (ks.map keyD) := fun F σ2 H2 G2 sl2 tm2 A2 s i => by
  have hq := A2.sub _ _ (s _ _ h)
  have hlz : (ks.zip vs).length = ks.length := by rw [List.length_zip]; omega
  refine ⟨fun d hd => ?_, fun hd => ⟨hq, by rw [hlz]; rw [List.getElem?_eq_none_iff, List.length_map] at hd; exact hd⟩⟩
  rw [List.getElem?_map] at hd
  cases hk : ks[i]? with
  | none => rw [hk] at hd; cases hd
  | some k =>
    rw [hk] at hd
    cases hd
    refine ⟨⟨hq, by rw [hlz]; exact (List.getElem?_eq_some_iff.mp hk).1⟩, fun x H3 ⟨e, k', v, y1, y2⟩ => ?_⟩
    subst e
    obtain ⟨v', hv⟩ := zip_key hk hl
    rw [hv] at y1
    cases y1
    exact ⟨G2, .leaf x (keyD k), A2.leaf (by rw [y2]; exact rep_key k), Sub.refl _, rfl, rfl⟩
theorem gives_keysT {G : Hp} {a : Addr} {o : Obj} {ks : List (List Key)} {vs : List V} (hl : ks.length = vs.length) (hz : ∀ k ∈ ks, k.length ≤ sizeLine) (h : G a = some (.frz o (.dT (ks.zip vs)))) : Gives Γ G (Itkt a o (ks.zip vs)) (ks.map fun k => .tup (k.map keyD)) := fun F σ2 H2 G2 sl2 tm2 A2 s i => by
  have hq := A2.sub _ _ (s _ _ h)
  have hlz : (ks.zip vs).length = ks.length := by rw [List.length_zip]; omega
  refine ⟨fun d hd => ?_, fun hd => ⟨hq, by rw [hlz]; rw [List.getElem?_eq_none_iff, List.length_map] at hd; exact hd⟩⟩
  rw [List.getElem?_map] at hd
  cases hk : ks[i]? with
  | none => rw [hk] at hd; cases hd
  | some k =>
    rw [hk] at hd
    cases hd
    refine ⟨⟨hq, by rw [hlz]; exact (List.getElem?_eq_some_iff.mp hk).1⟩, fun x H3 ⟨e, k', v, q, y1, y2, y3⟩ => ?_⟩
    subst e
    obtain ⟨v', hv⟩ := zip_key hk hl
    rw [hv] at y1
    cases y1
    obtain ⟨G3, B, s3, hg⟩ := A2.joinQ y3 trivial
    refine ⟨G3, .leaf x (.tup (k.map keyD)), B.leaf ?_, s3, rfl, rfl⟩
    exact ⟨by rw [List.length_map]; exact hz k (List.mem_of_getElem? hk), q, _, y2, hg, reps_key k⟩
theorem si_keys {f : Ev} (h : SE X Γ E W e f) : SI X Γ E W tg e (iKeysE f) := fun hK => (pi_keys (h hK)).imp fun σ H R ⟨F, G, sl, tm, A, q⟩ => by
  refine ⟨F, G, sl, tm, A, ?_⟩
  unfold iKeysE at q
  cases hf : f (dsl sl) with
  | stuck => rw [hf] at q; exact q
  | exc c fs δ => rw [hf] at q; exact q
  | ok d δ =>
    rw [hf, bd_ok] at q
    intro H1 G1 sl1 t A1 s1 ed e1 k1
    cases hd : dKeys d with
    | none => rw [hd] at q; exact q.elim
    | some ds =>
      rw [hd, lft_some] at q
      have lv : ∀ ks xs, d = .ldc ks xs → ∃ a vs o, t.v = .ref a ∧ G1 a = some (.frz o (dicHO ks vs)) ∧ ks.len = vs.length ∧ ks.len ≤ sizeLine := fun ks xs e => by
        rw [e] at ed
        have g := A1.goodT t List.mem_cons_self
        have el := leaf_of_own g (by rw [ed]; rfl)
        rw [el, ed] at g
        obtain ⟨⟨hz, hl, hnd⟩, a, vs, o, ev, hq, rs⟩ := g
        exact ⟨a, vs, o, ev, hq, by rw [hl, rs.len], by rw [hl]; exact hz⟩
      unfold dKeys at hd
      split at hd
      · rename_i ks xs
        cases hd
        obtain ⟨a, vs, o, ev, hq, hl, hz⟩ := lv _ _ rfl
        exact ⟨a, o, ev, .inl ⟨_, A1.sub _ _ hq, q _ H1 G1 sl1 A1.drop s1 e1 k1 (gives_keysK hl hq) (by show (ks.map keyD).length ≤ _; rw [List.length_map]; exact hz)⟩⟩
      · rename_i ks xs
        split at hd
        · rename_i ha
          cases hd
          obtain ⟨a, vs, o, ev, hq, hl, hz⟩ := lv _ _ rfl
          refine ⟨a, o, ev, .inr ⟨_, A1.sub _ _ hq, q _ H1 G1 sl1 A1.drop s1 e1 k1 (gives_keysT hl (fun k hk => ?_) hq) (by show (ks.map _).length ≤ _; rw [List.length_map]; exact hz)⟩⟩
          exact of_decide_eq_true (List.all_eq_true.mp ha k hk)
        · cases hd
      · cases hd
end
end L2.Pv
end
section
set_option Elab.async false
set_option linter.all false
set_option autoImplicit false
set_option maxRecDepth 100000
namespace PySem.W
open PySem PySem.Calls PyProof.Rows PySem.Spec
/-- X(), where X's __init__ says super().__init__('m') -/
structure Ex0 (K : Frag) (prog : Program) (C fI : Addr) where
  oc : Value
  od : Option Addr
  osl : Array (Option Value)
  name : Str
  qual : Str
  params : Arguments
  body : List Stmt
  scope : Scope
  dV : Value
  kV : Value
  doc : Value
  pm : Value
  an : Option Addr
  cda : Addr
  ct : Value
  cc : Addr
  msg : Str
  j : Nat
  p0 : Pos
  p1 : Pos
  p2 : Pos
  p3 : Pos
  p4 : Pos
  p5 : Pos
  ccl : Value
  cdd : Option Addr
  vs : Array Value
  ccs : Array (Option Value)
  file : Str
  tf : Tok
  cl : Value
  cld : Option Addr
  csl : Array (Option Value)
  newId : String
  bmB : List Value
  cdC : ClassData
  FB : ExcBaseFacts "ValueError" newId "ValueError.__init__" bmB
  q : excInitIn K C bmB newId = true
  hi : findIn K (.ref C) "__init__" = some (some (.ref fI))
  hfn : isFn K (.ref fI) = true
  ho : K.lookup fI = some ⟨oc, od, .func (ksFn name qual params body scope dV kV doc pm an (.ref cda) ct cc), osl⟩
  hbody : body = [.Expr (.Call (.Attribute (.Call (.Name "super" p0) [] [] p1) "__init__" p2) [.Constant (.str msg) j p3] [] p4) p5]
  hcd : codeIn K (.ref cda) qual = true
  hbind : ∀ v : Value, bindArgs (ksFn name qual params body scope dV kV doc pm an (.ref cda) ct cc) ⟨[v], []⟩ = pure [(("self" : Str), v)]
  hp : ((params.posonlyargs ++ params.args).head?).map (·.arg) = some ("self" : Str)
  hcode : K.lookup cda = some ⟨ccl, cdd, .fields vs, ccs⟩
  hvs : vs[2]? = some (.str file tf)
  hfile : ((prog.main.file : Str) == file) = true
  hcell : K.lookup cc = some ⟨cl, cld, .cell (some (.ref C)), csl⟩
  hD : clsIn K C = some cdC
  hsub : mroIn K C (.ref C) = some true
  hks : scope.names.lookup ("super" : Str) = some .globalImplicit
  hkc : scope.names.lookup ("__class__" : Str) = some .free
  hka : scope.names.lookup ("self" : Str) = some .local
  hk : scope.kind = .function
  hcells : ∀ x ∈ scope.names, x.2 ≠ .cell
  hco : scope.isCoroutine = false
  hgen : scope.isGenerator = false
  htop : (prog.main.scope.names.lookup ("super" : Str)).isSome = false
  hno : nsIn K cStatics "thirdparty.any" = some none
  hm : ks_superIn K C C "__init__" = some (some (.builtin "ValueError.__init__"))
  hB : subIn K (.ref C) (.type "ValueError") = some true
  hkeep : keepIn K (.ref C) = true
  hEx : subIn K (.ref C) (.type "BaseException") = some true
  hTy : typeIn K (.ref C) = some (.type "type")
  pl : Addr → Sem Bool
  he : ∀ L : Addr, eval (.Call (.Attribute (.Call (.Name "super" p0) [] [] p1) "__init__" p2) [.Constant (.str msg) j p3] [] p4) (ksEnv qual scope L fI (.ref cda) cc) = (do
      let ov ← attributeBase (.Call (.Name "super" p0) [] [] p1) "__init__" (ksEnv qual scope L fI (.ref cda) cc) (eval (.Call (.Name "super" p0) [] [] p1) (ksEnv qual scope L fI (.ref cda) cc))
      standAt p2.atName
      let (f, first) ← holding [ov] (getMethod ov "__init__" (pl L))
      callWith p4 f first (backTo p4 (starEach [.Constant (.str msg) j p3] (ksEnv qual scope L fI (.ref cda) cc))) [])
  hin : ∀ L : Addr, interactive (ksEnv qual scope L fI (.ref cda) cc) = false
  hsw : ∀ L : Addr, swapsWith (.Call (.Attribute (.Call (.Name "super" p0) [] [] p1) "__init__" p2) [.Constant (.str msg) j p3] [] p4) none p5.line (ksEnv qual scope L fI (.ref cda) cc) = pure false

section
variable {prog : Program} {w : World} {A : Around} {E : Value → Shared → Prop} {s : Shared} {K : Frag} {C fI : Addr} {mg mb : Str → Option Value}
theorem exc_call0 (Z : Ex0 K prog C fI) (X : K.In s.heap) (hlim : s.heap.NoLimit) (hg : s.heap.Ns mainGlobals mg) (hb : s.heap.Ns builtinsNs mb) (hsup : mg "super" = none) (hsupb : mb "super" = some (.type "super")) (hroom : A.depth + 3 < recursionLimit)
    {Q : Value → Shared → Prop} (h : ∀ h' t tk, (∀ b o, s.heap.get? b = some o → h'.get? b = some o) → h'.get? (s.heap.objs.size + 1) = some (excObj C t none .none) → Q (.ref (s.heap.objs.size + 1)) { s with heap := h', toks := tk }) :
    wpAny (model prog w) A (call (.ref C) []) Q E s := by
  obtain ⟨nm, N', qn, bs, bm, hdct, sn, sub, ab, col, dd, k0, k1, k2, k3, k5, hC, hT⟩ := excInit_of X Z.q
  obtain ⟨oI, hoI, hcI⟩ : ∃ oI, s.heap.get? fI = some oI ∧ oI.cls = .type "function" := by
    obtain ⟨o, ho, hc⟩ := Option.map_eq_some_iff.mp (show (K.lookup fI).map (·.cls) = some (.type "function") from beq_iff_eq.mp Z.hfn)
    exact ⟨o, X _ _ ho, hc⟩
  have hi' : Looks (model prog w) s.heap (typeLookup (.ref C) "__init__") (some (.ref fI)) := looks_findIn X Z.hi
  obtain ⟨h0, g, d, tk, os⟩ := s
  refine wpAny_call (PX.call_own Z.FB hT hC hi' (fun self => exc_bind hoI hcI self) (Nat.zero_le _) ?_)
  have k1' : ∀ b o, h0.get? b = some o → ((h0.push (kdv_tup [])).push (PySem.PX.excO C h0.objs.size)).get? b = some o := fun b o e => Heap.get?_push_of_some _ (Heap.get?_push_of_some _ e)
  generalize hh2 : (h0.push (kdv_tup [])).push (PySem.PX.excO C h0.objs.size) = h2 at k1' ⊢
  have gE : h2.get? (h0.objs.size + 1) = some (excObj C h0.objs.size none .none) := by rw [← hh2]; heap_get
  have gT : h2.get? h0.objs.size = some (excTup []) := by rw [← hh2]; heap_get
  have hsz : h2.objs.size = h0.objs.size + 2 := by rw [← hh2, Heap.size_push, Heap.size_push]
  have X2 : K.In h2 := X.keeps k1'
  refine ks_codeAny_call_defAt (fd := ksFn Z.name Z.qual Z.params Z.body Z.scope Z.dV Z.kV Z.doc Z.pm Z.an (.ref Z.cda) Z.ct Z.cc) (body := Z.body) (binds := [(("self" : Str), Value.ref (h0.objs.size + 1))]) ?_ (X2 _ _ Z.ho) rfl (hlim.keeps k1') (codeRec_of X2 Z.hcd) rfl (.of_eq (Z.hbind _)) Z.hcells
    (fun x hx => by obtain rfl := List.mem_singleton.mp hx; exact Z.hka) (fun h₁ hns hk₁ => ?_) Z.hco Z.hgen Z.hk
  · show A.depth + 1 < recursionLimit
    omega
  have F0 : Fr h0 h2.objs.size h₁ (fun x => [(("self" : Str), Value.ref (h0.objs.size + 1))].reverse.lookup x) := ⟨hns, fun b o e => hk₁ b o (k1' b o e), by rw [hsz]; omega⟩
  have N0 : News h0 h2.objs.size h₁ [(h0.objs.size + 1, excObj C h0.objs.size none .none), (h0.objs.size, excTup [])] := fun p hp => by
    rcases List.mem_cons.mp hp with rfl | hp
    · exact ⟨hk₁ _ _ gE, by show h0.objs.size + 1 ≠ _; rw [hsz]; omega, Heap.get?_none_of_le (Nat.le_succ _)⟩
    · obtain rfl := List.mem_singleton.mp hp
      exact ⟨hk₁ _ _ gT, by show h0.objs.size ≠ _; rw [hsz]; omega, Heap.get?_none_of_le (Nat.le_refl _)⟩
  rw [Z.hbody]
  have gk : h0.StaysIn h₁ := fun b o e => hk₁ b o (k1' b o e)
  have X1 : K.In h₁ := X.keeps gk
  have I1 : InstAt h₁ (h0.objs.size + 1) (excObj C h0.objs.size none .none) C none := InstAt.of_exc0 N0 (.head _)
  obtain ⟨oD, hD1, hD2⟩ : ∃ oD, h₁.get? C = some oD ∧ oD.data = .cls Z.cdC := by
    have hD := Z.hD
    unfold clsIn at hD
    split at hD
    · rename_i c d cd' sl ho
      cases hD
      exact ⟨_, X1 _ _ ho, rfl⟩
    · cases hD
  obtain ⟨ar, hp1, hp2⟩ : ∃ ar, (Z.params.posonlyargs ++ Z.params.args).head? = some ar ∧ ar.arg = ("self" : Str) := by
    cases hx : (Z.params.posonlyargs ++ Z.params.args).head? with
    | none => have := Z.hp; rw [hx] at this; cases this
    | some ar => have := Z.hp; rw [hx] at this; exact ⟨ar, rfl, Option.some.inj this⟩
  show wpAt (model prog w) _ (.func [_] (ksEnv Z.qual Z.scope h2.objs.size fI (.ref Z.cda) Z.cc)) (execs [_] (ksEnv Z.qual Z.scope h2.objs.size fI (.ref Z.cda) Z.cc)) _ _ _
  refine ks_wpAt_execs_cons (ks_wpAt_Expr_any (ks_wpAt_MethodCall ?_ (Z.he _)) (Z.hin _) (Z.hsw _))
  refine ks_wpAt_super_base (env := ksEnv Z.qual Z.scope h2.objs.size fI (.ref Z.cda) Z.cc) Z.hks Z.hkc rfl rfl (X1 _ _ Z.ho) rfl hp1 rfl (X1 _ _ Z.hcode) rfl Z.hvs Z.hfile Z.htop ?_
  refine ks_loadName_global Z.hk Z.hks (loadGlobal_builtin (env := ksEnv Z.qual Z.scope h2.objs.size fI (.ref Z.cda) Z.cc) (hg.keeps gk) hsup (hb.keeps gk) hsupb ⟨rfl, ?_⟩)
  refine wpAny_loadName_free Z.hk Z.hkc rfl ⟨_, X1 _ _ Z.hcell, rfl⟩ ?_
  rw [hp2]
  refine wpAny_loadName_local Z.hk Z.hka F0.ns rfl ?_
  refine ks_wpAny_isType_cls hD1 hD2 ⟨rfl, ?_⟩
  refine ks_wpAny_call_super hD1 hD2 I1.at_ I1.cls (fun c e => ?_) (looks_mroIn X1 Z.hsub) (fun h3 e3 k3 => ?_)
  · cases e
  obtain ⟨F3, N3, _⟩ := ks_newsPush (s := ⟨h₁, g, d, tk, os⟩) F0 N0 rfl e3 k3
  have I3 : InstAt h3 (h0.objs.size + 1) (excObj C h0.objs.size none .none) C none := InstAt.of_exc0 N3 (.tail _ (.head _))
  refine kxs_method (i := "ValueError.__init__") (B := "ValueError") kxs_ValueError F3 X N3 (.head _) I3 Z.hno Z.hm Z.hB rfl fun q h4 F4 N4 l4 => ?_
  refine kxs_callWith1 N4 (.head _) ?_
  refine args_cons (Constant_str (args_nil ⟨kxs_at N4 (.head _), ?_⟩))
  have hx : (h0.objs.size + 1, excObj C h0.objs.size none .none) ∈ (q, kxs_mw "ValueError.__init__" (h0.objs.size + 1)) :: (h₁.objs.size, ks_superObj C (h0.objs.size + 1) C) :: [(h0.objs.size + 1, excObj C h0.objs.size none .none), (h0.objs.size, excTup [])] := .tail _ (.tail _ (.head _))
  have nq : q ≠ h0.objs.size + 1 := fun z => by
    have y := l4 _ (List.Mem.tail _ (List.Mem.head _))
    rw [z] at y
    exact absurd y (Nat.lt_irrefl _)
  have nn : h₁.objs.size ≠ h0.objs.size + 1 := fun z => by
    have y := Heap.lt_size (N0 _ (.head _)).1
    rw [← z] at y
    exact absurd y (Nat.lt_irrefl _)
  refine kxs_call (s := ⟨h4, g, d, _, os⟩) F4 X N4 Z.FB Z.q (.head _) (.tail nq (.tail nn (.head fun p hp => ?_))) (by show 1 ≤ sizeLine; rw [sizeLine_eq]; omega) fun t5 h5 F5 N5 _ => ?_
  · obtain rfl := List.mem_singleton.mp hp
    show h0.objs.size ≠ h0.objs.size + 1
    omega
  show wpAt _ _ _ (execs [] _) _ _ _
  rw [execs_nil]
  refine wpAt_of_wpAny (wpAny_pure ⟨rfl, ?_⟩)
  exact h h5 t5 _ (fun b o e => F5.keep b o e) (N5 _ (.tail _ (.tail _ (.tail _ (.head _))))).1
end
end PySem.W
namespace L2
open PySem PySem.Spec PyProof.Rows
theorem pmk_super0 {X : Cx} {x : Str} {C fI : Addr} {p pos : Pos} {k : Nat} (Z : PySem.W.Ex0 X.K X.prog C fI) (hr : Room (k + 1) X.A) (hg : Gl X x) (hm : X.mg x = some (.ref C)) (hs : X.mg "super" = none) (hdb : (x == ("__debug__" : Str)) = false := by decide) :
    PMk X (.Call (.Name x p) [] [] pos) (fun _ H Q => Q (.ref C) none H) := by
  intro pins s σ H Q I h
  refine wpAny_Call_Name_kw (ld_glob I hg hm ?_ hdb)
  obtain ⟨mb, h1, h2⟩ := I.mod.blt
  refine PySem.W.callWith_K0 I.kIn Z.hkeep ?_
  refine PySem.W.exc_call0 Z I.kIn I.nolimit (I.mod.glob.keeps I.bk) (h1.keeps I.bk) hs ((h2 "super" (by decide)).trans (by kernel_rfl)) (by have := hr.dp; omega) fun h' t tk kp he => ?_
  refine ⟨s.heap.objs.size + 1, _, _, s, H, .ref C, none, rfl, I, kp, Heap.get?_none_of_le (Nat.le_succ _), he, ⟨rfl, rfl⟩, rfl, rfl, I.hok.fresh (Nat.le_succ _), rfl, I.bare, raises_own Z.hEx Z.hTy, h⟩
end L2
end
section
set_option Elab.async false
set_option linter.all false
set_option autoImplicit false
set_option maxRecDepth 100000
namespace L2.Pv
open PySem PySem.Spec PyProof.Rows

/-! ### raise -/
def sRaise (c : Nat) : Es := fun δ => .exc c [] δ
section
variable {X : Cx} {Γ : Gm} {E : WX} {P : List Nat}
theorem ss_raise {c : Nat} {e : Expr} {pos : Pos} (hc : X.calm = true) (tk : Takes X E) (hf : Γ.fl c = []) (h : PMk X e (fun _ H Q => Q (.ref (Γ.ca c)) none H)) : SS X Γ E P (.Raise (some e) none pos) (sRaise c) := fun _ => (ps_raise hc tk h).imp fun Z σ H ⟨F, G, sl, tm, A, q⟩ => by
  refine q σ (Prot.refl _ _) H G sl none A rfl ?_
  unfold ExR
  rw [hf]
  exact ⟨rfl, rfl⟩
end
/-! ### a run is rooted anew -/
section
variable {Γ : Gm} {F : Fr} {σ σ' : St} {H H' G G' : Hp} {sl sl' : TS'} {tm tm' : List T}
def Fr.at (F : Fr) (G : Hp) : Fr := ⟨F.H0, G, F.B⟩
theorem Abs.root (A : Abs Γ F σ H G sl tm) : Abs Γ (F.at G) σ H G sl tm :=
  ⟨A.len, A.val, A.sub, A.keep, A.dom, ⟨Sub.refl G, A.g0.2⟩, A.goodS, A.goodT, A.one, A.sep, fun a ha => .inl ha, A.tabs⟩
theorem Abs.unroot (A : Abs Γ F σ H G sl tm) (B : Abs Γ (F.at G) σ' H' G' sl' tm') : Abs Γ F σ' H' G' sl' tm' :=
  ⟨B.len, B.val, B.sub, B.keep, B.dom, A.g0.trans B.g0.1 B.g0.2.2, B.goodS, B.goodT, B.one, B.sep, fun a ha => by
    rcases B.fresh a ha with z | z
    · rcases A.fresh a z with z | z | z | ⟨o', z, zq⟩
      · exact .inl z
      · exact .inr (.inl z)
      · exact .inr (.inr (.inl z))
      · exact .inr (.inr (.inr ⟨o', B.g0.1 _ _ z, zq⟩))
    · exact .inr z, B.tabs⟩
theorem PostS.root {E : WX} {P : List Nat} {Z : Ends} {o : SOut} (A : Abs Γ F σ H G sl tm) (hne : ∀ c fs δ, o ≠ .exc c fs δ) {E' : WX} (q : PostS Γ E P F σ G tm Z o) : PostS Γ E' P (F.at G) σ G tm Z o := by
  cases o with
  | nx δ => exact fun σ' H' G' sl' B s p e => q σ' H' G' sl' (A.unroot B) s p e
  | rt d δ => exact fun σ' H' G' sl' t B s p ed e => q σ' H' G' sl' t (A.unroot B) s p ed e
  | bk δ => exact fun σ' H' G' sl' B s p e => q σ' H' G' sl' (A.unroot B) s p e
  | ct δ => exact fun σ' H' G' sl' B s p e => q σ' H' G' sl' (A.unroot B) s p e
  | exc c fs δ => exact absurd rfl (hne c fs δ)
  | stuck => exact q
end
/-! ### try -/
def SOut.unset (i : Nat) : SOut → SOut
  | .nx δ => if i < δ.length then .nx (δ.set i none) else .stuck
  | .rt d δ => if i < δ.length then .rt d (δ.set i none) else .stuck
  | .bk δ => if i < δ.length then .bk (δ.set i none) else .stuck
  | .ct δ => if i < δ.length then .ct (δ.set i none) else .stuck
  | .exc _ _ _ => .stuck
  | .stuck => .stuck
def sTry (n : Nat) (gb : Es) (i : Nat) (cs : Nat → Option Bool) (gh : Addr → Nat → Es) : Es := fun δ => match gb δ with
  | .exc c fs δ1 => match cs c with
    | some true => if δ1.length = n then (gh 0 c (δ1.set i (some (.rf 0)))).unset i else .stuck
    | some false => .exc c fs δ1
    | none => .stuck
  | o => o
def xNo : WX := fun _ _ _ _ => False
section
variable {X : Cx} {Γ : Gm} {E : WX} {P : List Nat}
theorem prot_set {σ σ' : St} {i : Nat} {v : V} (hi : i ∉ P) (h : Prot P (σ.set i (some v)) σ') : Prot P σ (σ'.set i none) := fun j hj => by
  have ne : i ≠ j := fun z => hi (by rw [z]; exact hj)
  rw [List.getElem?_set_ne ne, h j hj, List.getElem?_set_ne ne]
theorem prot_set0 {σ σ' : St} {i : Nat} {v : V} (hi : i ∉ P) (h : Prot P (σ.set i (some v)) σ') : Prot P σ σ' := fun j hj => by
  have ne : i ≠ j := fun z => hi (by rw [z]; exact hj)
  rw [h j hj, List.getElem?_set_ne ne]
theorem Abs.unset {F : Fr} {σ : St} {H G : Hp} {sl : TS'} {tm : List T} (A : Abs Γ F σ H G sl tm) {i : Nat} (hi : i < sl.length) : Abs Γ F (σ.set i none) H G (sl.set i none) tm :=
  (A.forget hi).sig (by simp) fun j t h => by
    have ne : i ≠ j := fun z => by subst z; rw [List.getElem?_set_self hi] at h; cases h
    rw [List.getElem?_set_ne ne]
theorem dsl_put (sl : TS') (i : Nat) (t : Option T) : dsl (sl.set i t) = (dsl sl).set i (t.map T.d) := by unfold dsl; rw [List.map_set]
theorem SOut.unset_ne {o : SOut} {i : Nat} {F : Fr} {σ : St} {G : Hp} {tm : List T} {Z : Ends} (h : PostS Γ E P F σ G tm Z (o.unset i)) : ∀ c fs δ, o ≠ .exc c fs δ := fun c fs δ e => by subst e; exact h
theorem ss_try {n i : Nat} {x nm : Str} {cv : Value} {gb : Es} {cs : Nat → Option Bool} {gh : Addr → Nat → Es} {body suite : List Stmt} {b₀ : Stmt} {np pos pos' : Pos} (hs : X.stack = X.env :: X.outer) (hf : X.env.frame = some X.env.locals) (hN : X.N.Nodup)
    (hi : X.N[i]? = some nm) (hln : X.env.kindOf nm = some .local) (hc : Names X x cv) (tk : Takes X E) (hiP : i ∉ P) (hn : n = X.N.length)
    (hcs : ∀ c b, cs c = some b → PySem.W.exmOne Γ.K (.ref (Γ.ca c)) cv = some b ∧ (b = true → Γ.fl c = []))
    (hb : ∀ (W : WX) (pn : List (Addr × Obj)) (xe : Value → Shared → Prop), Takes (X.tr pn xe) W → PassesOwn (model X.prog X.w) X.A X.env xe → SB (X.tr pn xe) Γ W P body gb)
    (hsu : ∀ (a : Addr) (oe : Obj) (c : Nat) (pn : List (Addr × Obj)), cs c = some true → Zc (.ref (Γ.ca c)) none oe → (∃ vs, oe.data = .fields vs) → SB (X.suite a ((a, oe) :: pn)) Γ xNo P (b₀ :: suite) (gh a c))
    (hind : ∀ (a : Addr) (c : Nat) (δ : DS), cs c = some true → δ.length = n → (gh a c (δ.set i (some (.rf a)))).unset i = (gh 0 c (δ.set i (some (.rf 0)))).unset i) :
    SS X Γ E P (.Try body [.ExceptHandler (some (.Name x np)) (some nm) (b₀ :: suite) pos'] [] [] pos) (sTry n gb i cs gh) := fun hK => by
  have hin : i < X.N.length := (List.getElem?_eq_some_iff.mp hi).1
  refine (ps_try_as (Wout := E) (tb := fun W => tS Γ W P gb) (ts := fun a cls d D σ H => ∃ c, cls = .ref (Γ.ca c) ∧ d = none ∧ cs c = some true ∧ tS Γ xNo P (gh a c) D σ H) hs hf hN hi hln hc tk (fun W pn xe t p => hb W pn xe t p hK) (fun a oe cls d pn hz hd => ?_)).imp fun D σ H ⟨F, G, sl, tm, A, q⟩ => ?_
  · refine ⟨fun pins s σ H D I ⟨c, e1, e2, e3, q⟩ => ?_⟩
    subst e1 e2
    exact (hsu a oe c pn e3 hz hd hK).run pins s σ H D I q
  · refine ⟨F.at G, G, sl, tm, A.root, ?_⟩
    unfold sTry at q
    cases hg : gb (dsl sl) with
    | exc c fs δ1 =>
      rw [hg] at q
      dsimp only at q
      intro σ1 pr H1 G1 sl1 dx A1 e1 xr
      cases hc1 : cs c with
      | none => rw [hc1] at q; exact q.elim
      | some b =>
        obtain ⟨hm, hfl⟩ := hcs c b hc1
        rw [hc1] at q
        refine ⟨b, by rw [hK]; exact hm, fun hb => ?_, fun hb => ?_⟩
        · subst hb
          dsimp only at q
          by_cases hl : δ1.length = n
          · rw [if_pos hl] at q
            intro a na
            have hdx : dx = none := by
              unfold ExR at xr
              rw [hfl rfl] at xr
              exact xr.1
            refine ⟨c, rfl, hdx, hc1, F, G1, sl1.set i (some (.leaf (.ref a) (.rf a))), tm, ?_, ?_⟩
            · have il : i < sl1.length := by rw [← dsl_len, e1, hl, hn]; exact hin
              exact (((A.unroot A1).leaf (v := .ref a) (d := .rf a) rfl).store il)
            · rw [dsl_put, e1]
              have q' := q
              rw [← hind a c δ1 hc1 hl] at q'
              have s1 : Sub G G1 := A1.g0.1
              have il : i < δ1.length := by rw [hl, hn]; exact hin
              show PostS Γ xNo P F (σ1.set i (some (.ref a))) G1 tm _ (gh a c (δ1.set i (some (.rf a))))
              cases ho : gh a c (δ1.set i (some (.rf a))) with
              | nx δ2 =>
                rw [ho] at q'
                by_cases hlt : i < δ2.length
                rotate_left
                · simp only [SOut.unset, if_neg hlt] at q'; exact q'.elim
                simp only [SOut.unset, if_pos hlt] at q'
                intro σ' H' G' sl' B s p e
                have il' : i < sl'.length := by rw [← dsl_len, e]; exact hlt
                exact q' _ _ _ _ (B.unset il') (s1.trans s) (pr.trans (prot_set hiP p)) (by rw [dsl_put, e]; rfl)
              | rt d δ2 =>
                rw [ho] at q'
                by_cases hlt : i < δ2.length
                rotate_left
                · simp only [SOut.unset, if_neg hlt] at q'; exact q'.elim
                simp only [SOut.unset, if_pos hlt] at q'
                intro σ' H' G' sl' t B s p ed e
                have il' : i < sl'.length := by rw [← dsl_len, e]; exact hlt
                exact q' _ _ _ _ t (B.forget il') (s1.trans s) (pr.trans (prot_set0 hiP p)) ed (by rw [dsl_put, e]; rfl)
              | bk δ2 =>
                rw [ho] at q'
                by_cases hlt : i < δ2.length
                rotate_left
                · simp only [SOut.unset, if_neg hlt] at q'; exact q'.elim
                simp only [SOut.unset, if_pos hlt] at q'
                intro σ' H' G' sl' B s p e
                have il' : i < sl'.length := by rw [← dsl_len, e]; exact hlt
                exact q' _ _ _ _ (B.unset il') (s1.trans s) (pr.trans (prot_set hiP p)) (by rw [dsl_put, e]; rfl)
              | ct δ2 =>
                rw [ho] at q'
                by_cases hlt : i < δ2.length
                rotate_left
                · simp only [SOut.unset, if_neg hlt] at q'; exact q'.elim
                simp only [SOut.unset, if_pos hlt] at q'
                intro σ' H' G' sl' B s p e
                have il' : i < sl'.length := by rw [← dsl_len, e]; exact hlt
                exact q' _ _ _ _ (B.unset il') (s1.trans s) (pr.trans (prot_set hiP p)) (by rw [dsl_put, e]; rfl)
              | exc c fs δ => rw [ho] at q'; exact q'.elim
              | stuck => rw [ho] at q'; exact q'.elim
          · rw [if_neg hl] at q; exact q.elim
        · subst hb
          dsimp only at q
          exact q σ1 pr H1 G1 sl1 dx (A.unroot A1) e1 xr
    | _ =>
      rw [hg] at q
      exact q.root A (by intros; exact fun z => nomatch z)
end
end L2.Pv
end
section
set_option Elab.async false
set_option linter.all false
set_option autoImplicit false
set_option maxRecDepth 100000
namespace L2
open PySem PySem.Spec PyProof.Rows
/-! ### list.count, flat items -/
def rCountF (K : PySem.W.Frag) : V → List V → Hp → VK → Prop := fun x xs H Q => ∃ (a : Addr) (ys : List V) (y : V), x = V.ref a ∧ xs = [y] ∧ SqL K H a ys ∧ flatV y = true ∧ ys.all flatV = true ∧ Q (.int ((ys.countP fun z => eqV z y : Nat) : Int)) H
theorem countP_eqU {y : V} : ∀ {ys : List V} {us : List Value}, Vals ys us → ys.all flatV = true → us.countP (eqU y) = ys.countP fun z => eqV z y
  | _, _, .nil, _ => rfl
  | _, _, .cons r t, f => by
    rw [List.all_cons, Bool.and_eq_true] at f
    rw [List.countP_cons, List.countP_cons, countP_eqU t f.2, eqU_of r f.1]
theorem mt_countF {X : Cx} : MtR X "list.count" (rCountF X.K) := by
  intro pins s σ H x xs v us Q I rx rxs h
  obtain ⟨a, ys, y, rfl, rfl, hs, fy, fys, q⟩ := h
  cases rx
  cases rxs with
  | cons ry rt =>
    rename_i uy ut
    cases rt
    obtain ⟨its, rv, ⟨⟨cls, dd, data, sl⟩, n, ho, hc, hdn, hd⟩, hlen⟩ := I.list hs
    simp only at hc hd
    subst hc hd
    refine call_meets PySem.F.slot_list_count ⟨_, ho, rfl⟩ PySem.F.entry_list_count (PySem.F.args_list_count_2 _ _)
      (SeqAt.list_countAt a its.toArray n dd sl uy (eqU y)) ⟨ho, fun u' hu' => mem_eqAt ry fy rv fys u' (by simpa using hu'), ?_⟩
    have ec : its.toArray.toList.countP (eqU y) = ys.countP fun z => eqV z y := countP_eqU rv fys
    refine ⟨.int ((ys.countP fun z => eqV z y : Nat) : Int), H, I.tok _, ⟨s.toks, ?_⟩, q⟩
    show Value.int ((its.toArray.toList.countP (eqU y) : Nat) : Int) s.toks = _
    rw [ec]
end L2
namespace L2.Pv
open PySem PySem.Spec PyProof.Rows
/-! ### methods that only read -/
def tyR (T : String) : D → Bool
  | .lst _ _ => T == "list"
  | .str _ => T == "str"
  | _ => false
def eRm (T : String) (g : D → D → Option D) (fa fb : Ev) : Ev := fun δ => (fa δ).bd fun a δ1 => if tyR T a = true then (fb δ1).bd fun b δ2 => lft (g a b) δ2 else .stuck
/-- a method of one argument, by values -/
def Rm1 (X : Cx) (Γ : Gm) (id : String) (g : D → D → Option D) : Prop := X.K = Γ.K → ∃ r : V → List V → Hp → VK → Prop, MtR X id r ∧
  ∀ F σ H G sl tm ta tb d Q, Abs Γ F σ H G sl tm → Good Γ G H ta → Good Γ G H tb → g ta.d tb.d = some d → Hands Γ F σ G sl tm d Q → r ta.v [tb.v] H Q
def D.fl1 : D → Option V
  | .non => some .non
  | .bl b => some (.bl b)
  | .int i => some (.int i)
  | .str x => some (.str x)
  | _ => none
def D.fls : List D → Option (List V)
  | [] => some []
  | d :: ds => match d.fl1, D.fls ds with
    | some v, some vs => some (v :: vs)
    | _, _ => none
section
variable {X : Cx} {Γ : Gm} {E : WX} {W Wa Wb : List Nat} {ra rb : Option Nat} {a b o : Expr} {fa fb : Ev} {pos apos cpos : Pos} {T' id : String} {name : Str} {g : D → D → Option D}
theorem tyR_of {K : PySem.W.Frag} {G H : Hp} (s : Sub G H) {u : T} {T : String} (hg : Good Γ G H u) (h : tyR T u.d = true) : tyV K T u.v H := by
  have vw := hg.view s
  cases e : u.d with
  | lst ow xs =>
    rw [e] at h vw
    obtain ⟨z, a, vs, ev, q, r⟩ := vw
    rw [ev]
    exact .inl ⟨by simpa [tyR] using h, _, SqL.of q⟩
  | str x =>
    rw [e] at h vw
    rw [show u.v = .str x from vw]
    exact (show T = "str" from by simpa [tyR] using h)
  | _ => rw [e] at h; cases h
theorem fl1_v {H : Hp} {v : V} {d : D} {x : V} (w : View Γ H v d) (h : d.fl1 = some x) : v = x ∧ flatV x = true := by
  cases d <;> cases h <;> exact ⟨w, rfl⟩
theorem fls_v {H : Hp} : ∀ {ds : List D} {vs xs : List V}, Views Γ H vs ds → D.fls ds = some xs → vs = xs ∧ xs.all flatV = true
  | [], vs, xs, w, h => by
    cases h
    exact ⟨w, rfl⟩
  | d :: ds, vs, xs, w, h => by
    obtain ⟨v, r, e, h1, h2⟩ := w
    unfold D.fls at h
    split at h
    · rename_i x ys hx hy
      cases h
      obtain ⟨e1, f1⟩ := fl1_v h1 hx
      obtain ⟨e2, f2⟩ := fls_v h2 hy
      subst e e1 e2
      exact ⟨rfl, by rw [List.all_cons, f1, f2]; rfl⟩
    · cases h
def dCount (a b : D) : Option D := match a with
  | .lst _ xs => match D.fls xs, b.fl1 with
    | some vs, some y => some (.int ((vs.countP fun z => eqV z y : Nat) : Int))
    | _, _ => none
  | _ => none
theorem r_count : Rm1 X Γ "list.count" dCount := fun hK => by
  refine ⟨_, mt_countF, ?_⟩
  intro F σ H G sl tm ta tb d Q A g1 g2 hg h
  unfold dCount at hg
  split at hg
  · rename_i ow xs e
    split at hg
    · rename_i vs y hv hy
      cases hg
      have w1 := g1.view A.sub
      rw [e] at w1
      obtain ⟨z, p, us, ev, q, r⟩ := w1
      obtain ⟨e1, f1⟩ := fls_v r hv
      obtain ⟨e2, f2⟩ := fl1_v (g2.view A.sub) hy
      subst e1
      exact ⟨p, us, y, ev, by rw [e2], SqL.of q, f2, f1, h.here A rfl⟩
    · cases hg
  · cases hg
def dIndex (a b : D) : Option D := match a with
  | .lst _ xs => match D.fls xs, b.fl1 with
    | some vs, some y => match vs.findIdx? fun z => eqV z y with
      | some j => some (.int (j : Nat))
      | none => none
    | _, _ => none
  | _ => none
theorem r_index : Rm1 X Γ "list.index" dIndex := fun hK => by
  refine ⟨_, mt_index, ?_⟩
  intro F σ H G sl tm ta tb d Q A g1 g2 hg h
  unfold dIndex at hg
  split at hg
  · rename_i ow xs e
    split at hg
    · rename_i vs y hv hy
      split at hg
      · rename_i j hj
        cases hg
        have w1 := g1.view A.sub
        rw [e] at w1
        obtain ⟨z, p, us, ev, q, r⟩ := w1
        obtain ⟨e1, f1⟩ := fls_v r hv
        obtain ⟨e2, f2⟩ := fl1_v (g2.view A.sub) hy
        subst e1
        obtain ⟨hjl, h1, h2⟩ := List.findIdx?_eq_some_iff_getElem.mp hj
        refine ⟨p, us, y, j, us[j], ev, by rw [e2], SqL.of q, f2, f1, List.getElem?_eq_getElem hjl, h1, fun m z' hm hz => ?_, h.here A rfl⟩
        obtain ⟨hml, em⟩ := List.getElem?_eq_some_iff.mp hz
        have := h2 m hm
        rw [em] at this
        simpa using this
      · cases hg
    · cases hg
  · cases hg
theorem se_rm (O : Rm1 X Γ id g) (pa : PlainAttrs T') (slot : Slot T' name id) (hty : typeOf (.builtin id) = pure (.type "method_descriptor")) (ha : SV X Γ E Wa ra o fa) (hb : SV X Γ E Wb rb b fb) (hr : ∀ i, ra = some i → i ∉ Wb)
    (hbase : attributeBase o name X.env (eval o X.env) = eval o X.env)
    (hfew : ((backTo cpos (starEach [b] X.env)).all (fun x => !x.1) && (backToKw cpos (keywordEach [] X.env)).all (fun x => x.1.isSome)
      && decide (([b] : List Expr).length + ([] : List Keyword).length + (if ([] : List Keyword).isEmpty then 0 else 1) < 30)) = true)
    (hline : (apos.endLine == cpos.line) = true) (hs : starEach [b] X.env = (false, eval b X.env) :: starEach [] X.env) (hplain : (backTo cpos (starEach [] X.env)).any (·.1) = false) :
    SE X Γ E (Wa ++ Wb) (.Call (.Attribute o name apos) [b] [] cpos) (eRm T' g fa fb) := fun hK => by
  obtain ⟨r, hm, hr2⟩ := O hK
  refine (pe_bm pa slot hty hm (ha hK) (pa1 (hb hK) hs) hbase hfew hline hs hplain).imp fun σ H Q ⟨F, G, sl, tm, A, q⟩ => ?_
  refine ⟨F, G, sl, tm, A, ?_⟩
  unfold eRm at q
  cases h1 : fa (dsl sl) with
  | stuck => rw [h1] at q; exact q
  | exc c fs δ => rw [h1] at q; exact q
  | ok da δ1 =>
    rw [h1, bd_ok] at q
    intro H1 G1 sl1 ex ta A1 w1 s1 e1 e1' k1
    by_cases ht : tyR T' da = true
    · rw [if_pos ht] at q
      have ga := w1.good A1
      refine ⟨tyR_of A1.sub ga (by rw [e1]; exact ht), F, G1, sl1, ex ++ tm, A1, ?_⟩
      rw [e1']
      cases h2 : fb δ1 with
      | stuck => rw [h2] at q; exact q
      | exc c fs δ => rw [h2] at q; exact PX.more q
      | ok db δ2 =>
        rw [h2, bd_ok] at q
        intro H2 G2 sl2 ex2 tb A2 w2 s2 e2 e2' k2
        cases h3 : g da db with
        | none => rw [h3] at q; exact q.elim
        | some d =>
          rw [h3, lft_some] at q
          have g1 := w1.later A1 A2 s2 (fun u hu => List.mem_append_right _ (List.mem_append_left _ hu)) fun i hi => k2 i (hr i hi)
          refine hr2 F σ H2 G2 sl2 tm ta tb d Q A2.dropN.dropN g1 (w2.good A2) (by rw [e1, e2]; exact h3) fun H' G' t A' s' e' => q H' G' sl2 t A' (s1.trans (s2.trans s')) e' e2' (k1.trans k2)
    · rw [if_neg ht] at q; exact q.elim
end
end L2.Pv
end
section
set_option Elab.async false
set_option linter.all false
set_option autoImplicit false
set_option maxRecDepth 100000
namespace L2.Pv
open PySem PySem.Spec PyProof.Rows
/-! ### isinstance(fault, C) in an except suite -/
def eIsF (i : Nat) (a : Addr) (b : Bool) : Ev := fun δ => match δ[i]? with
  | some (some (.rf a')) => if a' = a then .ok (.bl b) δ else .stuck
  | _ => .stuck
section
variable {X : Cx} {Γ : Gm} {E : WX} {pos : Pos}
theorem se_isF {i : Nat} {a C : Addr} {oe : Obj} {pn : List (Addr × Obj)} {f x y : Str} {p p1 p2 : Pos} {cV : V} {cv : Value} {b : Bool} (Z : ExcC Γ.K C) (hz : Zc (.ref C) none oe) (hf : ∃ vs, oe.data = .fields vs)
    (hg : Gl (X.suite a ((a, oe) :: pn)) x) (hm : X.mg x = none) (hv : bootBuiltins x = some (.builtin "isinstance")) (hn : x ≠ "__name__") (hdb : (x == ("__debug__" : Str)) = false)
    (hF : PE (X.suite a ((a, oe) :: pn)) (.Name f p1) (tVar i)) (hC : PE (X.suite a ((a, oe) :: pn)) (.Name y p2) (tC cV)) (hcv : ∀ u, RelV cV u → u = cv) (hk : PySem.W.kitOne Γ.K (.ref C) cv = some b)
    (he : starEach [.Name f p1, .Name y p2] X.env = (false, eval (.Name f p1) X.env) :: starEach [.Name y p2] X.env) (he2 : starEach [.Name y p2] X.env = (false, eval (.Name y p2) X.env) :: starEach [] X.env)
    (hpl : (backTo pos (starEach [.Name y p2] X.env)).any (·.1) = false) : SE (X.suite a ((a, oe) :: pn)) Γ E [] (.Call (.Name x p) [.Name f p1, .Name y p2] [] pos) (eIsF i a b) := fun hK => by
  have hK' : X.K = Γ.K := hK
  refine (pe_callB (call_isE (X := X) (by rw [hK']; exact Z) hz hf) hg hm hv (pa_cons hF (pa_cons hC pa_nil he2) he) hn hdb he hpl).imp fun σ H Q ⟨F, G, sl, tm, A, q⟩ => ?_
  unfold eIsF at q
  cases hd : (dsl sl)[i]? with
  | none => rw [hd] at q; exact q.elim
  | some o =>
    rw [hd] at q
    cases o with
    | none => exact q.elim
    | some d =>
      cases d with
      | rf a' =>
        dsimp only at q
        by_cases e : a' = a
        · rw [if_pos e] at q
          subst e
          obtain ⟨t, ht, ed⟩ := dsl_get hd
          have g := A.goodS i t ht
          have el := leaf_of_own g (by rw [ed]; rfl)
          rw [el, ed] at g
          refine ⟨t.v, A.val i t ht, cV, cv, b, ?_, hcv, by rw [show (X.suite _ _).K = Γ.K from hK]; exact hk, ?_⟩
          · rw [show t.v = .ref _ from g]
          · exact q H G sl (.leaf (.bl b) (.bl b)) (A.leaf rfl) (Sub.refl G) rfl rfl (Keep.refl _ _)
        · rw [if_neg e] at q; exact q.elim
      | _ => exact q.elim
end
end L2.Pv
end
section
set_option Elab.async false
set_option linter.all false
set_option autoImplicit false
set_option maxRecDepth 100000
namespace L2.Pv
open PySem PySem.Spec PyProof.Rows

/-! ### another ground -/
def Gm.wg (Γ : Gm) (g : Hp) : Gm := { Γ with gb := g }
mutual
theorem Rep.wg {Γ : Gm} {G g : Hp} : ∀ {v : V} (d : D), Rep Γ G v d → Rep (Γ.wg g) G v d
  | _, .non, h => h
  | _, .bl _, h => h
  | _, .int _, h => h
  | _, .str _, h => h
  | _, .tup ds, ⟨z, a, vs, e, q, r⟩ => ⟨z, a, vs, e, q, Reps.wg ds r⟩
  | _, .lst o ds, ⟨z, a, vs, e, q, r⟩ => ⟨z, a, vs, e, q, Reps.wg ds r⟩
  | _, .scr ns, h => h
  | _, .fn _, h => h
  | _, .rf _, h => h
  | _, .lam _ _ _, h => h
  | _, .ldc ks ds, ⟨z, a, vs, o, e, q, r⟩ => ⟨z, a, vs, o, e, q, Reps.wg ds r⟩
  | _, .dic o ks ds, ⟨z, a, vs, e, q, r⟩ => ⟨z, a, vs, e, q, Reps.wg ds r⟩
  | _, .obj o c ds, ⟨z, a, dx, vs, e, q, q2, r⟩ => ⟨z, a, dx, vs, e, q, q2, Reps.wg ds r⟩
theorem Reps.wg {Γ : Gm} {G g : Hp} : ∀ {vs : List V} (ds : List D), Reps Γ G vs ds → Reps (Γ.wg g) G vs ds
  | _, [], h => h
  | _, d :: ds, ⟨v, r, e, h1, h2⟩ => ⟨v, r, e, Rep.wg d h1, Reps.wg ds h2⟩
end
mutual
theorem Good.wg {Γ : Gm} {G H g : Hp} : ∀ (t : T), Good Γ G H t → Good (Γ.wg g) G H t
  | .leaf v d, h => Rep.wg d h
  | .lst a xs, h => ⟨h.1, Goods.wg xs h.2⟩
  | .dic a ks xs, h => ⟨h.1, Goods.wg xs h.2⟩
  | .obj a dx c xs, h => ⟨h.1, Goods.wg xs h.2⟩
theorem Goods.wg {Γ : Gm} {G H g : Hp} : ∀ (ts : List T), Goods Γ G H ts → Goods (Γ.wg g) G H ts
  | [], h => h
  | t :: ts, h => ⟨Good.wg t h.1, Goods.wg ts h.2⟩
end
section
variable {Γ : Gm} {F : Fr} {σ σ' : St} {H H' G G' g : Hp} {sl sl' : TS'} {tm ts us : List T}
theorem Abs.wg (A : Abs Γ F σ H G sl tm) (s : Sub g G) : Abs (Γ.wg g) F σ H G sl tm :=
  ⟨A.len, A.val, A.sub, A.keep, A.dom, ⟨A.g0.1, s, A.g0.2.2⟩, fun i t h => Good.wg t (A.goodS i t h), fun t h => Good.wg t (A.goodT t h), A.one, A.sep, A.fresh, A.tabs⟩
theorem Abs.ug (A : Abs (Γ.wg g) F σ H G sl tm) (s : Sub Γ.gb G) : Abs Γ F σ H G sl tm := Abs.wg (Γ := Γ.wg g) (g := Γ.gb) A s
/-- nothing owned: the start of a run -/
theorem Abs.fresh0 {slc : TS'} (hl : slc.length = σ.length) (hv : ∀ (i : Nat) (t : T), slc[i]? = some (some t) → σ[i]? = some (some t.v)) (hr : ∀ (i : Nat) (t : T), slc[i]? = some (some t) → ∃ v d, t = .leaf v d ∧ Rep Γ G v d)
    (s : Sub G H) (hg : Sub Γ.gb G) (n : NT G) (ht : LamX.Tabs Γ.tb H) : Abs Γ (FrOf H G []) σ H G slc [] := by
  have c0 : ∀ a, cS a slc = 0 := fun a => by
    by_cases q : 0 < cS a slc
    · obtain ⟨i, u, hu, c⟩ := cS_pos q
      obtain ⟨v, d, e, _⟩ := hr i u hu
      subst e
      rw [T.cnt] at c
      omega
    · omega
  refine ⟨hl, hv, s, fun a o h _ _ => (noT_sub h).1, fun a h => ?_, ⟨Sub.refl G, hg, n⟩, fun i t h => ?_, fun t h => absurd h (by simp), fun a => by rw [c0, T.cnts]; omega, fun a ha => ?_, fun a h => .inl h, ht⟩
  · cases q : noT H a with
    | none => exact absurd q h
    | some o => exact ⟨o, noT_sub q⟩
  · obtain ⟨v, d, e, r⟩ := hr i t h
    subst e
    exact r
  · rw [c0, T.cnts] at ha
    omega
/-- the ground of a run that owned nothing may be told smaller -/
theorem Abs.less {g : Hp} (A : Abs Γ (FrOf H g []) σ' H' G' sl' tm) (s : Sub G g) (hq : ∀ a, g a ≠ none → G a ≠ none ∨ ∃ o, g a = some o ∧ Quiet o) : Abs Γ (FrOf H G []) σ' H' G' sl' tm :=
  ⟨A.len, A.val, A.sub, A.keep, A.dom, ⟨fun a o h => A.g0.1 a o (s a o h), A.g0.2⟩, A.goodS, A.goodT, A.one, A.sep, fun a ha => by
    rcases A.fresh a ha with z | z
    · rcases hq a z with z | ⟨o, z, zq⟩
      · exact .inl z
      · exact .inr (.inr (.inr ⟨o, A.g0.1 a o z, zq⟩))
    · exact .inr z, A.tabs⟩
/-- the tables grew -/
theorem Abs.extN (A : Abs Γ F σ H G sl tm) (e : LamX.ExtN H H') (ht : LamX.Tabs Γ.tb H') : Abs Γ F σ H' G sl tm := by
  have gd : ∀ w, (∀ a, 0 < w.cnt a → H a ≠ none) → Good Γ G H w → Good Γ G H' w := fun w k g => g.mono (Sub.refl G) w fun a ha => by
    cases q : H a with
    | none => exact absurd q (k a ha)
    | some o => exact e a o q fun ps z => by subst z; exact Good.noTbl w g ha q
  refine ⟨A.len, A.val, fun a o h => e a o (A.sub a o h) (A.g0.2.2 a o h), fun a o h1 h2 h3 => e a o (A.keep a o h1 h2 h3) h2, fun a h => ?_, A.g0, fun i u h => gd u (fun a ha => (A.sep a (by have := cS_get (a := a) h; omega)).2.1) (A.goodS i u h),
    fun u h => gd u (fun a ha => (A.sep a (by have := cnts_mem (a := a) h; omega)).2.1) (A.goodT u h), A.one, fun a ha => ?_, A.fresh, ht⟩
  · obtain ⟨o, q, n⟩ := A.dom a h
    exact ⟨o, e a o q n, n⟩
  · obtain ⟨h1, h2, h3⟩ := A.sep a ha
    refine ⟨h1, ?_, h3⟩
    have hu : ∃ u : T, 0 < u.cnt a ∧ Good Γ G H u := by
      rcases Nat.lt_or_ge 0 (T.cnts a tm) with q2 | q2
      · obtain ⟨u, hu, c⟩ := cnts_pos q2
        exact ⟨u, c, A.goodT u hu⟩
      · obtain ⟨i, u, hu, c⟩ := cS_pos (a := a) (sl := sl) (by omega)
        exact ⟨u, c, A.goodS i u hu⟩
    obtain ⟨u, c, gu⟩ := hu
    cases q : H a with
    | none => exact absurd q h2
    | some o =>
      rw [e a o q fun ps z => by subst z; exact Good.noTbl u gu c q]
      exact fun z => nomatch z
end
end L2.Pv
end
section
set_option Elab.async false
set_option linter.all false
set_option autoImplicit false
set_option maxRecDepth 100000
namespace L2.Pv
open PySem PySem.Spec PyProof.Rows

/-! ### what a lambda answers -/
inductive AOut where
  | ok (d : D)
  | exc (c : Nat) (fs : List D)
  | stuck
def actOf (o : Out D) : AOut := match o with
  | .ok d _ => .ok d
  | .exc c fs _ => .exc c fs
  | .stuck => .stuck
/-- try: a() (k: return a()) / except C as x: .. -/
def sTryA (k : Bool) (f : Addr) (act : AOut) (n i : Nat) (cs : Nat → Option Bool) (gh : Addr → Nat → Es) : Es := fun δ => match δ[(0 : Nat)]? with
  | some (some (.rf a)) => if a = f then match act with
      | .ok d => if k = true then .rt d δ else .nx δ
      | .exc c _ => if cs c = some true then (gh 0 c ((List.replicate n none).set i (some (.rf 0)))).unset i else .stuck
      | .stuck => .stuck
    else .stuck
  | _ => .stuck
/-- the maker's slots at the lambda, by themselves -/
structure Capt (Γ : Gm) (g : Hp) (σm : St) (slc : TS') : Prop where
  len : slc.length = σm.length
  val : ∀ (i : Nat) (t : T), slc[i]? = some (some t) → σm[i]? = some (some t.v)
  rep : ∀ (i : Nat) (t : T), slc[i]? = some (some t) → ∃ v d, t = .leaf v d ∧ Rep Γ g v d
theorem Capt.mono {Γ : Gm} {g g' : Hp} {σm : St} {slc : TS'} (c : Capt Γ g σm slc) (s : Sub g g') : Capt Γ g' σm slc :=
  ⟨c.len, c.val, fun i t h => let ⟨v, d, e, r⟩ := c.rep i t h; ⟨v, d, e, r.mono s⟩⟩
section
variable {X : Cx} {Γ : Gm}
theorem try_core {k : Bool} {f c' : Addr} {q : Str} {tl : XK → Hp → VK → Prop} {fb : Ev} {Wb : List Nat} {σm : St} {slc : TS'} {g : Hp} {n i : Nat} {x nm : Str} {cv : Value} {cs : Nat → Option Bool} {gh : Addr → Nat → Es} {body suite : List Stmt} {b₀ : Stmt} {np pos pos' : Pos}
    (hs : X.stack = X.env :: X.outer) (hf : X.env.frame = some X.env.locals) (hN : X.N.Nodup) (hi : X.N[i]? = some nm) (hln : X.env.kindOf nm = some .local) (hc : Names X x cv) (tk : Takes X xNo) (hn : n = X.N.length)
    (hcs : ∀ c, cs c = some true → PySem.W.exmOne Γ.K (.ref (Γ.ca c)) cv = some true ∧ Γ.fl c = [])
    (hsub : Sub Γ.gb g) (hcode : g c' = some (LamX.CodeO c' q)) (C : Capt Γ g σm slc)
    (htl : ∀ E HZ Q', tE Γ (fun cls d _ H' => E cls d H') Wb fb σm HZ Q' → tl E HZ Q')
    (hb : ∀ (W : WX) (pn : List (Addr × Obj)) (xe : Value → Shared → Prop), Takes (X.tr pn xe) W → PSs (X.tr pn xe) body fun D σ H => ∃ Ech : XK, (∀ cls d σ' H', Ech cls d H' → W cls d σ' H') ∧ σ[0]? = some (some (.ref f)) ∧ H c' = some (LamX.CodeO c' q) ∧ tl Ech H fun v H' => if k = true then D.rt v H' else D.nx σ H')
    (hsu : ∀ (a : Addr) (oe : Obj) (c : Nat) (pn : List (Addr × Obj)), cs c = some true → Zc (.ref (Γ.ca c)) none oe → (∃ vs, oe.data = .fields vs) → SB (X.suite a ((a, oe) :: pn)) (Γ.wg g) xNo [] (b₀ :: suite) (gh a c))
    (hind : ∀ (a : Addr) (c : Nat), cs c = some true → (gh a c ((List.replicate n none).set i (some (.rf a)))).unset i = (gh 0 c ((List.replicate n none).set i (some (.rf 0)))).unset i) :
    SS X (Γ.wg g) xNo [] (.Try body [.ExceptHandler (some (.Name x np)) (some nm) (b₀ :: suite) pos'] [] [] pos) (sTryA k f (actOf (fb (dsl slc))) n i cs gh) := fun hK => by
  have hK0 : X.K = Γ.K := hK
  have hin : i < X.N.length := (List.getElem?_eq_some_iff.mp hi).1
  refine (ps_try_as (Wout := xNo) (tb := fun W D σ H => ∃ Ech : XK, (∀ cls d σ' H', Ech cls d H' → W cls d σ' H') ∧ σ[0]? = some (some (.ref f)) ∧ H c' = some (LamX.CodeO c' q) ∧ tl Ech H fun v H' => if k = true then D.rt v H' else D.nx σ H')
    (ts := fun a cls d D σ H => σ.length = n → ∃ c, cls = .ref (Γ.ca c) ∧ d = none ∧ cs c = some true ∧ tS (Γ.wg g) xNo [] (gh a c) D σ H) hs hf hN hi hln hc tk (fun W pn xe t _ => hb W pn xe t) (fun a oe cls d pn hz hd => ?_)).imp fun D σ H ⟨F, G, sl, tm, A, q⟩ => ?_
  · refine ⟨fun pins s σ H D I h => ?_⟩
    obtain ⟨c, e1, e2, e3, q⟩ := h (by rw [hn]; exact I.len)
    subst e1 e2
    exact (hsu a oe c pn e3 hz hd hK).run pins s σ H D I q
  · unfold sTryA at q
    cases hd : (dsl sl)[(0 : Nat)]? with
    | none => rw [hd] at q; exact q.elim
    | some o =>
      rw [hd] at q
      cases o with
      | none => exact q.elim
      | some d =>
        cases d with
        | rf a0 =>
          dsimp only at q
          by_cases e : a0 = f
          · rw [if_pos e] at q
            subst e
            obtain ⟨t, ht, ed⟩ := dsl_get hd
            have gt := A.goodS 0 t ht
            have el := leaf_of_own gt (by rw [ed]; rfl)
            rw [el, ed] at gt
            have hv : t.v = .ref a0 := gt
            have sg : Sub g G := A.g0.2.1
            have AΓ : Abs Γ F σ H G sl tm := A.ug (fun b o h => sg b o (hsub b o h))
            have st : Abs Γ (FrOf H G []) σm H G slc [] := Abs.fresh0 C.len C.val (C.mono sg).rep A.sub (fun b o h => sg b o (hsub b o h)) A.g0.2.2 A.tabs
            have bk : ∀ {H' G' : Hp} {sl' : TS'} {us : List T}, Abs Γ (FrOf H G []) σm H' G' sl' us → Abs (Γ.wg g) F σ H' G' sl (us ++ tm) ∧ Sub G G' := fun {H' G' sl' us} B => by
              obtain ⟨B1, s1⟩ := Abs.back (ts := []) AΓ B.noSlots
              exact ⟨B1.wg (sg.trans s1), s1⟩
            refine ⟨fun cls d H' => ∀ σ', wAs X.K cv i (fun a cls d D σ H => σ.length = n → ∃ c, cls = .ref (Γ.ca c) ∧ d = none ∧ cs c = some true ∧ tS (Γ.wg g) xNo [] (gh a c) D σ H) xNo D cls d σ' H', fun cls d σ' H' h => h σ', by rw [A.val 0 t ht, hv], A.sub _ _ (sg _ _ hcode), htl _ _ _ ⟨FrOf H G [], G, slc, [], st, ?_⟩⟩
            cases hfb : fb (dsl slc) with
            | ok d δ =>
              rw [hfb] at q
              intro H' G' sl' t' B s' ed' e' k'
              obtain ⟨B1, s1⟩ := bk B
              cases k with
              | true => exact q σ H' G' sl t' B1 s1 (Prot.refl _ _) ed' rfl
              | false => exact q σ H' G' sl B1.drop s1 (Prot.refl _ _) rfl
            | exc c fs δ =>
              rw [hfb] at q
              dsimp only [actOf] at q
              intro H1 G1 sl1 dx B e1 xr σ1
              by_cases hc1 : cs c = some true
              · rw [if_pos hc1] at q
                obtain ⟨hm, hfl⟩ := hcs c hc1
                refine ⟨true, by rw [hK0]; exact hm, fun _ a na hlen => ?_, fun z => nomatch z⟩
                have hl1 : σ1.length = n := by simpa using hlen
                have hdx : dx = none := by
                  unfold ExR at xr
                  rw [hfl] at xr
                  exact xr.1
                obtain ⟨B1, s1⟩ := bk B
                have B2 : Abs (Γ.wg g) F σ1 H1 G1 (List.replicate n none) tm := by
                  have B3 := (B1.noSlots)
                  refine ⟨by simp [hl1], fun j t h => ?_, B3.sub, B3.keep, B3.dom, B3.g0, fun j t h => ?_, B3.goodT, fun b => ?_, fun b hb => ?_, B3.fresh, B3.tabs⟩
                  · rw [List.getElem?_replicate] at h; split at h <;> cases h
                  · rw [List.getElem?_replicate] at h; split at h <;> cases h
                  · have c0 : cS b (List.replicate n none) = 0 := by unfold cS; simp [cO]
                    have := B3.one b
                    have c1 : cS b [] = 0 := rfl
                    rw [c1] at this
                    rw [c0]
                    exact this
                  · have c0 : cS b (List.replicate n none) = 0 := by unfold cS; simp [cO]
                    rw [c0] at hb
                    exact B3.sep b hb
                have il : i < (List.replicate n (none : Option T)).length := by simp [hn, hin]
                refine ⟨c, rfl, hdx, hc1, F, G1, (List.replicate n none).set i (some (.leaf (.ref a) (.rf a))), tm, (B2.leaf (v := .ref a) (d := .rf a) rfl).store il, ?_⟩
                rw [dsl_put, show dsl (List.replicate n none) = List.replicate n none from by unfold dsl; simp]
                rw [← hind a c hc1] at q
                show PostS (Γ.wg g) xNo [] F (σ1.set i (some (.ref a))) G1 tm _ (gh a c ((List.replicate n none).set i (some (.rf a))))
                have pr : ∀ {σ' : St}, Prot [] σ σ' := fun {σ'} j hj => absurd hj (by simp)
                cases ho : gh a c ((List.replicate n none).set i (some (.rf a))) with
                | nx δ2 =>
                  rw [ho] at q
                  by_cases hlt : i < δ2.length
                  rotate_left
                  · simp only [SOut.unset, if_neg hlt] at q; exact q.elim
                  simp only [SOut.unset, if_pos hlt] at q
                  intro σ' H' G' sl' B s p e
                  exact q _ _ _ _ (B.unset (by rw [← dsl_len, e]; exact hlt)) (s1.trans s) pr (by rw [dsl_put, e]; rfl)
                | rt d δ2 =>
                  rw [ho] at q
                  by_cases hlt : i < δ2.length
                  rotate_left
                  · simp only [SOut.unset, if_neg hlt] at q; exact q.elim
                  simp only [SOut.unset, if_pos hlt] at q
                  intro σ' H' G' sl' t B s p ed e
                  exact q _ _ _ _ t (B.forget (by rw [← dsl_len, e]; exact hlt)) (s1.trans s) pr ed (by rw [dsl_put, e]; rfl)
                | bk δ2 =>
                  rw [ho] at q
                  by_cases hlt : i < δ2.length
                  rotate_left
                  · simp only [SOut.unset, if_neg hlt] at q; exact q.elim
                  simp only [SOut.unset, if_pos hlt] at q
                  intro σ' H' G' sl' B s p e
                  exact q _ _ _ _ (B.unset (by rw [← dsl_len, e]; exact hlt)) (s1.trans s) pr (by rw [dsl_put, e]; rfl)
                | ct δ2 =>
                  rw [ho] at q
                  by_cases hlt : i < δ2.length
                  rotate_left
                  · simp only [SOut.unset, if_neg hlt] at q; exact q.elim
                  simp only [SOut.unset, if_pos hlt] at q
                  intro σ' H' G' sl' B s p e
                  exact q _ _ _ _ (B.unset (by rw [← dsl_len, e]; exact hlt)) (s1.trans s) pr (by rw [dsl_put, e]; rfl)
                | exc c fs δ => rw [ho] at q; exact q.elim
                | stuck => rw [ho] at q; exact q.elim
              · rw [if_neg hc1] at q; exact q.elim
            | stuck => rw [hfb] at q; exact q.elim
          · rw [if_neg e] at q; exact q.elim
        | _ => exact q.elim
end
end L2.Pv
end
section
set_option Elab.async false
set_option linter.all false
set_option autoImplicit false
set_option maxRecDepth 100000
namespace L2.Pv
open PySem PySem.Spec PyProof.Rows

def endsF : SOut → Option D
  | .rt d _ => some d
  | .nx _ => some .non
  | _ => none
def TTpv (Γ : Gm) (gout : AOut → Option D) : (XK → Hp → VK → Prop) → Hp → VK → Prop := fun tl H Q =>
  ∃ (σm : St) (slc : TS') (fb : Ev) (Wb : List Nat) (G : Hp) (d : D), (∀ E HZ Q', tE Γ (fun cls d _ H' => E cls d H') Wb fb σm HZ Q' → tl E HZ Q') ∧ Sub Γ.gb G ∧ Sub G H ∧ NT G ∧ LamX.Tabs Γ.tb H ∧ Capt Γ G σm slc ∧ gout (actOf (fb (dsl slc))) = some d ∧
    ∀ σ' H' G' sl' t, Abs Γ (FrOf H G []) σ' H' G' sl' [t] → t.d = d → Q t.v H'
section
variable {X : Cx} {Γ : Gm}
theorem gives_pv {Ng : List Str} {x a q : Str} {sg : Scope} {g : Addr} {cdg : Value} {bg : List Stmt} {gw : Addr → AOut → Es} {gout : AOut → Option D} (hNg : 0 < Ng.length) (hdo : ∀ f act, endsF (gw f act (argD Ng.length [.rf f])) = gout act) (hK : X.K = Γ.K)
    (hw : ∀ (f c' : Addr) (s : Shared) (H : Hp) (fb : Ev) (Wb : List Nat) (σm : St) (slc : TS') (gr : Hp) (tl : XK → Hp → VK → Prop), Sub Γ.gb gr → gr c' = some (LamX.CodeO c' q) → Capt Γ gr σm slc →
      (∀ E HZ Q', tE Γ (fun cls d _ H' => E cls d H') Wb fb σm HZ Q' → tl E HZ Q') →
      (∀ (W : WX) (pn : List (Addr × Obj)) (xe : Value → Shared → Prop) (E : XK) (p1 p2 : Pos), Takes ((cxOf C8.CX0 X.prog X.w X.K X.mg X.base Ng x sg g cdg X.A X.stack s H C8.E0).tr pn xe) W → (∀ cls d σ' H', E cls d H' → W cls d σ' H') →
        PE ((cxOf C8.CX0 X.prog X.w X.K X.mg X.base Ng x sg g cdg X.A X.stack s H C8.E0).tr pn xe) (.Call (.Name a p1) [] [] p2) (fun σZ HZ Q => σZ[0]? = some (some (.ref f)) ∧ HZ c' = some (LamX.CodeO c' q) ∧ tl E HZ Q)) →
      SB (cxOf C8.CX0 X.prog X.w X.K X.mg X.base Ng x sg g cdg X.A X.stack s H C8.E0).nox (Γ.wg gr) xNo [] bg (gw f (actOf (fb (dsl slc))))) :
    LamX.GivesTo X Ng x sg g cdg bg a q (TTpv Γ gout) := by
  intro f c' s H Q tl act hc ⟨σm, slc, fb, Wb, G, d, htl, hs, hGH, nG, hT, C, hd, hQ⟩
  -- the ground with the lambda's code
  have hgr : ∃ gr : Hp, Sub G gr ∧ Sub gr H ∧ NT gr ∧ gr c' = some (LamX.CodeO c' q) ∧ ∀ a, gr a ≠ none → G a ≠ none ∨ ∃ o, gr a = some o ∧ Quiet o := by
    cases hg : G c' with
    | some o =>
      have e := hGH _ _ hg
      rw [hc] at e
      cases e
      exact ⟨G, Sub.refl G, hGH, nG, hg, fun a h => .inl h⟩
    | none =>
      refine ⟨upd G c' (LamX.CodeO c' q), fun b o h => by rw [upd_ne (ne_of_none h hg)]; exact h, fun b o h => ?_, nG.upd (fun ps => LamX.codeO_ne ps), upd_same, fun a h => ?_⟩
      · by_cases e : b = c'
        · subst e; rw [upd_same] at h; cases h; exact hc
        · rw [upd_ne e] at h; exact hGH b o h
      · by_cases e : a = c'
        · subst e; exact .inr ⟨_, upd_same, trivial⟩
        · rw [upd_ne e] at h; exact .inl h
  obtain ⟨gr, s1, s2, n2, hcd, hq⟩ := hgr
  have hs2 : Sub Γ.gb gr := fun b o h => s1 b o (hs b o h)
  have SBx := hw f c' s H fb Wb σm slc gr tl hs2 hcd (C.mono s1) htl (fun W pn xe E p1 p2 => act W pn xe E p1 p2)
  have SBr := SBx hK
  refine ⟨_, SBr, FrOf H gr [], gr, some (.leaf (.ref f) (.rf f)) :: List.replicate (Ng.length - 1) none, [], ?_, ?_⟩
  · refine Abs.fresh0 (Γ := Γ.wg gr) ?_ (fun i t h => ?_) (fun i t h => ?_) s2 (Sub.refl gr) n2 hT
    · unfold L2.start
      simp
    · cases i with
      | zero =>
        have h : some (some (T.leaf (V.ref f) (D.rf f))) = some (some t) := h
        cases h
        rfl
      | succ i =>
        have h : (List.replicate (Ng.length - 1) (none : Option T))[i]? = some (some t) := h
        rw [List.getElem?_replicate] at h
        split at h <;> cases h
    · cases i with
      | zero =>
        have h : some (some (T.leaf (V.ref f) (D.rf f))) = some (some t) := h
        cases h
        exact ⟨_, _, rfl, rfl⟩
      | succ i =>
        have h : (List.replicate (Ng.length - 1) (none : Option T))[i]? = some (some t) := h
        rw [List.getElem?_replicate] at h
        split at h <;> cases h
  · have ea : dsl (some (.leaf (.ref f) (.rf f)) :: List.replicate (Ng.length - 1) none) = argD Ng.length [.rf f] := by
      unfold dsl argD
      simp
      rfl
    rw [ea]
    have hend := hdo f (actOf (fb (dsl slc)))
    rw [hd] at hend
    have fin : ∀ {σ' H' G' sl' t}, Abs (Γ.wg gr) (FrOf H gr []) σ' H' G' sl' [t] → t.d = d → Q t.v H' := fun {σ' H' G' sl' t} B ed => by
      have B1 := B.ug (Γ := Γ) (fun b o h => B.g0.1 b o (hs2 b o h))
      exact hQ σ' H' G' sl' t (B1.less s1 hq) ed
    cases ho : gw f (actOf (fb (dsl slc))) (argD Ng.length [.rf f]) with
    | rt d' δ =>
      rw [ho] at hend
      cases hend
      exact fun σ' H' G' sl' t B _ _ ed _ => fin B ed
    | nx δ =>
      rw [ho] at hend
      cases hend
      exact fun σ' H' G' sl' B _ _ _ => fin (B.leaf (v := .non) (d := .non) rfl) rfl
    | _ => rw [ho] at hend; cases hend
/-- the slots that a lambda takes along -/
def capS (cs : List Nat) (δ : DS) : DS := (List.range δ.length).map fun i => if i ∈ cs then δ[i]?.join else none
def eLam (cs : List Nat) (fb : Ev) (gout : AOut → Option D) : Ev := fun δ => if (capS cs δ).all (fun o => match o with | some d => nOwn d | none => true) = true then (match gout (actOf (fb (capS cs δ))) with | some d => .ok d δ | none => .stuck) else .stuck
theorem se_lam {E : WX} {cs : List Nat} {Wb : List Nat} {fb : Ev} {gout : AOut → Option D} {x a : Str} {g c P : Addr} {k : Nat} {pg : Arguments} {bg : List Stmt} {sg : Scope} {dV kV doc pm cdv ct oc : Value} {an od : Option Addr} {osl : Array (Option Value)} {Ng : List Str}
    {params : Arguments} {body : Expr} {scope : Scope} {p lpos pos : Pos} (hg : Gl X x) (hm : X.mg x = some (.ref g)) (hk : PySem.W.keepIn X.K (.ref g) = true)
    (lk : X.K.lookup g = some ⟨oc, od, .func (PySem.W.fnOf x x pg bg sg dV kV doc pm an cdv ct), osl⟩) (hcg : PySem.W.codeIn X.K cdv x = true) (hb : L2.Binds X.K (PySem.W.fnOf x x pg bg sg dV kV doc pm an cdv ct) [a] []) (Sg : FnScope Ng [a] sg) (hNg : Ng[0]? = some a) (hva : Vis sg a)
    (hG : X.K = Γ.K → LamX.GivesTo X Ng x sg g cdv bg a (X.env.qual ++ "<lambda>") (TTpv Γ gout))
    (TB : LamX.TabB X.base X.mg c P) (hcode : X.env.code = .ref c) (hmT : (P, X.env.qual ++ "<lambda>") ∈ Γ.tb) (hu : ∀ p ∈ Γ.tb, p.1 = P → p.2 = X.env.qual ++ "<lambda>") (hr : Room (k + 2) X.A) (L : LamX.LamS X.env.scope scope) (hdef : defaultsOf params X.env = ([], []))
    (hbind : ∀ (q : Str) (cl : List (Str × Addr)) (pm cv ctv : Value), bindArgs (PySem.W.kla_fn "<lambda>" q params body scope cl pm cv ctv) ⟨[], []⟩ = pure [])
    (hbody : ∀ (A : Around) (outer : List Env) (s : Shared) (H : Hp) (E : XK) (f c' : Addr), Room k (A.deeper (LamX.lamEnv X scope s.heap.objs.size f c')) → SE (LamX.lamCx X A outer s H E scope f c') Γ (fun cls d _ H' => E cls d H') Wb body fb)
    (hdb : (x == ("__debug__" : Str)) = false := by decide) (hd : (a == ("__debug__" : Str)) = false := by decide) (hcd : (a == ("__classdict__" : Str)) = false := by decide) :
    SE X Γ E [] (.Call (.Name x p) [.Lambda params body scope lpos] [] pos) (eLam cs fb gout) := fun hK =>
  (LamX.pe_lamcall (T := Γ.tb) (t := fun E => tE Γ (fun cls d _ H' => E cls d H') Wb fb) hg hm hk lk hcg hb Sg hNg hva (hG hK) TB hcode hmT hu hr L hdef hbind (fun A outer s H E f c' hr2 => hbody A outer s H E f c' hr2 hK) hdb hd hcd).imp fun σ H Q ⟨F, G, sl, tm, A, q⟩ => by
  refine ⟨A.tabs, fun H1 eN T1 => ?_⟩
  unfold eLam at q
  by_cases hall : (capS cs (dsl sl)).all (fun o => match o with | some d => nOwn d | none => true) = true
  · rw [if_pos hall] at q
    cases ho : gout (actOf (fb (capS cs (dsl sl)))) with
    | none => rw [ho] at q; exact q.elim
    | some d =>
      rw [ho] at q
      have A1 := A.extN eN T1
      have e1 : dsl ((List.range sl.length).map fun i => if i ∈ cs then sl[i]?.join else none) = capS cs (dsl sl) := by
        unfold capS dsl
        rw [List.map_map, List.length_map]
        refine List.map_congr_left fun i _ => ?_
        show Option.map T.d (if i ∈ cs then sl[i]?.join else none) = if i ∈ cs then ((List.map (Option.map T.d) sl)[i]?).join else none
        split
        · rw [List.getElem?_map]
          cases sl[i]? with
          | none => rfl
          | some o => rfl
        · rfl
      have cap : ∀ (i : Nat) (t : T), ((List.range sl.length).map fun i => if i ∈ cs then sl[i]?.join else none)[i]? = some (some t) → i ∈ cs ∧ sl[i]? = some (some t) := fun i t h => by
        rw [List.getElem?_map] at h
        cases hri : (List.range sl.length)[i]? with
        | none => rw [hri] at h; cases h
        | some j =>
          rw [hri] at h
          have hj : i = j := by
            rw [List.getElem?_range] at hri
            · exact Option.some.inj hri
            · have := (List.getElem?_eq_some_iff.mp hri).1; simpa using this
          subst hj
          have h : (if i ∈ cs then sl[i]?.join else none) = some t := Option.some.inj h
          split at h
          · rename_i hi
            refine ⟨hi, ?_⟩
            cases hs : sl[i]? with
            | none => rw [hs] at h; cases h
            | some o => rw [hs] at h; cases o with
              | none => cases h
              | some t' => cases h; rfl
          · cases h
      refine ⟨σ, (List.range sl.length).map fun i => if i ∈ cs then sl[i]?.join else none, fb, Wb, G, d, fun E HZ Q' h => h, A1.g0.2.1, A1.sub, A1.g0.2.2, A1.tabs, ⟨by simp [A.len], fun i t h => A.val i t (cap i t h).2, fun i t h => ?_⟩, by rw [e1]; exact ho, fun σ' H' G' sl' t B ed => ?_⟩
      · have hs := (cap i t h).2
        have gt := A1.goodS i t hs
        have ho2 : nOwn t.d = true := by
          have hm : some t.d ∈ capS cs (dsl sl) := by
            rw [← e1]
            unfold dsl
            exact List.mem_map.mpr ⟨some t, List.mem_of_getElem? h, rfl⟩
          exact List.all_eq_true.mp hall _ hm
        have el := leaf_of_own gt (by simpa [nOwn] using ho2)
        rw [el] at gt
        exact ⟨t.v, t.d, el, gt⟩
      · obtain ⟨B1, s1⟩ := Abs.back (ts := []) A1 B.noSlots
        exact q H' G' sl t B1 s1 ed rfl (Keep.refl _ _)
  · rw [if_neg hall] at q; exact q.elim
end
end L2.Pv
end
section
set_option Elab.async false
set_option linter.all false
set_option autoImplicit false
set_option maxRecDepth 100000
namespace L2.Pv
open PySem PySem.Spec PyProof.Rows

theorem takes_lam {X : Cx} {A : Around} {outer : List Env} {s : Shared} {H : Hp} {E : XK} {scope : Scope} {f c' : Addr} : Takes (LamX.lamCx X A outer s H E scope f c') (fun cls d _ H' => E cls d H') :=
  takes_of rfl rfl rfl rfl
section
variable {X : Cx} {CX : CXT} {k i : Nat} {f : Addr} {fd : FuncData} {ps : List Str} {sp : Sp} {E : St → XK} {x : Str} {p pos : Pos} {e : Expr} {es : List Expr} {t : TA}
theorem pe_callLS (F : FnOk X.prog X.w X.K X.mg X.base CX k f fd ps sp) (hr : Room k X.A) (hN : X.N[i]? = some x) (hv : Vis X.env.scope x) (hk : PySem.W.keepIn X.K (.ref f) = true) (hb : Binds X.K fd ps []) (hx : ∀ σ, PassesAt CX X σ (E σ)) (ha : PA X (e :: es) t)
    (hdb : (x == ("__debug__" : Str)) = false) (hcd : (x == ("__classdict__" : Str)) = false) (he : starEach (e :: es) X.env = (false, eval e X.env) :: starEach es X.env) (hpl : (backTo pos (starEach es X.env)).any (·.1) = false) :
    PE X (.Call (.Name x p) (e :: es) [] pos) (fun σ H Q => σ[i]? = some (some (.ref f)) ∧ t σ H fun vs H1 => sp vs H1 Q (E σ)) := by
  refine ⟨fun pins s σ H Q I h => ?_⟩
  obtain ⟨hs, ht⟩ := h
  refine wpAny_Call_Name_kw (thn ((pe_var (pos := p) hN hv hdb hcd).run pins s σ H (fun v H1 => v = .ref f ∧ H1 = H) I ⟨.ref f, hs, rfl, rfl⟩) fun u s1 ⟨v, H1, I1, r1, q1⟩ => ?_)
  obtain ⟨rfl, rfl⟩ := q1
  cases r1
  refine PySem.W.callWith_K (h₀ := X.base) I.ok.mod.kin hk (thn (ha.run pos pins s1 σ _ _ I1 ht) fun us s2 ⟨vs, H2, I2, r, q⟩ => ⟨I2.kIn, ?_⟩) he hpl
  exact run_fnS F hr hb (hx σ) I2 r q
end
/-- a def that a name holds is called: ms, the defs' answers -/
def calV (ks : List Nat) (i : Nat) (ms : Nat → List D → FOut) (g : EvA) : Ev := fun δ => match δ[i]? with
  | some (some (.fn j)) => if j ∈ ks then calF (ms j) g δ else .stuck
  | _ => .stuck
/-- a def of one promise -/
structure FnAt (X : Cx) (Γ : Gm) (k j : Nat) (m : List D → FOut) : Prop where
  ex : ∃ (fd : FuncData) (ps : List Str), FnOk X.prog X.w X.K X.mg X.base (L2.CX X.prog X.w) k (Γ.fa j) fd ps (spF Γ [] m) ∧ PySem.W.keepIn X.K (.ref (Γ.fa j)) = true ∧ Binds X.K fd ps []
section
variable {X : Cx} {Γ : Gm} {E : WX} {W : List Nat} {k n i : Nat} {x : Str} {p pos : Pos} {e : Expr} {es : List Expr} {g : EvA}
theorem se_calV {ks : List Nat} {ms : Nat → List D → FOut} (hF : ∀ j ∈ ks, FnAt X Γ k j (ms j)) (hr : Room k X.A) (hN : X.N[i]? = some x) (hv : Vis X.env.scope x) (tk : Takes X E) (ha : SA X Γ E W n (e :: es) g)
    (hdb : (x == ("__debug__" : Str)) = false) (hcd : (x == ("__classdict__" : Str)) = false) (he : starEach (e :: es) X.env = (false, eval e X.env) :: starEach es X.env) (hpl : (backTo pos (starEach es X.env)).any (·.1) = false) :
    SE X Γ E W (.Call (.Name x p) (e :: es) [] pos) (calV ks i ms g) := fun hK => by
  refine ⟨fun pins s σ H Q I ⟨F, G, sl, tm, A, q⟩ => ?_⟩
  unfold calV at q
  cases hd : (dsl sl)[i]? with
  | none => rw [hd] at q; exact q.elim
  | some o =>
    rw [hd] at q
    cases o with
    | none => exact q.elim
    | some d =>
      cases d with
      | fn j =>
        dsimp only at q
        by_cases hj : j ∈ ks
        · rw [if_pos hj] at q
          obtain ⟨t, ht, ed⟩ := dsl_get hd
          have gt := A.goodS i t ht
          have el := leaf_of_own gt (by rw [ed]; rfl)
          rw [el, ed] at gt
          have hv' : t.v = .ref (Γ.fa j) := gt
          obtain ⟨fd, ps, Fo, hk, hb⟩ := (hF j hj).ex
          refine (pe_callLS (E := fun σ cls d H => E cls d σ H) (i := i) Fo hr hN hv hk hb (fun σ => passAt tk σ) (ha hK) hdb hcd he hpl).run pins s σ H Q I ⟨by rw [A.val i t ht, hv'], ?_⟩
          have := calF_run (n := n) (E := E) (Γ := Γ) (W := W) (m := ms j) (g := g) (σ := σ) (H := H) (Q := Q) ⟨F, G, sl, tm, A, q⟩
          simpa using this
        · rw [if_neg hj] at q; exact q.elim
      | _ => exact q.elim
end
end L2.Pv
end
section
set_option Elab.async false
set_option linter.all false
set_option autoImplicit false
set_option maxRecDepth 100000
namespace L2
open PySem PySem.Spec PyProof.Rows
/-! ### d.setdefault(k, v), tuple keys -/
def rSdT : V → List V → Hp → VK → Prop := fun x xs H Q => ∃ (a : Addr) (y v : V) (kvs : List (List Key × V)) (k : List Key) (b : Addr), x = .ref a ∧ xs = [y, v] ∧ y = .ref b ∧ H a = some (.dT kvs) ∧ H b = some (.tup (k.map kV)) ∧ kvs.length < sizeLine ∧
  ((∃ w, valV kvs k = some w ∧ Q w H) ∨ (valV kvs k = none ∧ Q v (upd H a (.dT (putK kvs k v)))))
theorem mt_sdT {X : Cx} (hu : X.A.units + 8 < cLine) : MtR X "dict.setdefault" rSdT := by
  intro pins s σ H x xs u us Q I rx rxs h
  obtain ⟨a, y, v, kvs, k, b, rfl, rfl, rfl, e, eb, l, q⟩ := h
  obtain rfl : u = Value.ref a := rx
  cases rxs with
  | cons ry rt =>
    cases rt with
    | cons rv rn =>
      cases rn
      rename_i uy uv
      obtain rfl : uy = Value.ref b := ry
      obtain ⟨z, hd, vs, rel, dd⟩ := dt_of I.hok e
      have hz : vs.length ≤ sizeLine := by rw [← Paired.length rel]; exact z
      have hl : (putK kvs k v).length ≤ sizeLine := by have := length_putK kvs k v; omega
      refine call_setdefault_heap (hsz := hz) (tupleKind_room_in1 (by omega)) (key_of I.hok eb) hd dd (fun p hp => ?_) fun hn h' dd' hs => ?_
      · have rr := rel.val k
        rw [hp] at rr
        rcases q with ⟨w, hw, q⟩ | ⟨hw, q⟩
        · rw [hw] at rr
          exact ⟨w, H, I.tok _, rr, q⟩
        · rw [hw] at rr
          exact rr.elim
      · have rr := rel.val k
        rw [hn] at rr
        rcases q with ⟨w, hw, q⟩ | ⟨hw, q⟩
        · rw [hw] at rr
          exact rr.elim
        · obtain ⟨qq, es, ep, hq, h2, h3, h4, hhh, h5⟩ := dd'
          refine ⟨v, upd H a (.dT (putK kvs k v)), d_write (ob := .dT (putK kvs k v)) I (by rw [e]; exact True.intro) hs ⟨qq, hq⟩ ⟨hl, hd, _, (rel.put k eb rv).keeps fun c ys ec => ?_, qq, es, ep, hq, h2, h3, h4, h5⟩, rv, q⟩
          rw [upd_ne (ne_of ec e (fun z => nomatch z))]
          exact ec
end L2

namespace L2.Pv
open PySem PySem.Spec PyProof.Rows
theorem kV_inj : Function.Injective kV := fun x y h => by
  cases x with
  | inl i => cases y with
    | inl j => exact congrArg Sum.inl (by injection h)
    | inr j => exact nomatch h
  | inr i => cases y with
    | inl j => exact nomatch h
    | inr j => exact congrArg Sum.inr (by injection h)
theorem mapKV : ∀ {a b : List Key}, a.map kV = b.map kV → a = b
  | [], [], _ => rfl
  | [], _ :: _, h => by simp at h
  | _ :: _, [], h => by simp at h
  | x :: a, y :: b, h => by
    simp only [List.map_cons, List.cons.injEq] at h
    rw [kV_inj h.1, mapKV h.2]
theorem T.wk_self (t : T) : t.wk t.kids = t := by cases t <;> rfl
theorem T.upd_self : ∀ {pi : List Nat} {w u : T}, T.at w pi = some u → T.upd w pi u = w
  | [], w, u, h => by cases h; rfl
  | k :: pi, w, u, h => by
    unfold T.at at h
    unfold T.upd
    cases hk : w.kids[k]? with
    | none => rfl
    | some x =>
      rw [hk] at h
      dsimp only at h ⊢
      rw [T.upd_self h]
      have e : w.kids.set k x = w.kids := by
        refine List.ext_getElem? fun i => ?_
        by_cases q : k = i
        · subst q
          rw [List.getElem?_set_self (List.getElem?_eq_some_iff.mp hk).1, hk]
        · rw [List.getElem?_set_ne q]
      rw [e, T.wk_self]
theorem set_self {α : Type} {l : List α} {j : Nat} {x : α} (h : l[j]? = some x) : l.set j x = l := by
  refine List.ext_getElem? fun i => ?_
  by_cases q : j = i
  · subst q
    rw [List.getElem?_set_self (List.getElem?_eq_some_iff.mp h).1, h]
  · rw [List.getElem?_set_ne q]
def mSdT : Mg := fun n ds => match n, ds with
  | .dic true (.t ks) xs, [k, v] => match k.keyT with
    | some kk => if xs.length < sizeLine then (match posOf ks kk with
      | some i => (xs[i]?).bind fun d => if nOwn d then some (.dic true (.t ks) xs, d) else none
      | none => if nOwn v then some (.dic true (.t (ks ++ [kk])) (xs ++ [v]), v) else none) else none
    | none => none
  | _, _ => none
section
variable {X : Cx} {Γ : Gm}
theorem m_sdT (hu : X.A.units + 8 < cLine) : MtG X Γ "dict.setdefault" mSdT := fun hK => by
  refine ⟨_, mt_sdT hu, ?_⟩
  intro F σ H G sl tm ts w u j pi nd rd Q A hj hu hg q
  have gu := (node_at A hj hu).2
  unfold mSdT at hg
  split at hg
  · rename_i ks xs k v en ed
    cases ts with
    | nil => cases ed
    | cons tk ts =>
      cases ts with
      | nil => cases ed
      | cons tv ts =>
        cases ts with
        | cons t3 ts => cases ed
        | nil =>
          cases ed
          cases hk : tk.d.keyT with
          | none => rw [hk] at hg; cases hg
          | some kk =>
            rw [hk] at hg
            dsimp only at hg
            split at hg
            · rename_i hz
              have A0 : Abs Γ F σ H G sl (tk :: tv :: tm) := A
              have gk : Good Γ G H tk := A0.goodT tk List.mem_cons_self
              obtain ⟨b, ev, eb⟩ := keyT_v A.sub gk hk
              obtain ⟨p, us, eu, ets, hH, hz2, hl, hnd⟩ := node_dic gu en
              subst eu ets
              rw [List.length_map] at hz
              have hl : ks.length = us.length := hl
              have hlv : ks.length = (us.map T.v).length := by rw [List.length_map]; exact hl
              cases hp : posOf ks kk with
              | some i =>
                rw [hp] at hg
                dsimp only at hg
                rw [List.getElem?_map] at hg
                cases hx : us[i]? with
                | none => rw [hx] at hg; cases hg
                | some c =>
                  rw [hx] at hg
                  have hg : (if nOwn c.d = true then some (D.dic true (.t ks) (us.map T.d), c.d) else none) = some (nd, rd) := hg
                  split at hg
                  · rename_i ho
                    cases hg
                    have gc : Good Γ G H c := Goods_iff.mp gu.2 c (List.mem_of_getElem? hx)
                    have el := leaf_of_own gc (by simpa [nOwn] using ho)
                    have hv : valV (ks.zip (us.map T.v)) kk = some c.v := by
                      rw [valV_zip hlv, hp]
                      show (us.map T.v)[i]? = _
                      rw [List.getElem?_map, hx]
                      rfl
                    refine ⟨p, tk.v, tv.v, _, kk, b, rfl, rfl, ev, hH, A.sub _ _ eb, by rw [List.length_zip, List.length_map]; omega, .inl ⟨c.v, hv, ?_⟩⟩
                    rw [el] at gc
                    have A1 := (A0.drop.drop).leaf gc
                    refine q H G (.dic p (.t ks) us) (.leaf c.v c.d) ?_ (Sub.refl G) (by rw [T.d, T.ds_map]) rfl
                    rw [T.upd_self hu, set_self hj]
                    exact A1
                  · cases hg
              | none =>
                rw [hp] at hg
                dsimp only at hg
                split at hg
                · rename_i ho
                  cases hg
                  have gt : Good Γ G H tv := A0.goodT tv (List.mem_cons_of_mem _ List.mem_cons_self)
                  have el := leaf_of_own gt (by simpa [nOwn] using ho)
                  have hv : valV (ks.zip (us.map T.v)) kk = none := by
                    rw [valV_zip hlv, hp]
                    rfl
                  refine ⟨p, tk.v, tv.v, _, kk, b, rfl, rfl, ev, hH, A.sub _ _ eb, by rw [List.length_zip, List.length_map]; omega, .inr ⟨hv, ?_⟩⟩
                  have hpd : putD (T.dic p (.t ks) us).d tk.d tv.d = some (.dic true (.t (ks ++ [kk])) (us.map T.d ++ [tv.d])) := by
                    have hx : (DKs.t ks).ix tk.d = some none := by unfold DKs.ix; dsimp only; rw [hk, Option.map_some, hp]
                    show putD (D.dic true (.t ks) (T.ds us)) tk.d tv.d = _
                    unfold putD
                    dsimp only
                    simp only [hx, T.ds_map, List.length_map, if_pos hz, DKs.snoc, hk, Option.map_some]
                  obtain ⟨p', o, n, e1, e2, B, hput⟩ := Abs.put A0.drop hj hu gk hpd
                  have e1 : V.ref p = V.ref p' := e1
                  cases e1
                  have ho2 : upd H p o = upd H p (.dT (putK (ks.zip (us.map T.v)) kk tv.v)) := by
                    rcases hput with ⟨xs, i, k, _, h2, _⟩ | hput
                    · rw [hH] at h2; cases h2
                    · rcases hput with ⟨kvs, k, h1, _⟩ | ⟨kvs, k, b', h1, h2, h3, _, h5⟩
                      · rw [hH] at h1; cases h1
                      · rw [hH] at h1
                        cases h1
                        rw [ev] at h2
                        cases h2
                        have := A.sub _ _ eb
                        rw [h3] at this
                        have hkk : k = kk := by
                          injection this with z
                          injection z with z
                          exact mapKV z
                        subst hkk
                        exact h5
                  rw [ho2] at B
                  rw [el] at gt
                  have rt : Rep Γ G tv.v tv.d := gt
                  exact q _ G n (.leaf tv.v tv.d) (B.leaf rt) (Sub.refl G) (by rw [e2]) rfl
                · cases hg
            · cases hg
  · cases hg
end
end L2.Pv
end
section
set_option Elab.async false
set_option linter.all false
set_option autoImplicit false
set_option maxRecDepth 100000
namespace L2
open PySem PySem.Spec PyProof.Rows
/-! ### dict([(t, v), ..]), the keys tuples -/
def mergeT (acc kvs : List (List Key × V)) : List (List Key × V) := kvs.foldl (fun acc kv => putK acc kv.1 kv.2) acc
theorem length_mergeT : ∀ (kvs acc : List (List Key × V)), (mergeT acc kvs).length ≤ acc.length + kvs.length
  | [], acc => by show acc.length ≤ _; simp
  | kv :: kvs, acc => by
    have h1 := length_mergeT kvs (putK acc kv.1 kv.2)
    have h2 := length_putK acc kv.1 kv.2
    show (mergeT (putK acc kv.1 kv.2) kvs).length ≤ _
    rw [List.length_cons]
    omega
theorem KT_merge {H : Hp} : ∀ {kvs : List (List Key × V)} {prs : List (List Key × Addr × Value)}, KT H kvs prs → ∀ {acc : List (List Key × V)} {xs : List (List Key × Addr × Value)}, KT H acc xs → KT H (mergeT acc kvs) (storedAllH xs prs)
  | _, _, .nil, _, _, a => a
  | _, _, .cons (a := p) (b := q) h t, acc, xs, a => by
    obtain ⟨h1, h2, h3⟩ := h
    have z := KT_merge t (KT.put a p.1 (b := q.2.1) h2 h3)
    rw [h1] at z
    show KT H (mergeT (putK acc p.1 p.2) _) (storedAllH (storedH xs q.1 q.2.1 q.2.2) _)
    rw [h1]
    exact z
section
variable {X : Cx}
theorem pairsT_of {pins : List (Addr × Obj)} {σ : St} {H : Hp} {s : Shared} (I : Inv X pins σ H s) : ∀ {ps : List Addr} {kvs : List (List Key × V)}, Paired (fun p kv => ∃ b, SqT X.K H p [.ref b, kv.2] ∧ H b = some (.tup (kv.1.map kV))) ps kvs →
    ∃ prs : List (List Key × Addr × Value), KT H kvs prs ∧ prs.length = ps.length ∧ ∀ (j : Nat) (q : List Key × Addr × Value), prs[j]? = some q → ∃ T, ps[j]? = some T ∧ s.heap.IsTuple T #[.ref q.2.1, q.2.2]
  | _, _, .nil => ⟨[], .nil, rfl, fun j q e => by simp at e⟩
  | _, _, .cons (a := p) (b := kv) h t => by
    obtain ⟨prs, r, hl, hp⟩ := pairsT_of I t
    obtain ⟨b, hq, hb⟩ := h
    obtain ⟨its, rv, ht, _⟩ := I.tuple hq
    obtain ⟨u, y, ei, ru, ry⟩ := vals2 rv
    subst ei
    obtain rfl : u = Value.ref b := ru
    refine ⟨(kv.1, b, y) :: prs, .cons ⟨rfl, hb, ry⟩ r, by rw [List.length_cons, List.length_cons, hl], fun j q e => ?_⟩
    cases j with
    | zero =>
      have e' : (kv.1, b, y) = q := Option.some.inj e
      subst e'
      exact ⟨p, rfl, ht⟩
    | succ j =>
      obtain ⟨T, e1, e2⟩ := hp j q (by simpa using e)
      exact ⟨T, by simpa using e1, e2⟩
theorem call_dictPT (hcalm : X.calm = true) (hu : X.A.units + 8 < cLine) : CallR X (.type "dict") (fun xs H Q => ∃ (a : Addr) (ps : List Addr) (kvs : List (List Key × V)), xs = [.ref a] ∧ SqL X.K H a (ps.map V.ref) ∧ Paired (fun p kv => ∃ b, SqT X.K H p [.ref b, kv.2] ∧ H b = some (.tup (kv.1.map kV))) ps kvs ∧
    ∀ p, H p = none → Q (.ref p) (upd H p (.dT (mergeT [] kvs)))) := by
  intro pins s σ H xs us Q I r q
  obtain ⟨a, ps, kvs, ex, hq, hp, q⟩ := q
  subst ex
  obtain ⟨u, eu, rx⟩ := vals1 r
  subst eu
  cases rx
  obtain ⟨its, rv, pl, hz⟩ := I.list hq
  have ei := refs_at rv
  subst ei
  rw [List.length_map] at hz
  obtain ⟨prs, rel, hl, hpr⟩ := pairsT_of I hp
  obtain ⟨o, n, ho, hc, hd, hdat⟩ := pl
  refine call_dict_pairsH (knd := tupleKind (mixKind X.prog X.w)) (ps := prs) (PairArg.list a (ps.map Value.ref).toArray (fun j => ps[j]?.getD 0) (prs.map fun q => (Value.ref q.2.1, q.2.2))) (I.ok.hd hcalm) (tupleKind_room_in1 (by show X.A.in1.units + 1 < cLine; have : X.A.in1.units = X.A.units + 1 := rfl; omega))
    ⟨⟨o, n, ho, hc, hd, hdat⟩, ⟨by simp [hl], fun j k v hj => ?_⟩⟩ ⟨by simp, fun i key v hr => ?_⟩ (fun h' hk x hx => ?_) (by simp [hl]; exact hz) fun h' tk hd' k => ?_
  · rw [List.getElem?_map] at hj
    cases hx : prs[j]? with
    | none => rw [hx] at hj; cases hj
    | some q =>
      rw [hx] at hj
      cases hj
      obtain ⟨T, e1, e2⟩ := hpr j q hx
      refine ⟨by simp [e1], .inl ?_⟩
      show s.heap.IsTuple (ps[j]?.getD 0) _
      rw [e1]
      exact e2
  · have hr : (prs.map fun q => (Value.ref q.2.1, q.2.2))[i]? = some (key, v) := hr
    rw [List.getElem?_map] at hr
    cases hx : prs[i]? with
    | none => rw [hx] at hr; cases hr
    | some q =>
      rw [hx] at hr
      cases hr
      exact ⟨q.1, q.2.1, rfl, rfl⟩
  · obtain ⟨j, hj⟩ := List.getElem?_of_mem hx
    have hb : H x.2.1 = some (.tup (x.1.map kV)) := by
      have hjl := (List.getElem?_eq_some_iff.mp hj).1
      have hjk : j < kvs.length := by rw [Paired.length rel]; exact hjl
      obtain ⟨y, e0, e1, e2, _⟩ := paired_get rel (List.getElem?_eq_getElem hjk)
      rw [hj] at e0
      cases e0
      rw [← e1]
      exact e2
    have ky := key_of I.hok hb
    obtain ⟨o, its, n, h1, h2, h3, h4⟩ := ky
    refine ⟨o, its, n, hk _ _ (Nat.ne_of_lt (Heap.lt_size h1)) (by simp) h1, h2, h3, h4⟩
  · have hm : (s.heap.objs.size == sysModules) = false := beq_eq_false_iff_ne.mpr (Nat.ne_of_gt I.big)
    have hlen : (mergeT [] kvs).length ≤ sizeLine := by
      refine Nat.le_trans (length_mergeT kvs []) ?_
      rw [List.length_nil, Nat.zero_add, Paired.length rel, hl]
      exact hz
    have fr : H s.heap.objs.size = none := I.hok.fresh (Nat.le_refl _)
    have kt : KT H (mergeT [] kvs) (storedAllH [] prs) := KT_merge rel .nil
    obtain ⟨qq, es, ep, hq2, h2, h3, h4, hhh, h5⟩ := hd'
    have kt2 : KT (upd H s.heap.objs.size (.dT (mergeT [] kvs))) (mergeT [] kvs) (storedAllH [] prs) := KT.keeps kt fun c ys ec => by
      rw [upd_ne (ne_of_none ec fr)]
      exact ec
    exact ⟨.ref s.heap.objs.size, upd H s.heap.objs.size (.dT (mergeT [] kvs)), I.laid (t' := tk) (fun b o e => k b o (by simp) e) (Nat.le_refl _) (show ObjOk X.prog X.w _ _ _ (.dT (mergeT [] kvs)) from ⟨hlen, hm, _, kt2, qq, es, ep, hq2, h2, h3, h4, h5⟩), rfl, q _ fr⟩
end
end L2
end
section
set_option Elab.async false
set_option linter.all false
set_option autoImplicit false
set_option maxRecDepth 100000
namespace L2.Pv
open PySem PySem.Spec PyProof.Rows
/-! ### dict([(t, v), ..]) -/
def mergeD : List (List Key) → List D → List (List Key × D) → List (List Key) × List D
  | ks, xs, [] => (ks, xs)
  | ks, xs, (k, d) :: r => match posOf ks k with
    | some i => mergeD ks (xs.set i d) r
    | none => mergeD (ks ++ [k]) (xs ++ [d]) r
/-- a list of pairs: tuple key, value -/
def pairsD : List D → Option (List (List Key × D))
  | [] => some []
  | .tup [k, v] :: r => match k.keyT, pairsD r with
    | some kk, some ps => if nOwn v then some ((kk, v) :: ps) else none
    | _, _ => none
  | _ => none
def dDictP (a : D) : Option D := match a with
  | .lst _ xs => match pairsD xs with
    | some ps => some (.dic true (.t (mergeD [] [] ps).1) (mergeD [] [] ps).2)
    | none => none
  | _ => none
section
variable {Γ : Gm}
theorem Reps.set {G : Hp} {v : V} {d : D} (r : Rep Γ G v d) : ∀ {vs : List V} {ds : List D} (i : Nat), Reps Γ G vs ds → Reps Γ G (vs.set i v) (ds.set i d)
  | _, [], i, h => by rw [show _ = [] from h]; simp [Reps]
  | _, x :: ds, 0, h => by
    obtain ⟨u, t, e, h1, h2⟩ := h
    subst e
    exact ⟨v, t, rfl, r, h2⟩
  | _, x :: ds, i + 1, h => by
    obtain ⟨u, t, e, h1, h2⟩ := h
    subst e
    exact ⟨u, t.set i v, rfl, h1, Reps.set r i h2⟩
theorem mergeT_D {G : Hp} : ∀ {kvs : List (List Key × V)} {kds : List (List Key × D)} {ks : List (List Key)} {vs : List V} {ds : List D}, Paired (fun p q => p.1 = q.1 ∧ Rep Γ G p.2 q.2) kvs kds → ks.length = vs.length → ks.Nodup → Reps Γ G vs ds →
    ∃ vs', mergeT (ks.zip vs) kvs = (mergeD ks ds kds).1.zip vs' ∧ (mergeD ks ds kds).1.length = vs'.length ∧ (mergeD ks ds kds).1.Nodup ∧ Reps Γ G vs' (mergeD ks ds kds).2 ∧ vs'.length ≤ vs.length + kvs.length
  | _, _, ks, vs, ds, .nil, hl, nd, r => ⟨vs, rfl, hl, nd, r, by simp⟩
  | _, _, ks, vs, ds, .cons (a := p) (b := q) h t, hl, nd, r => by
    obtain ⟨h1, h2⟩ := h
    obtain ⟨kk, d⟩ := q
    have h1 : p.1 = kk := h1
    cases hp : posOf ks kk with
    | some i =>
      obtain ⟨vs', e1, e2, e3, e4, e5⟩ := mergeT_D t (ks := ks) (vs := vs.set i p.2) (ds := ds.set i d) (by rw [List.length_set]; exact hl) nd (Reps.set h2 i r)
      have em : ∀ r, mergeD ks ds ((kk, d) :: r) = mergeD ks (ds.set i d) r := fun r => by rw [mergeD, hp]
      refine ⟨vs', ?_, ?_⟩
      · rw [em]
        show mergeT (putK (ks.zip vs) p.1 p.2) _ = _
        rw [h1, putK_there p.2 hp hl nd]
        exact e1
      · rw [em]
        exact ⟨e2, e3, e4, by rw [List.length_set] at e5; rw [List.length_cons]; omega⟩
    | none =>
      obtain ⟨vs', e1, e2, e3, e4, e5⟩ := mergeT_D t (ks := ks ++ [kk]) (vs := vs ++ [p.2]) (ds := ds ++ [d]) (by rw [List.length_append, List.length_append, hl]; rfl) (nd_snoc nd (posOf_none hp)) (r.append ⟨p.2, [], rfl, h2, rfl⟩)
      have em : ∀ r, mergeD ks ds ((kk, d) :: r) = mergeD (ks ++ [kk]) (ds ++ [d]) r := fun r => by rw [mergeD, hp]
      refine ⟨vs', ?_, ?_⟩
      · rw [em]
        show mergeT (putK (ks.zip vs) p.1 p.2) _ = _
        rw [h1, putK_not p.2 hp hl]
        exact e1
      · rw [em]
        exact ⟨e2, e3, e4, by rw [List.length_append] at e5; rw [List.length_cons]; simp at e5; omega⟩
theorem pairs_views {K : PySem.W.Frag} (hK : K = Γ.K) {G H : Hp} (s : Sub G H) : ∀ {xs : List D} {vs : List V} {kds : List (List Key × D)}, Reps Γ G vs xs → pairsD xs = some kds →
    ∃ (ps : List Addr) (kvs : List (List Key × V)), vs = ps.map V.ref ∧ Paired (fun p kv => ∃ b, SqT K H p [.ref b, kv.2] ∧ H b = some (.tup (kv.1.map kV))) ps kvs ∧ Paired (fun p q => p.1 = q.1 ∧ Rep Γ G p.2 q.2) kvs kds
  | [], vs, kds, r, h => by
    cases h
    exact ⟨[], [], r, .nil, .nil⟩
  | x :: xs, vs, kds, r, h => by
    obtain ⟨v0, rest, e, r1, r2⟩ := r
    subst e
    unfold pairsD at h
    split at h
    · cases ‹_ :: _ = []›
    · rename_i k v r' heq
      cases heq
      split at h
      · rename_i kk ps hk hps
        split at h
        · rename_i ho
          cases h
          obtain ⟨ps', kvs, e1, p1, p2⟩ := pairs_views hK s r2 hps
          obtain ⟨z, a, ws, ev, q, rw'⟩ := r1
          obtain ⟨vk, rk, e2, rk1, rk2⟩ := rw'
          obtain ⟨vv, rv, e3, rv1, rv2⟩ := rk2
          have e4 : rv = [] := rv2
          subst e4 e3 e2
          obtain ⟨b, eb, hb⟩ := keyT_v s (t := .leaf vk k) (Γ := Γ) (G := G) (H := H) rk1 hk
          have eb : vk = .ref b := eb
          subst eb
          exact ⟨a :: ps', (kk, vv) :: kvs, by rw [ev, e1]; rfl, .cons ⟨b, by rw [hK]; exact sqT_of s q, s _ _ hb⟩ p1, .cons ⟨rfl, rv1⟩ p2⟩
        · cases h
      · cases h
    · cases h
theorem leaves_of {G : Hp} : ∀ {vs : List V} {ds : List D}, Reps Γ G vs ds → ∃ ts : List T, ts.map T.v = vs ∧ ts.map T.d = ds ∧ ∀ t ∈ ts, ∃ v d, t = .leaf v d ∧ Rep Γ G v d
  | vs, [], h => ⟨[], by rw [show vs = [] from h]; rfl, rfl, fun t ht => absurd ht (by simp)⟩
  | _, d :: ds, ⟨v, r, e, h1, h2⟩ => by
    subst e
    obtain ⟨ts, e1, e2, e3⟩ := leaves_of h2
    refine ⟨.leaf v d :: ts, by rw [List.map_cons, e1]; rfl, by rw [List.map_cons, e2]; rfl, fun t ht => ?_⟩
    rcases List.mem_cons.mp ht with rfl | ht
    · exact ⟨v, d, rfl, h1⟩
    · exact e3 t ht
theorem cnts_leaves {a : Addr} {G : Hp} : ∀ {ts : List T}, (∀ t ∈ ts, ∃ v d, t = .leaf v d ∧ Rep Γ G v d) → T.cnts a ts = 0
  | [], _ => rfl
  | t :: ts, h => by
    obtain ⟨v, d, e, _⟩ := h t List.mem_cons_self
    subst e
    rw [T.cnts, T.cnt, cnts_leaves fun t ht => h t (List.mem_cons_of_mem _ ht)]
theorem Abs.newDicT {F : Fr} {σ : St} {H G : Hp} {sl : TS'} {tm : List T} (A : Abs Γ F σ H G sl tm) {p : Addr} (hp : H p = none) {ks : List (List Key)} {vs : List V} {ds : List D} (hl : ks.length = vs.length) (nd : ks.Nodup) (hz : vs.length ≤ sizeLine) (r : Reps Γ G vs ds) :
    ∃ ts, T.ds ts = ds ∧ Abs Γ F σ (upd H p (.dT (ks.zip vs))) G sl (.dic p (.t ks) ts :: tm) := by
  obtain ⟨ts, e1, e2, e3⟩ := leaves_of r
  refine ⟨ts, by rw [T.ds_map]; exact e2, ?_⟩
  have B := A.grow (o := .dT (ks.zip vs)) hp
  obtain ⟨n1, n2⟩ := A.new0 hp
  have c0 : cS p sl + T.cnts p tm = 0 := by
    by_cases e : 0 < cS p sl + T.cnts p tm
    · exact absurd hp (A.sep p e).2.1
    · omega
  have cl : ∀ a, T.cnts a ts = 0 := fun a => cnts_leaves e3
  have ec : ∀ a, T.cnts a (T.dic p (.t ks) ts :: tm) = (if p = a then 1 else 0) + T.cnts a tm := fun a => by rw [T.cnts, T.cnt, cl]; omega
  have hlt : ts.length = vs.length := by rw [← e1, List.length_map]
  refine ⟨B.len, B.val, B.sub, B.keep, B.dom, B.g0, B.goodS, fun u hu => ?_, fun a => ?_, fun a ha => ?_, B.fresh, B.tabs⟩
  · rcases List.mem_cons.mp hu with rfl | hu
    · refine ⟨⟨by rw [upd_same, e1]; rfl, by omega, ⟨by rw [hlt]; exact hl, nd⟩⟩, Goods_iff.mpr fun t ht => ?_⟩
      obtain ⟨v, d, e, q⟩ := e3 t ht
      subst e
      exact q
    · exact B.goodT u hu
  · rw [ec]
    by_cases e : p = a
    · subst e; rw [if_pos rfl]; omega
    · rw [if_neg e]; have := A.one a; omega
  · rw [ec] at ha
    by_cases e : p = a
    · subst e
      refine ⟨n1, ?_, .inl n2⟩
      rw [upd_same]
      exact fun z => nomatch z
    · rw [if_neg e] at ha
      exact B.sep a (by omega)
theorem k_dictP {X : Cx} (hc : X.calm = true) (hu : X.A.units + 8 < cLine) : Cal1 X Γ (.type "dict") dDictP := fun hK => by
  refine ⟨_, call_dictPT hc hu, ?_⟩
  rintro F σ H G sl tm t d Q A g hg h
  unfold dDictP at hg
  split at hg
  · rename_i o xs e
    split at hg
    · rename_i ps hps
      cases hg
      have ho : xs.all nOwn = true := by
        have : ∀ {xs : List D} {ps : List (List Key × D)}, pairsD xs = some ps → xs.all nOwn = true := by
          intro xs
          induction xs with
          | nil => intro ps _; rfl
          | cons x xs ih =>
            intro ps h
            unfold pairsD at h
            split at h
            · cases ‹_ :: _ = []›
            · rename_i k v r heq
              cases heq
              split at h
              · rename_i kk ps' hk hps'
                rw [List.all_cons, ih hps']
                rfl
              · cases h
            · cases h
        exact this hps
      obtain ⟨z, a, vs, ev, q, r⟩ := lst_of A.sub g e ho
      obtain ⟨as, kvs, e1, p1, p2⟩ := pairs_views hK A.sub r hps
      refine ⟨a, as, kvs, by rw [ev], ?_, p1, fun p hp => ?_⟩
      · rw [← e1]; exact SqL.of q
      · obtain ⟨vs', f1, f2, f3, f4, f5⟩ := mergeT_D p2 (ks := []) (vs := []) (ds := []) rfl List.nodup_nil rfl
        have hlen : vs'.length ≤ sizeLine := by
          have l1 := p1.length
          have l2 : vs.length = as.length := by rw [e1, List.length_map]
          have l3 := r.len
          simp at f5
          omega
        obtain ⟨ts, et, B⟩ := A.newDicT hp f2 f3 hlen f4
        have f1 : mergeT [] kvs = _ := f1
        rw [f1]
        refine h _ G (.dic p _ ts) B (Sub.refl G) ?_
        rw [T.d, et]
    · cases hg
  · cases hg
end
end L2.Pv
end
section
set_option Elab.async false
set_option linter.all false
set_option autoImplicit false
set_option maxRecDepth 100000
namespace L2.Pv
open PySem PySem.Spec PyProof.Rows
/-! ### repr -/
mutual
def D.pyR : D → PyData
  | .non => .none
  | .bl b => .bool b
  | .int i => .int i
  | .str x => .str x
  | .tup xs => .tuple (D.pyRs xs)
  | .lst _ xs => .list (D.pyRs xs)
  | .scr _ => .none
  | .fn _ => .none
  | .rf _ => .none
  | .lam _ _ _ => .none
  | .ldc _ _ => .none
  | .dic _ _ _ => .dict []
  | .obj _ _ _ => .none
def D.pyRs : List D → List PyData
  | [] => []
  | x :: xs => D.pyR x :: D.pyRs xs
end
mutual
def D.repOk : D → Bool
  | .non => true
  | .bl _ => true
  | .int _ => true
  | .str _ => true
  | .tup xs => D.repOks xs
  | .lst _ xs => D.repOks xs
  | .dic _ (.k []) [] => true
  | _ => false
def D.repOks : List D → Bool
  | [] => true
  | x :: xs => D.repOk x && D.repOks xs
end
section
variable {X : Cx} {Γ : Gm} {pins : List (Addr × Obj)} {σ : St} {H : Hp} {s : Shared}
mutual
theorem View.reads (I : Inv X pins σ H s) (hK : X.K = Γ.K) (h1 : ∃ o u, H sysModules = some (.frz o u)) : ∀ {v : V} {u : Value} (d : D), View Γ H v d → d.repOk = true → RelV v u → ∃ as, Reads s.heap u d.pyR as ∧ sysModules ∉ as
  | _, _, .non, h, _, r => by
    rw [show _ = V.non from h] at r
    cases r
    exact ⟨_, Reads.none, by simp⟩
  | _, _, .bl b, h, _, r => by
    rw [show _ = V.bl b from h] at r
    cases r
    exact ⟨_, Reads.bool b, by simp⟩
  | _, _, .int i, h, _, r => by
    rw [show _ = V.int i from h] at r
    obtain ⟨t, rfl⟩ := r
    exact ⟨_, Reads.int i t, by simp⟩
  | _, _, .str x, h, _, r => by
    rw [show _ = V.str x from h] at r
    obtain ⟨t, rfl⟩ := r
    exact ⟨_, Reads.str x t, by simp⟩
  | _, _, .tup xs, ⟨z, a, vs, e, q, w⟩, k, r => by
    subst e
    cases r
    obtain ⟨its, rv, ⟨o, ho, hc, n, hd⟩, _⟩ := I.tuple (by rw [hK]; exact q)
    obtain ⟨as, hr, hn⟩ := Views.reads I hK h1 xs w k rv
    exact ⟨_, Reads.tuple ho hc hd hr, hn⟩
  | _, _, .lst ow xs, ⟨z, a, vs, e, q, w⟩, k, r => by
    subst e
    cases r
    obtain ⟨its, rv, ⟨o, n, ho, hc, _, hd⟩, _⟩ := I.list (SqL.of q)
    obtain ⟨as, hr, hn⟩ := Views.reads I hK h1 xs w k rv
    refine ⟨_, Reads.list ho hc hd hr, fun hm => ?_⟩
    rcases List.mem_cons.mp hm with e | hm
    · obtain ⟨o1, u1, hφ⟩ := h1
      rw [e, q] at hφ
      cases hφ
    · exact hn hm
  | _, _, .dic ow (.k []) [], ⟨z, a, vs, e, q, w⟩, _, r => by
    subst e
    cases r
    have q : H a = some (.dK []) := q
    obtain ⟨_, hd, prs, rel, o, es, ep, ho, hx, hdt, _, pr, _⟩ := dk_of I.hok q
    cases rel
    have e0 : es.toList = [] := by
      cases hes : es.toList with
      | nil => rfl
      | cons x xs => rw [hes] at pr; cases pr
    have hr : Reads s.heap (.ref a) (.dict []) (a :: [] ++ []) := Reads.dict (kvs := []) ho hx.1 hdt (by rw [e0]; exact .nil) (by rw [e0]; exact .nil)
    refine ⟨_, hr, fun hm => ?_⟩
    have : sysModules = a := by simpa using hm
    subst this
    simp at hd
  | _, _, .scr _, _, k, _ => nomatch k
  | _, _, .fn _, _, k, _ => nomatch k
  | _, _, .rf _, _, k, _ => nomatch k
  | _, _, .lam _ _ _, _, k, _ => nomatch k
  | _, _, .ldc _ _, _, k, _ => nomatch k
  | _, _, .dic _ (.k []) (_ :: _), _, k, _ => nomatch k
  | _, _, .dic _ (.k (_ :: _)) _, _, k, _ => nomatch k
  | _, _, .dic _ (.t _) _, _, k, _ => nomatch k
  | _, _, .obj _ _ _, _, k, _ => nomatch k
theorem Views.reads (I : Inv X pins σ H s) (hK : X.K = Γ.K) (h1 : ∃ o u, H sysModules = some (.frz o u)) : ∀ {vs : List V} {us : List Value} (ds : List D), Views Γ H vs ds → D.repOks ds = true → Vals vs us → ∃ as, ReadsAll s.heap us (D.pyRs ds) as ∧ sysModules ∉ as
  | _, _, [], h, _, r => by
    rw [show _ = [] from h] at r
    cases r
    exact ⟨_, ReadsAll.nil, by simp⟩
  | _, _, d :: ds, ⟨v, rest, e, a1, a2⟩, k, r => by
    subst e
    unfold D.repOks at k
    rw [Bool.and_eq_true] at k
    cases r with
    | cons r1 r2 =>
      obtain ⟨as, q1, n1⟩ := View.reads I hK h1 d a1 k.1 r1
      obtain ⟨bs, q2, n2⟩ := Views.reads I hK h1 ds a2 k.2 r2
      exact ⟨_, ReadsAll.cons q1 q2, fun hm => (List.mem_append.mp hm).elim n1 n2⟩
end
theorem call_repr (hK : X.K = Γ.K) (hg : X.A.guards = some []) (hu : X.A.units + 65 < cLine) : CallR X (.builtin "repr") (fun xs H Q => ∃ (a : Addr) (d : D), xs = [.ref a] ∧ View Γ H (.ref a) d ∧ d.repOk = true ∧ (∃ o u, H sysModules = some (.frz o u)) ∧ d.pyR.showable = true ∧ d.pyR.depth + 1 ≤ 65 ∧ d.pyR.shown.length ≤ sizeLine ∧
    Q (.str d.pyR.shown) H) := by
  intro pins s σ H xs us Q I r ⟨a, d, ex, vw, ok, h1, hs, hd, hz, q⟩
  subst ex
  obtain ⟨u, eu, rx⟩ := vals1 r
  subst eu
  obtain rfl : u = Value.ref a := rx
  obtain ⟨as, hr, hn⟩ := View.reads (u := .ref a) I hK h1 d vw ok rfl
  exact repr_of_reads' hr hs (fun _ => hn) hg (by omega) (fun b o e => e) (fun h' u tk k => ⟨.str d.pyR.shown, H, I.kept k, ⟨u, rfl⟩, q⟩) hz
def dRepr (a : D) : Option D := match a with
  | .lst o xs => if ((D.lst o xs).repOk && (D.lst o xs).pyR.showable && decide ((D.lst o xs).pyR.depth + 1 ≤ 65) && decide ((D.lst o xs).pyR.shown.length ≤ sizeLine)) = true then some (.str (D.lst o xs).pyR.shown) else none
  | _ => none
theorem k_repr (hg : X.A.guards = some []) (hu : X.A.units + 65 < cLine) (hgb : ∃ o u, Γ.gb sysModules = some (.frz o u)) : Cal1 X Γ (.builtin "repr") dRepr := fun hK => by
  refine ⟨_, call_repr hK hg hu, ?_⟩
  rintro F σ H G sl tm t d Q A g hg2 h
  unfold dRepr at hg2
  split at hg2
  · rename_i o xs e
    split at hg2
    · rename_i hc
      cases hg2
      simp only [Bool.and_eq_true, decide_eq_true_eq] at hc
      obtain ⟨⟨⟨c1, c2⟩, c3⟩, c4⟩ := hc
      have vw := g.view A.sub
      rw [e] at vw
      obtain ⟨z, a, vs, ev, q, r⟩ := id vw
      obtain ⟨o1, u1, hφ⟩ := hgb
      rw [ev] at vw
      refine ⟨a, D.lst o xs, by rw [ev], vw, c1, ⟨o1, u1, A.sub _ _ (A.g0.2.1 _ _ hφ)⟩, c2, c3, c4, h.here A rfl⟩
    · cases hg2
  · cases hg2
end
end L2.Pv
end
section
set_option Elab.async false
set_option linter.all false
set_option autoImplicit false
set_option maxRecDepth 100000
namespace L2.Pv
open PySem PySem.Spec PyProof.Rows
/-! ### a def's promise where no repr runs -/
structure FnG (P : Program) (w : World) (K : PySem.W.Frag) (mg : Str → Option Value) (base : Heap) (k : Nat) (f : Addr) (fd : FuncData) (ps : List Str) (sp : Sp) : Prop where
  len : ∀ vs H Q E, sp vs H Q E → vs.length = ps.length
  run : ∀ (A : Around) (outer : List Env) (s : Shared) (H : Hp) (args : Args) (us : List Value) (vs : List V) (Q : VK) (E : XK), A.guards = some [] → Room k A → Env0 P w K mg base A outer s H → BindsTo s fd args (ps.zip us) → Vals vs us → sp vs H Q E →
    codeAny (model P w) A (.call (.ref f) args) (CR (L2.CX P w) outer P w H s Q E) s
theorem FnOk.g {P : Program} {w : World} {K : PySem.W.Frag} {mg : Str → Option Value} {base : Heap} {k : Nat} {f : Addr} {fd : FuncData} {ps : List Str} {sp : Sp} (F : FnOk P w K mg base (L2.CX P w) k f fd ps sp) : FnG P w K mg base k f fd ps sp :=
  ⟨F.len, fun A outer s H args us vs Q E _ => F.run A outer s H args us vs Q E⟩
section
variable {P : Program} {w : World} {K : PySem.W.Frag} {mg : Str → Option Value} {base : Heap} {Γ : Gm}
theorem fn_okG {x qual : Str} {st : Stmt} {f : Addr} {fd : FuncData} {N ps : List Str} {k : Nat} {io : List Nat} {m : List D → FOut} {g : Es} (F : Fun K x qual st f fd) (S : FnScope N ps (defScope st)) (hK : K = Γ.K) (hn : io.Nodup) (hio : ∀ i ∈ io, i < ps.length)
    (hm : ∀ ds, m ds = runF io N.length ps.length g ds)
    (body : ∀ (cdv : Value) (A : Around) (outer : List Env) (s : Shared) (H : Hp) (E : XK), A.guards = some [] → Room k (A.deeper (envOfC qual (defScope st) s.heap.objs.size f cdv)) →
      SB (cxOf (L2.CX P w) P w K mg base N qual (defScope st) f cdv A outer s H E) Γ (fun cls d _ H' => E cls d H') io (defBody st) g) : FnG P w K mg base (k + 1) f fd ps (spF Γ io m) := by
  obtain ⟨oc, od, kV, doc, pm, an, cdv, ct, osl, rfl, lk, hcd⟩ := F.ex
  refine ⟨spF_len hm, fun A outer s H args us vs Q E hg hr e0 hb r hsp => ?_⟩
  exact LamX.run_ofS lk hcd S hr e0 hb r (spF_len hm vs H Q E hsp) fun hr' => ⟨_, body cdv A outer s H E hg hr' hK, spF_start hn hio hm hsp⟩
end
end L2.Pv
end
section
set_option Elab.async false
set_option linter.all false
set_option autoImplicit false
set_option maxRecDepth 100000
namespace L2.Pv
open PySem PySem.Spec PyProof.Rows
section
variable {X : Cx} {k : Nat} {f : Addr} {fd : FuncData} {ps : List Str} {sp : Sp} {E : St → XK} {x : Str} {p pos : Pos} {e : Expr} {es : List Expr} {t : TA}
theorem pe_callG (F : FnG X.prog X.w X.K X.mg X.base k f fd ps sp) (hgd : X.A.guards = some []) (hr : Room k X.A) (hg : Gl X x) (hm : X.mg x = some (.ref f)) (hk : PySem.W.keepIn X.K (.ref f) = true) (hb : Binds X.K fd ps []) (hx : ∀ σ, PassesAt (L2.CX X.prog X.w) X σ (E σ))
    (ha : PA X (e :: es) t) (hdb : (x == ("__debug__" : Str)) = false) (he : starEach (e :: es) X.env = (false, eval e X.env) :: starEach es X.env) (hpl : (backTo pos (starEach es X.env)).any (·.1) = false) :
    PE X (.Call (.Name x p) (e :: es) [] pos) (fun σ H Q => t σ H fun vs H1 => sp vs H1 Q (E σ)) := by
  refine ⟨fun pins s σ H Q I h => ?_⟩
  refine wpAny_Call_Name_kw (ld_glob I hg hm ?_ hdb)
  refine PySem.W.callWith_K (h₀ := X.base) I.ok.mod.kin hk (thn (ha.run pos pins s σ H _ I h) fun us s1 ⟨vs, H1, I1, r, q⟩ => ⟨I1.kIn, ?_⟩) he hpl
  have hl : us.length = ps.length := by rw [← r.length]; exact F.len _ _ _ _ q
  have b := hb s1 us I1.kIn (by rw [List.append_nil]; exact hl)
  rw [List.append_nil] at b
  show wpAny _ _ (call (.ref f) ([] ++ us)) _ _ _
  rw [List.nil_append]
  refine wpAny_call (codeAny_mono (F.run X.A X.stack s1 H1 ⟨us, []⟩ us vs Q (E σ) hgd hr I1.env0 b r q) fun r s' hq => ?_)
  cases r with
  | error e => exact hx σ pins H1 s1 e s' I1 hq
  | ok fl =>
    cases fl with
    | ret u => exact I1.after hq
    | next => exact False.elim hq
    | brk => exact False.elim hq
    | cont => exact False.elim hq
end
section
variable {X : Cx} {Γ : Gm} {E : WX} {W : List Nat} {k n : Nat} {f : Addr} {fd : FuncData} {ps : List Str} {m : List D → FOut} {x : Str} {p pos : Pos} {e : Expr} {es : List Expr} {g : EvA}
theorem se_calG (Fo : FnG X.prog X.w X.K X.mg X.base k f fd ps (spF Γ [] m)) (hgd : X.A.guards = some []) (hr : Room k X.A) (hg : Gl X x) (hm : X.mg x = some (.ref f)) (hk : PySem.W.keepIn X.K (.ref f) = true) (hb : Binds X.K fd ps []) (tk : Takes X E)
    (ha : SA X Γ E W n (e :: es) g) (hdb : (x == ("__debug__" : Str)) = false) (he : starEach (e :: es) X.env = (false, eval e X.env) :: starEach es X.env) (hpl : (backTo pos (starEach es X.env)).any (·.1) = false) :
    SE X Γ E W (.Call (.Name x p) (e :: es) [] pos) (calF m g) := fun hK =>
  (pe_callG (E := fun σ cls d H => E cls d σ H) Fo hgd hr hg hm hk hb (fun σ => passAt tk σ) (ha hK) hdb he hpl).imp fun σ H Q h => by
    have q := calF_run (n := n) h
    simpa using q
end
end L2.Pv
namespace L2.Pv
open PySem PySem.Spec PyProof.Rows
section
variable {X : Cx} {Γ : Gm} {E : WX} {W : List Nat} {k n : Nat} {f : Addr} {fd : FuncData} {ps : List Str} {m : List D → FOut} {x : Str} {p pos : Pos} {e : Expr} {es : List Expr} {g : EvA}
theorem se_calHG {j : Nat} {y : Str} {py : Pos} (hj : PE X (.Name y py) (tVar j)) (Fo : FnG X.prog X.w X.K X.mg X.base k f fd ps (spF Γ [0] m)) (hgd : X.A.guards = some []) (hr : Room k X.A) (hg : Gl X x) (hm : X.mg x = some (.ref f)) (hk : PySem.W.keepIn X.K (.ref f) = true) (hb : Binds X.K fd ps []) (tk : Takes X E)
    (ha : SA X Γ E W n es g) (hdb : (x == ("__debug__" : Str)) = false) (he : starEach (.Name y py :: es) X.env = (false, eval (.Name y py) X.env) :: starEach es X.env) (hpl : (backTo pos (starEach es X.env)).any (·.1) = false) :
    SE X Γ E (W ++ [j]) (.Call (.Name x p) (.Name y py :: es) [] pos) (calH m j g) := fun hK =>
  (pe_callG (E := fun σ cls d H => E cls d σ H) Fo hgd hr hg hm hk hb (fun σ => passAt tk σ) (pa_cons hj (ha hK) he) hdb he hpl).imp fun σ H Q h => by
    obtain ⟨v, hv, q⟩ := calH_run (n := n) h
    refine ⟨v, hv, ?_⟩
    simpa using q
end
end L2.Pv
end
section
set_option Elab.async false
set_option linter.all false
set_option maxRecDepth 100000
/-! for x in zip(a, b), x a name: the pair that was given out first may be gone -/
namespace ZN
open PySem PySem.Spec PyProof.Rows PySem.W L2
abbrev ZipF (h : Heap) (z TI TO : Addr) (u : Value) (f : Bool) : Prop :=
  h.get? z = some { cls := .type "zip", dict := none, data := .fields #[u, .bool f, .bool false, .ref TI, .ref TO], slots := #[] }
/-- where the zip stands between two turns -/
def Mid (z TI TO i1 i2 : Addr) (l1 l2 : Addr) (i : Nat) (h : Heap) : Prop :=
  (IsPair h TI (.ref i1) (.ref i2) ∧ (∃ x y, IsPair h TO x y)) ∧ (h.IsTupleIter i1 l1 i ∧ h.IsTupleIter i2 l2 i) ∧ (IsZip h z TI TO .none ∨ ∃ T f, IsZipHeld h z TI TO T f)
section
variable {prog : Program} {w : World} {A : Around} {E : Value → Shared → Prop} {s : Shared} {z TI TO T i1 i2 l1 l2 : Addr} {f : Bool} {k1 k2 : Nat} {xs ys : Array Value} {x y a b : Value}
theorem gone {a : Addr} {Q : Option Obj → Shared → Prop} (ho : s.heap.get? a = none) (h : Q none s) : wpAny (model prog w) A (loadIfAlive a) Q E s := by
  have q : Q (s.heap.get? a) s := by rw [ho]; exact h
  exact fun _ _ _ => q
theorem free_dead {Q : Bool → Shared → Prop} (hz : IsZipHeld s.heap z TI TO T f) (hT : s.heap.get? T = none) (k : Q true s) : wpAny (model prog w) A (Builtin.SmallTypes.ownedTupleIsFree (.ref z)) Q E s := by
  unfold Builtin.SmallTypes.ownedTupleIsFree
  refine wpAny_bind (wpAny_field hz rfl (x := rawInt T) rfl ?_); show wpAny _ _ (loadIfAlive ((T : Int).toNat) >>= _) _ _ _
  rw [Int.toNat_natCast]
  exact wpAny_bind (gone hT (by simp only [Option.isNone_none, if_true]; exact wpAny_pure k))
/-- an item, the tuple gone -/
theorem item_dead {Q : Value → Shared → Prop} (D : ZipApart z TI TO i1 i2 l1 l2) (hz : IsZipHeld s.heap z TI TO T f) (hT : s.heap.get? T = none) (hTI : IsPair s.heap TI (.ref i1) (.ref i2)) (hTO : IsPair s.heap TO a b)
    (h1 : s.heap.IsTupleIter i1 l1 k1) (h2 : s.heap.IsTupleIter i2 l2 k2) (q1 : s.heap.IsTuple l1 xs) (q2 : s.heap.IsTuple l2 ys) (hx : xs[k1]? = some x) (hy : ys[k2]? = some y)
    (hQ : ∀ h', IsZipHeld h' z TI TO s.heap.objs.size false → IsPair h' TO x y → h'.IsTupleIter i1 l1 (k1 + 1) → h'.IsTupleIter i2 l2 (k2 + 1) → IsPair h' s.heap.objs.size x y → h'.objs.size = s.heap.objs.size + 1 →
      (∀ c o, c ≠ z → c ≠ TO → c ≠ i1 → c ≠ i2 → s.heap.get? c = some o → h'.get? c = some o) → Q (.ref s.heap.objs.size) { s with heap := h' }) :
    wpAny (model prog w) A (Builtin.«zip.__next__» ⟨[.ref z], []⟩) (fun fin s' => ∃ v, fin = .done (.ret v) ∧ Q v s') E s := by
  show wpAny _ _ (field (.ref z) 2 >>= _) _ _ _
  refine wpAny_bind (wpAny_field hz rfl (x := .bool false) rfl ?_); show wpAny _ _ (field (.ref z) 3 >>= _) _ _ _
  refine wpAny_bind (wpAny_field hz rfl (x := .ref TI) rfl (wpAny_bind (wpAny_seqItems hTI rfl ?_)))
  show wpAny _ _ (Builtin.SmallTypes.ownedTupleIsFree (.ref z) >>= _) _ _ _
  refine wpAny_bind (free_dead hz hT ?_)
  simp only [if_true]
  refine wpAny_bind (wpAny_rule (wpAny_bind (wpAny_field hz rfl (x := .ref TO) rfl (wpAny_bind (wpAny_setField_rec hz (by simp) fun g1 z1 s1 => ?_)))))
  have z1 : ZipF g1 z TI TO .ellipsis f := z1
  refine wpAny_bind ?_
  simp only [List.zipIdx_cons, List.zipIdx_nil, List.forIn_cons, List.forIn_nil]
  refine wpAny_bind (wpAny_bind (wpAny_onRaise ?_)); show wpAny _ _ (Builtin.SmallTypes.nextOf (.ref i1) >>= _) _ _ _
  refine wpAny_bind (RZ.nextOf_tuple_item (h1.extBut s1.extBut D.i1z) (q1.extBut s1.extBut D.l1z) hx fun g2 a2 s2 => wpAny_pure ?_)
  have t2 : IsPair g2 TO a b := s2.extBut _ _ D.TOi1 (s1.extBut _ _ D.TOz hTO)
  refine wpAny_bind (wpAny_seqItems t2 rfl (wpAny_bind (wpAny_updateSeq_pair t2 fun g3 t3 s3 => ?_)))
  have t3 : IsPair g3 TO x b := t3
  refine wpAny_bind (wpAny_letGo (wpAny_pure (wpAny_bind (wpAny_bind (wpAny_onRaise ?_))))); show wpAny _ _ (Builtin.SmallTypes.nextOf (.ref i2) >>= _) _ _ _
  refine wpAny_bind (RZ.nextOf_tuple_item (((h2.extBut s1.extBut D.i2z).extBut s2.extBut D.i12.symm).extBut s3.extBut D.TOi2.symm) (((q2.extBut s1.extBut D.l2z).extBut s2.extBut D.l2i1).extBut s3.extBut D.l2TO) hy fun g4 a4 s4 => wpAny_pure ?_)
  have t4 : IsPair g4 TO x b := s4.extBut _ _ D.TOi2 t3
  refine wpAny_bind (wpAny_seqItems t4 rfl (wpAny_bind (wpAny_updateSeq_pair t4 fun g5 t5 s5 => ?_)))
  have t5 : IsPair g5 TO x y := t5
  refine wpAny_bind (wpAny_letGo (wpAny_pure (wpAny_pure (wpAny_bind (wpAny_seqItems t5 rfl (wpAny_bind (wpAny_newTuple ?_)))))))
  have sz : g5.objs.size = s.heap.objs.size := by rw [s5.1, s4.1, s3.1, s2.1, s1.1]
  have z5 : ZipF g5 z TI TO .ellipsis f := s5.extBut _ _ D.TOz.symm (s4.extBut _ _ D.i2z.symm (s3.extBut _ _ D.TOz.symm (s2.extBut _ _ D.i1z.symm z1)))
  have old : ∀ c o, c ≠ z → c ≠ TO → c ≠ i1 → c ≠ i2 → s.heap.get? c = some o → g5.get? c = some o := fun c o n1 n2 n3 n4 e => s5.extBut _ _ n2 (s4.extBut _ _ n4 (s3.extBut _ _ n2 (s2.extBut _ _ n3 (s1.extBut _ _ n1 e))))
  have b1 : g5.IsTupleIter i1 l1 (k1 + 1) := ((a2.extBut s3.extBut D.TOi1.symm).extBut s4.extBut D.i12).extBut s5.extBut D.TOi1.symm
  have b2 : g5.IsTupleIter i2 l2 (k2 + 1) := a4.extBut s5.extBut D.TOi2.symm
  have zl : z < g5.objs.size := Heap.lt_size z5
  show wpAny _ _ (Builtin.SmallTypes.ownedTupleHandOut (.ref z) (.ref g5.objs.size) >>= _) _ _ _
  refine wpAny_bind ?_
  unfold Builtin.SmallTypes.ownedTupleHandOut
  have z6 : ZipF (g5.push { cls := .type "tuple", data := .seq #[x, y] }) z TI TO .ellipsis f := Heap.get?_push_of_some _ z5
  refine wpAny_bind (wpAny_setField_rec z6 (by simp) fun g7 z7 s7 => ?_)
  have z7 : ZipF g7 z TI TO (rawInt g5.objs.size) f := z7
  refine wpAny_setField_rec z7 (by simp) fun g8 z8 s8 => ?_
  have z8 : ZipF g8 z TI TO (rawInt g5.objs.size) false := z8
  have up : ∀ c o, c ≠ z → g5.get? c = some o → g8.get? c = some o := fun c o n e => s8.extBut _ _ n (s7.extBut _ _ n (Heap.get?_push_of_some _ e))
  have nw : IsPair g8 g5.objs.size x y := s8.extBut _ _ (Nat.ne_of_gt zl) (s7.extBut _ _ (Nat.ne_of_gt zl) (Heap.get?_push_size _ rfl))
  have n8 : g8.objs.size = g5.objs.size + 1 := by rw [s8.1, s7.1, Heap.size_push]
  rw [sz] at z8 nw n8
  refine wpAny_pure ⟨_, rfl, ?_⟩
  show Q (.ref g5.objs.size) _
  rw [sz]
  exact hQ g8 z8 (up _ _ D.TOz t5) (b1.at fun o e => up _ o D.i1z e) (b2.at fun o e => up _ o D.i2z e) nw n8 fun c o n1 n2 n3 n4 e => up c o n1 (old c o n1 n2 n3 n4 e)
/-- the end, the tuple gone -/
theorem end_dead {Q : Fin → Shared → Prop} (hh : A.handled = none) (D : ZipApart z TI TO i1 i2 l1 l2) (hz : IsZipHeld s.heap z TI TO T f) (hT : s.heap.get? T = none) (hTI : IsPair s.heap TI (.ref i1) (.ref i2)) (hTO : IsPair s.heap TO a b)
    (h1 : s.heap.IsTupleIter i1 l1 k1) (h2 : s.heap.IsTupleIter i2 l2 k2) (q1 : s.heap.IsTuple l1 xs) (q2 : s.heap.IsTuple l2 ys) (hend : xs[k1]? = none ∨ ys[k2]? = none)
    (hE : ∀ h' e, (∀ c o, c ≠ z → c ≠ TO → c ≠ i1 → c ≠ i2 → s.heap.get? c = some o → h'.get? c = some o) → (∃ o, h'.get? e = some o ∧ o.cls = .type "StopIteration") → E (.ref e) { s with heap := h' }) :
    wpAny (model prog w) A (Builtin.«zip.__next__» ⟨[.ref z], []⟩) Q E s := by
  show wpAny _ _ (field (.ref z) 2 >>= _) _ _ _
  refine wpAny_bind (wpAny_field hz rfl (x := .bool false) rfl ?_); show wpAny _ _ (field (.ref z) 3 >>= _) _ _ _
  refine wpAny_bind (wpAny_field hz rfl (x := .ref TI) rfl (wpAny_bind (wpAny_seqItems hTI rfl ?_)))
  show wpAny _ _ (Builtin.SmallTypes.ownedTupleIsFree (.ref z) >>= _) _ _ _
  refine wpAny_bind (free_dead hz hT ?_)
  simp only [if_true]
  refine wpAny_bind (wpAny_rule (wpAny_bind (wpAny_field hz rfl (x := .ref TO) rfl (wpAny_bind (wpAny_setField_rec hz (by simp) fun g1 z1 s1 => ?_)))))
  have z1 : ZipF g1 z TI TO .ellipsis f := z1
  refine wpAny_bind ?_
  simp only [List.zipIdx_cons, List.zipIdx_nil, List.forIn_cons, List.forIn_nil]
  refine wpAny_bind (wpAny_bind (wpAny_onRaise ?_)); show wpAny _ _ (Builtin.SmallTypes.nextOf (.ref i1) >>= _) _ _ _
  cases ex : xs[k1]? with
  | none =>
    refine wpAny_bind (RZ.nextOf_tuple_end hh (h1.extBut s1.extBut D.i1z) (q1.extBut s1.extBut D.l1z) ex fun g2 e s2 ⟨oe, e1, e2⟩ => ?_)
    have z2 : ZipF g2 z TI TO .ellipsis f := s2 _ _ D.i1z.symm z1
    have ne : e ≠ z := fun q => by subst q; rw [z2] at e1; cases e1; simp at e2
    exact wpAny_setField_rec z2 (by simp) fun g3 _ s3 => hE g3 e (fun c o n1 _ n3 _ q => s3.extBut _ _ n1 (s2 _ _ n3 (s1.extBut _ _ n1 q))) ⟨oe, s3.extBut _ _ ne e1, e2⟩
  | some x =>
    have ey : ys[k2]? = none := by rcases hend with h | h; rw [ex] at h; cases h; exact h
    refine wpAny_bind (RZ.nextOf_tuple_item (h1.extBut s1.extBut D.i1z) (q1.extBut s1.extBut D.l1z) ex fun g2 a2 s2 => wpAny_pure ?_)
    have t2 : IsPair g2 TO a b := s2.extBut _ _ D.TOi1 (s1.extBut _ _ D.TOz hTO)
    refine wpAny_bind (wpAny_seqItems t2 rfl (wpAny_bind (wpAny_updateSeq_pair t2 fun g3 t3 s3 => ?_)))
    refine wpAny_bind (wpAny_letGo (wpAny_pure (wpAny_bind (wpAny_bind (wpAny_onRaise ?_))))); show wpAny _ _ (Builtin.SmallTypes.nextOf (.ref i2) >>= _) _ _ _
    refine wpAny_bind (RZ.nextOf_tuple_end hh (((h2.extBut s1.extBut D.i2z).extBut s2.extBut D.i12.symm).extBut s3.extBut D.TOi2.symm) (((q2.extBut s1.extBut D.l2z).extBut s2.extBut D.l2i1).extBut s3.extBut D.l2TO) ey fun g4 e s4 ⟨oe, e1, e2⟩ => ?_)
    have z4 : ZipF g4 z TI TO .ellipsis f := s4 _ _ D.i2z.symm (s3.extBut _ _ D.TOz.symm (s2.extBut _ _ D.i1z.symm z1))
    have ne : e ≠ z := fun q => by subst q; rw [z4] at e1; cases e1; simp at e2
    exact wpAny_setField_rec z4 (by simp) fun g5 _ s5 => hE g5 e (fun c o n1 n2 n3 n4 q => s5.extBut _ _ n1 (s4 _ _ n4 (s3.extBut _ _ n2 (s2.extBut _ _ n3 (s1.extBut _ _ n1 q))))) ⟨oe, s5.extBut _ _ ne e1, e2⟩
theorem next_dead {Q : Option Value → Shared → Prop} (D : ZipApart z TI TO i1 i2 l1 l2) (hz : IsZipHeld s.heap z TI TO T f) (hT : s.heap.get? T = none) (hTI : IsPair s.heap TI (.ref i1) (.ref i2)) (hTO : IsPair s.heap TO a b)
    (h1 : s.heap.IsTupleIter i1 l1 k1) (h2 : s.heap.IsTupleIter i2 l2 k2) (q1 : s.heap.IsTuple l1 xs) (q2 : s.heap.IsTuple l2 ys) (hx : xs[k1]? = some x) (hy : ys[k2]? = some y)
    (hQ : ∀ h', IsZipHeld h' z TI TO s.heap.objs.size false → IsPair h' TO x y → h'.IsTupleIter i1 l1 (k1 + 1) → h'.IsTupleIter i2 l2 (k2 + 1) → IsPair h' s.heap.objs.size x y → h'.objs.size = s.heap.objs.size + 1 →
      (∀ c o, c ≠ z → c ≠ TO → c ≠ i1 → c ≠ i2 → s.heap.get? c = some o → h'.get? c = some o) → Q (some (.ref s.heap.objs.size)) { s with heap := h' }) : wpAny (model prog w) A (pyNext (.ref z)) Q E s := by
  have ty : s.TypeIs (.ref z) "zip" := ⟨_, hz, rfl⟩
  unfold pyNext
  exact wpAny_bind (wpAny_attempt (wpAny_callSpecial?_slot (name := Str.ofString "__next__") ty F.slot_zip_next (wpAny_call_entry F.slot_zip_next ty F.entry_zip_next
      (item_dead D hz hT hTI hTO h1 h2 q1 q2 hx hy fun h' r1 r2 r3 r4 r5 r6 r7 => wpAny_pure (hQ h' r1 r2 r3 r4 r5 r6 r7)) (F.args_zip_next_1 _))))
theorem stop_dead {Q : Option Value → Shared → Prop} (hh : A.handled = none) (D : ZipApart z TI TO i1 i2 l1 l2) (hz : IsZipHeld s.heap z TI TO T f) (hT : s.heap.get? T = none) (hTI : IsPair s.heap TI (.ref i1) (.ref i2)) (hTO : IsPair s.heap TO a b)
    (h1 : s.heap.IsTupleIter i1 l1 k1) (h2 : s.heap.IsTupleIter i2 l2 k2) (q1 : s.heap.IsTuple l1 xs) (q2 : s.heap.IsTuple l2 ys) (hend : xs[k1]? = none ∨ ys[k2]? = none)
    (hQ : ∀ h', (∀ c o, c ≠ z → c ≠ TO → c ≠ i1 → c ≠ i2 → s.heap.get? c = some o → h'.get? c = some o) → Q none { s with heap := h' }) : wpAny (model prog w) A (pyNext (.ref z)) Q E s := by
  have ty : s.TypeIs (.ref z) "zip" := ⟨_, hz, rfl⟩
  unfold pyNext
  refine wpAny_bind (wpAny_attempt (wpAny_callSpecial?_slot (name := Str.ofString "__next__") ty F.slot_zip_next (wpAny_call_entry F.slot_zip_next ty F.entry_zip_next
      (end_dead hh D hz hT hTI hTO h1 h2 q1 q2 hend fun h' e hk ⟨o, e1, e2⟩ => ?_) (F.args_zip_next_1 _))))
  exact wpAny_bind (wpAny_isInstance (T := "StopIteration") (b := true) ⟨o, e1, e2⟩ isSubtype_stop (wpAny_pure (hQ _ hk)))
/-- an item, the tuple still there -/
theorem item_held {oT : Obj} {Q : Value → Shared → Prop} (D : ZipApart z TI TO i1 i2 l1 l2) (hz : IsZipHeld s.heap z TI TO T f) (hT : s.heap.get? T = some oT) (hTI : IsPair s.heap TI (.ref i1) (.ref i2))
    (h1 : s.heap.IsTupleIter i1 l1 k1) (h2 : s.heap.IsTupleIter i2 l2 k2) (q1 : s.heap.IsTuple l1 xs) (q2 : s.heap.IsTuple l2 ys) (hx : xs[k1]? = some x) (hy : ys[k2]? = some y)
    (hQ : ∀ h', IsZipHeld h' z TI TO T true → h'.IsTupleIter i1 l1 (k1 + 1) → h'.IsTupleIter i2 l2 (k2 + 1) → IsPair h' s.heap.objs.size x y → h'.objs.size = s.heap.objs.size + 1 →
      (∀ c o, c ≠ z → c ≠ i1 → c ≠ i2 → s.heap.get? c = some o → h'.get? c = some o) → Q (.ref s.heap.objs.size) { s with heap := h' }) :
    wpAny (model prog w) A (Builtin.«zip.__next__» ⟨[.ref z], []⟩) (fun fin s' => ∃ v, fin = .done (.ret v) ∧ Q v s') E s := by
  show wpAny _ _ (field (.ref z) 2 >>= _) _ _ _
  refine wpAny_bind (wpAny_field hz rfl (x := .bool false) rfl ?_); show wpAny _ _ (field (.ref z) 3 >>= _) _ _ _
  refine wpAny_bind (wpAny_field hz rfl (x := .ref TI) rfl (wpAny_bind (wpAny_seqItems hTI rfl ?_)))
  show wpAny _ _ (Builtin.SmallTypes.ownedTupleIsFree (.ref z) >>= _) _ _ _
  refine wpAny_bind (wpAny_tupleHeld_zip hz hT fun g1 z1 s1 => ?_)
  simp only [Bool.false_eq_true, if_false]
  refine wpAny_bind ?_
  rw [← Array.forIn_toList]; simp only [List.forIn_cons, List.forIn_nil]
  refine wpAny_bind (wpAny_bind (wpAny_holding ?_)); show wpAny _ _ (Builtin.SmallTypes.nextOf (.ref i1) >>= _) _ _ _
  refine wpAny_bind (RZ.nextOf_tuple_item (s := { s with heap := g1 }) (h1.extBut s1.extBut D.i1z) (q1.extBut s1.extBut D.l1z) hx fun g2 a2 s2 => wpAny_pure (wpAny_pure (wpAny_bind (wpAny_bind (wpAny_holding ?_)))))
  show wpAny _ _ (Builtin.SmallTypes.nextOf (.ref i2) >>= _) _ _ _
  refine wpAny_bind (RZ.nextOf_tuple_item (s := { s with heap := g2 }) ((h2.extBut s1.extBut D.i2z).extBut s2.extBut D.i12.symm) ((q2.extBut s1.extBut D.l2z).extBut s2.extBut D.l2i1) hy fun g3 a3 s3 => wpAny_pure (wpAny_pure (wpAny_pure ?_)))
  show wpAny _ _ (newTuple [x, y] >>= _) _ _ _
  refine wpAny_bind (wpAny_newTuple ?_)
  have sz : g3.objs.size = s.heap.objs.size := by rw [s3.1, s2.1, s1.1]
  have z3 : IsZipHeld g3 z TI TO T true := s3.extBut _ _ D.i2z.symm (s2.extBut _ _ D.i1z.symm z1)
  have old : ∀ c o, c ≠ z → c ≠ i1 → c ≠ i2 → s.heap.get? c = some o → g3.get? c = some o := fun c o n1 n2 n3 e => s3.extBut _ _ n3 (s2.extBut _ _ n2 (s1.extBut _ _ n1 e))
  have b1 : g3.IsTupleIter i1 l1 (k1 + 1) := a2.extBut s3.extBut D.i12
  refine wpAny_pure ⟨_, rfl, ?_⟩
  show Q (.ref g3.objs.size) _
  have np : IsPair (g3.push { cls := .type "tuple", data := .seq #[x, y] }) g3.objs.size x y := Heap.get?_push_size _ rfl
  have n4 : (g3.push { cls := .type "tuple", data := .seq #[x, y] }).objs.size = g3.objs.size + 1 := Heap.size_push ..
  rw [sz] at np n4 ⊢
  exact hQ _ (Heap.get?_push_of_some _ z3) (b1.at fun o e => Heap.get?_push_of_some _ e) (a3.at fun o e => Heap.get?_push_of_some _ e) np n4 fun c o n1 n2 n3 e => Heap.get?_push_of_some _ (old c o n1 n2 n3 e)
theorem end_held {oT : Obj} {Q : Fin → Shared → Prop} (hh : A.handled = none) (D : ZipApart z TI TO i1 i2 l1 l2) (hz : IsZipHeld s.heap z TI TO T f) (hT : s.heap.get? T = some oT) (hTI : IsPair s.heap TI (.ref i1) (.ref i2))
    (h1 : s.heap.IsTupleIter i1 l1 k1) (h2 : s.heap.IsTupleIter i2 l2 k2) (q1 : s.heap.IsTuple l1 xs) (q2 : s.heap.IsTuple l2 ys) (hend : xs[k1]? = none ∨ ys[k2]? = none)
    (hE : ∀ h' e, (∀ c o, c ≠ z → c ≠ i1 → c ≠ i2 → s.heap.get? c = some o → h'.get? c = some o) → (∃ o, h'.get? e = some o ∧ o.cls = .type "StopIteration") → E (.ref e) { s with heap := h' }) :
    wpAny (model prog w) A (Builtin.«zip.__next__» ⟨[.ref z], []⟩) Q E s := by
  show wpAny _ _ (field (.ref z) 2 >>= _) _ _ _
  refine wpAny_bind (wpAny_field hz rfl (x := .bool false) rfl ?_); show wpAny _ _ (field (.ref z) 3 >>= _) _ _ _
  refine wpAny_bind (wpAny_field hz rfl (x := .ref TI) rfl (wpAny_bind (wpAny_seqItems hTI rfl ?_)))
  show wpAny _ _ (Builtin.SmallTypes.ownedTupleIsFree (.ref z) >>= _) _ _ _
  refine wpAny_bind (wpAny_tupleHeld_zip hz hT fun g1 z1 s1 => ?_)
  simp only [Bool.false_eq_true, if_false]
  refine wpAny_bind ?_
  rw [← Array.forIn_toList]; simp only [List.forIn_cons, List.forIn_nil]
  refine wpAny_bind (wpAny_bind (wpAny_holding ?_)); show wpAny _ _ (Builtin.SmallTypes.nextOf (.ref i1) >>= _) _ _ _
  cases ex : xs[k1]? with
  | none => exact wpAny_bind (RZ.nextOf_tuple_end (s := { s with heap := g1 }) hh (h1.extBut s1.extBut D.i1z) (q1.extBut s1.extBut D.l1z) ex fun g2 e s2 he => hE g2 e (fun c o n1 n2 _ q => s2 _ _ n2 (s1.extBut _ _ n1 q)) he)
  | some x =>
    have ey : ys[k2]? = none := by rcases hend with h | h; rw [ex] at h; cases h; exact h
    refine wpAny_bind (RZ.nextOf_tuple_item (s := { s with heap := g1 }) (h1.extBut s1.extBut D.i1z) (q1.extBut s1.extBut D.l1z) ex fun g2 a2 s2 => wpAny_pure (wpAny_pure (wpAny_bind (wpAny_bind (wpAny_holding ?_)))))
    show wpAny _ _ (Builtin.SmallTypes.nextOf (.ref i2) >>= _) _ _ _
    exact wpAny_bind (RZ.nextOf_tuple_end (s := { s with heap := g2 }) hh ((h2.extBut s1.extBut D.i2z).extBut s2.extBut D.i12.symm) ((q2.extBut s1.extBut D.l2z).extBut s2.extBut D.l2i1) ey fun g3 e s3 he => hE g3 e (fun c o n1 n2 n3 q => s3 _ _ n3 (s2.extBut _ _ n2 (s1.extBut _ _ n1 q))) he)
theorem next_held {oT : Obj} {Q : Option Value → Shared → Prop} (D : ZipApart z TI TO i1 i2 l1 l2) (hz : IsZipHeld s.heap z TI TO T f) (hT : s.heap.get? T = some oT) (hTI : IsPair s.heap TI (.ref i1) (.ref i2))
    (h1 : s.heap.IsTupleIter i1 l1 k1) (h2 : s.heap.IsTupleIter i2 l2 k2) (q1 : s.heap.IsTuple l1 xs) (q2 : s.heap.IsTuple l2 ys) (hx : xs[k1]? = some x) (hy : ys[k2]? = some y)
    (hQ : ∀ h', IsZipHeld h' z TI TO T true → h'.IsTupleIter i1 l1 (k1 + 1) → h'.IsTupleIter i2 l2 (k2 + 1) → IsPair h' s.heap.objs.size x y → h'.objs.size = s.heap.objs.size + 1 →
      (∀ c o, c ≠ z → c ≠ i1 → c ≠ i2 → s.heap.get? c = some o → h'.get? c = some o) → Q (some (.ref s.heap.objs.size)) { s with heap := h' }) : wpAny (model prog w) A (pyNext (.ref z)) Q E s := by
  have ty : s.TypeIs (.ref z) "zip" := ⟨_, hz, rfl⟩
  unfold pyNext
  exact wpAny_bind (wpAny_attempt (wpAny_callSpecial?_slot (name := Str.ofString "__next__") ty F.slot_zip_next (wpAny_call_entry F.slot_zip_next ty F.entry_zip_next
      (item_held D hz hT hTI h1 h2 q1 q2 hx hy fun h' r1 r3 r4 r5 r6 r7 => wpAny_pure (hQ h' r1 r3 r4 r5 r6 r7)) (F.args_zip_next_1 _))))
theorem stop_held {oT : Obj} {Q : Option Value → Shared → Prop} (hh : A.handled = none) (D : ZipApart z TI TO i1 i2 l1 l2) (hz : IsZipHeld s.heap z TI TO T f) (hT : s.heap.get? T = some oT) (hTI : IsPair s.heap TI (.ref i1) (.ref i2))
    (h1 : s.heap.IsTupleIter i1 l1 k1) (h2 : s.heap.IsTupleIter i2 l2 k2) (q1 : s.heap.IsTuple l1 xs) (q2 : s.heap.IsTuple l2 ys) (hend : xs[k1]? = none ∨ ys[k2]? = none)
    (hQ : ∀ h', (∀ c o, c ≠ z → c ≠ i1 → c ≠ i2 → s.heap.get? c = some o → h'.get? c = some o) → Q none { s with heap := h' }) : wpAny (model prog w) A (pyNext (.ref z)) Q E s := by
  have ty : s.TypeIs (.ref z) "zip" := ⟨_, hz, rfl⟩
  unfold pyNext
  refine wpAny_bind (wpAny_attempt (wpAny_callSpecial?_slot (name := Str.ofString "__next__") ty F.slot_zip_next (wpAny_call_entry F.slot_zip_next ty F.entry_zip_next
      (end_held hh D hz hT hTI h1 h2 q1 q2 hend fun h' e hk ⟨o, e1, e2⟩ => ?_) (F.args_zip_next_1 _))))
  exact wpAny_bind (wpAny_isInstance (T := "StopIteration") (b := true) ⟨o, e1, e2⟩ isSubtype_stop (wpAny_pure (hQ _ hk)))
end
theorem mem5 {c z TI TO i1 i2 : Addr} (h : c ∈ [z, TI, TO, i1, i2]) : c = z ∨ c = TI ∨ c = TO ∨ c = i1 ∨ c = i2 := by simpa using h
theorem turnN {P : Program} {w : World} {K : PySem.W.Frag} {nm : Str} {tpos : Pos} {a b z TI TO i1 i2 : Addr} (D : ZipApart z TI TO i1 i2 a b) : Turn P w K (.Name nm tpos) (RZ.ItzT K a b) [z, TI, TO, i1, i2] z (Mid z TI TO i1 i2 a b) where
  mem := by simp
  obj := fun i h st c hc => by
    obtain ⟨⟨hTI, x, y, hTO⟩, ⟨⟨o1, e1, _, d1⟩, ⟨o2, e2, _, d2⟩⟩, hz⟩ := st
    rcases mem5 hc with q | q | q | q | q
    · rcases hz with hz | ⟨T, f, hz⟩
      · rw [q]; exact ⟨_, hz, fun v q => nomatch q⟩
      · rw [q]; exact ⟨_, hz, fun v q => nomatch q⟩
    · rw [q]; exact ⟨_, hTI, fun v q => nomatch q⟩
    · rw [q]; exact ⟨_, hTO, fun v q => nomatch q⟩
    · rw [q]; exact ⟨o1, e1, fun v q => by rw [d1] at q; cases q⟩
    · rw [q]; exact ⟨o2, e2, fun v q => by rw [d2] at q; cases q⟩
  keep := fun i h h' st k => by
    obtain ⟨⟨hTI, x, y, hTO⟩, ⟨h1, h2⟩, hz⟩ := st
    refine ⟨⟨k TI (by simp) _ hTI, x, y, k TO (by simp) _ hTO⟩, ⟨h1.at fun o q => k i1 (by simp) o q, h2.at fun o q => k i2 (by simp) o q⟩, ?_⟩
    rcases hz with hz | ⟨T, f, hz⟩
    · exact .inl (k z (by simp) _ hz)
    · exact .inr ⟨T, f, k z (by simp) _ hz⟩
  item := by
    intro X hP hw hK hc i pins s σ H E I hf st hg
    subst hP hw hK
    obtain ⟨⟨hTI, x0, y0, hTO⟩, ⟨h1, h2⟩, hz⟩ := st
    obtain ⟨xs, ys, x, y, gx, gy, hx, hy⟩ := hg
    obtain ⟨its, rv, p, _⟩ := I.tuple gx
    obtain ⟨its2, rv2, p2, _⟩ := I.tuple gy
    obtain ⟨u, hu, ru⟩ := rv.get hx
    obtain ⟨u2, hu2, ru2⟩ := rv2.get hy
    have fin : ∀ h' : Heap, (IsPair h' TO u u2 ∨ ∃ x y, IsPair h' TO x y) → (∃ T f, IsZipHeld h' z TI TO T f) → h'.IsTupleIter i1 a (i + 1) → h'.IsTupleIter i2 b (i + 1) → IsPair h' s.heap.objs.size u u2 → IsPair h' TI (.ref i1) (.ref i2) →
        (∀ c o, c ≠ z → c ≠ TO → c ≠ i1 → c ≠ i2 → s.heap.get? c = some o → h'.get? c = some o) →
        ∃ v, some (Value.ref s.heap.objs.size) = some v ∧ wpAny (model X.prog X.w) X.A (letOwnedTupleGo (.Name nm tpos) (.ref z) v) (fun _ s2 => ∃ x H', Inv X pins σ H' s2 ∧ RelV x v ∧ (RZ.ItzT X.K a b).yld i H x H' ∧ Mid z TI TO i1 i2 a b (i + 1) s2.heap ∧ ∀ b ∈ [z, TI, TO, i1, i2], H' b = none) E { s with heap := h' } := by
      intro h' tO hz' r1 r2 nT nTI old
      refine ⟨_, rfl, wpAny_pure ?_⟩
      have nob : ObjOk X.prog X.w (upd H s.heap.objs.size (.tup [x, y])) h' s.heap.objs.size (.tup [x, y]) := ⟨by show 2 ≤ sizeLine; decide, [u, u2], .cons ru (.cons ru2 .nil), ⟨_, nT, rfl, _, rfl⟩⟩
      have I1 : Inv X pins σ (upd H s.heap.objs.size (.tup [x, y])) { s with heap := h' } :=
        I.turnedNew (t' := s.toks) (ch := [z, TI, TO, i1, i2]) (fun c o hb q => old c o (fun q' => hb (by simp [q'])) (fun q' => hb (by simp [q'])) (fun q' => hb (by simp [q'])) (fun q' => hb (by simp [q'])) q) hf (Nat.le_refl _) nob
      refine ⟨.ref s.heap.objs.size, _, I1, rfl, ⟨_, x, y, rfl, I.hok.fresh (Nat.le_refl _), rfl, fun l hl => by rw [I.tuple_inj hl gx]; exact hx, fun l hl => by rw [I.tuple_inj hl gy]; exact hy⟩, ⟨⟨nTI, ?_⟩, ⟨r1, r2⟩, .inr hz'⟩, fun c hc => ?_⟩
      · rcases tO with tO | tO
        · exact ⟨_, _, tO⟩
        · exact tO
      · have lt : c < s.heap.objs.size := by
          rcases mem5 hc with q | q | q | q | q
          · rw [q]; rcases hz with hz | ⟨T, f, hz⟩
            · exact Heap.lt_size hz
            · exact Heap.lt_size hz
          · rw [q]; exact Heap.lt_size hTI
          · rw [q]; exact Heap.lt_size hTO
          · rw [q]; obtain ⟨_, e1, _⟩ := h1; exact Heap.lt_size e1
          · rw [q]; obtain ⟨_, e2, _⟩ := h2; exact Heap.lt_size e2
        rw [upd_ne (Nat.ne_of_lt lt)]
        exact (hf c hc).1
    rcases hz with hz | ⟨T, f, hz⟩
    · exact RZ.pyNext_zipT_item D hz hTI hTO h1 h2 p p2 (x := u) (y := u2) (by simpa using hu) (by simpa using hu2) fun h' z' tO r1 r2 nT _ old => fin h' (.inl tO) ⟨_, false, z'⟩ r1 r2 nT (old _ _ D.TIz D.TITO D.TIi1 D.TIi2 hTI) old
    · cases ht : s.heap.get? T with
      | none => exact next_dead D hz ht hTI hTO h1 h2 p p2 (x := u) (y := u2) (by simpa using hu) (by simpa using hu2) fun h' z' tO r1 r2 nT _ old => fin h' (.inl tO) ⟨_, false, z'⟩ r1 r2 nT (old _ _ D.TIz D.TITO D.TIi1 D.TIi2 hTI) old
      | some oT => exact next_held D hz ht hTI h1 h2 p p2 (x := u) (y := u2) (by simpa using hu) (by simpa using hu2) fun h' z' r1 r2 nT _ old => fin h' (.inr ⟨_, _, old _ _ D.TOz D.TOi1 D.TOi2 hTO⟩) ⟨_, true, z'⟩ r1 r2 nT (old _ _ D.TIz D.TIi1 D.TIi2 hTI) fun c o n1 _ n3 n4 e => old c o n1 n3 n4 e
  done := by
    intro X hP hw hK hc i pins s σ H E I hf st hg
    subst hP hw hK
    obtain ⟨⟨hTI, x0, y0, hTO⟩, ⟨h1, h2⟩, hz⟩ := st
    obtain ⟨xs, ys, gx, gy, hend⟩ := hg
    obtain ⟨its, rv, p, _⟩ := I.tuple gx
    obtain ⟨its2, rv2, p2, _⟩ := I.tuple gy
    have l1 := rv.length
    have l2 := rv2.length
    have he : its.toArray[i]? = none ∨ its2.toArray[i]? = none := hend.elim (fun q => .inl (by simp; omega)) fun q => .inr (by simp; omega)
    have fin : ∀ h' : Heap, (∀ c o, c ≠ z → c ≠ TO → c ≠ i1 → c ≠ i2 → s.heap.get? c = some o → h'.get? c = some o) → (none : Option Value) = none ∧ Inv X pins σ H { s with heap := h' } := fun h' hk =>
      ⟨rfl, I.turnedL (t' := s.toks) (ch := [z, TI, TO, i1, i2]) (fun c o hb q => hk c o (fun q' => hb (by simp [q'])) (fun q' => hb (by simp [q'])) (fun q' => hb (by simp [q'])) (fun q' => hb (by simp [q'])) q) hf⟩
    rcases hz with hz | ⟨T, f, hz⟩
    · exact RZ.pyNext_zipT_end (I.ok.hd hc) D hz hTI hTO h1 h2 p p2 he fun h' hk => fin h' hk
    · cases ht : s.heap.get? T with
      | none => exact stop_dead (I.ok.hd hc) D hz ht hTI hTO h1 h2 p p2 he fun h' hk => fin h' hk
      | some oT => exact stop_held (I.ok.hd hc) D hz ht hTI h1 h2 p p2 he fun h' hk => fin h' fun c o n1 _ n3 n4 e => hk c o n1 n3 n4 e
  self := fun A i s Q E st h => by
    obtain ⟨_, _, hz⟩ := st
    rcases hz with hz | ⟨T, f, hz⟩
    · exact wpAny_pyIter_zip hz h
    · have ty : s.TypeIs (.ref z) "zip" := ⟨_, hz, rfl⟩
      refine wpAny_pyIter_slot ty F.slot_zip_iter (wpAny_call_entry F.slot_zip_iter ty F.entry_zip_iter ?_ (F.args_zip_iter_1 _))
      show wpAny _ _ (ret (.ref z)) _ _ s
      exact wpAny_pure ⟨_, rfl, "zip", _, ty, F.slot_zip_next.lookup, h⟩
def iZipN (K : PySem.W.Frag) (ta : TA) : TI := fun σ H R => ta σ H fun vs H1 => ∃ a b xs ys, vs = [.ref a, .ref b] ∧ SqT K H1 a xs ∧ SqT K H1 b ys ∧ R (RZ.ItzT K a b) H1
theorem pi_zipN {X : Cx} {e e2 : Expr} {ta : TA} {p pos tpos : Pos} {nm : Str} (hg : Gl X "zip") (hm : X.mg "zip" = none) (ha : PA X [e, e2] ta)
    (hs : starEach [e, e2] X.env = (false, eval e X.env) :: starEach [e2] X.env) (hpl : (backTo pos (starEach [e2] X.env)).any (·.1) = false) : PI X (.Name nm tpos) (.Call (.Name "zip" p) [e, e2] [] pos) (iZipN X.K ta) := by
  refine ⟨fun pins s σ H R I h => Call_ (ld_blt I hg hm PyProof.Rows.boot_zip (PyProof.Rows.callWith_type1 (thn (ha.run pos pins s σ H _ I h) fun us s1 ⟨vs, H1, I1, r1, q1⟩ => ?_) hs hpl))⟩
  obtain ⟨a, b, xs, ys, ex, gx, gy, q⟩ := q1
  subst ex
  cases r1 with
  | cons r rr =>
    cases rr with
    | cons r' rr =>
      cases rr
      cases r
      cases r'
      obtain ⟨its, rv, p1, _⟩ := I1.tuple gx
      obtain ⟨its2, rv2, p2, _⟩ := I1.tuple gy
      obtain ⟨o1, ho1, _⟩ := id p1
      obtain ⟨o2, ho2, _⟩ := id p2
      refine RZ.call_zipT (show s1.heap.IsTuple a its.toArray from p1) (show s1.heap.IsTuple b its2.toArray from p2) fun h' hz hTI hTO h1 h2 hsz hk => wpAny_pyIter_zip hz ?_
      have I2 : Inv X pins σ H1 { s1 with heap := h' } := I1.kept (t' := s1.toks) hk
      refine ⟨s1.heap.objs.size + 4, [s1.heap.objs.size + 4, s1.heap.objs.size + 2, s1.heap.objs.size + 3, s1.heap.objs.size, s1.heap.objs.size + 1], _, _, H1, rfl, I2, turnN (PySem.W.ktu_apart s1.heap.objs.size a b (Heap.lt_size ho1) (Heap.lt_size ho2)), ⟨⟨hTI, _, _, hTO⟩, ⟨h1, h2⟩, .inl hz⟩, fun c hc => ?_, q⟩
      have le : s1.heap.objs.size ≤ c := by
        rcases mem5 hc with z | z | z | z | z <;> rw [z]
        · exact Nat.le_add_right _ _
        · exact Nat.le_add_right _ _
        · exact Nat.le_add_right _ _
        · exact Nat.le_refl _
        · exact Nat.le_add_right _ _
      exact I1.fpOk le (I1.hok.fresh le)
end ZN
end
section
set_option Elab.async false
set_option linter.all false
set_option autoImplicit false
set_option maxRecDepth 100000
namespace L2
open PySem PySem.Spec PyProof.Rows
theorem Room.units1 {k : Nat} {A : Around} (r : Room k A) : A.units + 1 < cLine := by have := r.un; omega
theorem Room.units8 {k : Nat} {A : Around} (r : Room k A) : A.units + 8 < cLine := by have := r.un; omega
theorem Room.units65 {k : Nat} {A : Around} (r : Room k A) : A.units + 65 < cLine := by have := r.un; omega
/-- room for the C stack alone -/
structure Uok (A : Around) : Prop where
  h : A.units + 100 < cLine
theorem Uok.u1 {A : Around} (r : Uok A) : A.units + 1 < cLine := by have := r.h; omega
theorem Uok.u8 {A : Around} (r : Uok A) : A.units + 8 < cLine := by have := r.h; omega
theorem Uok.u64 {A : Around} (r : Uok A) : A.units + 64 < cLine := by have := r.h; omega
theorem Uok.u65 {A : Around} (r : Uok A) : A.units + 65 < cLine := by have := r.h; omega
theorem Room.uok {k : Nat} {A : Around} (r : Room k A) : Uok A := ⟨by have := r.un; omega⟩
theorem Room.uokd {k : Nat} {A : Around} (r : Room k A) (env : Env) : Uok (A.deeper env) := ⟨by have := r.un; show A.units + 3 + 100 < _; omega⟩
namespace Pv
/-! ### what the printed derivations use -/
section
variable {X : Cx} {Γ : Gm} {E : WX} {W P : List Nat} {e : Expr} {f : Ev} {pos : Pos}
theorem n_P (i : Nat) {x : Str} {pos : Pos} (hN : X.N[i]? = some x := by rfl) (hv : Vis X.env.scope x := by first | exact Or.inl rfl | exact Or.inr (Or.inl rfl) | exact Or.inr (Or.inr rfl)) (hd : (x == ("__debug__" : Str)) = false := by decide)
    (hcd : (x == ("__classdict__" : Str)) = false := by decide) : PE X (.Name x pos) (tVar i) := pe_var hN hv hd hcd
theorem n_E (i : Nat) {x : Str} {pos : Pos} (hN : X.N[i]? = some x := by rfl) (hv : Vis X.env.scope x := by first | exact Or.inl rfl | exact Or.inr (Or.inl rfl) | exact Or.inr (Or.inr rfl)) (hd : (x == ("__debug__" : Str)) = false := by decide)
    (hcd : (x == ("__classdict__" : Str)) = false := by decide) : SE X Γ E [i] (.Name x pos) (eNm i) := se_nm (pe_var hN hv hd hcd)
theorem n_V (i : Nat) {x : Str} {pos : Pos} (hN : X.N[i]? = some x := by rfl) (hv : Vis X.env.scope x := by first | exact Or.inl rfl | exact Or.inr (Or.inl rfl) | exact Or.inr (Or.inr rfl)) (hd : (x == ("__debug__" : Str)) = false := by decide)
    (hcd : (x == ("__classdict__" : Str)) = false := by decide) : SV X Γ E [] (some i) (.Name x pos) (eLk i) := sv_nm (pe_var hN hv hd hcd)
theorem n_G (i : Nat) {x : Str} {pos : Pos} (nd : X.N.Nodup) (hN : X.N[i]? = some x := by rfl) (hl : Loc X.env.scope x := by first | exact Or.inl rfl | exact Or.inr rfl) (hf : X.fn x = true ∨ X.env.scope.names.lookup x = some .local := by first | exact Or.inl rfl | exact Or.inr rfl) :
    SG X Γ [i] (.Name x pos) (gSet i) := sg_nm nd hN hl hf
theorem n_set (i : Nat) {x : Str} {pos' : Pos} (nd : X.N.Nodup) (h : SE X Γ E W e f) (hp : i ∉ P) (hN : X.N[i]? = some x := by rfl) (hl : Loc X.env.scope x := by first | exact Or.inl rfl | exact Or.inr rfl)
    (hs : swapsWith e (some (.Name x pos')) pos.line X.env = pure false := by rfl) (hf : X.fn x = true ∨ X.env.scope.names.lookup x = some .local := by first | exact Or.inl rfl | exact Or.inr rfl) :
    SS X Γ E P (.Assign [.Name x pos'] e pos) (sSet i f) := ss_set nd hN hl h hp hs hf
theorem pe_ty {y : Str} {T : String} (hg : Gl X y) (hm : X.mg y = none) (hv : bootBuiltins y = some (.type T)) (hn : y ≠ "__name__" := by decide) (hd : (y == ("__debug__" : Str)) = false := by decide) : PE X (.Name y pos) (tC (.ty T)) :=
  pe_bltn hg hm hv rfl hn hd
end
def zipTO (ds : List D) : Option (List D) := match ds with
  | [.tup xs, .tup ys] => some (zipD xs ys)
  | _ => none
def iZipTD (fa : EvA) : EvA := fun δ => (fa δ).bd fun ds δ' => lft (zipTO ds) δ'
theorem si_zipN {X : Cx} {Γ : Gm} {E : WX} {W : List Nat} {e e2 : Expr} {fa : EvA} {p pos tpos : Pos} {nm : Str} (hg : Gl X "zip") (hm : X.mg "zip" = none) (ha : SA X Γ E W 2 [e, e2] fa)
    (hs : starEach [e, e2] X.env = (false, eval e X.env) :: starEach [e2] X.env) (hpl : (backTo pos (starEach [e2] X.env)).any (·.1) = false) :
    SI X Γ E W (.Name nm tpos) (.Call (.Name "zip" p) [e, e2] [] pos) (iZipTD fa) := fun hK => (ZN.pi_zipN hg hm (ha hK) hs hpl).imp fun σ H R ⟨F, G, sl, tm, A, q⟩ => by
  refine ⟨F, G, sl, tm, A, ?_⟩
  unfold iZipTD at q
  cases hf : fa (dsl sl) with
  | stuck => rw [hf] at q; exact q
  | exc c fs δ => rw [hf] at q; exact q
  | ok ds δ =>
    rw [hf, bd_ok] at q
    intro H1 G1 sl1 ts A1 s1 hl ets e1 k1
    obtain ⟨t1, t2, rfl⟩ : ∃ t1 t2, ts = [t1, t2] := by
      match ts, hl with
      | [t1, t2], _ => exact ⟨t1, t2, rfl⟩
    have ets : [t1.d, t2.d] = ds := ets
    subst ets
    have inv : ∀ es, zipTO [t1.d, t2.d] = some es → ∃ xs ys, t1.d = .tup xs ∧ t2.d = .tup ys ∧ es = zipD xs ys := fun es h => by
      cases e1 : t1.d <;> cases e2 : t2.d <;> rw [e1, e2] at h <;> first | (cases h; exact ⟨_, _, rfl, rfl, rfl⟩) | cases h
    cases hz : zipTO [t1.d, t2.d] with
    | none => rw [hz] at q; exact q.elim
    | some es =>
      obtain ⟨xs, ys, d1, d2, rfl⟩ := inv es hz
      rw [hz, lft_some] at q
      obtain ⟨z1, a, vs, ev1, q1, r1⟩ := tup_of (A1.goodT t1 (by simp)) d1
      obtain ⟨z2, b, ws, ev2, q2, r2⟩ := tup_of (A1.goodT t2 (by simp)) d2
      have B : Abs Γ F σ H1 G1 sl1 tm := A1.dropN
      refine ⟨a, b, vs, ws, by rw [List.map_cons, List.map_cons, ev1, ev2]; rfl, by rw [hK]; exact sqT_of B.sub q1, by rw [hK]; exact sqT_of B.sub q2, ?_⟩
      rw [hK]
      exact q _ H1 G1 sl1 B s1 e1 k1 (gives_zipT q1 r1 q2 r2) (by unfold zipD; rw [List.length_zipWith]; omega)
theorem takesF {P : Program} {w : World} {K : PySem.W.Frag} {mg : Str → Option Value} {base : Heap} {N : List Str} {qual : Str} {scope : Scope} {f : Addr} {cd : Value} {A : Around} {outer : List Env} {s : Shared} {H : Hp} {E : XK} :
    Takes (cxOf (L2.CX P w) P w K mg base N qual scope f cd A outer s H E) (fun cls d _ H' => E cls d H') := takes_of rfl rfl rfl rfl
theorem ownsF {P : Program} {w : World} {K : PySem.W.Frag} {mg : Str → Option Value} {base : Heap} {N : List Str} {qual : Str} {scope : Scope} {f : Addr} {cd : Value} {A : Around} {outer : List Env} {s : Shared} {H : Hp} {E : XK} :
    PassesOwn (model (cxOf (L2.CX P w) P w K mg base N qual scope f cd A outer s H E).prog (cxOf (L2.CX P w) P w K mg base N qual scope f cd A outer s H E).w) (cxOf (L2.CX P w) P w K mg base N qual scope f cd A outer s H E).A (cxOf (L2.CX P w) P w K mg base N qual scope f cd A outer s H E).env (cxOf (L2.CX P w) P w K mg base N qual scope f cd A outer s H E).xe :=
  passes_of rfl
theorem takes0' {X : Cx} : Takes X E0' := takes0
end Pv
end L2
end
section
set_option Elab.async false
set_option linter.all false
set_option autoImplicit false
set_option maxRecDepth 100000
namespace L2.Pv
open PySem PySem.Spec PyProof.Rows
/-! ### a def whose code object is known (it makes lambdas) -/
def FunC (K : PySem.W.Frag) (x qual : Str) (st : Stmt) (f : Addr) (fd : FuncData) (c : Addr) : Prop :=
  ∃ (oc : Value) (od : Option Addr) (kV doc pm : Value) (an : Option Addr) (ct : Value) (osl : Array (Option Value)),
    fd = PySem.W.fnOf x qual (defArgs st) (defBody st) (defScope st) .none kV doc pm an (.ref c) ct ∧ K.lookup f = some ⟨oc, od, .func fd, osl⟩ ∧ PySem.W.codeIn K (.ref c) qual = true
section
variable {P : Program} {w : World} {K : PySem.W.Frag} {mg : Str → Option Value} {base : Heap} {Γ : Gm}
theorem fn_okC {x qual : Str} {st : Stmt} {f c : Addr} {fd : FuncData} {N ps : List Str} {k : Nat} {io : List Nat} {m : List D → FOut} {g : Es} (F : FunC K x qual st f fd c) (S : FnScope N ps (defScope st)) (hK : K = Γ.K) (hn : io.Nodup) (hio : ∀ i ∈ io, i < ps.length)
    (hm : ∀ ds, m ds = runF io N.length ps.length g ds)
    (body : ∀ (A : Around) (outer : List Env) (s : Shared) (H : Hp) (E : XK), Room k (A.deeper (envOfC qual (defScope st) s.heap.objs.size f (.ref c))) →
      SB (cxOf (L2.CX P w) P w K mg base N qual (defScope st) f (.ref c) A outer s H E) Γ (fun cls d _ H' => E cls d H') io (defBody st) g) : FnOk P w K mg base (L2.CX P w) (k + 1) f fd ps (spF Γ io m) := by
  obtain ⟨oc, od, kV, doc, pm, an, ct, osl, rfl, lk, hcd⟩ := F
  exact fn_of lk hcd S (spF_len hm) fun A outer s H vs Q E hr hsp => ⟨_, body A outer s H E hr hK, spF_start hn hio hm hsp⟩
theorem fn_okCG {x qual : Str} {st : Stmt} {f c : Addr} {fd : FuncData} {N ps : List Str} {k : Nat} {io : List Nat} {m : List D → FOut} {g : Es} (F : FunC K x qual st f fd c) (S : FnScope N ps (defScope st)) (hK : K = Γ.K) (hn : io.Nodup) (hio : ∀ i ∈ io, i < ps.length)
    (hm : ∀ ds, m ds = runF io N.length ps.length g ds)
    (body : ∀ (A : Around) (outer : List Env) (s : Shared) (H : Hp) (E : XK), A.guards = some [] → Room k (A.deeper (envOfC qual (defScope st) s.heap.objs.size f (.ref c))) →
      SB (cxOf (L2.CX P w) P w K mg base N qual (defScope st) f (.ref c) A outer s H E) Γ (fun cls d _ H' => E cls d H') io (defBody st) g) : FnG P w K mg base (k + 1) f fd ps (spF Γ io m) := by
  obtain ⟨oc, od, kV, doc, pm, an, ct, osl, rfl, lk, hcd⟩ := F
  exact ⟨spF_len hm, fun A outer s H args us vs Q E hg hr e0 hb r hsp => LamX.run_ofS lk hcd S hr e0 hb r (spF_len hm vs H Q E hsp) fun hr' => ⟨_, body A outer s H E hg hr' hK, spF_start hn hio hm hsp⟩⟩
end
/-! ### the bodies of try: a() and return a() -/
section
variable {X : Cx} {tb : TE} {e : Expr} {pos : Pos} {f c' : Addr} {q : Str} {tl : XK → Hp → VK → Prop} {W : WX}
theorem tryE (h : ∀ E : XK, (∀ cls d σ' H', E cls d H' → W cls d σ' H') → PE X e (fun σZ HZ Q => σZ[0]? = some (some (.ref f)) ∧ HZ c' = some (LamX.CodeO c' q) ∧ tl E HZ Q)) (hs : swapsWith e none pos.line X.env = pure false) :
    PSs X [.Expr e pos] fun D σ H => ∃ Ech : XK, (∀ cls d σ' H', Ech cls d H' → W cls d σ' H') ∧ σ[0]? = some (some (.ref f)) ∧ H c' = some (LamX.CodeO c' q) ∧ tl Ech H fun v H' => if false = true then D.rt v H' else D.nx σ H' :=
  ⟨fun pins s σ H D I ⟨Ech, hW, h1, h2, h3⟩ => (pss_one (ps_expr (h Ech hW) hs)).run pins s σ H D I ⟨h1, h2, h3⟩⟩
theorem tryR (h : ∀ E : XK, (∀ cls d σ' H', E cls d H' → W cls d σ' H') → PE X e (fun σZ HZ Q => σZ[0]? = some (some (.ref f)) ∧ HZ c' = some (LamX.CodeO c' q) ∧ tl E HZ Q)) :
    PSs X [.Return (some e) pos] fun D σ H => ∃ Ech : XK, (∀ cls d σ' H', Ech cls d H' → W cls d σ' H') ∧ σ[0]? = some (some (.ref f)) ∧ H c' = some (LamX.CodeO c' q) ∧ tl Ech H fun v H' => if true = true then D.rt v H' else D.nx σ H' :=
  ⟨fun pins s σ H D I ⟨Ech, hW, h1, h2, h3⟩ => (pss_one (ps_ret (h Ech hW))).run pins s σ H D I ⟨h1, h2, h3⟩⟩
end
end L2.Pv
end
section
set_option Elab.async false
set_option linter.all false
set_option autoImplicit false
set_option maxRecDepth 100000
set_option maxHeartbeats 2000000
namespace L2.Pv
open PySem PySem.Spec PyProof.Rows
/-! ### the end of a law in the value layer: its def with guards told, code tables, the modules' dict frozen -/
abbrev modsX (om : Obj) : HO := .frz om (.ext fun h => h.get? sysModules = some om)
/-- the heap at the law's entry: the modules' dict, the tables, the script (unless it is written) -/
def entryH (om oa : Obj) (ts : List Addr) (a : Addr) (fr : Bool) (ns : List Int) : Hp := fun b =>
  if b = sysModules then some (modsX om) else if b ∈ ts then some (.tbl #[]) else if fr = true ∧ b = a then some (.frz oa (.lst (ns.map V.int))) else none
def entryG (om oa : Obj) (a : Addr) (fr : Bool) (ns : List Int) : Hp := fun b =>
  if b = sysModules then some (modsX om) else if fr = true ∧ b = a then some (.frz oa (.lst (ns.map V.int))) else none
def groundH (om : Obj) : Hp := fun b => if b = sysModules then some (modsX om) else none
section
variable {om oa : Obj} {ts : List Addr} {a : Addr} {fr : Bool} {ns : List Int}
theorem entry_mods : entryH om oa ts a fr ns sysModules = some (modsX om) := if_pos rfl
theorem entry_tab {b : Addr} (h : b ∈ ts) (n : b ≠ sysModules) : entryH om oa ts a fr ns b = some (.tbl #[]) := by unfold entryH; rw [if_neg n, if_pos h]
theorem entry_none {b : Addr} (h : b ∉ ts) (n : b ≠ sysModules) (k : ¬ (fr = true ∧ b = a)) : entryH om oa ts a fr ns b = none := by unfold entryH; rw [if_neg n, if_neg h, if_neg k]
theorem entry_cases {b : Addr} {o : HO} (e : entryH om oa ts a fr ns b = some o) : (b = sysModules ∧ o = modsX om) ∨ (b ≠ sysModules ∧ b ∈ ts ∧ o = .tbl #[]) ∨ (b ≠ sysModules ∧ b ∉ ts ∧ fr = true ∧ b = a ∧ o = .frz oa (.lst (ns.map V.int))) := by
  unfold entryH at e
  by_cases h1 : b = sysModules
  · rw [if_pos h1] at e; exact .inl ⟨h1, (Option.some.inj e).symm⟩
  · rw [if_neg h1] at e
    by_cases h2 : b ∈ ts
    · rw [if_pos h2] at e; exact .inr (.inl ⟨h1, h2, (Option.some.inj e).symm⟩)
    · rw [if_neg h2] at e
      by_cases h3 : fr = true ∧ b = a
      · rw [if_pos h3] at e; exact .inr (.inr ⟨h1, h2, h3.1, h3.2, (Option.some.inj e).symm⟩)
      · rw [if_neg h3] at e; cases e
theorem entryG_cases {b : Addr} {o : HO} (e : entryG om oa a fr ns b = some o) : (b = sysModules ∧ o = modsX om) ∨ (b ≠ sysModules ∧ fr = true ∧ b = a ∧ o = .frz oa (.lst (ns.map V.int))) := by
  unfold entryG at e
  by_cases h1 : b = sysModules
  · rw [if_pos h1] at e; exact .inl ⟨h1, (Option.some.inj e).symm⟩
  · rw [if_neg h1] at e
    by_cases h3 : fr = true ∧ b = a
    · rw [if_pos h3] at e; exact .inr ⟨h1, h3.1, h3.2, (Option.some.inj e).symm⟩
    · rw [if_neg h3] at e; cases e
theorem entryG_sub (ha : a ∉ ts) : Sub (entryG om oa a fr ns) (entryH om oa ts a fr ns) := fun b o e => by
  rcases entryG_cases e with ⟨e1, e2⟩ | ⟨e1, e2, e3, e4⟩
  · rw [e1, e2]; exact entry_mods
  · rw [e4, e3]; unfold entryH
    rw [if_neg (show a ≠ sysModules from e3 ▸ e1), if_neg ha, if_pos ⟨e2, rfl⟩]
theorem groundH_sub : Sub (groundH om) (entryG om oa a fr ns) := fun b o e => by
  unfold groundH at e
  by_cases h1 : b = sysModules
  · rw [if_pos h1] at e; unfold entryG; rw [if_pos h1]; exact e
  · rw [if_neg h1] at e; cases e
theorem entryG_nt : NT (entryG om oa a fr ns) := fun b o e ps z => by
  rcases entryG_cases e with ⟨_, e2⟩ | ⟨_, _, _, e4⟩
  · rw [e2] at z; cases z
  · rw [e4] at z; cases z
end
/-- the run of the law's def from its entry -/
theorem spF_entry {Γ : Gm} {m : List D → FOut} {om oa : Obj} {ts : List Addr} {a : Addr} {fr : Bool} {ns : List Int} (hgb : Γ.gb = groundH om) (ha : a ∉ ts) (hl : ns.length ≤ sizeLine) (hT : LamX.Tabs Γ.tb (entryH om oa ts a fr ns))
    (hS : fr = false → ∃ its n, Γ.K.lookup a = some { cls := .type "list", data := .seq its n } ∧ its.size ≤ sizeLine ∧ Vals (ns.map V.int) its.toList) (ham : a ≠ sysModules) (hm : ∃ os, m [.scr ns] = .ok (.bl true) os) :
    spF Γ [] m [.ref a] (entryH om oa ts a fr ns) (fun v _ => v = .bl true) fun _ _ _ => False := by
  have A0 : Abs Γ (FrOf (entryH om oa ts a fr ns) (entryG om oa a fr ns) []) [] (entryH om oa ts a fr ns) (entryG om oa a fr ns) [] [] :=
    Abs.fresh0 (slc := []) rfl (fun i t h => by simp at h) (fun i t h => by simp at h) (entryG_sub ha) (by rw [hgb]; exact groundH_sub) entryG_nt hT
  have hr : Rep Γ (entryG om oa a fr ns) (.ref a) (.scr ns) := by
    refine ⟨hl, a, rfl, ?_⟩
    cases fr with
    | true =>
      refine .inl (.inr ⟨oa, ?_⟩)
      unfold entryG
      rw [if_neg ham, if_pos ⟨rfl, rfl⟩]
    | false =>
      obtain ⟨its, n, h1, h2, h3⟩ := hS rfl
      exact .inr ⟨_, its, n, h1, rfl, rfl, rfl, h2, h3⟩
  refine ⟨entryG om oa a fr ns, [.leaf (.ref a) (.scr ns)], rfl, Abs.toCall (ts := [.leaf (.ref a) (.scr ns)]) (tm := []) (A0.leaf hr), ?_⟩
  obtain ⟨os, hm⟩ := hm
  show match m [.scr ns] with | .ok d os => _ | .exc c fs os => _ | .stuck => False
  rw [hm]
  intro H' G' t us B ed _ _
  exact bl_of (B.goodT t List.mem_cons_self) ed
end L2.Pv
end
section
set_option Elab.async false
set_option linter.all false
set_option autoImplicit false
set_option maxRecDepth 100000
set_option maxHeartbeats 2000000
namespace L2.Pv
open PySem PySem.Spec PyProof.Rows
theorem noCX {P : Program} {w : World} {H : Hp} {s : Shared} {e : Value} {s' : Shared} (x : L2.CX P w [] H s (fun _ _ _ => False) e s') : False := by
  obtain ⟨_, _, _, _, _, _, _, _, _, _, _, _, z⟩ := x
  exact z
abbrev emptyTab : Obj := { cls := .none, data := .fields #[] }
abbrev listObj (vs : List Value) : Obj := { cls := .type "list", data := .seq vs.toArray }
section
variable {P : Program} {w : World} {K : PySem.W.Frag} {mg mb : Str → Option Value} {h : Heap} {om : Obj} {a : Addr} {cs : List (Addr × Addr)} {vs : List Value} {ns : List Int} {fr : Bool}
/-- what is known of the heap at the law's entry -/
structure Entry (K : PySem.W.Frag) (mg mb : Str → Option Value) (h : Heap) (om : Obj) (a : Addr) (cs : List (Addr × Addr)) (vs : List Value) (ns : List Int) (fr : Bool) : Prop where
  kin : K.In h
  glob : h.Ns mainGlobals mg
  blt : h.Ns builtinsNs mb
  boot : ∀ x : Str, x ≠ "__name__" → mb x = bootBuiltins x
  lim : h.NoLimit
  tab : ∀ p ∈ cs, h.get? p.2 = some emptyTab
  tabK : ∀ p ∈ cs, K.lookup p.2 = none
  code : ∀ p ∈ cs, PySem.W.CodeHd h p.1 p.2
  main : ∃ (bm : Addr) (ob : Obj), mg "__builtins__" = some (.ref bm) ∧ bm ≠ builtinsNs ∧ h.get? bm = some ob ∧ ob.cls = .type "module" ∧ ob.dict = some builtinsNs ∧ ob.data = .plain
  script : h.get? a = some (listObj vs)
  isInts : IntsAre vs ns
  few : ns.length ≤ sizeLine
  mods : h.get? sysModules = some om
  modsD : ∃ es ep, om.data = .dict es ep
  modsK : K.lookup sysModules = none
  free : fr = true ↔ K.lookup a = none
theorem Entry.noTab (Z : Entry K mg mb h om a cs vs ns fr) {b : Addr} {o : Obj} (e : h.get? b = some o) (n : o.data ≠ .fields #[]) : b ∉ cs.map (·.2) := fun z => by
  obtain ⟨p, hp, ep⟩ := List.mem_map.mp z
  have q := Z.tab p hp
  rw [ep, e] at q
  exact n (by rw [Option.some.inj q])
theorem Entry.noMods (Z : Entry K mg mb h om a cs vs ns fr) {b : Addr} {o : Obj} (e : h.get? b = some o) (n : ∀ es ep, o.data ≠ .dict es ep) : b ≠ sysModules := fun z => by
  have q := Z.mods
  rw [← z, e] at q
  obtain ⟨es, ep, hd⟩ := Z.modsD
  exact n es ep (by rw [Option.some.inj q]; exact hd)
theorem Entry.noScript (Z : Entry K mg mb h om a cs vs ns fr) {b : Addr} {o : Obj} (e : h.get? b = some o) (n : ∀ xs k, o.data ≠ .seq xs k) : b ≠ a := fun z => by
  have q := Z.script
  rw [← z, e] at q
  exact n _ _ (by rw [Option.some.inj q])
theorem Entry.sa (Z : Entry K mg mb h om a cs vs ns fr) : a ∉ cs.map (·.2) := Z.noTab Z.script fun z => nomatch z
theorem Entry.sm (Z : Entry K mg mb h om a cs vs ns fr) : a ≠ sysModules := Z.noMods Z.script fun _ _ z => nomatch z
theorem Entry.tm (Z : Entry K mg mb h om a cs vs ns fr) {b : Addr} (hb : b ∈ cs.map (·.2)) : b ≠ sysModules := by
  obtain ⟨p, hp, ep⟩ := List.mem_map.mp hb
  subst ep
  exact Z.noMods (Z.tab p hp) fun _ _ z => nomatch z
abbrev EH (om : Obj) (a : Addr) (cs : List (Addr × Addr)) (vs : List Value) (ns : List Int) (fr : Bool) : Hp := entryH om (listObj vs) (cs.map (·.2)) a fr ns
theorem Entry.hok (Z : Entry K mg mb h om a cs vs ns fr) : HOk P w (EH om a cs vs ns fr) h := fun b o e => by
  rcases entry_cases e with ⟨rfl, rfl⟩ | ⟨_, hb, rfl⟩ | ⟨_, _, _, rfl, rfl⟩
  · exact ⟨Z.mods, Z.mods, ⟨om, Z.mods⟩, fun h1 h2 p1 p2 => p2 _ p1⟩
  · obtain ⟨p, hp, ep⟩ := List.mem_map.mp hb
    subst ep
    exact Z.tab p hp
  · exact ⟨Z.script, by rw [List.length_map]; exact Z.few, vs, _, vals_ints Z.isInts, Z.script⟩
/-- an object of the heap that is not tracked lies in the base -/
theorem Entry.inBase (Z : Entry K mg mb h om a cs vs ns fr) {b : Addr} {o : Obj} (e : h.get? b = some o) (h1 : b ≠ sysModules) (h2 : b ∉ cs.map (·.2)) (h3 : ¬ (fr = true ∧ b = a)) : (hidT h (EH om a cs vs ns fr)).get? b = some o :=
  hidT_get e (entry_none h2 h1 h3)
theorem Entry.nsB (Z : Entry K mg mb h om a cs vs ns fr) {b : Addr} {m : Str → Option Value} (x : h.Ns b m) (hb : b ≠ sysModules) : (hidT h (EH om a cs vs ns fr)).Ns b m := by
  obtain ⟨o, es, ep, e, d, r⟩ := x
  exact ⟨o, es, ep, Z.inBase e hb (Z.noTab e (by rw [d]; exact fun z => nomatch z)) (fun z => Z.noScript e (by rw [d]; exact fun _ _ z => nomatch z) z.2), d, r⟩
theorem Entry.kinB (Z : Entry K mg mb h om a cs vs ns fr) : K.In (hidT h (EH om a cs vs ns fr)) := fun b o e => by
  refine Z.inBase (Z.kin b o e) (fun z => ?_) (fun z => ?_) fun z => ?_
  · rw [z, Z.modsK] at e; cases e
  · obtain ⟨p, hp, ep⟩ := List.mem_map.mp z
    rw [← ep, Z.tabK p hp] at e; cases e
  · rw [z.2, Z.free.mp z.1] at e; cases e
theorem Entry.tabB (Z : Entry K mg mb h om a cs vs ns fr) : ∀ p ∈ cs, LamX.TabB (hidT h (EH om a cs vs ns fr)) mg p.1 p.2 := fun p hp => by
  have plain : ∀ {b : Addr} {o : Obj}, h.get? b = some o → (∀ es ep, o.data ≠ .dict es ep) → (∀ xs k, o.data ≠ .seq xs k) → o.data ≠ .fields #[] → (hidT h (EH om a cs vs ns fr)).get? b = some o :=
    fun e n1 n2 n3 => Z.inBase e (Z.noMods e n1) (Z.noTab e n3) fun z => Z.noScript e n2 z.2
  obtain ⟨og, esg, epg, eg, dg, _⟩ := Z.glob
  refine ⟨?_, ?_, fun z => ?_⟩
  · obtain ⟨oc, us, fl, tf, flg, tg, inF, txt, tt, c1, c2, c3, c4, c5, c6, c7, c8, c9, c10⟩ := Z.code p hp
    refine ⟨oc, us, fl, tf, flg, tg, inF, txt, tt, plain c1 (fun _ _ z => ?_) (fun _ _ z => ?_) (fun z => ?_), c2, c3, c4, c5, c6, c7, c8, c9, c10⟩
    · rw [c3] at z; cases z
    · rw [c3] at z; cases z
    · rw [c3] at z; cases z; simp at c4
  · obtain ⟨bm, ob, b1, b2, b3, b4, b5, b6⟩ := Z.main
    refine ⟨bm, ob, b1, b2, fun q => ?_, fun q => ?_, plain b3 (fun _ _ z => ?_) (fun _ _ z => ?_) (fun z => ?_), b4, b5, b6⟩
    · rw [q, eg] at b3; cases b3; rw [dg] at b6; cases b6
    · rw [q, Z.tab p hp] at b3; cases b3; cases b6
    · rw [b6] at z; cases z
    · rw [b6] at z; cases z
    · rw [b6] at z; cases z
  · have q := Z.tab p hp
    rw [← z, eg] at q
    rw [Option.some.inj q] at dg
    cases dg
/-- what stood ahead of the call stands behind it -/
theorem Entry.old (Z : Entry K mg mb h om a cs vs ns fr) {h' : Heap} {H' : Hp} (un : Un (frs []) [] (EH om a cs vs ns fr) H' h h') (hok : HOk P w H' h') : OldK h h' := by
  have stays : ∀ b o, b ∉ cs.map (·.2) → h.get? b = some o → h'.get? b = some o := fun b o nb e => by
    cases q : EH om a cs vs ns fr b with
    | none => exact un.keep b o e q (fun z => nomatch (show b ∈ ([] : List Addr) from z)) (fun z => nomatch (show b ∈ ([] : List Addr) from z))
    | some u =>
      rcases entry_cases q with ⟨e1, e2⟩ | ⟨_, e2, _⟩ | ⟨_, _, _, e3, e4⟩
      · rw [e1, Z.mods] at e
        cases e
        rw [e1]
        exact (hok sysModules _ (un.frzs sysModules _ _ (by rw [← e1, q, e2]))).1
      · exact absurd e2 nb
      · subst e3
        rw [Z.script] at e
        cases e
        exact (hok b _ (un.frzs b _ _ (by rw [q, e4]))).1
  have grown : ∀ p ∈ cs, ∃ more : Array Value, h'.get? p.2 = some { cls := .none, data := .fields more } := fun p hp => by
    have hb : p.2 ∈ cs.map (·.2) := List.mem_map.mpr ⟨p, hp, rfl⟩
    obtain ⟨more, z⟩ := un.tbls p.2 #[] (entry_tab hb (Z.tm hb))
    exact ⟨_, hok p.2 _ z⟩
  refine ⟨fun b o e => ?_, fun b o e => ?_⟩
  · by_cases hb : b ∈ cs.map (·.2)
    · obtain ⟨p, hp, ep⟩ := List.mem_map.mp hb
      obtain ⟨more, gm⟩ := grown p hp
      subst ep
      rw [Z.tab p hp] at e
      obtain rfl := Option.some.inj e
      refine .inr (.inl ⟨((Z.code p hp).tab (Z.tab p hp)).isCodeTable, rfl, #[], more, rfl, ?_⟩)
      rw [Array.empty_append]
      exact gm
    · exact .inl (stays b o hb e)
  · by_cases hb : b ∈ cs.map (·.2)
    · obtain ⟨p, hp, ep⟩ := List.mem_map.mp hb
      obtain ⟨more, gm⟩ := grown p hp
      subst ep
      exact ⟨_, gm⟩
    · exact ⟨o, stays b o hb e⟩
end
/-- the call of the law's def -/
theorem law_run {P : Program} {w : World} {K : PySem.W.Frag} {mg mb : Str → Option Value} {om : Obj} {a fa : Addr} {cs : List (Addr × Addr)} {vs : List Value} {ns : List Int} {fr : Bool} {s₁ : Shared} {k : Nat} {fd : FuncData} {x : Str} {Γ : Gm} {m : List D → FOut}
    (Z : Entry K mg mb s₁.heap om a cs vs ns fr) (hg : s₁.gens = #[]) (hr : Room k callerA) (hbind : ∀ (s : Shared) (u : Value), BindsTo s fd ⟨[u], []⟩ [(x, u)])
    (F : ∀ base : Heap, K.In base → base.Ns mainGlobals mg → (∀ p ∈ cs, LamX.TabB base mg p.1 p.2) → FnG P w K mg base k fa fd [x] (spF Γ [] m))
    (hK : K = Γ.K) (hgb : Γ.gb = groundH om) (htb : ∀ p ∈ Γ.tb, p.1 ∈ cs.map (·.2)) (hm : ∃ os, m [.scr ns] = .ok (.bl true) os) :
    codeAny (model P w) callerA (.call (.ref fa) ⟨[.ref a], []⟩) (fun r s' => r = .ok (.ret (.bool true)) ∧ OldK s₁.heap s'.heap ∧ s'.os = s₁.os ∧ AllBare s'.gens) s₁ := by
  have kin := Z.kinB
  have ng : mainGlobals ≠ sysModules := by decide
  have hM : L2.Mod K mg (hidT s₁.heap (EH om a cs vs ns fr)) := ⟨kin, Z.nsB Z.glob ng, ⟨mb, Z.nsB Z.blt (by decide), Z.boot⟩, let ⟨mc, h1, h2⟩ := Z.lim; ⟨mc, Z.nsB h1 (by decide), h2⟩⟩
  have e0 : Env0 P w K mg (hidT s₁.heap (EH om a cs vs ns fr)) callerA [] s₁ (EH om a cs vs ns fr) :=
    ⟨rfl, hM, fun b o e => of_hidT e, Nat.le_of_eq (hidT_size _ _), trivial, (fun b hb => absurd (show b ∈ ([] : List Addr) from hb) List.not_mem_nil), Z.hok, .of_eq hg⟩
  have hT : LamX.Tabs Γ.tb (EH om a cs vs ns fr) := fun p hp => by
    have hb := htb p hp
    exact ⟨#[], entry_tab hb (Z.tm hb), by first | exact trivial | (intro; simp) | decide, fun pos cv hc => by simp [codeAmong] at hc⟩
  have sp := spF_entry (Γ := Γ) (m := m) (oa := listObj vs) hgb Z.sa Z.few hT (fun e => by
    have hk : ¬ K.lookup a = none := fun z => by rw [Z.free.mpr z] at e; cases e
    cases hl : K.lookup a with
    | none => exact absurd hl hk
    | some o =>
      have q := Z.kin a o hl
      rw [Z.script] at q
      obtain rfl := Option.some.inj q
      exact ⟨_, _, by rw [← hK]; exact hl, by rw [List.size_toArray, ← (show ns.length = vs.length from by have := Z.isInts.length; omega)]; exact Z.few, by simpa using vals_ints Z.isInts⟩) Z.sm hm
  refine codeAny_mono ((F _ kin hM.glob Z.tabB).run callerA [] s₁ _ ⟨[.ref a], []⟩ [.ref a] [.ref a] _ _ rfl hr e0 (hbind s₁ (.ref a)) (.cons rfl .nil) sp) fun r s' q => ?_
  cases r with
  | error e => exact (noCX q).elim
  | ok fl =>
    cases fl with
    | ret u =>
      obtain ⟨v, H', os, bare, un, hok', r', qv⟩ := q
      have qv : v = .bl true := qv
      subst qv
      obtain rfl : u = Value.bool true := r'
      exact ⟨rfl, Z.old un hok', os, bare⟩
    | next => exact False.elim q
    | brk => exact False.elim q
    | cont => exact False.elim q
/-- the goal that the head leaves -/
theorem walk_pv {l : PySem.W.OpenLaw} {n k : Nat} {q : Program} {loose : List Str} {XP : (Str → Option Value) → Heap → Prop} {YP : World → Heap → Prop} {d : DefRec} {K : Params → PySem.W.Frag} {x : Str} {cs : List (Addr × Addr)} {tb : List (Addr × Str)} {m : List D → FOut} {fas cas : Nat → Addr} {fls : Nat → List Str}
    (hn : l.most = some n) (hn2 : n ≤ sizeLine) (hdf : d.params.defaults = []) (hr : Room k callerA) (hY : ∀ (w : World) (h : Heap), YP w h → (K w.params).In h)
    (htab : ∀ (w : World) (h : Heap), YP w h → ∀ p ∈ cs, h.get? p.2 = some emptyTab) (hcode : ∀ (w : World) (h : Heap), YP w h → ∀ p ∈ cs, PySem.W.CodeHd h p.1 p.2) (htabK : ∀ w : World, ∀ p ∈ cs, (K w.params).lookup p.2 = none)
    (himp : importsNone q = true) (hmK : ∀ w : World, (K w.params).lookup sysModules = none) (htb : ∀ p ∈ tb, p.1 ∈ cs.map (·.2))
    (F : ∀ (w : World) (mg : Str → Option Value) (fa : Addr) (h : Heap) (g : Hp), YP w h → (K w.params).In h → h.Ns mainGlobals mg → mg d.name = some (.ref fa) → (∃ om, g = groundH om) →
      ∃ fd : FuncData, (∀ (s : Shared) (u : Value), BindsTo s fd ⟨[u], []⟩ [(x, u)]) ∧
        ∀ base : Heap, (K w.params).In base → base.Ns mainGlobals mg → (∀ p ∈ cs, LamX.TabB base mg p.1 p.2) → FnG l.prog w (K w.params) mg base k fa fd [x] (spF ⟨K w.params, fas, cas, fls, tb, g⟩ [] m))
    (hm : ∀ ns : List Int, ns.length ≤ n → (∀ z ∈ ns, Builtin.Int.intBits z ≤ 1048576) → ∃ os, m [.scr ns] = .ok (.bl true) os) :
    PySem.W.WalkO q loose XP YP l.row.toRowW d [] (fun f vs => PySem.call f vs) := by
  refine Att.attach_callB hn hdf fun w s₀ s₁ mg mb fa o pm cd doc a vs ns G Y ho hd hcd hmg hobj hints hlen hbits hg => ?_
  have KX := hY w _ Y
  obtain ⟨mm, ⟨om, es, ep, em, dm, _⟩, _⟩ := (G.T.seer himp).mods
  obtain ⟨fd, hb, hF⟩ := F w mg fa _ (groundH om) Y KX G.T.g hmg ⟨om, rfl⟩
  have Z : Entry (K w.params) mg mb s₁.heap om a cs vs ns (decide ((K w.params).lookup a = none)) :=
    ⟨KX, G.T.g, G.T.b, G.T.builtins, G.T.nolimit, htab w _ Y, htabK w, hcode w _ Y, G.T.bmain, hobj, hints, Nat.le_trans hlen hn2, em, ⟨es, ep, dm⟩, hmK w, decide_eq_true_iff⟩
  exact law_run (Γ := ⟨K w.params, fas, cas, fls, tb, groundH om⟩) Z hg hr hb hF rfl rfl htb (hm ns hlen hbits)
end L2.Pv
end
section
set_option Elab.async false
set_option linter.all false
set_option autoImplicit false
set_option maxRecDepth 100000
namespace L2.Pv
open PySem PySem.Spec PyProof.Rows PySem.W
theorem ex0_mk {K : Frag} {prog : Program} {C fI : Addr} {oc : Value} {od : Option Addr} {osl : Array (Option Value)} {name : Str} {qual : Str} {params : Arguments} {body : List Stmt} {scope : Scope} {dV : Value} {kV : Value} {doc : Value} {pm : Value} {an : Option Addr} {cda : Addr} {ct : Value} {cc : Addr} {msg : Str} {j : Nat} {p0 : Pos} {p1 : Pos} {p2 : Pos} {p3 : Pos} {p4 : Pos} {p5 : Pos} {ccl : Value} {cdd : Option Addr} {vs : Array Value} {ccs : Array (Option Value)} {file : Str} {tf : Tok} {cl : Value} {cld : Option Addr} {csl : Array (Option Value)} {newId : String} {bmB : List Value} {cdC : ClassData} {pl : Addr → Sem Bool}
    (FB : ExcBaseFacts "ValueError" newId "ValueError.__init__" bmB)
    (q : excInitIn K C bmB newId = true)
    (hi : findIn K (.ref C) "__init__" = some (some (.ref fI)))
    (hfn : isFn K (.ref fI) = true)
    (ho : K.lookup fI = some ⟨oc, od, .func (ksFn name qual params body scope dV kV doc pm an (.ref cda) ct cc), osl⟩)
    (hbody : body = [.Expr (.Call (.Attribute (.Call (.Name "super" p0) [] [] p1) "__init__" p2) [.Constant (.str msg) j p3] [] p4) p5])
    (hcd : codeIn K (.ref cda) qual = true)
    (hbind : ∀ v : Value, bindArgs (ksFn name qual params body scope dV kV doc pm an (.ref cda) ct cc) ⟨[v], []⟩ = pure [(("self" : Str), v)])
    (hp : ((params.posonlyargs ++ params.args).head?).map (·.arg) = some ("self" : Str))
    (hcode : K.lookup cda = some ⟨ccl, cdd, .fields vs, ccs⟩)
    (hvs : vs[2]? = some (.str file tf))
    (hfile : ((prog.main.file : Str) == file) = true)
    (hcell : K.lookup cc = some ⟨cl, cld, .cell (some (.ref C)), csl⟩)
    (hD : clsIn K C = some cdC)
    (hsub : mroIn K C (.ref C) = some true)
    (hks : scope.names.lookup ("super" : Str) = some .globalImplicit)
    (hkc : scope.names.lookup ("__class__" : Str) = some .free)
    (hka : scope.names.lookup ("self" : Str) = some .local)
    (hk : scope.kind = .function)
    (hcells : ∀ x ∈ scope.names, x.2 ≠ .cell)
    (hco : scope.isCoroutine = false)
    (hgen : scope.isGenerator = false)
    (htop : (prog.main.scope.names.lookup ("super" : Str)).isSome = false)
    (hno : nsIn K cStatics "thirdparty.any" = some none)
    (hm : ks_superIn K C C "__init__" = some (some (.builtin "ValueError.__init__")))
    (hB : subIn K (.ref C) (.type "ValueError") = some true)
    (hkeep : keepIn K (.ref C) = true)
    (hEx : subIn K (.ref C) (.type "BaseException") = some true)
    (hTy : typeIn K (.ref C) = some (.type "type"))
    (he : ∀ L : Addr, eval (.Call (.Attribute (.Call (.Name "super" p0) [] [] p1) "__init__" p2) [.Constant (.str msg) j p3] [] p4) (ksEnv qual scope L fI (.ref cda) cc) = (do
      let ov ← attributeBase (.Call (.Name "super" p0) [] [] p1) "__init__" (ksEnv qual scope L fI (.ref cda) cc) (eval (.Call (.Name "super" p0) [] [] p1) (ksEnv qual scope L fI (.ref cda) cc))
      standAt p2.atName
      let (f, first) ← holding [ov] (getMethod ov "__init__" (pl L))
      callWith p4 f first (backTo p4 (starEach [.Constant (.str msg) j p3] (ksEnv qual scope L fI (.ref cda) cc))) []))
    (hin : ∀ L : Addr, interactive (ksEnv qual scope L fI (.ref cda) cc) = false)
    (hsw : ∀ L : Addr, swapsWith (.Call (.Attribute (.Call (.Name "super" p0) [] [] p1) "__init__" p2) [.Constant (.str msg) j p3] [] p4) none p5.line (ksEnv qual scope L fI (.ref cda) cc) = pure false) : Nonempty (Ex0 K prog C fI) :=
  ⟨{ oc := oc, od := od, osl := osl, name := name, qual := qual, params := params, body := body, scope := scope, dV := dV, kV := kV, doc := doc, pm := pm, an := an, cda := cda, ct := ct, cc := cc, msg := msg, j := j, p0 := p0, p1 := p1, p2 := p2, p3 := p3, p4 := p4, p5 := p5, ccl := ccl, cdd := cdd, vs := vs, ccs := ccs, file := file, tf := tf, cl := cl, cld := cld, csl := csl, newId := newId, bmB := bmB, cdC := cdC, pl := pl, FB := FB, q := q, hi := hi, hfn := hfn, ho := ho, hbody := hbody, hcd := hcd, hbind := hbind, hp := hp, hcode := hcode, hvs := hvs, hfile := hfile, hcell := hcell, hD := hD, hsub := hsub, hks := hks, hkc := hkc, hka := hka, hk := hk, hcells := hcells, hco := hco, hgen := hgen, htop := htop, hno := hno, hm := hm, hB := hB, hkeep := hkeep, hEx := hEx, hTy := hTy, he := he, hin := hin, hsw := hsw }⟩
end L2.Pv
end
section
set_option Elab.async false
set_option linter.all false
set_option autoImplicit false
set_option maxRecDepth 100000
namespace L2.Pv
open PySem
/-! ### plain runs: each combinator at a state -/
section
variable {α : Type} {δ : DS} {g g' : Es} {f fa fb fc : Ev} {fc' : EvT}
@[simp] theorem sSeq_ap : sSeq g g' δ = (g δ).th g' := rfl
@[simp] theorem sNil_ap : sNil δ = .nx δ := rfl
@[simp] theorem sPass_ap : sPass δ = .nx δ := rfl
@[simp] theorem sBreak_ap : sBreak δ = .bk δ := rfl
@[simp] theorem sCont_ap : sCont δ = .ct δ := rfl
@[simp] theorem sExpr_ap : sExpr f δ = (f δ).st fun _ δ' => .nx δ' := rfl
@[simp] theorem sRet_ap : sRet f δ = (f δ).st fun d δ' => .rt d δ' := rfl
@[simp] theorem sRetN_ap : sRetN δ = .rt .non δ := rfl
@[simp] theorem sSet_ap {i : Nat} : sSet i f δ = (f δ).st fun d δ' => dput i d δ' := rfl
@[simp] theorem dput_ap {i : Nat} {d : D} (h : i < δ.length) : dput i d δ = .nx (δ.set i (some d)) := if_pos h
@[simp] theorem sIf_ap : sIf fc' g g' δ = (fc' δ).st fun b δ' => if b then g δ' else g' δ' := rfl
@[simp] theorem sRaise_ap {c : Nat} : sRaise c δ = .exc c [] δ := rfl
@[simp] theorem sFor_ap {fi : EvA} {ft : Eg} : sFor fi ft g δ = (fi δ).st fun ds δ' => forL ft g ds δ' := rfl
@[simp] theorem forL_nil {ft : Eg} : forL ft g [] δ = .nx δ := rfl
@[simp] theorem sAsg_ap {fg : Eg} : sAsg f fg δ = (f δ).st fun d δ1 => og (fg d δ1) fun δ2 => .nx δ2 := rfl
@[simp] theorem gSet_ap {i : Nat} {d : D} (h : i < δ.length) : gSet i d δ = some (δ.set i (some d)) := if_pos h
@[simp] theorem gNil_ap : gNil' [] δ = some δ := rfl
@[simp] theorem eC_ap {d : D} : eC d δ = .ok d δ := rfl
@[simp] theorem aNil_ap : aNil δ = .ok [] δ := rfl
@[simp] theorem aCons_ap {g : EvA} : aCons f g δ = (f δ).bd fun d δ1 => (g δ1).bd fun ds δ2 => .ok (d :: ds) δ2 := rfl
@[simp] theorem eTup_ap {g : EvA} : eTup g δ = (g δ).bd fun ds δ' => .ok (.tup (D.frzs ds)) δ' := rfl
@[simp] theorem eLst_ap {g : EvA} : eLst g δ = (g δ).bd fun ds δ' => .ok (.lst true ds) δ' := rfl
@[simp] theorem eFrz_ap : eFrz f δ = (f δ).bd fun d δ' => .ok d.frz δ' := rfl
@[simp] theorem ev1_ap {h : D → Option D} : ev1 h f δ = (f δ).bd fun a δ1 => lft (h a) δ1 := rfl
@[simp] theorem ev2_ap {h : D → D → Option D} : ev2 h fa fb δ = (fa δ).bd fun a δ1 => (fb δ1).bd fun b δ2 => lft (h a b) δ2 := rfl
@[simp] theorem eIf_ap : eIf fc' fa fb δ = (fc' δ).bd fun b δ' => if b then fa δ' else fb δ' := rfl
@[simp] theorem cAnd_ap {ca cb : EvT} : cAnd ca cb δ = (ca δ).bd fun b δ' => if b then cb δ' else .ok false δ' := rfl
@[simp] theorem cOr_ap {ca cb : EvT} : cOr ca cb δ = (ca δ).bd fun b δ' => if b then .ok true δ' else cb δ' := rfl
@[simp] theorem cNot_ap {ca : EvT} : cNot ca δ = (ca δ).bd fun b δ' => .ok (!b) δ' := rfl
@[simp] theorem cYes_ap : cYes δ = .ok true δ := rfl
@[simp] theorem oNone_ap : oNone δ = .ok none δ := rfl
@[simp] theorem eSl_ap {fl fh : EvO} : eSl f fl fh δ = (f δ).bd fun a δ1 => (fl δ1).bd fun lo δ2 => (fh δ2).bd fun hi δ3 => lft (dSl a lo hi) δ3 := rfl
@[simp] theorem calF_ap {m : List D → FOut} {g : EvA} : calF m g δ = (g δ).bd fun ds δ' => match m ds with
  | .ok d _ => .ok d δ'
  | .exc c fs _ => .exc c fs δ'
  | .stuck => .stuck := rfl
@[simp] theorem iRng_ap {g : EvA} : iRng g δ = (g δ).bd fun ds δ' => match ds with
  | [.int j] => if j.natAbs ≤ sizeLine then .ok (rangeD 0 j.toNat) δ' else .stuck
  | [.int i, .int j] => if i.natAbs ≤ sizeLine ∧ j.natAbs ≤ sizeLine ∧ (j - i).toNat ≤ sizeLine then .ok (rangeD i (j - i).toNat) δ' else .stuck
  | _ => .stuck := rfl
end
/-! a value for a test, an index: -/
def Out.tb (o : Out D) : Out Bool := o.bd fun d δ' => match d with
  | .bl b => .ok b δ'
  | _ => .stuck
@[simp] theorem tb_ok {b : Bool} {δ : DS} : (Out.ok (.bl b) δ).tb = .ok b δ := rfl
@[simp] theorem tb_exc {c : Nat} {fs : List D} {δ : DS} : (Out.exc c fs δ : Out D).tb = .exc c fs δ := rfl
@[simp] theorem tb_stuck : (Out.stuck : Out D).tb = .stuck := rfl
@[simp] theorem cVal_ap {f : Ev} {δ : DS} : cVal f δ = (f δ).tb := rfl
def Out.ti (o : Out D) : Out (Option Int) := o.bd fun d δ' => match d with
  | .int i => .ok (some i) δ'
  | _ => .stuck
@[simp] theorem ti_ok {i : Int} {δ : DS} : (Out.ok (.int i) δ).ti = .ok (some i) δ := rfl
@[simp] theorem oSome_ap {f : Ev} {δ : DS} : oSome f δ = (f δ).ti := rfl
@[simp] theorem eAnd_ap {f g : Ev} {δ : DS} : eAnd f g δ = (f δ).tb.bd fun b δ' => if b then g δ' else .ok (.bl false) δ' := by
  unfold eAnd
  cases f δ with
  | ok d δ' => cases d with
    | bl b => cases b <;> rfl
    | _ => rfl
  | _ => rfl
@[simp] theorem eOr_ap {f g : Ev} {δ : DS} : eOr f g δ = (f δ).tb.bd fun b δ' => if b then .ok (.bl true) δ' else g δ' := by
  unfold eOr
  cases f δ with
  | ok d δ' => cases d with
    | bl b => cases b <;> rfl
    | _ => rfl
  | _ => rfl
@[simp] theorem eChain_ap {g g' : D → D → Option D} {fa fb fc : Ev} {δ : DS} : eChain g g' fa fb fc δ = (fa δ).bd fun a δ1 => (fb δ1).bd fun b δ2 => (lft (g a b) δ2).tb.bd fun t δ2 => if t then (fc δ2).bd fun c δ3 => lft (g' b c) δ3 else .ok (.bl false) δ2 := by
  unfold eChain
  cases fa δ with
  | ok a δ1 =>
    simp only [bd_ok]
    cases fb δ1 with
    | ok b δ2 =>
      simp only [bd_ok]
      cases h : g a b with
      | none => rfl
      | some d => cases d with
        | bl b => cases b <;> rfl
        | _ => rfl
    | _ => rfl
  | _ => rfl
/-! values -/
@[simp] theorem dAdd_int {i j : Int} : dAdd (.int i) (.int j) = some (.int (i + j)) := rfl
@[simp] theorem dSub_int {i j : Int} : dSub (.int i) (.int j) = some (.int (i - j)) := rfl
theorem dMul_int {i j : Int} (h : mulOk i j = true) : dMul (.int i) (.int j) = some (.int (i * j)) := if_pos h
theorem mulOk_l {i j : Int} (h1 : -(2 ^ 64) < i) (h2 : i < 2 ^ 64) : mulOk i j = true := by
  unfold mulOk; rw [decide_eq_true h1, decide_eq_true h2]; rfl
theorem mulOk_r {i j : Int} (h1 : -(2 ^ 64) < j) (h2 : j < 2 ^ 64) : mulOk i j = true := by
  unfold mulOk; rw [decide_eq_true h1, decide_eq_true h2, Bool.or_comm]; rfl
theorem dFdiv_int {i j : Int} (h : 0 < j ∧ j < 1073741824) : dFdiv (.int i) (.int j) = some (.int (i / j)) := if_pos h
theorem dMod_int {i j : Int} (h : 0 < j) : dMod (.int i) (.int j) = some (.int (i % j)) := if_pos h
@[simp] theorem dNeg_int {i : Int} : dNeg (.int i) = some (.int (-i)) := rfl
@[simp] theorem dLt_int {i j : Int} : dLt (.int i) (.int j) = some (.bl (decide (i < j))) := rfl
@[simp] theorem dLe_int {i j : Int} : dLe (.int i) (.int j) = some (.bl (decide (i ≤ j))) := rfl
@[simp] theorem dGt_int {i j : Int} : dGt (.int i) (.int j) = some (.bl (decide (i > j))) := rfl
@[simp] theorem dGe_int {i j : Int} : dGe (.int i) (.int j) = some (.bl (decide (i ≥ j))) := rfl
@[simp] theorem dEq_int {i j : Int} : dEq (.int i) (.int j) = some (.bl (decide (i = j))) := by
  unfold dEq; by_cases h : i = j <;> simp [D.eqOk, D.eqb, h]
@[simp] theorem dNe_int {i j : Int} : dNe (.int i) (.int j) = some (.bl (!decide (i = j))) := by
  unfold dNe; by_cases h : i = j <;> simp [D.eqOk, D.eqb, h]
@[simp] theorem dInt_int {i : Int} : dInt (.int i) = some (.int i) := rfl
@[simp] theorem dLen_lst {o : Bool} {xs : List D} : dLen (.lst o xs) = some (.int xs.length) := rfl
@[simp] theorem dLen_tup {xs : List D} : dLen (.tup xs) = some (.int xs.length) := rfl
@[simp] theorem dIxA_lst {o : Bool} {xs : List D} {i : Int} : dIxA (.lst o xs) (.int i) = atI xs i := rfl
@[simp] theorem dIxA_tup {xs : List D} {i : Int} : dIxA (.tup xs) (.int i) = atI xs i := rfl
theorem dIx_of {a b d : D} (h : dIxA a b = some d) (n : nOwn d = true) : dIx a b = some d := by unfold dIx; rw [h]; simp [n]
@[simp] theorem nOwn_int {i : Int} : nOwn (.int i) = true := rfl
@[simp] theorem nOwn_bl {i : Bool} : nOwn (.bl i) = true := rfl
@[simp] theorem nOwn_tup {xs : List D} : nOwn (.tup xs) = true := rfl
@[simp] theorem nOwn_non : nOwn .non = true := rfl
@[simp] theorem nOwn_str {s : Str} : nOwn (.str s) = true := rfl
@[simp] theorem nOwn_lst {o : Bool} {xs : List D} : nOwn (.lst o xs) = !o := rfl
@[simp] theorem own_int {i : Int} : (D.int i).own = false := rfl
@[simp] theorem own_bl {i : Bool} : (D.bl i).own = false := rfl
@[simp] theorem own_tup {xs : List D} : (D.tup xs).own = false := rfl
@[simp] theorem own_non : D.non.own = false := rfl
@[simp] theorem own_str {s : Str} : (D.str s).own = false := rfl
@[simp] theorem own_scr {s : List Int} : (D.scr s).own = false := rfl
@[simp] theorem own_fn {j : Nat} : (D.fn j).own = false := rfl
@[simp] theorem own_lst {o : Bool} {xs : List D} : (D.lst o xs).own = o := rfl
/-- places -/
theorem atI_int {α : Type} {xs : List α} {j : Nat} {d : α} (h : xs[j]? = some d) : atI xs (j : Int) = some d := by
  unfold atI ixN
  have hl : j < xs.length := (List.getElem?_eq_some_iff.mp h).1
  rw [if_pos (by omega), if_pos (by omega)]
  simpa using h
@[simp] theorem eLk_ap {i : Nat} {δ : DS} : eLk i δ = (match δ[i]? with | some (some d) => .ok d δ | _ => .stuck) := rfl
@[simp] theorem eNm_ap {i : Nat} {δ : DS} : eNm i δ = (match δ[i]? with | some (some d) => if d.own then .ok d.frz (δ.set i (some d.frz)) else .ok d δ | _ => .stuck) := rfl
@[simp] theorem atI_lit {α : Type} {xs : List α} {n : Nat} : atI xs (no_index (OfNat.ofNat n : Int)) = xs[n]? := by
  have e : (OfNat.ofNat n : Int) = (n : Int) := rfl
  rw [e]
  unfold atI ixN
  rw [if_pos (by omega)]
  by_cases h : n < xs.length
  · rw [if_pos (by omega)]; simp
  · rw [if_neg (by omega)]; simp; omega
@[simp] theorem atI_m1 {α : Type} {xs : List α} : atI xs (-1) = xs[xs.length - 1]? := by
  unfold atI ixN
  rw [if_neg (by omega)]
  by_cases h : 0 < xs.length
  · rw [if_pos (by omega)]
    show xs[(_ : Int).toNat]? = _
    congr 1
    omega
  · rw [if_neg (by omega)]
    cases xs with
    | nil => rfl
    | cons x xs => simp at h
@[simp] theorem sPut_ap {j : Nat} {fe : Ev} {fo : Ep} {fi : Ev} {δ : DS} : sPut j fe fo fi δ = (fe δ).st fun d δ1 => (fo δ1).st fun pi δ2 => (fi δ2).st fun k δ3 => og (updAt j pi (fun n => putD n k d) δ3) fun δ4 => .nx δ4 := rfl
@[simp] theorem pNm_ap {j : Nat} {δ : DS} : pNm j δ = (match δ[j]? with | some (some _) => .ok [] δ | _ => .stuck) := rfl
@[simp] theorem updAt_nil {j : Nat} {g : D → Option D} {δ : DS} : updAt j [] g δ = (match δ[j]? with | some (some w) => (g w).map fun n => δ.set j (some n) | _ => none) := by
  unfold updAt
  cases δ[j]? with
  | none => rfl
  | some o => cases o with
    | none => rfl
    | some w => simp [D.at, D.upd]
@[simp] theorem putD_lit {xs : List D} {n : Nat} {v : D} (h : n < xs.length) : putD (.lst true xs) (.int (no_index (OfNat.ofNat n : Int))) v = some (.lst true (xs.set n v)) := by
  have e : (OfNat.ofNat n : Int) = (n : Int) := rfl
  rw [e]
  unfold putD ixN
  simp only
  rw [if_pos (by omega), if_pos (by omega)]
  simp
@[simp] theorem finF_rt {io : List Nat} {d : D} {δ : DS} : finF io (.rt d δ) = match outsOf io δ with | some os => .ok d os | none => .stuck := rfl
@[simp] theorem finF_nx {io : List Nat} {δ : DS} : finF io (.nx δ) = match outsOf io δ with | some os => .ok .non os | none => .stuck := rfl
@[simp] theorem finF_exc {io : List Nat} {c : Nat} {fs : List D} {δ : DS} : finF io (.exc c fs δ) = match outsOf io δ with | some os => .exc c fs os | none => .stuck := rfl
@[simp] theorem outs_nil {δ : DS} : outsOf [] δ = some [] := rfl
@[simp] theorem outs_0 {h : D} {δ : DS} : outsOf [0] (some h :: δ) = some [h] := rfl
theorem dIx_lst {o : Bool} {xs : List D} {i : Int} {d : D} (h : atI xs i = some d) (n : nOwn d = true) : dIx (.lst o xs) (.int i) = some d := dIx_of h n
theorem dIx_tup {xs : List D} {i : Int} {d : D} (h : atI xs i = some d) (n : nOwn d = true) : dIx (.tup xs) (.int i) = some d := dIx_of h n
@[simp] theorem dPow_int {i j : Int} : dPow (.int i) (.int j) = if 0 ≤ j ∧ j ≤ 1000000 ∧ i.natAbs < 2 ^ 64 then some (.int (i ^ j.toNat)) else none := rfl
theorem lit_cast (n : Nat) : (OfNat.ofNat n : Int) = (n : Int) := rfl
@[simp] theorem dMul_ll {n : Nat} {j : Int} (h : n < 2 ^ 64) : dMul (.int (no_index (OfNat.ofNat n : Int))) (.int j) = some (.int (OfNat.ofNat n * j)) := dMul_int (mulOk_l (by show -(2 ^ 64) < (n : Int); omega) (by show (n : Int) < 2 ^ 64; omega))
@[simp] theorem dMul_lr {n : Nat} {j : Int} (h : n < 2 ^ 64) : dMul (.int j) (.int (no_index (OfNat.ofNat n : Int))) = some (.int (j * OfNat.ofNat n)) := dMul_int (mulOk_r (by show -(2 ^ 64) < (n : Int); omega) (by show (n : Int) < 2 ^ 64; omega))
@[simp] theorem dMod_l {n : Nat} {j : Int} (h : 0 < n) : dMod (.int j) (.int (no_index (OfNat.ofNat n : Int))) = some (.int (j % OfNat.ofNat n)) := dMod_int (by show 0 < (n : Int); omega)
@[simp] theorem dFdiv_l {n : Nat} {j : Int} (h : 0 < n) (h' : n < 1073741824) : dFdiv (.int j) (.int (no_index (OfNat.ofNat n : Int))) = some (.int (j / OfNat.ofNat n)) := dFdiv_int (by show 0 < (n : Int) ∧ (n : Int) < 1073741824; omega)
end L2.Pv
end
section
set_option Elab.async false
set_option linter.all false
set_option autoImplicit false
set_option maxRecDepth 100000
namespace L2.Pv
open PySem
theorem sz_le {n : Nat} (h : n ≤ 1000000) : n ≤ sizeLine := by
  have : sizeLine = 16777216 := by decide
  omega
/-! ### comprehensions as maps -/
section
variable {α : Type} {vs : List Nat} {fi : EvA} {ft : Eg} {fc : EvT} {fe : Ev} {δ δ1 : DS} {ι : α → D} {S : α → DS} {g : α → D} {p : α → Bool}
theorem lcL_filter : ∀ (L : List α), (∀ a ∈ L, ft (ι a) (wipeG δ1 vs) = some (S a)) → (∀ a ∈ L, fc (S a) = .ok (p a) (S a)) → (∀ a ∈ L, p a = true → fe (S a) = .ok (g a) (S a)) → (∀ a ∈ L, wipeG (S a) vs = wipeG δ1 vs) →
    lcL vs ft fc fe (L.map ι) (wipeG δ1 vs) = some ((L.filter p).map g, wipeG δ1 vs)
  | [], _, _, _, _ => rfl
  | a :: L, ht, hc, he, hw => by
    have ih := lcL_filter L (fun b hb => ht b (List.mem_cons_of_mem _ hb)) (fun b hb => hc b (List.mem_cons_of_mem _ hb)) (fun b hb => he b (List.mem_cons_of_mem _ hb)) (fun b hb => hw b (List.mem_cons_of_mem _ hb))
    have m : a ∈ a :: L := List.mem_cons_self
    rw [List.map_cons]
    unfold lcL
    rw [ht a m]
    simp only [Option.bind_some]
    rw [hc a m]
    cases hp : p a with
    | true =>
      simp only
      rw [he a m hp]
      simp only
      rw [hw a m, ih, List.filter_cons, if_pos hp]
      rfl
    | false =>
      simp only
      rw [hw a m, ih, List.filter_cons, if_neg (by rw [hp]; exact Bool.false_ne_true)]
theorem eLc_filter {L : List α} (hi : fi δ = .ok (L.map ι) δ1) (ht : ∀ a ∈ L, ft (ι a) (wipeG δ1 vs) = some (S a)) (hc : ∀ a ∈ L, fc (S a) = .ok (p a) (S a)) (he : ∀ a ∈ L, p a = true → fe (S a) = .ok (g a) (S a)) (hw : ∀ a ∈ L, wipeG (S a) vs = wipeG δ1 vs)
    (hr : restG δ1 (wipeG δ1 vs) vs = δ1) : eLc vs fi ft fc fe δ = .ok (.lst true ((L.filter p).map g)) δ1 := by
  unfold eLc
  rw [hi, bd_ok, lcL_filter L ht hc he hw]
  simp only [hr]
theorem eLc_map {L : List α} (hi : fi δ = .ok (L.map ι) δ1) (ht : ∀ a ∈ L, ft (ι a) (wipeG δ1 vs) = some (S a)) (he : ∀ a ∈ L, fe (S a) = .ok (g a) (S a)) (hw : ∀ a ∈ L, wipeG (S a) vs = wipeG δ1 vs)
    (hr : restG δ1 (wipeG δ1 vs) vs = δ1) : eLc vs fi ft cYes fe δ = .ok (.lst true (L.map g)) δ1 := by
  rw [eLc_filter (fc := cYes) (p := fun _ => true) hi ht (fun _ _ => rfl) (fun a h _ => he a h) hw hr]
  rw [List.filter_eq_self.mpr fun _ _ => rfl]
end
/-! two clauses -/
section
variable {α β : Type} {vs vs1 : List Nat} {fi fi1 : EvA} {ft ft1 : Eg} {fe : Ev} {δ δ1 : DS} {ι : α → D} {S : α → DS} {M : α → List β} {κ : α → β → D} {R : α → β → DS} {g : α → β → D}
theorem lc2L_map : ∀ (L : List α), (∀ a ∈ L, ft (ι a) (wipeG δ1 vs) = some (S a)) → (∀ a ∈ L, fi1 (S a) = .ok ((M a).map (κ a)) (S a)) → (∀ a ∈ L, ∀ b ∈ M a, ft1 (κ a b) (wipeG (S a) vs1) = some (R a b)) → (∀ a ∈ L, ∀ b ∈ M a, fe (R a b) = .ok (g a b) (R a b)) →
    (∀ a ∈ L, ∀ b ∈ M a, wipeG (R a b) vs1 = wipeG (S a) vs1) → (∀ a ∈ L, wipeG (wipeG (S a) vs1) vs = wipeG δ1 vs) →
    lc2L vs vs1 ft cYes fi1 ft1 cYes fe (L.map ι) (wipeG δ1 vs) = some ((L.map fun a => (M a).map (g a)).flatten, wipeG δ1 vs)
  | [], _, _, _, _, _, _ => rfl
  | a :: L, h1, h2, h3, h4, h5, h6 => by
    have ih := lc2L_map L (fun b hb => h1 b (List.mem_cons_of_mem _ hb)) (fun b hb => h2 b (List.mem_cons_of_mem _ hb)) (fun b hb => h3 b (List.mem_cons_of_mem _ hb)) (fun b hb => h4 b (List.mem_cons_of_mem _ hb)) (fun b hb => h5 b (List.mem_cons_of_mem _ hb)) (fun b hb => h6 b (List.mem_cons_of_mem _ hb))
    have m : a ∈ a :: L := List.mem_cons_self
    have inner := lcL_filter (vs := vs1) (fc := cYes) (p := fun _ => true) (δ1 := S a) (M a) (h3 a m) (fun _ _ => rfl) (fun b hb _ => h4 a m b hb) (h5 a m)
    rw [List.map_cons]
    unfold lc2L
    rw [h1 a m]
    simp only [Option.bind_some, cYes_ap]
    rw [h2 a m]
    simp only
    rw [inner]
    simp only [Option.bind_some]
    rw [h6 a m, ih, List.filter_eq_self.mpr fun _ _ => rfl]
    rfl
theorem eLc2_map {L : List α} (hi : fi δ = .ok (L.map ι) δ1) (h1 : ∀ a ∈ L, ft (ι a) (wipeG δ1 vs) = some (S a)) (h2 : ∀ a ∈ L, fi1 (S a) = .ok ((M a).map (κ a)) (S a)) (h3 : ∀ a ∈ L, ∀ b ∈ M a, ft1 (κ a b) (wipeG (S a) vs1) = some (R a b)) (h4 : ∀ a ∈ L, ∀ b ∈ M a, fe (R a b) = .ok (g a b) (R a b))
    (h5 : ∀ a ∈ L, ∀ b ∈ M a, wipeG (R a b) vs1 = wipeG (S a) vs1) (h6 : ∀ a ∈ L, wipeG (wipeG (S a) vs1) vs = wipeG δ1 vs) (hr : restG δ1 (wipeG δ1 vs) vs = δ1) (hz : (L.map fun a => (M a).map (g a)).flatten.length ≤ 1000000) :
    eLc2 vs vs1 fi ft cYes fi1 ft1 cYes fe δ = .ok (.lst true (L.map fun a => (M a).map (g a)).flatten) δ1 := by
  unfold eLc2
  rw [hi, bd_ok, lc2L_map L h1 h2 h3 h4 h5 h6]
  simp only [hr]
  rw [if_pos (sz_le hz)]
end
@[simp] theorem calH_ap {m : List D → FOut} {j : Nat} {g : EvA} {δ : DS} : calH m j g δ = (match δ[j]? with
  | some (some _) => (g δ).bd fun ds δ' => match δ'[j]? with
    | some (some h) => match m (h :: ds) with
      | .ok d [h'] => .ok d (δ'.set j (some h'))
      | .exc c fs [h'] => .exc c fs (δ'.set j (some h'))
      | _ => .stuck
    | _ => .stuck
  | _ => .stuck) := rfl
@[simp] theorem sPar_ap {i j : Nat} {fa : EvA} {δ : DS} : sPar i j fa δ = (fa δ).st fun ds δ1 => match ds with
  | [a, b] => if i < δ1.length ∧ j < δ1.length then .nx ((δ1.set i (some a)).set j (some b)) else .stuck
  | _ => .stuck := rfl
@[simp] theorem gTup_ap {n : Nat} {g : Egs} {ds : List D} {δ : DS} (h : ds.length = n) : gTup' n g (.tup ds) δ = g ds δ := by
  unfold gTup'; simp [h]
@[simp] theorem gCons_ap {f : Eg} {g : Egs} {d : D} {ds : List D} {δ : DS} : gCons' f g (d :: ds) δ = (f d δ).bind (g ds) := by
  rfl
@[simp] theorem iZipD_ap {fa : EvA} {δ : DS} : iZipD fa δ = (fa δ).bd fun ds δ' => lft (zipO ds) δ' := rfl
@[simp] theorem iZipTD_ap {fa : EvA} {δ : DS} : iZipTD fa δ = (fa δ).bd fun ds δ' => lft (zipTO ds) δ' := rfl
@[simp] theorem iEnumD_ap {fa : EvA} {δ : DS} : iEnumD fa δ = (fa δ).bd fun ds δ' => lft (enumO ds) δ' := rfl
@[simp] theorem zipO_tup {xs ys : List D} : zipO [.tup xs, .tup ys] = some (zipD xs ys) := rfl
@[simp] theorem zipTO_tup {xs ys : List D} : zipTO [.tup xs, .tup ys] = some (zipD xs ys) := rfl
@[simp] theorem enumO_tup {xs : List D} : enumO [.tup xs] = some (enumD xs) := rfl
theorem dAdd_tup {xs ys : List D} (h : xs.length + ys.length ≤ 1000000) : dAdd (.tup xs) (.tup ys) = some (.tup (xs ++ ys)) := if_pos (sz_le h)
theorem dAdd_lst {o o' : Bool} {xs ys : List D} (h : xs.length + ys.length ≤ 1000000) (h1 : xs.all nOwn = true) (h2 : ys.all nOwn = true) : dAdd (.lst o xs) (.lst o' ys) = some (.lst true (xs ++ ys)) := if_pos ⟨sz_le h, h1, h2⟩
theorem dTup_lst {o : Bool} {xs : List D} (h : xs.all nOwn = true) : dTup (.lst o xs) = some (.tup xs) := if_pos h
@[simp] theorem dTup_tup {xs : List D} : dTup (.tup xs) = some (.tup xs) := rfl
@[simp] theorem dRev_tup {xs : List D} : dRev (.tup xs) = some (.tup xs.reverse) := rfl
@[simp] theorem frz_int {i : Int} : (D.int i).frz = .int i := rfl
@[simp] theorem frz_bl {i : Bool} : (D.bl i).frz = .bl i := rfl
@[simp] theorem frz_tup {xs : List D} : (D.tup xs).frz = .tup xs := rfl
@[simp] theorem frz_non : D.non.frz = .non := rfl
@[simp] theorem frz_str {x : Str} : (D.str x).frz = .str x := rfl
@[simp] theorem frzs_nil : D.frzs [] = [] := rfl
@[simp] theorem frzs_cons {d : D} {ds : List D} : D.frzs (d :: ds) = d.frz :: D.frzs ds := rfl
@[simp] theorem endsF_rt {d : D} {δ : DS} : endsF (.rt d δ) = some d := rfl
/-! ### sums, flags -/
theorem dSum_map {α : Type} {o : Bool} (L : List α) (f : α → Int) : dSum (.lst o (L.map fun a => D.int (f a))) = some (.int (L.map f).sum) := by
  have e : (L.map fun a => D.int (f a)) = (L.map f).map D.int := by rw [List.map_map]; rfl
  rw [e]; show (intsOf _).map _ = _; rw [intsOf_map]; rfl
theorem dAll_map {α : Type} {o : Bool} (L : List α) (f : α → Bool) : dAll (.lst o (L.map fun a => D.bl (f a))) = some (.bl (L.all f)) := by
  have e : (L.map fun a => D.bl (f a)) = (L.map f).map D.bl := by rw [List.map_map]; rfl
  rw [e]; show (blsOf _).map _ = _; rw [blsOf_map]; simp [List.all_map, Function.comp_def]
theorem dAny_map {α : Type} {o : Bool} (L : List α) (f : α → Bool) : dAny (.lst o (L.map fun a => D.bl (f a))) = some (.bl (L.any f)) := by
  have e : (L.map fun a => D.bl (f a)) = (L.map f).map D.bl := by rw [List.map_map]; rfl
  rw [e]; show (blsOf _).map _ = _; rw [blsOf_map]; simp [List.any_map, Function.comp_def]
theorem allN_int (xs : List Int) : (xs.map D.int).all nOwn = true := by simp [List.all_map]
@[simp] theorem dTup_int {o : Bool} (xs : List Int) : dTup (.lst o (xs.map D.int)) = some (.tup (xs.map D.int)) := by
  unfold dTup; simp only [allN_int, if_true]
@[simp] theorem frzs_int (xs : List Int) : D.frzs (xs.map D.int) = xs.map D.int := by
  rw [D.frzs_map, List.map_map]; rfl
/-- a row of numbers -/
abbrev tR (xs : List Int) : D := .tup (xs.map D.int)
@[simp] theorem iSeq_ap {f : Ev} {δ : DS} : iSeq f δ = (f δ).bd fun d δ' => match d with
  | .lst _ ds => .ok (D.frzs ds) δ'
  | .tup ds => .ok ds δ'
  | _ => .stuck := rfl
theorem rangeD_eq (lo : Int) (n : Nat) : rangeD lo n = (List.range n).map fun (i : Nat) => D.int (lo + i) := rfl
theorem atI_row {xs : List Int} {k : Nat} (h : k < xs.length) : atI (xs.map D.int) (k : Int) = some (.int (xs.getD k 0)) := by
  refine atI_int ?_
  rw [List.getElem?_map, List.getElem?_eq_getElem h, List.getD_eq_getElem?_getD, List.getElem?_eq_getElem h]; rfl
theorem iRng_1 {f : Ev} {δ δ' : DS} {j : Int} (h : f δ = .ok (.int j) δ') (hz : j.natAbs ≤ 1000000) : iRng (aCons f aNil) δ = .ok (rangeD 0 j.toNat) δ' := by
  rw [iRng_ap, aCons_ap, h, bd_ok, aNil_ap, bd_ok, bd_ok]
  show (if j.natAbs ≤ sizeLine then _ else _) = _
  rw [if_pos (sz_le hz)]
theorem iRng_2 {f f' : Ev} {δ δ' δ'' : DS} {i j : Int} (h : f δ = .ok (.int i) δ') (h' : f' δ' = .ok (.int j) δ'') (hi : i.natAbs ≤ 400000) (hz : j.natAbs ≤ 400000) : iRng (aCons f (aCons f' aNil)) δ = .ok (rangeD i (j - i).toNat) δ'' := by
  rw [iRng_ap, aCons_ap, h, bd_ok, aCons_ap, h', bd_ok, aNil_ap, bd_ok, bd_ok, bd_ok]
  show (if i.natAbs ≤ sizeLine ∧ j.natAbs ≤ sizeLine ∧ (j - i).toNat ≤ sizeLine then _ else _) = _
  rw [if_pos ⟨sz_le (by omega), sz_le (by omega), sz_le (by omega)⟩]
/-! ### calls -/
theorem runF_1 {io : List Nat} {n : Nat} {f : Es} {a : D} : runF io n 1 f [a] = finF io (f (some a :: List.replicate (n - 1) none)) := by
  unfold runF; rw [if_pos (by simp)]; rfl
theorem runF_2 {io : List Nat} {n : Nat} {f : Es} {a b : D} : runF io n 2 f [a, b] = finF io (f (some a :: some b :: List.replicate (n - 2) none)) := by
  unfold runF; rw [if_pos (by simp)]; rfl
theorem runF_3 {io : List Nat} {n : Nat} {f : Es} {a b c : D} : runF io n 3 f [a, b, c] = finF io (f (some a :: some b :: some c :: List.replicate (n - 3) none)) := by
  unfold runF; rw [if_pos (by simp)]; rfl
/-! ### kinds -/
def D.isInt : D → Bool
  | .int _ => true
  | _ => false
theorem k_ii : kitB "int" "int" = some true := by decide
end L2.Pv
end
section
set_option autoImplicit false
namespace L2.Pv.Golay
/-! ### sums of products of rows -/
def zs : List Int → List Int → Int
  | x :: a, y :: b => x * y + zs a b
  | _, _ => 0
def corr (a : List Int) (s : Nat) : Int := zs a (a.drop s)
def neg (a : List Int) : List Int := a.map fun x => -x
@[simp] theorem zs_nil_l (b : List Int) : zs [] b = 0 := by cases b <;> rfl
@[simp] theorem zs_nil_r (a : List Int) : zs a [] = 0 := by cases a <;> rfl
@[simp] theorem zs_cons (x y : Int) (a b : List Int) : zs (x :: a) (y :: b) = x * y + zs a b := rfl
theorem zs_comm : ∀ a b : List Int, zs a b = zs b a
  | [], b => by simp
  | x :: a, [] => by simp
  | x :: a, y :: b => by simp [zs_comm a b, Int.mul_comm]
theorem zs_neg : ∀ a b : List Int, zs (neg a) b = - zs a b
  | [], b => by simp [neg]
  | x :: a, [] => by simp
  | x :: a, y :: b => by
    have ih := zs_neg a b
    simp only [neg, List.map_cons, zs_cons] at ih ⊢
    rw [ih, Int.neg_mul]; omega
theorem zs_neg_r (a b : List Int) : zs a (neg b) = - zs a b := by rw [zs_comm, zs_neg, zs_comm]
@[simp] theorem neg_len (a : List Int) : (neg a).length = a.length := by simp [neg]
theorem neg_drop (a : List Int) (s : Nat) : (neg a).drop s = neg (a.drop s) := by simp [neg]
theorem neg_take (a : List Int) (s : Nat) : (neg a).take s = neg (a.take s) := by simp [neg]
theorem corr_neg (a : List Int) (s : Nat) : corr (neg a) s = corr a s := by
  unfold corr; rw [neg_drop, zs_neg, zs_neg_r, Int.neg_neg]
theorem zs_app : ∀ (a c d : List Int), zs a (c ++ d) = zs (a.take c.length) c + zs (a.drop c.length) d
  | a, [], d => by simp
  | [], y :: c, d => by simp
  | x :: a, y :: c, d => by simp [zs_app a c d, Int.add_assoc]
theorem zs_take : ∀ (a b : List Int), zs (a.take b.length) b = zs a b
  | a, [] => by simp
  | [], y :: b => by simp
  | x :: a, y :: b => by simp [zs_take a b]
theorem zs_take_r (a b : List Int) : zs a (b.take a.length) = zs a b := by rw [zs_comm, zs_take, zs_comm]
theorem zs_app_l (a c d : List Int) : zs (c ++ d) a = zs c (a.take c.length) + zs d (a.drop c.length) := by
  rw [zs_comm, zs_app, zs_comm _ c, zs_comm _ d]
theorem corr_big (a : List Int) {s : Nat} (h : a.length ≤ s) : corr a s = 0 := by
  unfold corr; rw [List.drop_eq_nil_of_le h, zs_nil_r]
theorem corr_app {a b : List Int} (hl : a.length = b.length) {s : Nat} (hs : s ≤ a.length) : corr (a ++ b) s = corr a s + zs (a.drop (a.length - s)) (b.take s) + corr b s := by
  unfold corr
  rw [List.drop_append_of_le_length hs, zs_app, List.length_drop]
  have e1 : (a ++ b).take (a.length - s) = a.take (a.drop s).length := by rw [List.length_drop, List.take_append_of_le_length (by omega)]
  have e2 : (a ++ b).drop (a.length - s) = a.drop (a.length - s) ++ b := List.drop_append_of_le_length (by omega)
  rw [e1, zs_take, e2, zs_app_l, List.length_drop, show a.length - (a.length - s) = s by omega]
  omega
theorem corr_app_big {a b : List Int} (hl : a.length = b.length) {s : Nat} (hs : a.length < s) : corr (a ++ b) s = zs a (b.drop (s - a.length)) := by
  unfold corr
  have e : (a ++ b).drop s = b.drop (s - a.length) := by
    rw [List.drop_append, List.drop_eq_nil_of_le (by omega), List.nil_append]
  rw [e, zs_app_l]
  rw [show (b.drop (s - a.length)).drop a.length = [] from List.drop_eq_nil_of_le (by rw [List.length_drop]; omega), zs_nil_r, Int.add_zero, zs_take_r]
theorem corr_doubled {a b : List Int} (hl : a.length = b.length) (s : Nat) : corr (a ++ b) s + corr (a ++ neg b) s = 2 * (corr a s + corr b s) := by
  by_cases hs : s ≤ a.length
  · rw [corr_app hl hs, corr_app (by simpa using hl) hs, neg_take, zs_neg_r, corr_neg]; omega
  · rw [corr_app_big hl (by omega), corr_app_big (by simpa using hl) (by omega), neg_drop, zs_neg_r, corr_big a (by omega), corr_big b (by omega)]; omega
/-- a pair -/
def Pair (a b : List Int) : Prop := ∀ s, 1 ≤ s → corr a s + corr b s = 0
theorem Pair.doubled {a b : List Int} (h : Pair a b) (hl : a.length = b.length) : Pair (a ++ b) (a ++ neg b) := fun s hs => by rw [corr_doubled hl, h s hs]; rfl
theorem Pair.swap {a b : List Int} (h : Pair a b) : Pair b a := fun s hs => by rw [Int.add_comm]; exact h s hs
theorem Pair.less {a b : List Int} (h : Pair a b) : Pair (neg a) b := fun s hs => by rw [corr_neg]; exact h s hs
/-! by turns -/
def weave : List Int → List Int → List Int
  | [], _ => []
  | x :: a, b => x :: weave b a
termination_by a b => a.length + b.length
decreasing_by simp; omega
@[simp] theorem weave_nil (b : List Int) : weave [] b = [] := by unfold weave; rfl
@[simp] theorem weave_cons (x : Int) (a b : List Int) : weave (x :: a) b = x :: weave b a := by rw [weave]
theorem zs_weave : ∀ (n : Nat) (a b c d : List Int), a.length + b.length ≤ n → b.length ≤ a.length → a.length ≤ b.length + 1 → d.length ≤ c.length → c.length ≤ d.length + 1 → zs (weave a b) (weave c d) = zs a c + zs b d
  | n, [], b, c, d, _, h1, _, _, _ => by
    have : b = [] := List.eq_nil_of_length_eq_zero (by simpa using h1)
    subst this; simp
  | n, x :: a, b, [], d, _, _, _, h3, _ => by
    have : d = [] := List.eq_nil_of_length_eq_zero (by simpa using h3)
    subst this; simp
  | 0, x :: a, b, y :: c, d, h, _, _, _, _ => by simp at h
  | n + 1, x :: a, b, y :: c, d, h, h1, h2, h3, h4 => by
    simp only [List.length_cons] at h h1 h2 h3 h4
    rw [weave_cons, weave_cons, zs_cons, zs_cons, zs_weave n b a d c (by omega) (by omega) (by omega) (by omega) (by omega)]
    omega
theorem weave_drop1 {a b : List Int} (h : b.length ≤ a.length) : (weave a b).drop 1 = weave b (a.drop 1) := by
  cases a with
  | nil =>
    have : b = [] := List.eq_nil_of_length_eq_zero (by simpa using h)
    subst this; simp
  | cons x a => simp
theorem weave_drop2 {a b : List Int} (h : b.length ≤ a.length) (h' : a.length ≤ b.length + 1) : (weave a b).drop 2 = weave (a.drop 1) (b.drop 1) := by
  rw [show 2 = 1 + 1 from rfl, ← List.drop_drop, weave_drop1 h, weave_drop1 (by simp; omega)]
theorem weave_even : ∀ (t : Nat) {a b : List Int}, b.length ≤ a.length → a.length ≤ b.length + 1 → (weave a b).drop (2 * t) = weave (a.drop t) (b.drop t)
  | 0, a, b, _, _ => by simp
  | t + 1, a, b, h, h' => by
    rw [show 2 * (t + 1) = 2 + 2 * t by omega, ← List.drop_drop, weave_drop2 h h', weave_even t (by simp; omega) (by simp; omega), List.drop_drop, List.drop_drop, Nat.add_comm 1 t]
theorem weave_odd (t : Nat) {a b : List Int} (h : b.length ≤ a.length) (h' : a.length ≤ b.length + 1) : (weave a b).drop (2 * t + 1) = weave (b.drop t) (a.drop (t + 1)) := by
  rw [← List.drop_drop, weave_even t h h', weave_drop1 (by simp; omega), List.drop_drop]
theorem Pair.woven {a b : List Int} (h : Pair a b) (hl : a.length = b.length) : Pair (weave a b) (weave a (neg b)) := fun s hs => by
  obtain ⟨t, rfl | rfl⟩ : ∃ t, s = 2 * t ∨ s = 2 * t + 1 := ⟨s / 2, by omega⟩
  · unfold corr
    rw [weave_even t (by omega) (by omega), weave_even t (by simp; omega) (by simp; omega), zs_weave _ _ _ _ _ (Nat.le_refl _) (by omega) (by omega) (by simp; omega) (by simp; omega),
      zs_weave _ _ _ _ _ (Nat.le_refl _) (by simp; omega) (by simp; omega) (by simp; omega) (by simp; omega)]
    have e := h t (by omega)
    have e2 := corr_neg b t
    unfold corr at e e2
    omega
  · unfold corr
    rw [weave_odd t (by omega) (by omega), weave_odd t (by simp; omega) (by simp; omega), zs_weave _ _ _ _ _ (Nat.le_refl _) (by omega) (by omega) (by simp; omega) (by simp; omega),
      zs_weave _ _ _ _ _ (Nat.le_refl _) (by simp; omega) (by simp; omega) (by simp; omega) (by simp; omega), neg_drop, zs_neg_r, zs_neg]
    omega
theorem weave_len : ∀ (n : Nat) (a b : List Int), a.length + b.length ≤ n → b.length ≤ a.length → a.length ≤ b.length + 1 → (weave a b).length = a.length + b.length
  | n, [], b, _, h1, _ => by
    have : b = [] := List.eq_nil_of_length_eq_zero (by simpa using h1)
    subst this; simp
  | 0, x :: a, b, h, _, _ => by simp at h
  | n + 1, x :: a, b, h, h1, h2 => by
    simp only [List.length_cons] at h h1 h2
    rw [weave_cons, List.length_cons, weave_len n b a (by omega) (by omega) (by omega), List.length_cons]; omega
/-! turned about -/
theorem zs_snoc : ∀ (a b : List Int) (x y : Int), a.length = b.length → zs (a ++ [x]) (b ++ [y]) = zs a b + x * y
  | [], [], x, y, _ => by simp
  | [], _ :: _, _, _, h => by simp at h
  | _ :: _, [], _, _, h => by simp at h
  | u :: a, v :: b, x, y, h => by
    rw [List.cons_append, List.cons_append, zs_cons, zs_snoc a b x y (by simpa using h), zs_cons]; omega
theorem zs_rev : ∀ (a b : List Int), a.length = b.length → zs a.reverse b.reverse = zs a b
  | [], [], _ => by simp
  | [], _ :: _, h => by simp at h
  | _ :: _, [], h => by simp at h
  | x :: a, y :: b, h => by
    rw [List.reverse_cons, List.reverse_cons, zs_snoc _ _ _ _ (by simpa using h), zs_rev a b (by simpa using h), zs_cons]; omega
theorem corr_rev (a : List Int) (s : Nat) : corr a.reverse s = corr a s := by
  by_cases hs : s ≤ a.length
  · unfold corr
    have e1 : a.reverse.drop s = (a.take (a.length - s)).reverse := by rw [List.drop_reverse]
    have e2 : zs a.reverse (a.reverse.drop s) = zs (a.drop s).reverse (a.take (a.length - s)).reverse := by
      rw [← zs_take a.reverse (a.reverse.drop s), e1]
      congr 1
      rw [List.length_reverse, List.length_take, show min (a.length - s) a.length = a.length - s by omega, List.take_reverse, show a.length - (a.length - s) = s by omega]
    rw [e2, zs_rev _ _ (by first | (simp; done) | (simp; omega)), zs_comm, ← zs_take a (a.drop s), List.length_drop]
  · rw [corr_big _ (by simp; omega), corr_big _ (by omega)]
theorem Pair.turned {a b : List Int} (h : Pair a b) : Pair a.reverse b := fun s hs => by rw [corr_rev]; exact h s hs
/-! every second sign -/
def alt : Int → List Int → List Int
  | _, [] => []
  | e, x :: a => e * x :: alt (-e) a
theorem alt_neg : ∀ (e : Int) (a : List Int), alt (-e) a = neg (alt e a)
  | _, [] => rfl
  | e, x :: a => by
    rw [alt, alt, alt_neg (-e) a]
    simp only [neg, List.map_cons, Int.neg_mul]
@[simp] theorem alt_len : ∀ (e : Int) (a : List Int), (alt e a).length = a.length
  | _, [] => rfl
  | e, x :: a => by rw [alt, List.length_cons, alt_len, List.length_cons]
theorem alt_zs : ∀ (e f : Int) (a b : List Int), zs (alt e a) (alt f b) = e * f * zs a b
  | _, _, [], b => by simp [alt]
  | e, f, x :: a, [] => by simp [alt]
  | e, f, x :: a, y :: b => by
    rw [alt, alt, zs_cons, alt_zs (-e) (-f) a b, zs_cons, Int.mul_add]
    congr 1
    · rw [Int.mul_assoc, Int.mul_left_comm x f y, ← Int.mul_assoc]
    · rw [Int.neg_mul_neg]
def sg : Nat → Int → Int
  | 0, e => e
  | n + 1, e => sg n (-e)
theorem alt_drop : ∀ (s : Nat) (e : Int) (a : List Int), (alt e a).drop s = alt (sg s e) (a.drop s)
  | 0, _, _ => rfl
  | s + 1, e, [] => by simp [alt]
  | s + 1, e, x :: a => by rw [alt, List.drop_succ_cons, alt_drop s (-e) a, List.drop_succ_cons]; rfl
theorem corr_alt (a : List Int) (s : Nat) (e : Int) : corr (alt e a) s = e * sg s e * corr a s := by
  unfold corr; rw [alt_drop, alt_zs]
theorem Pair.alts {a b : List Int} (h : Pair a b) (e : Int) : Pair (alt e a) (alt e b) := fun s hs => by
  rw [corr_alt, corr_alt, ← Int.mul_add, h s hs, Int.mul_zero]
/-! round sums -/
def rc (a : List Int) (s : Nat) : Int := zs a (a.drop s ++ a.take s)
theorem rc_corr {a : List Int} {s : Nat} (hs : s ≤ a.length) : rc a s = corr a s + corr a (a.length - s) := by
  unfold rc corr
  rw [zs_app, List.length_drop, show a.length - s = (a.drop s).length by rw [List.length_drop], zs_take]
  congr 1
  rw [List.length_drop]
  have e := zs_take_r (a.drop (a.length - s)) a
  rw [List.length_drop, show a.length - (a.length - s) = s by omega] at e
  rw [e, zs_comm]
theorem Pair.ring {a b : List Int} (h : Pair a b) (hl : a.length = b.length) {s : Nat} (h1 : 1 ≤ s) (h2 : s < a.length) : rc a s + rc b s = 0 := by
  rw [rc_corr (by omega), rc_corr (by omega), ← hl]
  have e1 := h s h1
  have e2 := h (a.length - s) (by omega)
  omega
end L2.Pv.Golay
end
section
set_option Elab.async false
set_option linter.all false
set_option autoImplicit false
set_option maxRecDepth 100000
set_option maxHeartbeats 4000000
namespace L2.Pv.K75
open PySem PySem.Spec PyProof.Rows
def topS (i : Nat) : Stmt := PySem.Challenge.pw_pairblocks_k75_whole_pairs_of_rows_of_si.main.body.getD i (.Pass ⟨0, 0, 0, 0⟩)
def csB (c : Nat) : Option Bool := if c ∈ ([1, 2] : List Nat) then some true else none
theorem csB_mem {c : Nat} (h : csB c = some true) : c = 1 ∨ c = 2 := by
  unfold csB at h
  split at h
  · rename_i hm; simpa using hm
  · cases h
def kB_NoSequence (c : Nat) : Bool := c ∈ ([2] : List Nat)
def kB_NoNumber (c : Nat) : Bool := c ∈ ([1] : List Nat)
def kB_ValueError (c : Nat) : Bool := c ∈ ([1, 2] : List Nat)
abbrev s_is_integer : Stmt := topS 1
theorem sc_is_integer : FnScope ["thing"] ["thing"] (defScope s_is_integer) := ⟨rfl, rfl, rfl, by decide +kernel, rfl, by decide +kernel, by decide +kernel⟩
def b_is_integer : Es := sRet (eAnd (ev1 (dIsi "int") (eLk 0)) (ev1 dNot (ev1 (dIsi "bool") (eLk 0))))
def m_is_integer (ds : List D) : FOut := runF [] 1 1 b_is_integer ds
abbrev s_is_within : Stmt := topS 2
theorem sc_is_within : FnScope ["thing", "least", "most"] ["thing", "least", "most"] (defScope s_is_within) := ⟨rfl, rfl, rfl, by decide +kernel, rfl, by decide +kernel, by decide +kernel⟩
def b_is_within : Es := sRet (eAnd (calF m_is_integer (aCons (eNm 0) (aNil))) (eChain dLe dLe (eLk 1) (eLk 0) (eLk 2)))
def m_is_within (ds : List D) : FOut := runF [] 3 3 b_is_within ds
abbrev s_is_tuple : Stmt := topS 3
theorem sc_is_tuple : FnScope ["thing", "least", "most"] ["thing", "least", "most"] (defScope s_is_tuple) := ⟨rfl, rfl, rfl, by decide +kernel, rfl, by decide +kernel, by decide +kernel⟩
def b_is_tuple : Es := sRet (eAnd (ev1 (dIsi "tuple") (eLk 0)) (eChain dLe dLe (eLk 1) (ev1 dLen (eLk 0)) (eLk 2)))
def m_is_tuple (ds : List D) : FOut := runF [] 3 3 b_is_tuple ds
abbrev s_is_row : Stmt := topS 10
theorem sc_is_row : FnScope ["thing", "one"] ["thing"] (defScope s_is_row) := ⟨rfl, rfl, rfl, by decide +kernel, rfl, by decide +kernel, by decide +kernel⟩
def b_is_row : Es := sSeq (sIf (cNot (cVal (calF m_is_tuple (aCons (eNm 0) (aCons (eC (.int 1)) (aCons (eC (.int 64)) (aNil))))))) (sRet (eC (.bl false))) (sNil)) (sRet (ev1 dAll (eLc [1] (iSeq (eNm 0)) (gSet 1) (cYes) (eAnd (calF m_is_within (aCons (eNm 1) (aCons (ev1 dNeg (eC (.int 1))) (aCons (eC (.int 1)) (aNil))))) (ev2 dNe (eLk 1) (eC (.int 0)))))))
def m_is_row (ds : List D) : FOut := runF [] 2 1 b_is_row ds
abbrev s_moved_sums : Stmt := topS 11
theorem sc_moved_sums : FnScope ["row", "many", "far", "at"] ["row"] (defScope s_moved_sums) := ⟨rfl, rfl, rfl, by decide +kernel, rfl, by decide +kernel, by decide +kernel⟩
def b_moved_sums : Es := sSeq (sSet 1 (ev1 dLen (eLk 0))) (sRet (eLc [2] (iRng (aCons (eNm 1) (aNil))) (gSet 2) (cYes) (ev1 dSum (eLc [3] (iRng (aCons (ev2 dSub (eLk 1) (eLk 2)) (aNil))) (gSet 3) (cYes) (ev2 dMul (ev2 dIxA (eLk 0) (eLk 3)) (ev2 dIxA (eLk 0) (ev2 dAdd (eLk 3) (eLk 2))))))))
def m_moved_sums (ds : List D) : FOut := runF [] 4 1 b_moved_sums ds
abbrev s_ring_sums_of : Stmt := topS 12
theorem sc_ring_sums_of : FnScope ["row", "many", "far", "at"] ["row"] (defScope s_ring_sums_of) := ⟨rfl, rfl, rfl, by decide +kernel, rfl, by decide +kernel, by decide +kernel⟩
def b_ring_sums_of : Es := sSeq (sSet 1 (ev1 dLen (eLk 0))) (sRet (eLc [2] (iRng (aCons (eNm 1) (aNil))) (gSet 2) (cYes) (ev1 dSum (eLc [3] (iRng (aCons (eNm 1) (aNil))) (gSet 3) (cYes) (ev2 dMul (ev2 dIxA (eLk 0) (eLk 3)) (ev2 dIxA (eLk 0) (ev2 dMod (ev2 dAdd (eLk 3) (eLk 2)) (eLk 1))))))))
def m_ring_sums_of (ds : List D) : FOut := runF [] 4 1 b_ring_sums_of ds
abbrev s_is_pair : Stmt := topS 13
theorem sc_is_pair : FnScope ["one", "other", "a", "b"] ["one", "other"] (defScope s_is_pair) := ⟨rfl, rfl, rfl, by decide +kernel, rfl, by decide +kernel, by decide +kernel⟩
def b_is_pair : Es := sSeq (sIf (cOr (cNot (cVal (calF m_is_row (aCons (eNm 0) (aNil))))) (cOr (cNot (cVal (calF m_is_row (aCons (eNm 1) (aNil))))) (cVal (ev2 dNe (ev1 dLen (eLk 0)) (ev1 dLen (eLk 1)))))) (sRet (eC (.bl false))) (sNil)) (sRet (ev1 dAll (eLc [2, 3] (iSeq (eSl (eLz (aCons (calF m_moved_sums (aCons (eNm 0) (aNil))) (aCons (calF m_moved_sums (aCons (eNm 1) (aNil))) (aNil)))) (oSome (eC (.int 1))) (oNone))) (gTup' 2 (gCons' (gSet 2) (gCons' (gSet 3) (gNil')))) (cYes) (ev2 dEq (ev2 dAdd (eLk 2) (eLk 3)) (eC (.int 0))))))
def m_is_pair (ds : List D) : FOut := runF [] 4 2 b_is_pair ds
abbrev s_check_pair : Stmt := topS 14
theorem sc_check_pair : FnScope ["one", "other"] ["one", "other"] (defScope s_check_pair) := ⟨rfl, rfl, rfl, by decide +kernel, rfl, by decide +kernel, by decide +kernel⟩
def b_check_pair : Es := sIf (cNot (cVal (calF m_is_pair (aCons (eNm 0) (aCons (eNm 1) (aNil)))))) (sRaise 2) (sNil)
def m_check_pair (ds : List D) : FOut := runF [] 2 2 b_check_pair ds
abbrev s_doubled_pair : Stmt := topS 15
theorem sc_doubled_pair : FnScope ["one", "other", "sign"] ["one", "other"] (defScope s_doubled_pair) := ⟨rfl, rfl, rfl, by decide +kernel, rfl, by decide +kernel, by decide +kernel⟩
def b_doubled_pair : Es := sSeq (sExpr (calF m_check_pair (aCons (eNm 0) (aCons (eNm 1) (aNil))))) (sSeq (sIf (cVal (ev2 dGt (ev2 dMul (eC (.int 2)) (ev1 dLen (eLk 0))) (eC (.int 64)))) (sRaise 1) (sNil)) (sRet (eTup (aCons (ev2 dAdd (eLk 0) (eLk 1)) (aCons (ev2 dAdd (eLk 0) (ev1 dTup (eLc [2] (iSeq (eNm 1)) (gSet 2) (cYes) (ev1 dNeg (eLk 2))))) (aNil))))))
def m_doubled_pair (ds : List D) : FOut := runF [] 3 2 b_doubled_pair ds
abbrev s_woven_pair : Stmt := topS 16
theorem sc_woven_pair : FnScope ["one", "other", "first", "second", "pair", "sign", "a", "b"] ["one", "other"] (defScope s_woven_pair) := ⟨rfl, rfl, rfl, by decide +kernel, rfl, by decide +kernel, by decide +kernel⟩
def b_woven_pair : Es := sSeq (sExpr (calF m_check_pair (aCons (eNm 0) (aCons (eNm 1) (aNil))))) (sSeq (sIf (cVal (ev2 dGt (ev2 dMul (eC (.int 2)) (ev1 dLen (eLk 0))) (eC (.int 64)))) (sRaise 1) (sNil)) (sSeq (sSet 2 (eLc2 [4, 5] [5] (iZipTD (aCons (eNm 0) (aCons (eNm 1) (aNil)))) (gSet 4) (cYes) (iSeq (eNm 4)) (gSet 5) (cYes) (eNm 5))) (sSeq (sSet 3 (eLc2 [6, 7, 5] [5] (iZipD (aCons (eNm 0) (aCons (eNm 1) (aNil)))) (gTup' 2 (gCons' (gSet 6) (gCons' (gSet 7) (gNil')))) (cYes) (iSeq (eTup (aCons (eNm 6) (aCons (ev1 dNeg (eLk 7)) (aNil))))) (gSet 5) (cYes) (eNm 5))) (sRet (eTup (aCons (ev1 dTup (eLk 2)) (aCons (ev1 dTup (eLk 3)) (aNil))))))))
def m_woven_pair (ds : List D) : FOut := runF [] 8 2 b_woven_pair ds
def FM (j : Nat) : List D → FOut := if j = 8 then m_doubled_pair else if j = 9 then m_woven_pair else fun _ => .stuck
abbrev s_all_rows : Stmt := topS 18
theorem sc_all_rows : FnScope ["length", "found", "turn", "row", "sign"] ["length"] (defScope s_all_rows) := ⟨rfl, rfl, rfl, by decide +kernel, rfl, by decide +kernel, by decide +kernel⟩
def b_all_rows : Es := sSeq (sSet 1 (eLst (aCons (eTup (aNil)) (aNil)))) (sSeq (sFor (iRng (aCons (eNm 0) (aNil))) (gSet 2) (sSet 1 (eLc2 [3, 4] [4] (iSeq (eNm 1)) (gSet 3) (cYes) (iSeq (eTup (aCons (eC (.int 1)) (aCons (ev1 dNeg (eC (.int 1))) (aNil))))) (gSet 4) (cYes) (ev2 dAdd (eLk 3) (eTup (aCons (eNm 4) (aNil))))))) (sRet (eNm 1)))
def m_all_rows (ds : List D) : FOut := runF [] 5 1 b_all_rows ds
abbrev s_first_pair : Stmt := topS 17
theorem sc_first_pair : FnScope ["length", "rows", "known", "row", "back", "one"] ["length"] (defScope s_first_pair) := ⟨rfl, rfl, rfl, by decide +kernel, rfl, by decide +kernel, by decide +kernel⟩
def b_first_pair : Es := sSeq (sIf (cNot (cVal (calF m_is_within (aCons (eNm 0) (aCons (eC (.int 1)) (aCons (eC (.int 10)) (aNil))))))) (sRaise 1) (sNil)) (sSeq (sIf (cAnd (cVal (ev2 dGt (eLk 0) (eC (.int 1)))) (cVal (ev2 dEq (ev2 dMod (eLk 0) (eC (.int 2))) (eC (.int 1))))) (sRet (eC .non)) (sNil)) (sSeq (sPar 1 2 (aCons (calF m_all_rows (aCons (eNm 0) (aNil))) (aCons (eDicT) (aNil)))) (sSeq (sFor (iSeq (eNm 1)) (gSet 3) (sExpr (eMeth "dict" 2 (pNm 2) (aCons (ev1 dTup (eSl (calF m_moved_sums (aCons (eNm 3) (aNil))) (oSome (eC (.int 1))) (oNone))) (aCons (eNm 3) (aNil))) mSdT))) (sSeq (sFor (iSeq (eNm 1)) (gSet 3) (sSeq (sSet 4 (ev1 dTup (eLc [5] (iSeq (eSl (calF m_moved_sums (aCons (eNm 3) (aNil))) (oSome (eC (.int 1))) (oNone))) (gSet 5) (cYes) (ev1 dNeg (eLk 5))))) (sIf (cVal (ev2 dInX (eLk 4) (eLk 2))) (sRet (eTup (aCons (eNm 3) (aCons (ev2 dIx (eLk 2) (eLk 4)) (aNil))))) (sNil)))) (sRet (eC .non))))))
def m_first_pair (ds : List D) : FOut := runF [] 6 1 b_first_pair ds
abbrev s_is_ring_pair : Stmt := topS 19
theorem sc_is_ring_pair : FnScope ["one", "other", "a", "b"] ["one", "other"] (defScope s_is_ring_pair) := ⟨rfl, rfl, rfl, by decide +kernel, rfl, by decide +kernel, by decide +kernel⟩
def b_is_ring_pair : Es := sSeq (sIf (cOr (cNot (cVal (calF m_is_row (aCons (eNm 0) (aNil))))) (cOr (cNot (cVal (calF m_is_row (aCons (eNm 1) (aNil))))) (cVal (ev2 dNe (ev1 dLen (eLk 0)) (ev1 dLen (eLk 1)))))) (sRet (eC (.bl false))) (sNil)) (sRet (ev1 dAll (eLc [2, 3] (iSeq (eSl (eLz (aCons (calF m_ring_sums_of (aCons (eNm 0) (aNil))) (aCons (calF m_ring_sums_of (aCons (eNm 1) (aNil))) (aNil)))) (oSome (eC (.int 1))) (oNone))) (gTup' 2 (gCons' (gSet 2) (gCons' (gSet 3) (gNil')))) (cYes) (ev2 dEq (ev2 dAdd (eLk 2) (eLk 3)) (eC (.int 0))))))
def m_is_ring_pair (ds : List D) : FOut := runF [] 4 2 b_is_ring_pair ds
abbrev s__law_hand : Stmt := topS 21
theorem sc__law_hand : FnScope ["script", "cells", "cell"] ["script"] (defScope s__law_hand) := ⟨rfl, rfl, rfl, by decide +kernel, rfl, by decide +kernel, by decide +kernel⟩
def b__law_hand : Es := sSeq (sSet 1 (eLc [2] (iSeq (eSl (eLk 0) (oNone) (oSome (eC (.int 63))))) (gSet 2) (cYes) (ev2 dMod (ev1 dInt (ev1 dAbs (ev1 dInt (eLk 2)))) (ev2 dPow (eC (.int 10)) (eC (.int 36)))))) (sRet (eLst (aCons (eNm 1) (aCons (eC (.int 0)) (aCons (eC (.int 0)) (aCons (ev2 dAdd (eC (.int 75)) (ev2 dMul (eC (.int 3)) (ev1 dLen (eLk 1)))) (aCons (eC (.int 0)) (aNil))))))))
def m__law_hand (ds : List D) : FOut := runF [] 3 1 b__law_hand ds
abbrev s__law_draw : Stmt := topS 22
theorem sc__law_draw : FnScope ["hand", "many", "cell", "digit", "number"] ["hand", "many"] (defScope s__law_draw) := ⟨rfl, rfl, rfl, by decide +kernel, rfl, by decide +kernel, by decide +kernel⟩
def b__law_draw : Es := sSeq (sIf (cAnd (cVal (ev2 dEq (ev2 dIxA (eLk 0) (eC (.int 2))) (eC (.int 0)))) (cVal (ev2 dLt (ev2 dIxA (eLk 0) (eC (.int 1))) (ev1 dLen (ev2 dIxA (eLk 0) (eC (.int 0))))))) (sSeq (sSet 2 (ev2 dIx (ev2 dIxA (eLk 0) (eC (.int 0))) (ev2 dIxA (eLk 0) (eC (.int 1))))) (sSeq (sPut 0 (ev2 dAdd (ev2 dIxA (eLk 0) (eC (.int 1))) (eC (.int 1))) (pNm 0) (eC (.int 1))) (sSeq (sPut 0 (ev2 dMod (ev1 dInt (ev2 dAdd (ev2 dAdd (ev2 dMul (ev2 dIxA (eLk 0) (eC (.int 3))) (eC (.int 69621))) (ev2 dMul (eLk 2) (eC (.int 40692)))) (eC (.int 107)))) (eC (.int 2147483629))) (pNm 0) (eC (.int 3))) (sIf (cVal (ev2 dGe (eLk 2) (ev2 dPow (eC (.int 10)) (eC (.int 18))))) (sPut 0 (eNm 2) (pNm 0) (eC (.int 2))) (sNil))))) (sNil)) (sSeq (sIf (cVal (ev2 dGt (ev2 dIxA (eLk 0) (eC (.int 2))) (eC (.int 0)))) (sSeq (sSet 3 (ev2 dMod (ev1 dInt (ev2 dIxA (eLk 0) (eC (.int 2)))) (eLk 1))) (sSeq (sPut 0 (ev2 dFdiv (ev2 dIxA (eLk 0) (eC (.int 2))) (eLk 1)) (pNm 0) (eC (.int 2))) (sRet (eNm 3)))) (sNil)) (sSeq (sPut 0 (ev2 dAdd (ev2 dIxA (eLk 0) (eC (.int 4))) (eC (.int 1))) (pNm 0) (eC (.int 4))) (sSeq (sSet 4 (ev2 dMod (ev1 dInt (ev2 dMul (ev1 dInt (ev2 dAdd (ev2 dIxA (eLk 0) (eC (.int 3))) (ev2 dMul (eC (.int 7919)) (ev2 dIxA (eLk 0) (eC (.int 4)))))) (eC (.int 48271)))) (eC (.int 2147483647)))) (sSeq (sSet 4 (ev2 dMod (ev1 dInt (ev2 dMul (eLk 4) (ev2 dAdd (ev2 dFdiv (eLk 4) (eC (.int 1009))) (eC (.int 69621))))) (eC (.int 2147483647)))) (sSeq (sSet 4 (ev2 dMod (ev1 dInt (ev2 dMul (eLk 4) (ev2 dAdd (ev2 dFdiv (eLk 4) (eC (.int 2003))) (eC (.int 40014))))) (eC (.int 2147483563)))) (sRet (ev2 dMod (ev1 dInt (ev2 dFdiv (eLk 4) (eC (.int 16)))) (eLk 1))))))))
def m__law_draw (ds : List D) : FOut := runF [0] 5 2 b__law_draw ds
abbrev s__law_any : Stmt := topS 23
theorem sc__law_any : FnScope ["hand", "some"] ["hand", "some"] (defScope s__law_any) := ⟨rfl, rfl, rfl, by decide +kernel, rfl, by decide +kernel, by decide +kernel⟩
def b__law_any : Es := sRet (ev2 dIx (eNm 1) (calH m__law_draw 0 (aCons (ev1 dLen (eNm 1)) (aNil))))
def m__law_any (ds : List D) : FOut := runF [0] 2 2 b__law_any ds
abbrev s__law_line : Stmt := topS 24
theorem sc__law_line : FnScope ["row", "s", "k"] ["row", "s"] (defScope s__law_line) := ⟨rfl, rfl, rfl, by decide +kernel, rfl, by decide +kernel, by decide +kernel⟩
def b__law_line : Es := sRet (ev1 dSum (eLc [2] (iRng (aCons (ev2 dSub (ev1 dLen (eLk 0)) (eLk 1)) (aNil))) (gSet 2) (cYes) (ev2 dMul (ev2 dIxA (eLk 0) (eLk 2)) (ev2 dIxA (eLk 0) (ev2 dAdd (eLk 2) (eLk 1))))))
def m__law_line (ds : List D) : FOut := runF [] 3 2 b__law_line ds
abbrev s__law_ring : Stmt := topS 25
theorem sc__law_ring : FnScope ["row", "s", "k"] ["row", "s"] (defScope s__law_ring) := ⟨rfl, rfl, rfl, by decide +kernel, rfl, by decide +kernel, by decide +kernel⟩
def b__law_ring : Es := sRet (ev1 dSum (eLc [2] (iRng (aCons (ev1 dLen (eLk 0)) (aNil))) (gSet 2) (cYes) (ev2 dMul (ev2 dIxA (eLk 0) (eLk 2)) (ev2 dIxA (eLk 0) (ev2 dMod (ev1 dInt (ev2 dAdd (eLk 2) (eLk 1))) (ev1 dLen (eLk 0)))))))
def m__law_ring (ds : List D) : FOut := runF [] 3 2 b__law_ring ds
abbrev s__law_less : Stmt := topS 26
theorem sc__law_less : FnScope ["row", "sign"] ["row"] (defScope s__law_less) := ⟨rfl, rfl, rfl, by decide +kernel, rfl, by decide +kernel, by decide +kernel⟩
def b__law_less : Es := sRet (ev1 dTup (eLc [1] (iSeq (eNm 0)) (gSet 1) (cYes) (ev2 dSub (eC (.int 0)) (eLk 1))))
def m__law_less (ds : List D) : FOut := runF [] 2 1 b__law_less ds
abbrev s__law_by_turns : Stmt := topS 27
theorem sc__law_by_turns : FnScope ["row", "k", "sign"] ["row"] (defScope s__law_by_turns) := ⟨rfl, rfl, rfl, by decide +kernel, rfl, by decide +kernel, by decide +kernel⟩
def b__law_by_turns : Es := sRet (ev1 dTup (eLc [1, 2] (iEnumD (aCons (eNm 0) (aNil))) (gTup' 2 (gCons' (gSet 1) (gCons' (gSet 2) (gNil')))) (cYes) (ev2 dMul (eLk 2) (ev2 dSub (eC (.int 1)) (ev2 dMul (eC (.int 2)) (ev2 dMod (ev1 dInt (eLk 1)) (eC (.int 2))))))))
def m__law_by_turns (ds : List D) : FOut := runF [] 3 1 b__law_by_turns ds
abbrev s__law_doubled : Stmt := topS 28
theorem sc__law_doubled : FnScope ["one", "other"] ["one", "other"] (defScope s__law_doubled) := ⟨rfl, rfl, rfl, by decide +kernel, rfl, by decide +kernel, by decide +kernel⟩
def b__law_doubled : Es := sRet (eTup (aCons (ev2 dAdd (eLk 0) (eLk 1)) (aCons (ev2 dAdd (eLk 0) (calF m__law_less (aCons (eNm 1) (aNil)))) (aNil))))
def m__law_doubled (ds : List D) : FOut := runF [] 2 2 b__law_doubled ds
abbrev s__law_woven : Stmt := topS 29
theorem sc__law_woven : FnScope ["one", "other", "first", "second", "a", "b"] ["one", "other"] (defScope s__law_woven) := ⟨rfl, rfl, rfl, by decide +kernel, rfl, by decide +kernel, by decide +kernel⟩
def b__law_woven : Es := sSeq (sPar 2 3 (aCons (eLst (aNil)) (aCons (eLst (aNil)) (aNil)))) (sSeq (sFor (iZipD (aCons (eNm 0) (aCons (eNm 1) (aNil)))) (gTup' 2 (gCons' (gSet 4) (gCons' (gSet 5) (gNil')))) (sPar 2 3 (aCons (ev2 dAdd (eLk 2) (eLst (aCons (eNm 4) (aCons (eNm 5) (aNil))))) (aCons (ev2 dAdd (eLk 3) (eLst (aCons (eNm 4) (aCons (ev2 dSub (eC (.int 0)) (eLk 5)) (aNil))))) (aNil))))) (sRet (eTup (aCons (ev1 dTup (eLk 2)) (aCons (ev1 dTup (eLk 3)) (aNil))))))
def m__law_woven (ds : List D) : FOut := runF [] 6 2 b__law_woven ds
abbrev s__law_grown : Stmt := topS 30
theorem sc__law_grown : FnScope ["hand", "ten", "one", "other", "turn", "kind"] ["hand"] (defScope s__law_grown) := ⟨rfl, rfl, rfl, by decide +kernel, rfl, by decide +kernel, by decide +kernel⟩
def b__law_grown : Es := sSeq (sSet 1 (eTup (aCons (eTup (aCons (eC (.int 1)) (aCons (eC (.int 1)) (aCons (ev1 dNeg (eC (.int 1))) (aCons (eC (.int 1)) (aCons (ev1 dNeg (eC (.int 1))) (aCons (eC (.int 1)) (aCons (ev1 dNeg (eC (.int 1))) (aCons (ev1 dNeg (eC (.int 1))) (aCons (eC (.int 1)) (aCons (eC (.int 1)) (aNil)))))))))))) (aCons (eTup (aCons (eC (.int 1)) (aCons (eC (.int 1)) (aCons (ev1 dNeg (eC (.int 1))) (aCons (eC (.int 1)) (aCons (eC (.int 1)) (aCons (eC (.int 1)) (aCons (eC (.int 1)) (aCons (eC (.int 1)) (aCons (ev1 dNeg (eC (.int 1))) (aCons (ev1 dNeg (eC (.int 1))) (aNil)))))))))))) (aNil))))) (sSeq (sAsg (calH m__law_any 0 (aCons (eLst (aCons (eTup (aCons (eTup (aCons (eC (.int 1)) (aNil))) (aCons (eTup (aCons (eC (.int 1)) (aNil))) (aNil)))) (aCons (eTup (aCons (eTup (aCons (eC (.int 1)) (aNil))) (aCons (eTup (aCons (ev1 dNeg (eC (.int 1))) (aNil))) (aNil)))) (aCons (eTup (aCons (eTup (aCons (eC (.int 1)) (aNil))) (aCons (eTup (aCons (eC (.int 1)) (aNil))) (aNil)))) (aCons (eNm 1) (aNil)))))) (aNil))) (gTup' 2 (gCons' (gSet 2) (gCons' (gSet 3) (gNil'))))) (sSeq (sFor (iRng (aCons (calH m__law_draw 0 (aCons (eIf (cVal (ev2 dEq (ev1 dLen (eLk 2)) (eC (.int 1)))) (eC (.int 5)) (eC (.int 3))) (aNil))) (aNil))) (gSet 4) (sSeq (sAsg (eIf (cVal (ev2 dEq (calH m__law_draw 0 (aCons (eC (.int 2)) (aNil))) (eC (.int 0)))) (calF m__law_doubled (aCons (eNm 2) (aCons (eNm 3) (aNil)))) (calF m__law_woven (aCons (eNm 2) (aCons (eNm 3) (aNil))))) (gTup' 2 (gCons' (gSet 2) (gCons' (gSet 3) (gNil'))))) (sSeq (sSet 5 (calH m__law_draw 0 (aCons (eC (.int 6)) (aNil)))) (sSeq (sIf (cVal (ev2 dEq (eLk 5) (eC (.int 0)))) (sPar 2 3 (aCons (ev1 dRev (eLk 2)) (aCons (eNm 3) (aNil)))) (sNil)) (sSeq (sIf (cVal (ev2 dEq (eLk 5) (eC (.int 1)))) (sPar 2 3 (aCons (calF m__law_less (aCons (eNm 2) (aNil))) (aCons (eNm 3) (aNil)))) (sNil)) (sSeq (sIf (cVal (ev2 dEq (eLk 5) (eC (.int 2)))) (sPar 2 3 (aCons (eNm 3) (aCons (eNm 2) (aNil)))) (sNil)) (sIf (cVal (ev2 dEq (eLk 5) (eC (.int 3)))) (sPar 2 3 (aCons (calF m__law_by_turns (aCons (eNm 2) (aNil))) (aCons (calF m__law_by_turns (aCons (eNm 3) (aNil))) (aNil)))) (sNil)))))))) (sRet (eTup (aCons (eNm 2) (aCons (eNm 3) (aNil)))))))
def m__law_grown (ds : List D) : FOut := runF [0] 6 1 b__law_grown ds
abbrev s__law_is_row : Stmt := topS 31
theorem sc__law_is_row : FnScope ["thing", "one"] ["thing"] (defScope s__law_is_row) := ⟨rfl, rfl, rfl, by decide +kernel, rfl, by decide +kernel, by decide +kernel⟩
def b__law_is_row : Es := sSeq (sIf (cOr (cNot (cVal (ev1 (dIsi "tuple") (eLk 0)))) (cNot (cVal (eChain dLe dLe (eC (.int 1)) (ev1 dLen (eLk 0)) (eC (.int 64)))))) (sRet (eC (.bl false))) (sNil)) (sRet (ev1 dAll (eLc [1] (iSeq (eNm 0)) (gSet 1) (cYes) (eAnd (ev1 (dIsi "int") (eLk 1)) (eAnd (ev1 dNot (ev1 (dIsi "bool") (eLk 1))) (ev2 dIn (eLk 1) (eTup (aCons (eC (.int 1)) (aCons (ev1 dNeg (eC (.int 1))) (aNil))))))))))
def m__law_is_row (ds : List D) : FOut := runF [] 2 1 b__law_is_row ds
abbrev s__law_is_due : Stmt := topS 32
theorem sc__law_is_due : FnScope ["one", "other", "is_ring", "s"] ["one", "other", "is_ring"] (defScope s__law_is_due) := ⟨rfl, rfl, rfl, by decide +kernel, rfl, by decide +kernel, by decide +kernel⟩
def b__law_is_due : Es := sSeq (sIf (cOr (cNot (cVal (calF m__law_is_row (aCons (eNm 0) (aNil))))) (cOr (cNot (cVal (calF m__law_is_row (aCons (eNm 1) (aNil))))) (cVal (ev2 dNe (ev1 dLen (eLk 0)) (ev1 dLen (eLk 1)))))) (sRet (eC (.bl false))) (sNil)) (sSeq (sIf (cVal (eNm 2)) (sRet (ev1 dAll (eLc [3] (iRng (aCons (eC (.int 1)) (aCons (ev1 dLen (eLk 0)) (aNil)))) (gSet 3) (cYes) (ev2 dEq (ev2 dAdd (calF m__law_ring (aCons (eNm 0) (aCons (eNm 3) (aNil)))) (calF m__law_ring (aCons (eNm 1) (aCons (eNm 3) (aNil))))) (eC (.int 0)))))) (sNil)) (sRet (ev1 dAll (eLc [3] (iRng (aCons (eC (.int 1)) (aCons (ev1 dLen (eLk 0)) (aNil)))) (gSet 3) (cYes) (ev2 dEq (ev2 dAdd (calF m__law_line (aCons (eNm 0) (aCons (eNm 3) (aNil)))) (calF m__law_line (aCons (eNm 1) (aCons (eNm 3) (aNil))))) (eC (.int 0)))))))
def m__law_is_due (ds : List D) : FOut := runF [] 4 3 b__law_is_due ds
abbrev s__law_bent : Stmt := topS 33
theorem sc__law_bent : FnScope ["hand", "row", "at", "odd", "some"] ["hand", "row"] (defScope s__law_bent) := ⟨rfl, rfl, rfl, by decide +kernel, rfl, by decide +kernel, by decide +kernel⟩
def b__law_bent : Es := sSeq (sSet 2 (calH m__law_draw 0 (aCons (ev1 dLen (eLk 1)) (aNil)))) (sSeq (sSet 3 (calH m__law_any 0 (aCons (eLst (aCons (ev2 dSub (eC (.int 0)) (ev2 dIxA (eLk 1) (eLk 2))) (aCons (ev2 dSub (eC (.int 0)) (ev2 dIxA (eLk 1) (eLk 2))) (aCons (ev2 dSub (eC (.int 0)) (ev2 dIxA (eLk 1) (eLk 2))) (aCons (eC (.int 0)) (aCons (eC (.int 2)) (aCons (eC .non) (aCons (eC (.bl true)) (aCons (eC (.str "1")) (aCons (eTup (aCons (eC (.int 1)) (aNil))) (aCons (eLst (aCons (eC (.int 1)) (aNil))) (aNil)))))))))))) (aNil)))) (sSeq (sSet 4 (ev2 dAdd (ev2 dMul (eLst (aCons (ev2 dAdd (ev2 dAdd (eSl (eLk 1) (oNone) (oSome (eLk 2))) (eTup (aCons (eNm 3) (aNil)))) (eSl (eLk 1) (oSome (ev2 dAdd (eLk 2) (eC (.int 1)))) (oNone))) (aNil))) (eC (.int 6))) (eFrz (eLst (aCons (eSl (eLk 1) (oSome (eC (.int 1))) (oNone)) (aCons (ev2 dAdd (eLk 1) (eTup (aCons (eC (.int 1)) (aNil)))) (aCons (ev1 dRev (eLk 1)) (aCons (ev1 dList (eLk 1)) (aCons (eTup (aCons (eNm 1) (aNil))) (aCons (eC .non) (aCons (eC (.int 0)) (aCons (eDicK) (aCons (eTup (aNil)) (aNil)))))))))))))) (sRet (calH m__law_any 0 (aCons (eNm 4) (aNil))))))
def m__law_bent (ds : List D) : FOut := runF [0] 5 2 b__law_bent ds
abbrev s__law_are_judged_right : Stmt := topS 34
theorem sc__law_are_judged_right : FnScope ["hand", "one", "other", "turn", "first", "second", "before"] ["hand", "one", "other"] (defScope s__law_are_judged_right) := ⟨rfl, rfl, rfl, by decide +kernel, rfl, by decide +kernel, by decide +kernel⟩
def b__law_are_judged_right : Es := sSeq (sFor (iRng (aCons (eC (.int 8)) (aNil))) (gSet 3) (sSeq (sSet 4 (eIf (cVal (ev2 dEq (calH m__law_draw 0 (aCons (eC (.int 2)) (aNil))) (eC (.int 0)))) (eNm 1) (calH m__law_bent 0 (aCons (eNm 1) (aNil))))) (sSeq (sSet 5 (eIf (cVal (ev2 dEq (calH m__law_draw 0 (aCons (eC (.int 2)) (aNil))) (eC (.int 0)))) (eNm 2) (calH m__law_bent 0 (aCons (eNm 2) (aNil))))) (sSeq (sSet 6 (ev1 dRepr (eLst (aCons (eNm 4) (aCons (eNm 5) (aNil)))))) (sSeq (sIf (cVal (ev2 dNe (calF m_is_pair (aCons (eNm 4) (aCons (eNm 5) (aNil)))) (calF m__law_is_due (aCons (eNm 4) (aCons (eNm 5) (aCons (eC (.bl false)) (aNil))))))) (sRet (eC (.bl false))) (sNil)) (sSeq (sIf (cOr (cVal (ev2 dNe (calF m_is_ring_pair (aCons (eNm 4) (aCons (eNm 5) (aNil)))) (calF m__law_is_due (aCons (eNm 4) (aCons (eNm 5) (aCons (eC (.bl true)) (aNil))))))) (cVal (ev2 dNe (ev1 dRepr (eLst (aCons (eNm 4) (aCons (eNm 5) (aNil))))) (eLk 6)))) (sRet (eC (.bl false))) (sNil)) (sIf (cAnd (cVal (calF m_is_pair (aCons (eNm 4) (aCons (eNm 5) (aNil))))) (cNot (cVal (calF m_is_ring_pair (aCons (eNm 4) (aCons (eNm 5) (aNil))))))) (sRet (eC (.bl false))) (sNil)))))))) (sRet (eC (.bl true)))
def m__law_are_judged_right (ds : List D) : FOut := runF [0] 7 3 b__law_are_judged_right ds
abbrev s__law_are_made_right : Stmt := topS 35
theorem sc__law_are_made_right : FnScope ["one", "other", "n", "twice", "woven", "row"] ["one", "other"] (defScope s__law_are_made_right) := ⟨rfl, rfl, rfl, by decide +kernel, rfl, by decide +kernel, by decide +kernel⟩
def b__law_are_made_right : Es := sSeq (sSet 2 (ev1 dLen (eLk 0))) (sSeq (sIf (cOr (cVal (ev2 dGt (eLk 2) (eC (.int 32)))) (cNot (cVal (calF m__law_is_due (aCons (eNm 0) (aCons (eNm 1) (aCons (eC (.bl false)) (aNil)))))))) (sRet (eC (.bl true))) (sNil)) (sSeq (sPar 3 4 (aCons (calF m_doubled_pair (aCons (eNm 0) (aCons (eNm 1) (aNil)))) (aCons (calF m_woven_pair (aCons (eNm 0) (aCons (eNm 1) (aNil)))) (aNil)))) (sSeq (sIf (cOr (cVal (ev2 dNe (eLk 3) (calF m__law_doubled (aCons (eNm 0) (aCons (eNm 1) (aNil)))))) (cVal (ev2 dNe (eLk 4) (calF m__law_woven (aCons (eNm 0) (aCons (eNm 1) (aNil))))))) (sRet (eC (.bl false))) (sNil)) (sSeq (sIf (cOr (cNot (cVal (ev1 (dIsi "tuple") (eLk 3)))) (cNot (cVal (ev1 dAll (eLc [5] (iSeq (ev2 dAdd (eLk 3) (eLk 4))) (gSet 5) (cYes) (ev1 (dIsi "tuple") (eLk 5))))))) (sRet (eC (.bl false))) (sNil)) (sRet (eAnd (ev2 dIs (calF m_is_pair (aCons (ev2 dIx (eLk 3) (eC (.int 0))) (aCons (ev2 dIx (eLk 3) (eC (.int 1))) (aNil)))) (eC (.bl true))) (ev2 dIs (calF m_is_pair (aCons (ev2 dIx (eLk 4) (eC (.int 0))) (aCons (ev2 dIx (eLk 4) (eC (.int 1))) (aNil)))) (eC (.bl true)))))))))
def m__law_are_made_right (ds : List D) : FOut := runF [] 6 2 b__law_are_made_right ds
abbrev s__law_first_is_none : Stmt := topS 36
theorem sc__law_first_is_none : FnScope ["n", "rows", "turn", "longer", "row", "sums", "key", "s", "one"] ["n"] (defScope s__law_first_is_none) := ⟨rfl, rfl, rfl, by decide +kernel, rfl, by decide +kernel, by decide +kernel⟩
def b__law_first_is_none : Es := sSeq (sSet 1 (eLst (aCons (eTup (aCons (eC (.int 1)) (aNil))) (aNil)))) (sSeq (sFor (iRng (aCons (ev2 dSub (eLk 0) (eC (.int 1))) (aNil))) (gSet 2) (sSeq (sSet 3 (eLst (aNil))) (sSeq (sFor (iSeq (eNm 1)) (gSet 4) (sSet 3 (ev2 dAdd (eLk 3) (eLst (aCons (ev2 dAdd (eLk 4) (eTup (aCons (eC (.int 1)) (aNil)))) (aCons (ev2 dAdd (eLk 4) (eTup (aCons (ev1 dNeg (eC (.int 1))) (aNil)))) (aNil))))))) (sSet 1 (eNm 3))))) (sSeq (sSet 5 (eLock (ev1 dDictP (eLc [4] (iSeq (eNm 1)) (gSet 4) (cYes) (eTup (aCons (ev1 dTup (eLc [7] (iRng (aCons (eC (.int 1)) (aCons (eNm 0) (aNil)))) (gSet 7) (cYes) (calF m__law_line (aCons (eNm 4) (aCons (eNm 7) (aNil)))))) (aCons (eC (.bl true)) (aNil)))))))) (sRet (ev1 dNot (ev1 dAny (eLc [6] (iKeysE (eNm 5)) (gSet 6) (cYes) (ev2 dInX (ev1 dTup (eLc [8] (iSeq (eNm 6)) (gSet 8) (cYes) (ev2 dSub (eC (.int 0)) (eLk 8)))) (eLk 5))))))))
def m__law_first_is_none (ds : List D) : FOut := runF [] 9 1 b__law_first_is_none ds
abbrev s__law_is_first_right : Stmt := topS 37
theorem sc__law_is_first_right : FnScope ["hand", "n", "told", "one", "other", "near", "squares_here", "k", "a", "b"] ["hand"] (defScope s__law_is_first_right) := ⟨rfl, rfl, rfl, by decide +kernel, rfl, by decide +kernel, by decide +kernel⟩
def b__law_is_first_right : Es := sSeq (sSet 1 (ev2 dAdd (eC (.int 1)) (calH m__law_draw 0 (aCons (eC (.int 10)) (aNil))))) (sSeq (sSet 2 (calF m_first_pair (aCons (eNm 1) (aNil)))) (sSeq (sIf (cOr (cVal (ev2 dNe (ev2 dIs (eLk 2) (eC .non)) (ev2 dIn (eLk 1) (eTup (aCons (eC (.int 3)) (aCons (eC (.int 5)) (aCons (eC (.int 6)) (aCons (eC (.int 7)) (aCons (eC (.int 9)) (aNil)))))))))) (cAnd (cVal (ev2 dLt (eLk 1) (eC (.int 7)))) (cVal (ev2 dNe (ev2 dIs (eLk 2) (eC .non)) (calF m__law_first_is_none (aCons (eNm 1) (aNil))))))) (sRet (eC (.bl false))) (sNil)) (sSeq (sIf (cVal (ev2 dIs (eLk 2) (eC .non))) (sRet (eC (.bl true))) (sNil)) (sSeq (sAsg (eNm 2) (gTup' 2 (gCons' (gSet 3) (gCons' (gSet 4) (gNil'))))) (sSeq (sSet 5 (eLc [7] (iRng (aCons (eC (.int 8)) (aNil))) (gSet 7) (cVal (ev2 dLe (ev1 dInt (ev2 dMul (eLk 7) (eLk 7))) (ev2 dMul (eC (.int 2)) (eLk 1)))) (eNm 7))) (sSeq (sSet 6 (eLc [8] (iSeq (eNm 5)) (gSet 8) (cVal (ev2 dIn (ev2 dSub (ev2 dMul (eC (.int 2)) (eLk 1)) (ev2 dMul (eLk 8) (eLk 8))) (eLc [9] (iSeq (eNm 5)) (gSet 9) (cYes) (ev2 dMul (eLk 9) (eLk 9))))) (ev2 dMul (eLk 8) (eLk 8)))) (sRet (eAnd (ev2 dEq (ev1 dLen (eLk 3)) (eLk 1)) (eAnd (calF m__law_is_due (aCons (eNm 3) (aCons (eNm 4) (aCons (eC (.bl false)) (aNil))))) (ev2 dGt (ev1 dLen (eLk 6)) (eC (.int 0))))))))))))
def m__law_is_first_right (ds : List D) : FOut := runF [0] 10 1 b__law_is_first_right ds
abbrev s__law_word : Stmt := topS 38
theorem sc__law_word : FnScope ["call", "fault", "flags"] ["call"] (defScope s__law_word) := ⟨rfl, rfl, rfl, by decide +kernel, rfl, by decide +kernel, by decide +kernel⟩
def gh__law_word (a : Addr) (c : Nat) : Es := sSeq (sSet 2 (eLst (aCons (eIsF 1 a (kB_NoSequence c)) (aCons (eIsF 1 a (kB_NoNumber c)) (aNil))))) (sSeq (sIf (cOr (cVal (ev2 dNe (eRm "list" dCount (eLk 2) (eC (.bl true))) (eC (.int 1)))) (cNot (cVal (eIsF 1 a (kB_ValueError c))))) (sRet (eC (.str "other"))) (sNil)) (sRet (eIf (cVal (ev2 dIx (eLk 2) (eC (.int 0)))) (eC (.str "row")) (eC (.str "number")))))
def gw__law_word (f : Addr) (act : AOut) : Es := sSeq (sTryA false f act 3 1 csB gh__law_word) (sRet (eC (.str "told")))
def go__law_word (act : AOut) : Option D := endsF (gw__law_word 0 act (argD 3 [.rf 0]))
abbrev s__law_two : Stmt := topS 39
theorem sc__law_two : FnScope ["ask", "one", "other"] ["ask", "one", "other"] (defScope s__law_two) := ⟨rfl, rfl, rfl, by decide +kernel, rfl, by decide +kernel, by decide +kernel⟩
def b__law_two : Es := sRet (eLam [0, 1, 2] (calV [8, 9] 0 FM (aCons (eNm 1) (aCons (eNm 2) (aNil)))) go__law_word)
def m__law_two (ds : List D) : FOut := runF [] 3 3 b__law_two ds
abbrev s__law_are_refused : Stmt := topS 40
theorem sc__law_are_refused : FnScope ["hand", "bad", "length", "one", "other", "turn", "ask", "words"] ["hand"] (defScope s__law_are_refused) := ⟨rfl, rfl, rfl, by decide +kernel, rfl, by decide +kernel, by decide +kernel⟩
def b__law_are_refused : Es := sSeq (sSet 1 (calH m__law_any 0 (aCons (eLst (aCons (eC .non) (aCons (eC (.int 0)) (aCons (eLst (aCons (eC (.int 1)) (aNil))) (aCons (eTup (aNil)) (aCons (eTup (aCons (eC (.int 1)) (aCons (eC (.int 0)) (aNil)))) (aCons (eTup (aCons (eC (.int 1)) (aCons (eC (.bl true)) (aNil)))) (aCons (eTup (aCons (eC (.int 2)) (aNil))) (aCons (eC (.str "1")) (aCons (eDicK) (aCons (ev2 dMul (eTup (aCons (eC (.int 1)) (aNil))) (eC (.int 65))) (aNil)))))))))))) (aNil)))) (sSeq (sSet 2 (calH m__law_any 0 (aCons (eLst (aCons (eC (.int 0)) (aCons (eC (.int 11)) (aCons (ev1 dNeg (eC (.int 1))) (aCons (eC .non) (aCons (eC (.bl true)) (aCons (eC (.str "4")) (aCons (eTup (aCons (eC (.int 4)) (aNil))) (aCons (eLst (aCons (eC (.int 4)) (aNil))) (aCons (eDicK) (aNil))))))))))) (aNil)))) (sSeq (sAsg (eTup (aCons (eTup (aCons (eC (.int 1)) (aCons (eC (.int 1)) (aCons (ev1 dNeg (eC (.int 1))) (aCons (eC (.int 1)) (aCons (ev1 dNeg (eC (.int 1))) (aCons (eC (.int 1)) (aCons (ev1 dNeg (eC (.int 1))) (aCons (ev1 dNeg (eC (.int 1))) (aCons (eC (.int 1)) (aCons (eC (.int 1)) (aNil)))))))))))) (aCons (eTup (aCons (eC (.int 1)) (aCons (eC (.int 1)) (aCons (ev1 dNeg (eC (.int 1))) (aCons (eC (.int 1)) (aCons (eC (.int 1)) (aCons (eC (.int 1)) (aCons (eC (.int 1)) (aCons (eC (.int 1)) (aCons (ev1 dNeg (eC (.int 1))) (aCons (ev1 dNeg (eC (.int 1))) (aNil)))))))))))) (aNil)))) (gTup' 2 (gCons' (gSet 3) (gCons' (gSet 4) (gNil'))))) (sSeq (sFor (iRng (aCons (eC (.int 2)) (aNil))) (gSet 5) (sAsg (eIf (cVal (ev2 dEq (calH m__law_draw 0 (aCons (eC (.int 2)) (aNil))) (eC (.int 0)))) (calF m__law_doubled (aCons (eNm 3) (aCons (eNm 4) (aNil)))) (calF m__law_woven (aCons (eNm 3) (aCons (eNm 4) (aNil))))) (gTup' 2 (gCons' (gSet 3) (gCons' (gSet 4) (gNil')))))) (sSeq (sFor (iSeq (eTup (aCons (eC (.fn 8)) (aCons (eC (.fn 9)) (aNil))))) (gSet 6) (sSeq (sSet 7 (eLst (aCons (calF m__law_two (aCons (eNm 6) (aCons (eNm 1) (aCons (eTup (aCons (eC (.int 1)) (aNil))) (aNil))))) (aCons (calF m__law_two (aCons (eNm 6) (aCons (eTup (aCons (eC (.int 1)) (aNil))) (aCons (eNm 1) (aNil))))) (aCons (calF m__law_two (aCons (eNm 6) (aCons (eNm 3) (aCons (eNm 4) (aNil))))) (aNil)))))) (sIf (cVal (ev2 dNe (eLk 7) (eLst (aCons (eC (.str "row")) (aCons (eC (.str "row")) (aCons (eC (.str "number")) (aNil))))))) (sRet (eC (.bl false))) (sNil)))) (sRet (ev2 dEq (eLam [2] (calF m_first_pair (aCons (eNm 2) (aNil))) go__law_word) (eC (.str "number"))))))))
def m__law_are_refused (ds : List D) : FOut := runF [0] 8 1 b__law_are_refused ds
abbrev s_law : Stmt := topS 41
theorem sc_law : FnScope ["script", "hand", "turn", "one", "other", "n", "two", "row", "k"] ["script"] (defScope s_law) := ⟨rfl, rfl, rfl, by decide +kernel, rfl, by decide +kernel, by decide +kernel⟩
def b_law : Es := sSeq (sSet 1 (calF m__law_hand (aCons (eNm 0) (aNil)))) (sSeq (sIf (cOr (cVal (ev2 dNe (calF m_doubled_pair (aCons (eTup (aCons (eC (.int 1)) (aNil))) (aCons (eTup (aCons (eC (.int 1)) (aNil))) (aNil)))) (eTup (aCons (eTup (aCons (eC (.int 1)) (aCons (eC (.int 1)) (aNil)))) (aCons (eTup (aCons (eC (.int 1)) (aCons (ev1 dNeg (eC (.int 1))) (aNil)))) (aNil)))))) (cVal (ev2 dNe (calF m_woven_pair (aCons (eTup (aCons (eC (.int 1)) (aCons (eC (.int 1)) (aNil)))) (aCons (eTup (aCons (eC (.int 1)) (aCons (ev1 dNeg (eC (.int 1))) (aNil)))) (aNil)))) (eTup (aCons (eTup (aCons (eC (.int 1)) (aCons (eC (.int 1)) (aCons (eC (.int 1)) (aCons (ev1 dNeg (eC (.int 1))) (aNil)))))) (aCons (eTup (aCons (eC (.int 1)) (aCons (ev1 dNeg (eC (.int 1))) (aCons (eC (.int 1)) (aCons (eC (.int 1)) (aNil)))))) (aNil))))))) (sRet (eC (.bl false))) (sNil)) (sSeq (sIf (cOr (cVal (ev2 dIsN (calF m_is_pair (aCons (eTup (aCons (eC (.int 1)) (aCons (eC (.int 1)) (aNil)))) (aCons (eTup (aCons (eC (.int 1)) (aCons (eC (.int 1)) (aNil)))) (aNil)))) (eC (.bl false)))) (cVal (ev2 dIsN (calF m_is_pair (aCons (eTup (aCons (eC (.int 1)) (aNil))) (aCons (eTup (aCons (ev1 dNeg (eC (.int 1))) (aNil))) (aNil)))) (eC (.bl true))))) (sRet (eC (.bl false))) (sNil)) (sSeq (sIf (cVal (ev2 dIsN (calF m_is_ring_pair (aCons (eTup (aCons (eC (.int 1)) (aCons (eC (.int 1)) (aNil)))) (aCons (eTup (aCons (eC (.int 1)) (aCons (ev1 dNeg (eC (.int 1))) (aNil)))) (aNil)))) (eC (.bl true)))) (sRet (eC (.bl false))) (sNil)) (sSeq (sFor (iRng (aCons (eC (.int 2)) (aNil))) (gSet 2) (sSeq (sAsg (calH m__law_grown 1 (aNil)) (gTup' 2 (gCons' (gSet 3) (gCons' (gSet 4) (gNil'))))) (sSeq (sIf (cOr (cVal (ev2 dIsN (calF m_is_pair (aCons (eNm 3) (aCons (eNm 4) (aNil)))) (eC (.bl true)))) (cNot (cVal (calH m__law_are_judged_right 1 (aCons (eNm 3) (aCons (eNm 4) (aNil))))))) (sRet (eC (.bl false))) (sNil)) (sSeq (sIf (cNot (cVal (calF m__law_are_made_right (aCons (eNm 3) (aCons (eNm 4) (aNil)))))) (sRet (eC (.bl false))) (sNil)) (sSeq (sSet 5 (ev2 dAdd (eC (.int 1)) (calH m__law_draw 1 (aCons (eC (.int 8)) (aNil))))) (sSeq (sSet 6 (eLc [7] (iRng (aCons (eC (.int 2)) (aNil))) (gSet 7) (cYes) (ev1 dTup (eLc [8] (iRng (aCons (eNm 5) (aNil))) (gSet 8) (cYes) (calH m__law_any 1 (aCons (eLst (aCons (eC (.int 1)) (aCons (ev1 dNeg (eC (.int 1))) (aNil)))) (aNil))))))) (sIf (cOr (cNot (cVal (calH m__law_are_judged_right 1 (aCons (ev2 dIx (eLk 6) (eC (.int 0))) (aCons (ev2 dIx (eLk 6) (eC (.int 1))) (aNil)))))) (cNot (cVal (calF m__law_are_made_right (aCons (ev2 dIx (eLk 6) (eC (.int 0))) (aCons (ev2 dIx (eLk 6) (eC (.int 1))) (aNil))))))) (sRet (eC (.bl false))) (sNil)))))))) (sRet (eAnd (calH m__law_is_first_right 1 (aNil)) (calH m__law_are_refused 1 (aNil))))))))
def m_law (ds : List D) : FOut := runF [] 9 1 b_law ds
structure Tx (K : PySem.W.Frag) (prog : Program) (mg : Str → Option Value) (Γ : Gm) where
  hK : K = Γ.K
  a_is_integer : Addr
  d_is_integer : FuncData
  F_is_integer : Fun K "is_integer" "is_integer" s_is_integer a_is_integer d_is_integer
  B_is_integer : Binds K d_is_integer ["thing"] []
  g_is_integer : mg "is_integer" = some (.ref a_is_integer)
  a_is_within : Addr
  d_is_within : FuncData
  F_is_within : Fun K "is_within" "is_within" s_is_within a_is_within d_is_within
  B_is_within : Binds K d_is_within ["thing", "least", "most"] []
  g_is_within : mg "is_within" = some (.ref a_is_within)
  a_is_tuple : Addr
  d_is_tuple : FuncData
  F_is_tuple : Fun K "is_tuple" "is_tuple" s_is_tuple a_is_tuple d_is_tuple
  B_is_tuple : Binds K d_is_tuple ["thing", "least", "most"] []
  g_is_tuple : mg "is_tuple" = some (.ref a_is_tuple)
  a_is_row : Addr
  d_is_row : FuncData
  F_is_row : Fun K "is_row" "is_row" s_is_row a_is_row d_is_row
  B_is_row : Binds K d_is_row ["thing"] []
  g_is_row : mg "is_row" = some (.ref a_is_row)
  a_moved_sums : Addr
  d_moved_sums : FuncData
  F_moved_sums : Fun K "moved_sums" "moved_sums" s_moved_sums a_moved_sums d_moved_sums
  B_moved_sums : Binds K d_moved_sums ["row"] []
  g_moved_sums : mg "moved_sums" = some (.ref a_moved_sums)
  a_ring_sums_of : Addr
  d_ring_sums_of : FuncData
  F_ring_sums_of : Fun K "ring_sums_of" "ring_sums_of" s_ring_sums_of a_ring_sums_of d_ring_sums_of
  B_ring_sums_of : Binds K d_ring_sums_of ["row"] []
  g_ring_sums_of : mg "ring_sums_of" = some (.ref a_ring_sums_of)
  a_is_pair : Addr
  d_is_pair : FuncData
  F_is_pair : Fun K "is_pair" "is_pair" s_is_pair a_is_pair d_is_pair
  B_is_pair : Binds K d_is_pair ["one", "other"] []
  g_is_pair : mg "is_pair" = some (.ref a_is_pair)
  a_check_pair : Addr
  d_check_pair : FuncData
  F_check_pair : Fun K "check_pair" "check_pair" s_check_pair a_check_pair d_check_pair
  B_check_pair : Binds K d_check_pair ["one", "other"] []
  g_check_pair : mg "check_pair" = some (.ref a_check_pair)
  a_doubled_pair : Addr
  d_doubled_pair : FuncData
  F_doubled_pair : Fun K "doubled_pair" "doubled_pair" s_doubled_pair a_doubled_pair d_doubled_pair
  B_doubled_pair : Binds K d_doubled_pair ["one", "other"] []
  g_doubled_pair : mg "doubled_pair" = some (.ref a_doubled_pair)
  a_woven_pair : Addr
  d_woven_pair : FuncData
  F_woven_pair : Fun K "woven_pair" "woven_pair" s_woven_pair a_woven_pair d_woven_pair
  B_woven_pair : Binds K d_woven_pair ["one", "other"] []
  g_woven_pair : mg "woven_pair" = some (.ref a_woven_pair)
  a_all_rows : Addr
  d_all_rows : FuncData
  F_all_rows : Fun K "all_rows" "all_rows" s_all_rows a_all_rows d_all_rows
  B_all_rows : Binds K d_all_rows ["length"] []
  g_all_rows : mg "all_rows" = some (.ref a_all_rows)
  a_first_pair : Addr
  d_first_pair : FuncData
  F_first_pair : Fun K "first_pair" "first_pair" s_first_pair a_first_pair d_first_pair
  B_first_pair : Binds K d_first_pair ["length"] []
  g_first_pair : mg "first_pair" = some (.ref a_first_pair)
  a_is_ring_pair : Addr
  d_is_ring_pair : FuncData
  F_is_ring_pair : Fun K "is_ring_pair" "is_ring_pair" s_is_ring_pair a_is_ring_pair d_is_ring_pair
  B_is_ring_pair : Binds K d_is_ring_pair ["one", "other"] []
  g_is_ring_pair : mg "is_ring_pair" = some (.ref a_is_ring_pair)
  a__law_hand : Addr
  d__law_hand : FuncData
  F__law_hand : Fun K "_law_hand" "_law_hand" s__law_hand a__law_hand d__law_hand
  B__law_hand : Binds K d__law_hand ["script"] []
  g__law_hand : mg "_law_hand" = some (.ref a__law_hand)
  a__law_draw : Addr
  d__law_draw : FuncData
  F__law_draw : Fun K "_law_draw" "_law_draw" s__law_draw a__law_draw d__law_draw
  B__law_draw : Binds K d__law_draw ["hand", "many"] []
  g__law_draw : mg "_law_draw" = some (.ref a__law_draw)
  a__law_any : Addr
  d__law_any : FuncData
  F__law_any : Fun K "_law_any" "_law_any" s__law_any a__law_any d__law_any
  B__law_any : Binds K d__law_any ["hand", "some"] []
  g__law_any : mg "_law_any" = some (.ref a__law_any)
  a__law_line : Addr
  d__law_line : FuncData
  F__law_line : Fun K "_law_line" "_law_line" s__law_line a__law_line d__law_line
  B__law_line : Binds K d__law_line ["row", "s"] []
  g__law_line : mg "_law_line" = some (.ref a__law_line)
  a__law_ring : Addr
  d__law_ring : FuncData
  F__law_ring : Fun K "_law_ring" "_law_ring" s__law_ring a__law_ring d__law_ring
  B__law_ring : Binds K d__law_ring ["row", "s"] []
  g__law_ring : mg "_law_ring" = some (.ref a__law_ring)
  a__law_less : Addr
  d__law_less : FuncData
  F__law_less : Fun K "_law_less" "_law_less" s__law_less a__law_less d__law_less
  B__law_less : Binds K d__law_less ["row"] []
  g__law_less : mg "_law_less" = some (.ref a__law_less)
  a__law_by_turns : Addr
  d__law_by_turns : FuncData
  F__law_by_turns : Fun K "_law_by_turns" "_law_by_turns" s__law_by_turns a__law_by_turns d__law_by_turns
  B__law_by_turns : Binds K d__law_by_turns ["row"] []
  g__law_by_turns : mg "_law_by_turns" = some (.ref a__law_by_turns)
  a__law_doubled : Addr
  d__law_doubled : FuncData
  F__law_doubled : Fun K "_law_doubled" "_law_doubled" s__law_doubled a__law_doubled d__law_doubled
  B__law_doubled : Binds K d__law_doubled ["one", "other"] []
  g__law_doubled : mg "_law_doubled" = some (.ref a__law_doubled)
  a__law_woven : Addr
  d__law_woven : FuncData
  F__law_woven : Fun K "_law_woven" "_law_woven" s__law_woven a__law_woven d__law_woven
  B__law_woven : Binds K d__law_woven ["one", "other"] []
  g__law_woven : mg "_law_woven" = some (.ref a__law_woven)
  a__law_grown : Addr
  d__law_grown : FuncData
  F__law_grown : Fun K "_law_grown" "_law_grown" s__law_grown a__law_grown d__law_grown
  B__law_grown : Binds K d__law_grown ["hand"] []
  g__law_grown : mg "_law_grown" = some (.ref a__law_grown)
  a__law_is_row : Addr
  d__law_is_row : FuncData
  F__law_is_row : Fun K "_law_is_row" "_law_is_row" s__law_is_row a__law_is_row d__law_is_row
  B__law_is_row : Binds K d__law_is_row ["thing"] []
  g__law_is_row : mg "_law_is_row" = some (.ref a__law_is_row)
  a__law_is_due : Addr
  d__law_is_due : FuncData
  F__law_is_due : Fun K "_law_is_due" "_law_is_due" s__law_is_due a__law_is_due d__law_is_due
  B__law_is_due : Binds K d__law_is_due ["one", "other", "is_ring"] []
  g__law_is_due : mg "_law_is_due" = some (.ref a__law_is_due)
  a__law_bent : Addr
  d__law_bent : FuncData
  F__law_bent : Fun K "_law_bent" "_law_bent" s__law_bent a__law_bent d__law_bent
  B__law_bent : Binds K d__law_bent ["hand", "row"] []
  g__law_bent : mg "_law_bent" = some (.ref a__law_bent)
  a__law_are_judged_right : Addr
  d__law_are_judged_right : FuncData
  F__law_are_judged_right : Fun K "_law_are_judged_right" "_law_are_judged_right" s__law_are_judged_right a__law_are_judged_right d__law_are_judged_right
  B__law_are_judged_right : Binds K d__law_are_judged_right ["hand", "one", "other"] []
  g__law_are_judged_right : mg "_law_are_judged_right" = some (.ref a__law_are_judged_right)
  a__law_are_made_right : Addr
  d__law_are_made_right : FuncData
  F__law_are_made_right : Fun K "_law_are_made_right" "_law_are_made_right" s__law_are_made_right a__law_are_made_right d__law_are_made_right
  B__law_are_made_right : Binds K d__law_are_made_right ["one", "other"] []
  g__law_are_made_right : mg "_law_are_made_right" = some (.ref a__law_are_made_right)
  a__law_first_is_none : Addr
  d__law_first_is_none : FuncData
  F__law_first_is_none : Fun K "_law_first_is_none" "_law_first_is_none" s__law_first_is_none a__law_first_is_none d__law_first_is_none
  B__law_first_is_none : Binds K d__law_first_is_none ["n"] []
  g__law_first_is_none : mg "_law_first_is_none" = some (.ref a__law_first_is_none)
  a__law_is_first_right : Addr
  d__law_is_first_right : FuncData
  F__law_is_first_right : Fun K "_law_is_first_right" "_law_is_first_right" s__law_is_first_right a__law_is_first_right d__law_is_first_right
  B__law_is_first_right : Binds K d__law_is_first_right ["hand"] []
  g__law_is_first_right : mg "_law_is_first_right" = some (.ref a__law_is_first_right)
  a__law_word : Addr
  d__law_word : FuncData
  F__law_word : Fun K "_law_word" "_law_word" s__law_word a__law_word d__law_word
  B__law_word : Binds K d__law_word ["call"] []
  g__law_word : mg "_law_word" = some (.ref a__law_word)
  a__law_two : Addr
  d__law_two : FuncData
  F__law_two : Fun K "_law_two" "_law_two" s__law_two a__law_two d__law_two
  B__law_two : Binds K d__law_two ["ask", "one", "other"] []
  g__law_two : mg "_law_two" = some (.ref a__law_two)
  a__law_are_refused : Addr
  d__law_are_refused : FuncData
  F__law_are_refused : Fun K "_law_are_refused" "_law_are_refused" s__law_are_refused a__law_are_refused d__law_are_refused
  B__law_are_refused : Binds K d__law_are_refused ["hand"] []
  g__law_are_refused : mg "_law_are_refused" = some (.ref a__law_are_refused)
  a_law : Addr
  d_law : FuncData
  F_law : Fun K "law" "law" s_law a_law d_law
  B_law : Binds K d_law ["script"] []
  g_law : mg "law" = some (.ref a_law)
  fa_doubled_pair : Γ.fa 8 = a_doubled_pair
  fa_woven_pair : Γ.fa 9 = a_woven_pair
  n_ValueError : mg "ValueError" = none
  n_abs : mg "abs" = none
  n_all : mg "all" = none
  n_any : mg "any" = none
  n_bool : mg "bool" = none
  n_dict : mg "dict" = none
  n_enumerate : mg "enumerate" = none
  n_int : mg "int" = none
  n_isinstance : mg "isinstance" = none
  n_len : mg "len" = none
  n_list : mg "list" = none
  n_range : mg "range" = none
  n_repr : mg "repr" = none
  n_sum : mg "sum" = none
  n_tuple : mg "tuple" = none
  n_zip : mg "zip" = none
  n_super : mg "super" = none
  t_MOST_LENGTH : Tok
  c_MOST_LENGTH : mg "MOST_LENGTH" = some (.int 64 t_MOST_LENGTH)
  k_BlockError : Addr
  g_BlockError : mg "BlockError" = some (.ref k_BlockError)
  ca_BlockError : Γ.ca 0 = k_BlockError
  k_NoNumber : Addr
  g_NoNumber : mg "NoNumber" = some (.ref k_NoNumber)
  ca_NoNumber : Γ.ca 1 = k_NoNumber
  fI_NoNumber : Addr
  Z_NoNumber : PySem.W.Ex0 K prog k_NoNumber fI_NoNumber
  fl_NoNumber : Γ.fl 1 = []
  k_NoSequence : Addr
  g_NoSequence : mg "NoSequence" = some (.ref k_NoSequence)
  ca_NoSequence : Γ.ca 2 = k_NoSequence
  fI_NoSequence : Addr
  Z_NoSequence : PySem.W.Ex0 K prog k_NoSequence fI_NoSequence
  fl_NoSequence : Γ.fl 2 = []
  kit_NoSequence : ∀ c, csB c = some true → PySem.W.kitOne Γ.K (.ref (Γ.ca c)) (.ref k_NoSequence) = some (kB_NoSequence c)
  kit_NoNumber : ∀ c, csB c = some true → PySem.W.kitOne Γ.K (.ref (Γ.ca c)) (.ref k_NoNumber) = some (kB_NoNumber c)
  kit_ValueError : ∀ c, csB c = some true → PySem.W.kitOne Γ.K (.ref (Γ.ca c)) (.type "ValueError") = some (kB_ValueError c)
  ex_ok : ∀ c, csB c = some true → ExcC Γ.K (Γ.ca c)
  ex_fl : ∀ c, csB c = some true → Γ.fl c = []
  ex_m : ∀ c, csB c = some true → PySem.W.exmOne Γ.K (.ref (Γ.ca c)) (.ref k_BlockError) = some true
  c__law_two : Addr
  P__law_two : Addr
  FC__law_two : FunC K "_law_two" "_law_two" s__law_two a__law_two d__law_two c__law_two
  tbm__law_two : (P__law_two, ("_law_two" : Str) ++ ".<locals>." ++ "<lambda>") ∈ Γ.tb
  tbu__law_two : ∀ p ∈ Γ.tb, p.1 = P__law_two → p.2 = ("_law_two" : Str) ++ ".<locals>." ++ "<lambda>"
  c__law_are_refused : Addr
  P__law_are_refused : Addr
  FC__law_are_refused : FunC K "_law_are_refused" "_law_are_refused" s__law_are_refused a__law_are_refused d__law_are_refused c__law_are_refused
  tbm__law_are_refused : (P__law_are_refused, ("_law_are_refused" : Str) ++ ".<locals>." ++ "<lambda>") ∈ Γ.tb
  tbu__law_are_refused : ∀ p ∈ Γ.tb, p.1 = P__law_are_refused → p.2 = ("_law_are_refused" : Str) ++ ".<locals>." ++ "<lambda>"
  gbS : ∃ o u, Γ.gb sysModules = some (.frz o u)
structure TxB {K : PySem.W.Frag} {prog : Program} {mg : Str → Option Value} {Γ : Gm} (T : Tx K prog mg Γ) (base : Heap) : Prop where
  tb__law_two : LamX.TabB base mg T.c__law_two T.P__law_two
  tb__law_are_refused : LamX.TabB base mg T.c__law_are_refused T.P__law_are_refused
section
variable {P : Program} {w : World} {K : PySem.W.Frag} {mg : Str → Option Value} {base : Heap} {Γ : Gm}
theorem ok_is_integer (T : Tx K P mg Γ) : FnOk P w K mg base (L2.CX P w) 1 T.a_is_integer T.d_is_integer ["thing"] (spF Γ [] m_is_integer) :=
  fn_ok T.F_is_integer sc_is_integer T.hK (by decide) (by decide) (fun _ => rfl) fun cdv A outer s H E hr => by
    have ND := sc_is_integer.nd
    have hu := hr.uok
    have tk := takesF (P := P) (w := w) (K := K) (mg := mg) (base := base) (N := ["thing"]) (qual := "is_integer") (scope := defScope s_is_integer) (f := T.a_is_integer) (cd := cdv) (A := A) (outer := outer) (s := s) (H := H) (E := E)
    have po := ownsF (P := P) (w := w) (K := K) (mg := mg) (base := base) (N := ["thing"]) (qual := "is_integer") (scope := defScope s_is_integer) (f := T.a_is_integer) (cd := cdv) (A := A) (outer := outer) (s := s) (H := H) (E := E)
    exact (sb_one (ss_ret (se_and ((se_isi (by rfl) T.n_isinstance (by rfl) ((n_V 0)) (by decide) (by decide) (pe_ty (by rfl) T.n_int (by rfl)) (by rfl) (by rfl) (by rfl))) ((se_one (se_not ((sv_of (se_isi (by rfl) T.n_isinstance (by rfl) ((n_V 0)) (by decide) (by decide) (pe_ty (by rfl) T.n_bool (by rfl)) (by rfl) (by rfl) (by rfl))))))))))
theorem ok_is_within (T : Tx K P mg Γ) : FnOk P w K mg base (L2.CX P w) 2 T.a_is_within T.d_is_within ["thing", "least", "most"] (spF Γ [] m_is_within) :=
  fn_ok T.F_is_within sc_is_within T.hK (by decide) (by decide) (fun _ => rfl) fun cdv A outer s H E hr => by
    have ND := sc_is_within.nd
    have hu := hr.uok
    have tk := takesF (P := P) (w := w) (K := K) (mg := mg) (base := base) (N := ["thing", "least", "most"]) (qual := "is_within") (scope := defScope s_is_within) (f := T.a_is_within) (cd := cdv) (A := A) (outer := outer) (s := s) (H := H) (E := E)
    have po := ownsF (P := P) (w := w) (K := K) (mg := mg) (base := base) (N := ["thing", "least", "most"]) (qual := "is_within") (scope := defScope s_is_within) (f := T.a_is_within) (cd := cdv) (A := A) (outer := outer) (s := s) (H := H) (E := E)
    exact (sb_one (ss_ret (se_and ((se_cal (ok_is_integer T) (hr.mono (by decide)) (by rfl) T.g_is_integer T.F_is_integer.kp T.B_is_integer tk (sa_cons ((n_E 0)) (sa_nil) (by rfl)) (by decide) (by rfl) (by rfl))) ((se_one (se_chain o_le o_le ((n_V 1)) ((n_V 0)) ((n_V 2)) (fun _ h => by cases h; decide) (fun _ h => by cases h; decide) (by rfl)))))))
theorem ok_is_tuple (T : Tx K P mg Γ) : FnOk P w K mg base (L2.CX P w) 1 T.a_is_tuple T.d_is_tuple ["thing", "least", "most"] (spF Γ [] m_is_tuple) :=
  fn_ok T.F_is_tuple sc_is_tuple T.hK (by decide) (by decide) (fun _ => rfl) fun cdv A outer s H E hr => by
    have ND := sc_is_tuple.nd
    have hu := hr.uok
    have tk := takesF (P := P) (w := w) (K := K) (mg := mg) (base := base) (N := ["thing", "least", "most"]) (qual := "is_tuple") (scope := defScope s_is_tuple) (f := T.a_is_tuple) (cd := cdv) (A := A) (outer := outer) (s := s) (H := H) (E := E)
    have po := ownsF (P := P) (w := w) (K := K) (mg := mg) (base := base) (N := ["thing", "least", "most"]) (qual := "is_tuple") (scope := defScope s_is_tuple) (f := T.a_is_tuple) (cd := cdv) (A := A) (outer := outer) (s := s) (H := H) (E := E)
    exact (sb_one (ss_ret (se_and ((se_isi (by rfl) T.n_isinstance (by rfl) ((n_V 0)) (by decide) (by decide) (pe_ty (by rfl) T.n_tuple (by rfl)) (by rfl) (by rfl) (by rfl))) ((se_one (se_chain o_le o_le ((n_V 1)) ((sv_of (se_callB1 k_len (by rfl) T.n_len (by rfl) ((n_V 0)) (by decide) (by decide) (by rfl) (by rfl)))) ((n_V 2)) (fun _ h => by cases h; decide) (fun _ h => nomatch h) (by rfl)))))))
theorem ok_is_row (T : Tx K P mg Γ) : FnOk P w K mg base (L2.CX P w) 3 T.a_is_row T.d_is_row ["thing"] (spF Γ [] m_is_row) :=
  fn_ok T.F_is_row sc_is_row T.hK (by decide) (by decide) (fun _ => rfl) fun cdv A outer s H E hr => by
    have ND := sc_is_row.nd
    have hu := hr.uok
    have tk := takesF (P := P) (w := w) (K := K) (mg := mg) (base := base) (N := ["thing", "one"]) (qual := "is_row") (scope := defScope s_is_row) (f := T.a_is_row) (cd := cdv) (A := A) (outer := outer) (s := s) (H := H) (E := E)
    have po := ownsF (P := P) (w := w) (K := K) (mg := mg) (base := base) (N := ["thing", "one"]) (qual := "is_row") (scope := defScope s_is_row) (f := T.a_is_row) (cd := cdv) (A := A) (outer := outer) (s := s) (H := H) (E := E)
    exact (sb_cons (ss_if (sc_not (sc_val (se_cal (ok_is_tuple T) (hr.mono (by decide)) (by rfl) T.g_is_tuple T.F_is_tuple.kp T.B_is_tuple tk (sa_cons ((n_E 0)) ((sa_cons (se_int) ((sa_cons ((se_glob (v := .int 64) (by rfl) T.c_MOST_LENGTH ⟨_, rfl⟩ (fun _ => rfl) (by decide))) (sa_nil) (by rfl))) (by rfl))) (by rfl)) (by decide) (by rfl) (by rfl)) (fun _ => rfl))) (sb_one (ss_ret se_bl)) sb_nil)
    (sb_one (ss_ret (se_callB1 (k_all rfl) (by rfl) T.n_all (by rfl) ((sv_of (se_lc (own := [("one", 1)]) rfl ND (si_seq (n_E 0)) (blkOk_by (by kernel_rfl)) (fun _ _ _ _ _ => (n_G 1 ND)) (fun _ _ _ _ _ => sts_nil) (fun _ _ _ _ _ => (se_and ((se_cal (ok_is_within T) (hr.mono (by decide)) (by rfl) T.g_is_within T.F_is_within.kp T.B_is_within takes0 (sa_cons ((n_E 1)) ((sa_cons ((se_un o_neg ((sv_of se_int)))) ((sa_cons (se_int) (sa_nil) (by rfl))) (by rfl))) (by rfl)) (by decide) (by rfl) (by rfl))) ((se_one (se_cmp (o_ne hu.u64) ((n_V 1)) ((sv_of se_int)) (fun _ h => by cases h; decide) (by rfl)))))) (fun _ => rfl) (by decide)))) (by decide) (by decide) (by rfl) (by rfl)))))
theorem ok_moved_sums (T : Tx K P mg Γ) : FnOk P w K mg base (L2.CX P w) 1 T.a_moved_sums T.d_moved_sums ["row"] (spF Γ [] m_moved_sums) :=
  fn_ok T.F_moved_sums sc_moved_sums T.hK (by decide) (by decide) (fun _ => rfl) fun cdv A outer s H E hr => by
    have ND := sc_moved_sums.nd
    have hu := hr.uok
    have tk := takesF (P := P) (w := w) (K := K) (mg := mg) (base := base) (N := ["row", "many", "far", "at"]) (qual := "moved_sums") (scope := defScope s_moved_sums) (f := T.a_moved_sums) (cd := cdv) (A := A) (outer := outer) (s := s) (H := H) (E := E)
    have po := ownsF (P := P) (w := w) (K := K) (mg := mg) (base := base) (N := ["row", "many", "far", "at"]) (qual := "moved_sums") (scope := defScope s_moved_sums) (f := T.a_moved_sums) (cd := cdv) (A := A) (outer := outer) (s := s) (H := H) (E := E)
    exact (sb_cons (n_set 1 ND (se_callB1 k_len (by rfl) T.n_len (by rfl) ((n_V 0)) (by decide) (by decide) (by rfl) (by rfl)) (by decide))
    (sb_one (ss_ret (se_lc (own := [("far", 2)]) rfl ND (si_rng1 (by rfl) T.n_range (sa_cons ((n_E 1)) (sa_nil) (by rfl)) (by rfl)) (blkOk_by (by kernel_rfl)) (fun _ _ _ _ _ => (n_G 2 ND)) (fun _ _ _ _ _ => sts_nil) (fun _ _ _ _ _ => (se_callB1 (k_sum rfl) (by rfl) T.n_sum (by rfl) ((sv_of (se_lc (own := [("at", 3)]) rfl ND (si_rng1 (by rfl) T.n_range (sa_cons ((se_op o_sub ((n_V 1)) ((n_V 2)) (fun _ h => by cases h; decide))) (sa_nil) (by rfl)) (by rfl)) (blkOk_by (by kernel_rfl)) (fun _ _ _ _ _ => (n_G 3 ND)) (fun _ _ _ _ _ => sts_nil) (fun _ _ _ _ _ => (se_op o_mul ((sv_ix hu.u1 ((n_V 0)) ((n_V 3)) (by decide) (fun _ _ => rfl))) ((sv_ix hu.u1 ((n_V 0)) ((sv_of (se_op o_add ((n_V 3)) ((n_V 2)) (fun _ h => by cases h; decide)))) (by decide) (fun _ _ => rfl))) (fun _ h => by cases h; decide))) (fun _ => rfl) (by decide)))) (by decide) (by decide) (by rfl) (by rfl))) (fun _ => rfl) (by decide)))))
theorem ok_ring_sums_of (T : Tx K P mg Γ) : FnOk P w K mg base (L2.CX P w) 1 T.a_ring_sums_of T.d_ring_sums_of ["row"] (spF Γ [] m_ring_sums_of) :=
  fn_ok T.F_ring_sums_of sc_ring_sums_of T.hK (by decide) (by decide) (fun _ => rfl) fun cdv A outer s H E hr => by
    have ND := sc_ring_sums_of.nd
    have hu := hr.uok
    have tk := takesF (P := P) (w := w) (K := K) (mg := mg) (base := base) (N := ["row", "many", "far", "at"]) (qual := "ring_sums_of") (scope := defScope s_ring_sums_of) (f := T.a_ring_sums_of) (cd := cdv) (A := A) (outer := outer) (s := s) (H := H) (E := E)
    have po := ownsF (P := P) (w := w) (K := K) (mg := mg) (base := base) (N := ["row", "many", "far", "at"]) (qual := "ring_sums_of") (scope := defScope s_ring_sums_of) (f := T.a_ring_sums_of) (cd := cdv) (A := A) (outer := outer) (s := s) (H := H) (E := E)
    exact (sb_cons (n_set 1 ND (se_callB1 k_len (by rfl) T.n_len (by rfl) ((n_V 0)) (by decide) (by decide) (by rfl) (by rfl)) (by decide))
    (sb_one (ss_ret (se_lc (own := [("far", 2)]) rfl ND (si_rng1 (by rfl) T.n_range (sa_cons ((n_E 1)) (sa_nil) (by rfl)) (by rfl)) (blkOk_by (by kernel_rfl)) (fun _ _ _ _ _ => (n_G 2 ND)) (fun _ _ _ _ _ => sts_nil) (fun _ _ _ _ _ => (se_callB1 (k_sum rfl) (by rfl) T.n_sum (by rfl) ((sv_of (se_lc (own := [("at", 3)]) rfl ND (si_rng1 (by rfl) T.n_range (sa_cons ((n_E 1)) (sa_nil) (by rfl)) (by rfl)) (blkOk_by (by kernel_rfl)) (fun _ _ _ _ _ => (n_G 3 ND)) (fun _ _ _ _ _ => sts_nil) (fun _ _ _ _ _ => (se_op o_mul ((sv_ix hu.u1 ((n_V 0)) ((n_V 3)) (by decide) (fun _ _ => rfl))) ((sv_ix hu.u1 ((n_V 0)) ((sv_of (se_op o_mod ((sv_of (se_op o_add ((n_V 3)) ((n_V 2)) (fun _ h => by cases h; decide)))) ((n_V 1)) (fun _ h => nomatch h)))) (by decide) (fun _ _ => rfl))) (fun _ h => by cases h; decide))) (fun _ => rfl) (by decide)))) (by decide) (by decide) (by rfl) (by rfl))) (fun _ => rfl) (by decide)))))
theorem ok_is_pair (T : Tx K P mg Γ) : FnOk P w K mg base (L2.CX P w) 4 T.a_is_pair T.d_is_pair ["one", "other"] (spF Γ [] m_is_pair) :=
  fn_ok T.F_is_pair sc_is_pair T.hK (by decide) (by decide) (fun _ => rfl) fun cdv A outer s H E hr => by
    have ND := sc_is_pair.nd
    have hu := hr.uok
    have tk := takesF (P := P) (w := w) (K := K) (mg := mg) (base := base) (N := ["one", "other", "a", "b"]) (qual := "is_pair") (scope := defScope s_is_pair) (f := T.a_is_pair) (cd := cdv) (A := A) (outer := outer) (s := s) (H := H) (E := E)
    have po := ownsF (P := P) (w := w) (K := K) (mg := mg) (base := base) (N := ["one", "other", "a", "b"]) (qual := "is_pair") (scope := defScope s_is_pair) (f := T.a_is_pair) (cd := cdv) (A := A) (outer := outer) (s := s) (H := H) (E := E)
    exact (sb_cons (ss_if (sc_w (sw_or (sc_not (sc_val (se_cal (ok_is_row T) (hr.mono (by decide)) (by rfl) T.g_is_row T.F_is_row.kp T.B_is_row tk (sa_cons ((n_E 0)) (sa_nil) (by rfl)) (by decide) (by rfl) (by rfl)) (fun _ => rfl))) (sw_or (sc_not (sc_val (se_cal (ok_is_row T) (hr.mono (by decide)) (by rfl) T.g_is_row T.F_is_row.kp T.B_is_row tk (sa_cons ((n_E 1)) (sa_nil) (by rfl)) (by decide) (by rfl) (by rfl)) (fun _ => rfl))) (sw_or1 (sc_cmp (o_ne hu.u64) ((sv_of (se_callB1 k_len (by rfl) T.n_len (by rfl) ((n_V 0)) (by decide) (by decide) (by rfl) (by rfl)))) ((sv_of (se_callB1 k_len (by rfl) T.n_len (by rfl) ((n_V 1)) (by decide) (by decide) (by rfl) (by rfl)))) (fun _ h => nomatch h) (by rfl)))))) (sb_one (ss_ret se_bl)) sb_nil)
    (sb_one (ss_ret (se_callB1 (k_all rfl) (by rfl) T.n_all (by rfl) ((sv_of (se_lc (own := [("a", 2), ("b", 3)]) rfl ND (si_seq (se_slice ((sv_of (se_lz rfl (by rfl) T.n_list (by rfl) T.n_zip (sa_cons ((se_cal (ok_moved_sums T) (hr.mono (by decide)) (by rfl) T.g_moved_sums T.F_moved_sums.kp T.B_moved_sums tk (sa_cons ((n_E 0)) (sa_nil) (by rfl)) (by decide) (by rfl) (by rfl))) ((sa_cons ((se_cal (ok_moved_sums T) (hr.mono (by decide)) (by rfl) T.g_moved_sums T.F_moved_sums.kp T.B_moved_sums tk (sa_cons ((n_E 1)) (sa_nil) (by rfl)) (by decide) (by rfl) (by rfl))) (sa_nil) (by rfl))) (by rfl)) (by rfl) (by rfl) (by rfl) (by rfl) (by rfl) (by rfl) (by rfl)))) ((so_some ((sv_of se_int)))) (so_none) (fun _ h => nomatch h))) (blkOk_by (by kernel_rfl)) (fun _ _ _ _ _ => (sg_tup rfl (sgs_cons (n_G 2 ND) (sgs_cons (n_G 3 ND) sgs_nil (by rfl)) (by rfl)) (by rfl) (by rfl))) (fun _ _ _ _ _ => sts_nil) (fun _ _ _ _ _ => (se_cmp (o_eq hu.u64) ((sv_of (se_op o_add ((n_V 2)) ((n_V 3)) (fun _ h => by cases h; decide)))) ((sv_of se_int)) (fun _ h => nomatch h) (by rfl))) (fun _ => rfl) (by decide)))) (by decide) (by decide) (by rfl) (by rfl)))))
theorem ok_check_pair (T : Tx K P mg Γ) : FnOk P w K mg base (L2.CX P w) 5 T.a_check_pair T.d_check_pair ["one", "other"] (spF Γ [] m_check_pair) :=
  fn_ok T.F_check_pair sc_check_pair T.hK (by decide) (by decide) (fun _ => rfl) fun cdv A outer s H E hr => by
    have ND := sc_check_pair.nd
    have hu := hr.uok
    have tk := takesF (P := P) (w := w) (K := K) (mg := mg) (base := base) (N := ["one", "other"]) (qual := "check_pair") (scope := defScope s_check_pair) (f := T.a_check_pair) (cd := cdv) (A := A) (outer := outer) (s := s) (H := H) (E := E)
    have po := ownsF (P := P) (w := w) (K := K) (mg := mg) (base := base) (N := ["one", "other"]) (qual := "check_pair") (scope := defScope s_check_pair) (f := T.a_check_pair) (cd := cdv) (A := A) (outer := outer) (s := s) (H := H) (E := E)
    exact (sb_one (ss_if (sc_not (sc_val (se_cal (ok_is_pair T) (hr.mono (by decide)) (by rfl) T.g_is_pair T.F_is_pair.kp T.B_is_pair tk (sa_cons ((n_E 0)) ((sa_cons ((n_E 1)) (sa_nil) (by rfl))) (by rfl)) (by decide) (by rfl) (by rfl)) (fun _ => rfl))) (sb_one (ss_raise rfl tk T.fl_NoSequence (by rw [T.ca_NoSequence]; exact pmk_super0 (k := 0) T.Z_NoSequence (hr.mono (by decide)) (by rfl) T.g_NoSequence T.n_super))) sb_nil))
theorem ok_doubled_pair (T : Tx K P mg Γ) : FnOk P w K mg base (L2.CX P w) 6 T.a_doubled_pair T.d_doubled_pair ["one", "other"] (spF Γ [] m_doubled_pair) :=
  fn_ok T.F_doubled_pair sc_doubled_pair T.hK (by decide) (by decide) (fun _ => rfl) fun cdv A outer s H E hr => by
    have ND := sc_doubled_pair.nd
    have hu := hr.uok
    have tk := takesF (P := P) (w := w) (K := K) (mg := mg) (base := base) (N := ["one", "other", "sign"]) (qual := "doubled_pair") (scope := defScope s_doubled_pair) (f := T.a_doubled_pair) (cd := cdv) (A := A) (outer := outer) (s := s) (H := H) (E := E)
    have po := ownsF (P := P) (w := w) (K := K) (mg := mg) (base := base) (N := ["one", "other", "sign"]) (qual := "doubled_pair") (scope := defScope s_doubled_pair) (f := T.a_doubled_pair) (cd := cdv) (A := A) (outer := outer) (s := s) (H := H) (E := E)
    exact (sb_cons (ss_expr (se_cal (ok_check_pair T) (hr.mono (by decide)) (by rfl) T.g_check_pair T.F_check_pair.kp T.B_check_pair tk (sa_cons ((n_E 0)) ((sa_cons ((n_E 1)) (sa_nil) (by rfl))) (by rfl)) (by decide) (by rfl) (by rfl)) (by rfl))
    (sb_cons (ss_if (sc_cmp o_gt ((sv_of (se_op o_mul ((sv_of se_int)) ((sv_of (se_callB1 k_len (by rfl) T.n_len (by rfl) ((n_V 0)) (by decide) (by decide) (by rfl) (by rfl)))) (fun _ h => nomatch h)))) ((sv_of (se_glob (v := .int 64) (by rfl) T.c_MOST_LENGTH ⟨_, rfl⟩ (fun _ => rfl) (by decide)))) (fun _ h => nomatch h) (by rfl)) (sb_one (ss_raise rfl tk T.fl_NoNumber (by rw [T.ca_NoNumber]; exact pmk_super0 (k := 0) T.Z_NoNumber (hr.mono (by decide)) (by rfl) T.g_NoNumber T.n_super))) sb_nil)
    (sb_one (ss_ret (se_tup ((sa_cons ((se_op o_add ((n_V 0)) ((n_V 1)) (fun _ h => by cases h; decide))) ((sa_cons ((se_op o_add ((n_V 0)) ((sv_of (se_callT1 k_tup (by rfl) T.n_tuple (by rfl) ((sv_of (se_lc (own := [("sign", 2)]) rfl ND (si_seq (n_E 1)) (blkOk_by (by kernel_rfl)) (fun _ _ _ _ _ => (n_G 2 ND)) (fun _ _ _ _ _ => sts_nil) (fun _ _ _ _ _ => (se_un o_neg ((n_V 2)))) (fun _ => rfl) (by decide)))) (by decide) (by decide) (by rfl) (by rfl)))) (fun _ h => by cases h; decide))) (sa_nil) (by rfl))) (by rfl))) (by decide))))))
theorem ok_woven_pair (T : Tx K P mg Γ) : FnOk P w K mg base (L2.CX P w) 6 T.a_woven_pair T.d_woven_pair ["one", "other"] (spF Γ [] m_woven_pair) :=
  fn_ok T.F_woven_pair sc_woven_pair T.hK (by decide) (by decide) (fun _ => rfl) fun cdv A outer s H E hr => by
    have ND := sc_woven_pair.nd
    have hu := hr.uok
    have tk := takesF (P := P) (w := w) (K := K) (mg := mg) (base := base) (N := ["one", "other", "first", "second", "pair", "sign", "a", "b"]) (qual := "woven_pair") (scope := defScope s_woven_pair) (f := T.a_woven_pair) (cd := cdv) (A := A) (outer := outer) (s := s) (H := H) (E := E)
    have po := ownsF (P := P) (w := w) (K := K) (mg := mg) (base := base) (N := ["one", "other", "first", "second", "pair", "sign", "a", "b"]) (qual := "woven_pair") (scope := defScope s_woven_pair) (f := T.a_woven_pair) (cd := cdv) (A := A) (outer := outer) (s := s) (H := H) (E := E)
    exact (sb_cons (ss_expr (se_cal (ok_check_pair T) (hr.mono (by decide)) (by rfl) T.g_check_pair T.F_check_pair.kp T.B_check_pair tk (sa_cons ((n_E 0)) ((sa_cons ((n_E 1)) (sa_nil) (by rfl))) (by rfl)) (by decide) (by rfl) (by rfl)) (by rfl))
    (sb_cons (ss_if (sc_cmp o_gt ((sv_of (se_op o_mul ((sv_of se_int)) ((sv_of (se_callB1 k_len (by rfl) T.n_len (by rfl) ((n_V 0)) (by decide) (by decide) (by rfl) (by rfl)))) (fun _ h => nomatch h)))) ((sv_of (se_glob (v := .int 64) (by rfl) T.c_MOST_LENGTH ⟨_, rfl⟩ (fun _ => rfl) (by decide)))) (fun _ h => nomatch h) (by rfl)) (sb_one (ss_raise rfl tk T.fl_NoNumber (by rw [T.ca_NoNumber]; exact pmk_super0 (k := 0) T.Z_NoNumber (hr.mono (by decide)) (by rfl) T.g_NoNumber T.n_super))) sb_nil)
    (sb_cons (ss_setLc2 (own := [("pair", 4), ("sign", 5)]) (vs1 := [5]) rfl ND (by rfl) (by rfl) (sw_true rfl rfl rfl (by decide +kernel)) (si_zipN (by rfl) T.n_zip (sa_cons ((n_E 0)) ((sa_cons ((n_E 1)) (sa_nil) (by rfl))) (by rfl)) (by rfl) (by rfl)) (blkOk_by (by kernel_rfl)) (by decide) (fun _ _ _ _ _ => (n_G 4 ND)) (fun _ _ _ _ _ => sts_nil) (fun _ _ _ _ _ => (si_seq (n_E 4))) (fun _ _ _ _ _ => (n_G 5 ND)) (fun _ _ _ _ _ => sts_nil) (fun _ _ _ _ _ => (n_E 5)) (fun _ => rfl) (fun _ _ => rfl) (by decide) (by decide) (by decide))
    (sb_cons (ss_setLc2 (own := [("a", 6), ("b", 7), ("sign", 5)]) (vs1 := [5]) rfl ND (by rfl) (by rfl) (sw_true rfl rfl rfl (by decide +kernel)) (si_zip (by rfl) T.n_zip (sa_cons ((n_E 0)) ((sa_cons ((n_E 1)) (sa_nil) (by rfl))) (by rfl)) (by rfl) (by rfl)) (blkOk_by (by kernel_rfl)) (by decide) (fun _ _ _ _ _ => (sg_tup rfl (sgs_cons (n_G 6 ND) (sgs_cons (n_G 7 ND) sgs_nil (by rfl)) (by rfl)) (by rfl) (by rfl))) (fun _ _ _ _ _ => sts_nil) (fun _ _ _ _ _ => (si_seq (se_tup ((sa_cons ((n_E 6)) ((sa_cons ((se_un o_neg ((n_V 7)))) (sa_nil) (by rfl))) (by rfl))) (by decide)))) (fun _ _ _ _ _ => (n_G 5 ND)) (fun _ _ _ _ _ => sts_nil) (fun _ _ _ _ _ => (n_E 5)) (fun _ => rfl) (fun _ _ => rfl) (by decide) (by decide) (by decide))
    (sb_one (ss_ret (se_tup ((sa_cons ((se_callT1 k_tup (by rfl) T.n_tuple (by rfl) ((n_V 2)) (by decide) (by decide) (by rfl) (by rfl))) ((sa_cons ((se_callT1 k_tup (by rfl) T.n_tuple (by rfl) ((n_V 3)) (by decide) (by decide) (by rfl) (by rfl))) (sa_nil) (by rfl))) (by rfl))) (by decide))))))))
theorem fat_8_9 {X : Cx} {Γ : Gm} (T : Tx X.K X.prog X.mg Γ) : ∀ j ∈ ([8, 9] : List Nat), FnAt X Γ 6 j (FM j) := by
  intro j hj
  simp only [List.mem_cons, List.not_mem_nil, or_false] at hj
  rcases hj with rfl | rfl
  · exact ⟨⟨T.d_doubled_pair, _, by rw [T.fa_doubled_pair]; exact (ok_doubled_pair T).mono (by decide), by rw [T.fa_doubled_pair]; exact T.F_doubled_pair.kp, T.B_doubled_pair⟩⟩
  · exact ⟨⟨T.d_woven_pair, _, by rw [T.fa_woven_pair]; exact (ok_woven_pair T).mono (by decide), by rw [T.fa_woven_pair]; exact T.F_woven_pair.kp, T.B_woven_pair⟩⟩
theorem ok_all_rows (T : Tx K P mg Γ) : FnOk P w K mg base (L2.CX P w) 1 T.a_all_rows T.d_all_rows ["length"] (spF Γ [] m_all_rows) :=
  fn_ok T.F_all_rows sc_all_rows T.hK (by decide) (by decide) (fun _ => rfl) fun cdv A outer s H E hr => by
    have ND := sc_all_rows.nd
    have hu := hr.uok
    have tk := takesF (P := P) (w := w) (K := K) (mg := mg) (base := base) (N := ["length", "found", "turn", "row", "sign"]) (qual := "all_rows") (scope := defScope s_all_rows) (f := T.a_all_rows) (cd := cdv) (A := A) (outer := outer) (s := s) (H := H) (E := E)
    have po := ownsF (P := P) (w := w) (K := K) (mg := mg) (base := base) (N := ["length", "found", "turn", "row", "sign"]) (qual := "all_rows") (scope := defScope s_all_rows) (f := T.a_all_rows) (cd := cdv) (A := A) (outer := outer) (s := s) (H := H) (E := E)
    exact (sb_cons (n_set 1 ND (se_lst ((sa_cons ((se_tup (sa_nil) (by decide))) (sa_nil) (by rfl))) (by decide)) (by decide))
    (sb_cons (ss_for po rfl (si_rng1 (by rfl) T.n_range (sa_cons ((n_E 0)) (sa_nil) (by rfl)) (by rfl)) (n_G 2 ND) (sb_one (ss_setLc2 (own := [("row", 3), ("sign", 4)]) (vs1 := [4]) rfl ND (by rfl) (by rfl) (sw_true rfl rfl rfl (by decide +kernel)) (si_seq (n_E 1)) (blkOk_by (by kernel_rfl)) (by decide) (fun _ _ _ _ _ => (n_G 3 ND)) (fun _ _ _ _ _ => sts_nil) (fun _ _ _ _ _ => (si_seq (se_tup ((sa_cons (se_int) ((sa_cons ((se_un o_neg ((sv_of se_int)))) (sa_nil) (by rfl))) (by rfl))) (by decide)))) (fun _ _ _ _ _ => (n_G 4 ND)) (fun _ _ _ _ _ => sts_nil) (fun _ _ _ _ _ => (se_op o_add ((n_V 3)) ((sv_of (se_tup ((sa_cons ((n_E 4)) (sa_nil) (by rfl))) (by decide)))) (fun _ h => by cases h; decide))) (fun _ => rfl) (fun _ _ => rfl) (by decide) (by decide) (by decide))) (by decide) (fun _ => rfl))
    (sb_one (ss_ret (n_E 1)))))
theorem ok_first_pair (T : Tx K P mg Γ) : FnOk P w K mg base (L2.CX P w) 3 T.a_first_pair T.d_first_pair ["length"] (spF Γ [] m_first_pair) :=
  fn_ok T.F_first_pair sc_first_pair T.hK (by decide) (by decide) (fun _ => rfl) fun cdv A outer s H E hr => by
    have ND := sc_first_pair.nd
    have hu := hr.uok
    have tk := takesF (P := P) (w := w) (K := K) (mg := mg) (base := base) (N := ["length", "rows", "known", "row", "back", "one"]) (qual := "first_pair") (scope := defScope s_first_pair) (f := T.a_first_pair) (cd := cdv) (A := A) (outer := outer) (s := s) (H := H) (E := E)
    have po := ownsF (P := P) (w := w) (K := K) (mg := mg) (base := base) (N := ["length", "rows", "known", "row", "back", "one"]) (qual := "first_pair") (scope := defScope s_first_pair) (f := T.a_first_pair) (cd := cdv) (A := A) (outer := outer) (s := s) (H := H) (E := E)
    exact (sb_cons (ss_if (sc_not (sc_val (se_cal (ok_is_within T) (hr.mono (by decide)) (by rfl) T.g_is_within T.F_is_within.kp T.B_is_within tk (sa_cons ((n_E 0)) ((sa_cons (se_int) ((sa_cons (se_int) (sa_nil) (by rfl))) (by rfl))) (by rfl)) (by decide) (by rfl) (by rfl)) (fun _ => rfl))) (sb_one (ss_raise rfl tk T.fl_NoNumber (by rw [T.ca_NoNumber]; exact pmk_super0 (k := 0) T.Z_NoNumber (hr.mono (by decide)) (by rfl) T.g_NoNumber T.n_super))) sb_nil)
    (sb_cons (ss_if (sc_w (sw_and (sc_cmp o_gt ((n_V 0)) ((sv_of se_int)) (fun _ h => by cases h; decide) (by rfl)) (sw_and1 (sc_cmp (o_eq hu.u64) ((sv_of (se_op o_mod ((n_V 0)) ((sv_of se_int)) (fun _ h => by cases h; decide)))) ((sv_of se_int)) (fun _ h => nomatch h) (by rfl))))) (sb_one (ss_ret se_non)) sb_nil)
    (sb_cons (ss_par (i := 1) (j := 2) rfl ND (by rfl) (by rfl) (by decide) (by rfl) (by rfl) (sa_cons ((se_cal (ok_all_rows T) (hr.mono (by decide)) (by rfl) T.g_all_rows T.F_all_rows.kp T.B_all_rows tk (sa_cons ((n_E 0)) (sa_nil) (by rfl)) (by decide) (by rfl) (by rfl))) ((sa_cons (se_dicT) (sa_nil) (by rfl))) (by rfl)) (by decide) (by decide) (by rfl) (by rfl))
    (sb_cons (ss_for po rfl (si_seq (n_E 1)) (n_G 3 ND) (sb_one (ss_expr (se_meth (m_sdT hu.u8) PySem.F.plainAttrs_dict PySem.F.slot_dict_setdefault PySem.F.type_dict_setdefault (sp_nm (n_P 2)) (sa_cons ((se_callT1 k_tup (by rfl) T.n_tuple (by rfl) ((sv_of (se_slice ((sv_of (se_cal (ok_moved_sums T) (hr.mono (by decide)) (by rfl) T.g_moved_sums T.F_moved_sums.kp T.B_moved_sums tk (sa_cons ((n_E 3)) (sa_nil) (by rfl)) (by decide) (by rfl) (by rfl)))) ((so_some ((sv_of se_int)))) (so_none) (fun _ h => nomatch h)))) (by decide) (by decide) (by rfl) (by rfl))) ((sa_cons ((n_E 3)) (sa_nil) (by rfl))) (by rfl)) (by decide) (by rfl) (by rfl) (by rfl) (by rfl) (by rfl)) (by rfl))) (by decide) (fun _ => rfl))
    (sb_cons (ss_for po rfl (si_seq (n_E 1)) (n_G 3 ND) (sb_cons (n_set 4 ND (se_callT1 k_tup (by rfl) T.n_tuple (by rfl) ((sv_of (se_lc (own := [("one", 5)]) rfl ND (si_seq (se_slice ((sv_of (se_cal (ok_moved_sums T) (hr.mono (by decide)) (by rfl) T.g_moved_sums T.F_moved_sums.kp T.B_moved_sums tk (sa_cons ((n_E 3)) (sa_nil) (by rfl)) (by decide) (by rfl) (by rfl)))) ((so_some ((sv_of se_int)))) (so_none) (fun _ h => nomatch h))) (blkOk_by (by kernel_rfl)) (fun _ _ _ _ _ => (n_G 5 ND)) (fun _ _ _ _ _ => sts_nil) (fun _ _ _ _ _ => (se_un o_neg ((n_V 5)))) (fun _ => rfl) (by decide)))) (by decide) (by decide) (by rfl) (by rfl)) (by decide))
    (sb_one (ss_if (sc_cmp (o_inX hu.u65) ((n_V 4)) ((n_V 2)) (fun _ h => by cases h; decide) (by rfl)) (sb_one (ss_ret (se_tup ((sa_cons ((n_E 3)) ((sa_cons ((se_ix hu.u1 ((n_V 2)) ((n_V 4)) (fun _ h => by cases h; decide) (fun _ _ => rfl))) (sa_nil) (by rfl))) (by rfl))) (by decide)))) sb_nil))) (by decide) (fun _ => rfl))
    (sb_one (ss_ret se_non)))))))
theorem ok_is_ring_pair (T : Tx K P mg Γ) : FnOk P w K mg base (L2.CX P w) 4 T.a_is_ring_pair T.d_is_ring_pair ["one", "other"] (spF Γ [] m_is_ring_pair) :=
  fn_ok T.F_is_ring_pair sc_is_ring_pair T.hK (by decide) (by decide) (fun _ => rfl) fun cdv A outer s H E hr => by
    have ND := sc_is_ring_pair.nd
    have hu := hr.uok
    have tk := takesF (P := P) (w := w) (K := K) (mg := mg) (base := base) (N := ["one", "other", "a", "b"]) (qual := "is_ring_pair") (scope := defScope s_is_ring_pair) (f := T.a_is_ring_pair) (cd := cdv) (A := A) (outer := outer) (s := s) (H := H) (E := E)
    have po := ownsF (P := P) (w := w) (K := K) (mg := mg) (base := base) (N := ["one", "other", "a", "b"]) (qual := "is_ring_pair") (scope := defScope s_is_ring_pair) (f := T.a_is_ring_pair) (cd := cdv) (A := A) (outer := outer) (s := s) (H := H) (E := E)
    exact (sb_cons (ss_if (sc_w (sw_or (sc_not (sc_val (se_cal (ok_is_row T) (hr.mono (by decide)) (by rfl) T.g_is_row T.F_is_row.kp T.B_is_row tk (sa_cons ((n_E 0)) (sa_nil) (by rfl)) (by decide) (by rfl) (by rfl)) (fun _ => rfl))) (sw_or (sc_not (sc_val (se_cal (ok_is_row T) (hr.mono (by decide)) (by rfl) T.g_is_row T.F_is_row.kp T.B_is_row tk (sa_cons ((n_E 1)) (sa_nil) (by rfl)) (by decide) (by rfl) (by rfl)) (fun _ => rfl))) (sw_or1 (sc_cmp (o_ne hu.u64) ((sv_of (se_callB1 k_len (by rfl) T.n_len (by rfl) ((n_V 0)) (by decide) (by decide) (by rfl) (by rfl)))) ((sv_of (se_callB1 k_len (by rfl) T.n_len (by rfl) ((n_V 1)) (by decide) (by decide) (by rfl) (by rfl)))) (fun _ h => nomatch h) (by rfl)))))) (sb_one (ss_ret se_bl)) sb_nil)
    (sb_one (ss_ret (se_callB1 (k_all rfl) (by rfl) T.n_all (by rfl) ((sv_of (se_lc (own := [("a", 2), ("b", 3)]) rfl ND (si_seq (se_slice ((sv_of (se_lz rfl (by rfl) T.n_list (by rfl) T.n_zip (sa_cons ((se_cal (ok_ring_sums_of T) (hr.mono (by decide)) (by rfl) T.g_ring_sums_of T.F_ring_sums_of.kp T.B_ring_sums_of tk (sa_cons ((n_E 0)) (sa_nil) (by rfl)) (by decide) (by rfl) (by rfl))) ((sa_cons ((se_cal (ok_ring_sums_of T) (hr.mono (by decide)) (by rfl) T.g_ring_sums_of T.F_ring_sums_of.kp T.B_ring_sums_of tk (sa_cons ((n_E 1)) (sa_nil) (by rfl)) (by decide) (by rfl) (by rfl))) (sa_nil) (by rfl))) (by rfl)) (by rfl) (by rfl) (by rfl) (by rfl) (by rfl) (by rfl) (by rfl)))) ((so_some ((sv_of se_int)))) (so_none) (fun _ h => nomatch h))) (blkOk_by (by kernel_rfl)) (fun _ _ _ _ _ => (sg_tup rfl (sgs_cons (n_G 2 ND) (sgs_cons (n_G 3 ND) sgs_nil (by rfl)) (by rfl)) (by rfl) (by rfl))) (fun _ _ _ _ _ => sts_nil) (fun _ _ _ _ _ => (se_cmp (o_eq hu.u64) ((sv_of (se_op o_add ((n_V 2)) ((n_V 3)) (fun _ h => by cases h; decide)))) ((sv_of se_int)) (fun _ h => nomatch h) (by rfl))) (fun _ => rfl) (by decide)))) (by decide) (by decide) (by rfl) (by rfl)))))
theorem ok__law_hand (T : Tx K P mg Γ) : FnOk P w K mg base (L2.CX P w) 1 T.a__law_hand T.d__law_hand ["script"] (spF Γ [] m__law_hand) :=
  fn_ok T.F__law_hand sc__law_hand T.hK (by decide) (by decide) (fun _ => rfl) fun cdv A outer s H E hr => by
    have ND := sc__law_hand.nd
    have hu := hr.uok
    have tk := takesF (P := P) (w := w) (K := K) (mg := mg) (base := base) (N := ["script", "cells", "cell"]) (qual := "_law_hand") (scope := defScope s__law_hand) (f := T.a__law_hand) (cd := cdv) (A := A) (outer := outer) (s := s) (H := H) (E := E)
    have po := ownsF (P := P) (w := w) (K := K) (mg := mg) (base := base) (N := ["script", "cells", "cell"]) (qual := "_law_hand") (scope := defScope s__law_hand) (f := T.a__law_hand) (cd := cdv) (A := A) (outer := outer) (s := s) (H := H) (E := E)
    exact (sb_cons (ss_setLc (own := [("cell", 2)]) rfl ND (by rfl) (by rfl) (sw_true rfl rfl rfl (by decide +kernel)) (si_seq (se_slice ((n_V 0)) (so_none) ((so_some ((sv_of se_int)))) (fun _ h => by cases h; decide))) (blkOk_by (by kernel_rfl)) (fun _ _ _ _ _ => (n_G 2 ND)) (fun _ _ _ _ _ => sts_nil) (fun _ _ _ _ _ => (se_op o_mod ((sv_of (se_callT1 k_int (by rfl) T.n_int (by rfl) ((sv_of (se_callB1 k_abs (by rfl) T.n_abs (by rfl) ((sv_of (se_callT1 k_int (by rfl) T.n_int (by rfl) ((n_V 2)) (by decide) (by decide) (by rfl) (by rfl)))) (by decide) (by decide) (by rfl) (by rfl)))) (by decide) (by decide) (by rfl) (by rfl)))) ((sv_of (se_op o_pow ((sv_of se_int)) ((sv_of se_int)) (fun _ h => nomatch h)))) (fun _ h => nomatch h))) (fun _ => rfl) (by decide) (by decide))
    (sb_one (ss_ret (se_lst ((sa_cons ((n_E 1)) ((sa_cons (se_int) ((sa_cons (se_int) ((sa_cons ((se_op o_add ((sv_of se_int)) ((sv_of (se_op o_mul ((sv_of se_int)) ((sv_of (se_callB1 k_len (by rfl) T.n_len (by rfl) ((n_V 1)) (by decide) (by decide) (by rfl) (by rfl)))) (fun _ h => nomatch h)))) (fun _ h => nomatch h))) ((sa_cons (se_int) (sa_nil) (by rfl))) (by rfl))) (by rfl))) (by rfl))) (by rfl))) (by decide)))))
theorem ok__law_draw (T : Tx K P mg Γ) : FnOk P w K mg base (L2.CX P w) 1 T.a__law_draw T.d__law_draw ["hand", "many"] (spF Γ [0] m__law_draw) :=
  fn_ok T.F__law_draw sc__law_draw T.hK (by decide) (by decide) (fun _ => rfl) fun cdv A outer s H E hr => by
    have ND := sc__law_draw.nd
    have hu := hr.uok
    have tk := takesF (P := P) (w := w) (K := K) (mg := mg) (base := base) (N := ["hand", "many", "cell", "digit", "number"]) (qual := "_law_draw") (scope := defScope s__law_draw) (f := T.a__law_draw) (cd := cdv) (A := A) (outer := outer) (s := s) (H := H) (E := E)
    have po := ownsF (P := P) (w := w) (K := K) (mg := mg) (base := base) (N := ["hand", "many", "cell", "digit", "number"]) (qual := "_law_draw") (scope := defScope s__law_draw) (f := T.a__law_draw) (cd := cdv) (A := A) (outer := outer) (s := s) (H := H) (E := E)
    exact (sb_cons (ss_if (sc_w (sw_and (sc_cmp (o_eq hu.u64) ((sv_ix hu.u1 ((n_V 0)) ((sv_of se_int)) (by decide) (fun _ _ => rfl))) ((sv_of se_int)) (fun _ h => by cases h; decide) (by rfl)) (sw_and1 (sc_cmp o_lt ((sv_ix hu.u1 ((n_V 0)) ((sv_of se_int)) (by decide) (fun _ _ => rfl))) ((sv_of (se_callB1 k_len (by rfl) T.n_len (by rfl) ((sv_ix hu.u1 ((n_V 0)) ((sv_of se_int)) (by decide) (fun _ _ => rfl))) (by decide) (by decide) (by rfl) (by rfl)))) (fun _ h => by cases h; decide) (by rfl))))) (sb_cons (n_set 2 ND (se_ix hu.u1 ((sv_ix hu.u1 ((n_V 0)) ((sv_of se_int)) (by decide) (fun _ _ => rfl))) ((sv_ix hu.u1 ((n_V 0)) ((sv_of se_int)) (by decide) (fun _ _ => rfl))) (fun _ h => by cases h; decide) (fun _ _ => rfl)) (by decide))
    (sb_cons (ss_put hu.u1 (se_op o_add ((sv_ix hu.u1 ((n_V 0)) ((sv_of se_int)) (by decide) (fun _ _ => rfl))) ((sv_of se_int)) (fun _ h => by cases h; decide)) (sp_nm (n_P 0)) ((sv_of se_int)) (by decide) (fun _ => rfl) (by rfl) (by rfl) (by rfl))
    (sb_cons (ss_put hu.u1 (se_op o_mod ((sv_of (se_callT1 k_int (by rfl) T.n_int (by rfl) ((sv_of (se_op o_add ((sv_of (se_op o_add ((sv_of (se_op o_mul ((sv_ix hu.u1 ((n_V 0)) ((sv_of se_int)) (by decide) (fun _ _ => rfl))) ((sv_of se_int)) (fun _ h => by cases h; decide)))) ((sv_of (se_op o_mul ((n_V 2)) ((sv_of se_int)) (fun _ h => by cases h; decide)))) (fun _ h => nomatch h)))) ((sv_of se_int)) (fun _ h => nomatch h)))) (by decide) (by decide) (by rfl) (by rfl)))) ((sv_of se_int)) (fun _ h => nomatch h)) (sp_nm (n_P 0)) ((sv_of se_int)) (by decide) (fun _ => rfl) (by rfl) (by rfl) (by rfl))
    (sb_one (ss_if (sc_cmp o_ge ((n_V 2)) ((sv_of (se_op o_pow ((sv_of se_int)) ((sv_of se_int)) (fun _ h => nomatch h)))) (fun _ h => by cases h; decide) (by rfl)) (sb_one (ss_put hu.u1 (n_E 2) (sp_nm (n_P 0)) ((sv_of se_int)) (by decide) (fun _ => rfl) (by rfl) (by rfl) (by rfl))) sb_nil))))) sb_nil)
    (sb_cons (ss_if (sc_cmp o_gt ((sv_ix hu.u1 ((n_V 0)) ((sv_of se_int)) (by decide) (fun _ _ => rfl))) ((sv_of se_int)) (fun _ h => by cases h; decide) (by rfl)) (sb_cons (n_set 3 ND (se_op o_mod ((sv_of (se_callT1 k_int (by rfl) T.n_int (by rfl) ((sv_ix hu.u1 ((n_V 0)) ((sv_of se_int)) (by decide) (fun _ _ => rfl))) (by decide) (by decide) (by rfl) (by rfl)))) ((n_V 1)) (fun _ h => nomatch h)) (by decide))
    (sb_cons (ss_put hu.u1 (se_op o_fdiv ((sv_ix hu.u1 ((n_V 0)) ((sv_of se_int)) (by decide) (fun _ _ => rfl))) ((n_V 1)) (fun _ h => by cases h; decide)) (sp_nm (n_P 0)) ((sv_of se_int)) (by decide) (fun _ => rfl) (by rfl) (by rfl) (by rfl))
    (sb_one (ss_ret (n_E 3))))) sb_nil)
    (sb_cons (ss_put hu.u1 (se_op o_add ((sv_ix hu.u1 ((n_V 0)) ((sv_of se_int)) (by decide) (fun _ _ => rfl))) ((sv_of se_int)) (fun _ h => by cases h; decide)) (sp_nm (n_P 0)) ((sv_of se_int)) (by decide) (fun _ => rfl) (by rfl) (by rfl) (by rfl))
    (sb_cons (n_set 4 ND (se_op o_mod ((sv_of (se_callT1 k_int (by rfl) T.n_int (by rfl) ((sv_of (se_op o_mul ((sv_of (se_callT1 k_int (by rfl) T.n_int (by rfl) ((sv_of (se_op o_add ((sv_ix hu.u1 ((n_V 0)) ((sv_of se_int)) (by decide) (fun _ _ => rfl))) ((sv_of (se_op o_mul ((sv_of se_int)) ((sv_ix hu.u1 ((n_V 0)) ((sv_of se_int)) (by decide) (fun _ _ => rfl))) (fun _ h => nomatch h)))) (fun _ h => by cases h; decide)))) (by decide) (by decide) (by rfl) (by rfl)))) ((sv_of se_int)) (fun _ h => nomatch h)))) (by decide) (by decide) (by rfl) (by rfl)))) ((sv_of se_int)) (fun _ h => nomatch h)) (by decide))
    (sb_cons (n_set 4 ND (se_op o_mod ((sv_of (se_callT1 k_int (by rfl) T.n_int (by rfl) ((sv_of (se_op o_mul ((n_V 4)) ((sv_of (se_op o_add ((sv_of (se_op o_fdiv ((n_V 4)) ((sv_of se_int)) (fun _ h => by cases h; decide)))) ((sv_of se_int)) (fun _ h => nomatch h)))) (fun _ h => by cases h; decide)))) (by decide) (by decide) (by rfl) (by rfl)))) ((sv_of se_int)) (fun _ h => nomatch h)) (by decide))
    (sb_cons (n_set 4 ND (se_op o_mod ((sv_of (se_callT1 k_int (by rfl) T.n_int (by rfl) ((sv_of (se_op o_mul ((n_V 4)) ((sv_of (se_op o_add ((sv_of (se_op o_fdiv ((n_V 4)) ((sv_of se_int)) (fun _ h => by cases h; decide)))) ((sv_of se_int)) (fun _ h => nomatch h)))) (fun _ h => by cases h; decide)))) (by decide) (by decide) (by rfl) (by rfl)))) ((sv_of se_int)) (fun _ h => nomatch h)) (by decide))
    (sb_one (ss_ret (se_op o_mod ((sv_of (se_callT1 k_int (by rfl) T.n_int (by rfl) ((sv_of (se_op o_fdiv ((n_V 4)) ((sv_of se_int)) (fun _ h => by cases h; decide)))) (by decide) (by decide) (by rfl) (by rfl)))) ((n_V 1)) (fun _ h => nomatch h))))))))))
theorem ok__law_any (T : Tx K P mg Γ) : FnOk P w K mg base (L2.CX P w) 2 T.a__law_any T.d__law_any ["hand", "some"] (spF Γ [0] m__law_any) :=
  fn_ok T.F__law_any sc__law_any T.hK (by decide) (by decide) (fun _ => rfl) fun cdv A outer s H E hr => by
    have ND := sc__law_any.nd
    have hu := hr.uok
    have tk := takesF (P := P) (w := w) (K := K) (mg := mg) (base := base) (N := ["hand", "some"]) (qual := "_law_any") (scope := defScope s__law_any) (f := T.a__law_any) (cd := cdv) (A := A) (outer := outer) (s := s) (H := H) (E := E)
    have po := ownsF (P := P) (w := w) (K := K) (mg := mg) (base := base) (N := ["hand", "some"]) (qual := "_law_any") (scope := defScope s__law_any) (f := T.a__law_any) (cd := cdv) (A := A) (outer := outer) (s := s) (H := H) (E := E)
    exact (sb_one (ss_ret (se_ix hu.u1 ((sv_of (n_E 1))) ((sv_of (se_calH (n_P 0) (ok__law_draw T) (hr.mono (by decide)) (by rfl) T.g__law_draw T.F__law_draw.kp T.B__law_draw tk (sa_cons ((se_callB1 k_len (by rfl) T.n_len (by rfl) ((sv_of (n_E 1))) (by decide) (by decide) (by rfl) (by rfl))) (sa_nil) (by rfl)) (by decide) (by rfl) (by rfl)))) (fun _ h => nomatch h) (fun _ _ => rfl))))
theorem ok__law_line (T : Tx K P mg Γ) : FnOk P w K mg base (L2.CX P w) 1 T.a__law_line T.d__law_line ["row", "s"] (spF Γ [] m__law_line) :=
  fn_ok T.F__law_line sc__law_line T.hK (by decide) (by decide) (fun _ => rfl) fun cdv A outer s H E hr => by
    have ND := sc__law_line.nd
    have hu := hr.uok
    have tk := takesF (P := P) (w := w) (K := K) (mg := mg) (base := base) (N := ["row", "s", "k"]) (qual := "_law_line") (scope := defScope s__law_line) (f := T.a__law_line) (cd := cdv) (A := A) (outer := outer) (s := s) (H := H) (E := E)
    have po := ownsF (P := P) (w := w) (K := K) (mg := mg) (base := base) (N := ["row", "s", "k"]) (qual := "_law_line") (scope := defScope s__law_line) (f := T.a__law_line) (cd := cdv) (A := A) (outer := outer) (s := s) (H := H) (E := E)
    exact (sb_one (ss_ret (se_callB1 (k_sum rfl) (by rfl) T.n_sum (by rfl) ((sv_of (se_lc (own := [("k", 2)]) rfl ND (si_rng1 (by rfl) T.n_range (sa_cons ((se_op o_sub ((sv_of (se_callB1 k_len (by rfl) T.n_len (by rfl) ((n_V 0)) (by decide) (by decide) (by rfl) (by rfl)))) ((n_V 1)) (fun _ h => nomatch h))) (sa_nil) (by rfl)) (by rfl)) (blkOk_by (by kernel_rfl)) (fun _ _ _ _ _ => (n_G 2 ND)) (fun _ _ _ _ _ => sts_nil) (fun _ _ _ _ _ => (se_op o_mul ((sv_ix hu.u1 ((n_V 0)) ((n_V 2)) (by decide) (fun _ _ => rfl))) ((sv_ix hu.u1 ((n_V 0)) ((sv_of (se_op o_add ((n_V 2)) ((n_V 1)) (fun _ h => by cases h; decide)))) (by decide) (fun _ _ => rfl))) (fun _ h => by cases h; decide))) (fun _ => rfl) (by decide)))) (by decide) (by decide) (by rfl) (by rfl))))
theorem ok__law_ring (T : Tx K P mg Γ) : FnOk P w K mg base (L2.CX P w) 1 T.a__law_ring T.d__law_ring ["row", "s"] (spF Γ [] m__law_ring) :=
  fn_ok T.F__law_ring sc__law_ring T.hK (by decide) (by decide) (fun _ => rfl) fun cdv A outer s H E hr => by
    have ND := sc__law_ring.nd
    have hu := hr.uok
    have tk := takesF (P := P) (w := w) (K := K) (mg := mg) (base := base) (N := ["row", "s", "k"]) (qual := "_law_ring") (scope := defScope s__law_ring) (f := T.a__law_ring) (cd := cdv) (A := A) (outer := outer) (s := s) (H := H) (E := E)
    have po := ownsF (P := P) (w := w) (K := K) (mg := mg) (base := base) (N := ["row", "s", "k"]) (qual := "_law_ring") (scope := defScope s__law_ring) (f := T.a__law_ring) (cd := cdv) (A := A) (outer := outer) (s := s) (H := H) (E := E)
    exact (sb_one (ss_ret (se_callB1 (k_sum rfl) (by rfl) T.n_sum (by rfl) ((sv_of (se_lc (own := [("k", 2)]) rfl ND (si_rng1 (by rfl) T.n_range (sa_cons ((se_callB1 k_len (by rfl) T.n_len (by rfl) ((n_V 0)) (by decide) (by decide) (by rfl) (by rfl))) (sa_nil) (by rfl)) (by rfl)) (blkOk_by (by kernel_rfl)) (fun _ _ _ _ _ => (n_G 2 ND)) (fun _ _ _ _ _ => sts_nil) (fun _ _ _ _ _ => (se_op o_mul ((sv_ix hu.u1 ((n_V 0)) ((n_V 2)) (by decide) (fun _ _ => rfl))) ((sv_ix hu.u1 ((n_V 0)) ((sv_of (se_op o_mod ((sv_of (se_callT1 k_int (by rfl) T.n_int (by rfl) ((sv_of (se_op o_add ((n_V 2)) ((n_V 1)) (fun _ h => by cases h; decide)))) (by decide) (by decide) (by rfl) (by rfl)))) ((sv_of (se_callB1 k_len (by rfl) T.n_len (by rfl) ((n_V 0)) (by decide) (by decide) (by rfl) (by rfl)))) (fun _ h => nomatch h)))) (by decide) (fun _ _ => rfl))) (fun _ h => by cases h; decide))) (fun _ => rfl) (by decide)))) (by decide) (by decide) (by rfl) (by rfl))))
theorem ok__law_less (T : Tx K P mg Γ) : FnOk P w K mg base (L2.CX P w) 1 T.a__law_less T.d__law_less ["row"] (spF Γ [] m__law_less) :=
  fn_ok T.F__law_less sc__law_less T.hK (by decide) (by decide) (fun _ => rfl) fun cdv A outer s H E hr => by
    have ND := sc__law_less.nd
    have hu := hr.uok
    have tk := takesF (P := P) (w := w) (K := K) (mg := mg) (base := base) (N := ["row", "sign"]) (qual := "_law_less") (scope := defScope s__law_less) (f := T.a__law_less) (cd := cdv) (A := A) (outer := outer) (s := s) (H := H) (E := E)
    have po := ownsF (P := P) (w := w) (K := K) (mg := mg) (base := base) (N := ["row", "sign"]) (qual := "_law_less") (scope := defScope s__law_less) (f := T.a__law_less) (cd := cdv) (A := A) (outer := outer) (s := s) (H := H) (E := E)
    exact (sb_one (ss_ret (se_callT1 k_tup (by rfl) T.n_tuple (by rfl) ((sv_of (se_lc (own := [("sign", 1)]) rfl ND (si_seq (n_E 0)) (blkOk_by (by kernel_rfl)) (fun _ _ _ _ _ => (n_G 1 ND)) (fun _ _ _ _ _ => sts_nil) (fun _ _ _ _ _ => (se_op o_sub ((sv_of se_int)) ((n_V 1)) (fun _ h => nomatch h))) (fun _ => rfl) (by decide)))) (by decide) (by decide) (by rfl) (by rfl))))
theorem ok__law_by_turns (T : Tx K P mg Γ) : FnOk P w K mg base (L2.CX P w) 1 T.a__law_by_turns T.d__law_by_turns ["row"] (spF Γ [] m__law_by_turns) :=
  fn_ok T.F__law_by_turns sc__law_by_turns T.hK (by decide) (by decide) (fun _ => rfl) fun cdv A outer s H E hr => by
    have ND := sc__law_by_turns.nd
    have hu := hr.uok
    have tk := takesF (P := P) (w := w) (K := K) (mg := mg) (base := base) (N := ["row", "k", "sign"]) (qual := "_law_by_turns") (scope := defScope s__law_by_turns) (f := T.a__law_by_turns) (cd := cdv) (A := A) (outer := outer) (s := s) (H := H) (E := E)
    have po := ownsF (P := P) (w := w) (K := K) (mg := mg) (base := base) (N := ["row", "k", "sign"]) (qual := "_law_by_turns") (scope := defScope s__law_by_turns) (f := T.a__law_by_turns) (cd := cdv) (A := A) (outer := outer) (s := s) (H := H) (E := E)
    exact (sb_one (ss_ret (se_callT1 k_tup (by rfl) T.n_tuple (by rfl) ((sv_of (se_lc (own := [("k", 1), ("sign", 2)]) rfl ND (si_enum (by rfl) T.n_enumerate (sa_cons ((n_E 0)) (sa_nil) (by rfl)) (by rfl)) (blkOk_by (by kernel_rfl)) (fun _ _ _ _ _ => (sg_tup rfl (sgs_cons (n_G 1 ND) (sgs_cons (n_G 2 ND) sgs_nil (by rfl)) (by rfl)) (by rfl) (by rfl))) (fun _ _ _ _ _ => sts_nil) (fun _ _ _ _ _ => (se_op o_mul ((n_V 2)) ((sv_of (se_op o_sub ((sv_of se_int)) ((sv_of (se_op o_mul ((sv_of se_int)) ((sv_of (se_op o_mod ((sv_of (se_callT1 k_int (by rfl) T.n_int (by rfl) ((n_V 1)) (by decide) (by decide) (by rfl) (by rfl)))) ((sv_of se_int)) (fun _ h => nomatch h)))) (fun _ h => nomatch h)))) (fun _ h => nomatch h)))) (fun _ h => by cases h; decide))) (fun _ => rfl) (by decide)))) (by decide) (by decide) (by rfl) (by rfl))))
theorem ok__law_doubled (T : Tx K P mg Γ) : FnOk P w K mg base (L2.CX P w) 2 T.a__law_doubled T.d__law_doubled ["one", "other"] (spF Γ [] m__law_doubled) :=
  fn_ok T.F__law_doubled sc__law_doubled T.hK (by decide) (by decide) (fun _ => rfl) fun cdv A outer s H E hr => by
    have ND := sc__law_doubled.nd
    have hu := hr.uok
    have tk := takesF (P := P) (w := w) (K := K) (mg := mg) (base := base) (N := ["one", "other"]) (qual := "_law_doubled") (scope := defScope s__law_doubled) (f := T.a__law_doubled) (cd := cdv) (A := A) (outer := outer) (s := s) (H := H) (E := E)
    have po := ownsF (P := P) (w := w) (K := K) (mg := mg) (base := base) (N := ["one", "other"]) (qual := "_law_doubled") (scope := defScope s__law_doubled) (f := T.a__law_doubled) (cd := cdv) (A := A) (outer := outer) (s := s) (H := H) (E := E)
    exact (sb_one (ss_ret (se_tup ((sa_cons ((se_op o_add ((n_V 0)) ((n_V 1)) (fun _ h => by cases h; decide))) ((sa_cons ((se_op o_add ((n_V 0)) ((sv_of (se_cal (ok__law_less T) (hr.mono (by decide)) (by rfl) T.g__law_less T.F__law_less.kp T.B__law_less tk (sa_cons ((n_E 1)) (sa_nil) (by rfl)) (by decide) (by rfl) (by rfl)))) (fun _ h => by cases h; decide))) (sa_nil) (by rfl))) (by rfl))) (by decide))))
theorem ok__law_woven (T : Tx K P mg Γ) : FnOk P w K mg base (L2.CX P w) 1 T.a__law_woven T.d__law_woven ["one", "other"] (spF Γ [] m__law_woven) :=
  fn_ok T.F__law_woven sc__law_woven T.hK (by decide) (by decide) (fun _ => rfl) fun cdv A outer s H E hr => by
    have ND := sc__law_woven.nd
    have hu := hr.uok
    have tk := takesF (P := P) (w := w) (K := K) (mg := mg) (base := base) (N := ["one", "other", "first", "second", "a", "b"]) (qual := "_law_woven") (scope := defScope s__law_woven) (f := T.a__law_woven) (cd := cdv) (A := A) (outer := outer) (s := s) (H := H) (E := E)
    have po := ownsF (P := P) (w := w) (K := K) (mg := mg) (base := base) (N := ["one", "other", "first", "second", "a", "b"]) (qual := "_law_woven") (scope := defScope s__law_woven) (f := T.a__law_woven) (cd := cdv) (A := A) (outer := outer) (s := s) (H := H) (E := E)
    exact (sb_cons (ss_par (i := 2) (j := 3) rfl ND (by rfl) (by rfl) (by decide) (by rfl) (by rfl) (sa_cons ((se_lst (sa_nil) (by decide))) ((sa_cons ((se_lst (sa_nil) (by decide))) (sa_nil) (by rfl))) (by rfl)) (by decide) (by decide) (by rfl) (by rfl))
    (sb_cons (ss_for po rfl (si_zip (by rfl) T.n_zip (sa_cons ((n_E 0)) ((sa_cons ((n_E 1)) (sa_nil) (by rfl))) (by rfl)) (by rfl) (by rfl)) (sg_tup rfl (sgs_cons (n_G 4 ND) (sgs_cons (n_G 5 ND) sgs_nil (by rfl)) (by rfl)) (by rfl) (by rfl)) (sb_one (ss_par (i := 2) (j := 3) rfl ND (by rfl) (by rfl) (by decide) (by rfl) (by rfl) (sa_cons ((se_op o_add ((n_V 2)) ((sv_of (se_lst ((sa_cons ((n_E 4)) ((sa_cons ((n_E 5)) (sa_nil) (by rfl))) (by rfl))) (by decide)))) (fun _ h => by cases h; decide))) ((sa_cons ((se_op o_add ((n_V 3)) ((sv_of (se_lst ((sa_cons ((n_E 4)) ((sa_cons ((se_op o_sub ((sv_of se_int)) ((n_V 5)) (fun _ h => nomatch h))) (sa_nil) (by rfl))) (by rfl))) (by decide)))) (fun _ h => by cases h; decide))) (sa_nil) (by rfl))) (by rfl)) (by decide) (by decide) (by rfl) (by rfl))) (by decide) (fun _ => rfl))
    (sb_one (ss_ret (se_tup ((sa_cons ((se_callT1 k_tup (by rfl) T.n_tuple (by rfl) ((n_V 2)) (by decide) (by decide) (by rfl) (by rfl))) ((sa_cons ((se_callT1 k_tup (by rfl) T.n_tuple (by rfl) ((n_V 3)) (by decide) (by decide) (by rfl) (by rfl))) (sa_nil) (by rfl))) (by rfl))) (by decide))))))
theorem ok__law_grown (T : Tx K P mg Γ) : FnOk P w K mg base (L2.CX P w) 3 T.a__law_grown T.d__law_grown ["hand"] (spF Γ [0] m__law_grown) :=
  fn_ok T.F__law_grown sc__law_grown T.hK (by decide) (by decide) (fun _ => rfl) fun cdv A outer s H E hr => by
    have ND := sc__law_grown.nd
    have hu := hr.uok
    have tk := takesF (P := P) (w := w) (K := K) (mg := mg) (base := base) (N := ["hand", "ten", "one", "other", "turn", "kind"]) (qual := "_law_grown") (scope := defScope s__law_grown) (f := T.a__law_grown) (cd := cdv) (A := A) (outer := outer) (s := s) (H := H) (E := E)
    have po := ownsF (P := P) (w := w) (K := K) (mg := mg) (base := base) (N := ["hand", "ten", "one", "other", "turn", "kind"]) (qual := "_law_grown") (scope := defScope s__law_grown) (f := T.a__law_grown) (cd := cdv) (A := A) (outer := outer) (s := s) (H := H) (E := E)
    exact (sb_cons (n_set 1 ND (se_tup ((sa_cons ((se_tup ((sa_cons (se_int) ((sa_cons (se_int) ((sa_cons ((se_un o_neg ((sv_of se_int)))) ((sa_cons (se_int) ((sa_cons ((se_un o_neg ((sv_of se_int)))) ((sa_cons (se_int) ((sa_cons ((se_un o_neg ((sv_of se_int)))) ((sa_cons ((se_un o_neg ((sv_of se_int)))) ((sa_cons (se_int) ((sa_cons (se_int) (sa_nil) (by rfl))) (by rfl))) (by rfl))) (by rfl))) (by rfl))) (by rfl))) (by rfl))) (by rfl))) (by rfl))) (by rfl))) (by decide))) ((sa_cons ((se_tup ((sa_cons (se_int) ((sa_cons (se_int) ((sa_cons ((se_un o_neg ((sv_of se_int)))) ((sa_cons (se_int) ((sa_cons (se_int) ((sa_cons (se_int) ((sa_cons (se_int) ((sa_cons (se_int) ((sa_cons ((se_un o_neg ((sv_of se_int)))) ((sa_cons ((se_un o_neg ((sv_of se_int)))) (sa_nil) (by rfl))) (by rfl))) (by rfl))) (by rfl))) (by rfl))) (by rfl))) (by rfl))) (by rfl))) (by rfl))) (by rfl))) (by decide))) (sa_nil) (by rfl))) (by rfl))) (by decide)) (by decide))
    (sb_cons (ss_asg (se_calH (n_P 0) (ok__law_any T) (hr.mono (by decide)) (by rfl) T.g__law_any T.F__law_any.kp T.B__law_any tk (sa_cons ((se_lst ((sa_cons ((se_tup ((sa_cons ((se_tup ((sa_cons (se_int) (sa_nil) (by rfl))) (by decide))) ((sa_cons ((se_tup ((sa_cons (se_int) (sa_nil) (by rfl))) (by decide))) (sa_nil) (by rfl))) (by rfl))) (by decide))) ((sa_cons ((se_tup ((sa_cons ((se_tup ((sa_cons (se_int) (sa_nil) (by rfl))) (by decide))) ((sa_cons ((se_tup ((sa_cons ((se_un o_neg ((sv_of se_int)))) (sa_nil) (by rfl))) (by decide))) (sa_nil) (by rfl))) (by rfl))) (by decide))) ((sa_cons ((se_tup ((sa_cons ((se_tup ((sa_cons (se_int) (sa_nil) (by rfl))) (by decide))) ((sa_cons ((se_tup ((sa_cons (se_int) (sa_nil) (by rfl))) (by decide))) (sa_nil) (by rfl))) (by rfl))) (by decide))) ((sa_cons ((n_E 1)) (sa_nil) (by rfl))) (by rfl))) (by rfl))) (by rfl))) (by decide))) (sa_nil) (by rfl)) (by decide) (by rfl) (by rfl)) (sg_tup rfl (sgs_cons (n_G 2 ND) (sgs_cons (n_G 3 ND) sgs_nil (by rfl)) (by rfl)) (by rfl) (by rfl)) (by decide) (by rfl) (by rfl) (by rfl))
    (sb_cons (ss_for po rfl (si_rng1 (by rfl) T.n_range (sa_cons ((se_calH (n_P 0) (ok__law_draw T) (hr.mono (by decide)) (by rfl) T.g__law_draw T.F__law_draw.kp T.B__law_draw tk (sa_cons ((se_if ((sc_cmp (o_eq hu.u64) ((sv_of (se_callB1 k_len (by rfl) T.n_len (by rfl) ((n_V 2)) (by decide) (by decide) (by rfl) (by rfl)))) ((sv_of se_int)) (fun _ h => nomatch h) (by rfl))) (se_int) (se_int))) (sa_nil) (by rfl)) (by decide) (by rfl) (by rfl))) (sa_nil) (by rfl)) (by rfl)) (n_G 4 ND) (sb_cons (ss_asg (se_if ((sc_cmp (o_eq hu.u64) ((sv_of (se_calH (n_P 0) (ok__law_draw T) (hr.mono (by decide)) (by rfl) T.g__law_draw T.F__law_draw.kp T.B__law_draw tk (sa_cons (se_int) (sa_nil) (by rfl)) (by decide) (by rfl) (by rfl)))) ((sv_of se_int)) (fun _ h => nomatch h) (by rfl))) ((se_cal (ok__law_doubled T) (hr.mono (by decide)) (by rfl) T.g__law_doubled T.F__law_doubled.kp T.B__law_doubled tk (sa_cons ((n_E 2)) ((sa_cons ((n_E 3)) (sa_nil) (by rfl))) (by rfl)) (by decide) (by rfl) (by rfl))) ((se_cal (ok__law_woven T) (hr.mono (by decide)) (by rfl) T.g__law_woven T.F__law_woven.kp T.B__law_woven tk (sa_cons ((n_E 2)) ((sa_cons ((n_E 3)) (sa_nil) (by rfl))) (by rfl)) (by decide) (by rfl) (by rfl)))) (sg_tup rfl (sgs_cons (n_G 2 ND) (sgs_cons (n_G 3 ND) sgs_nil (by rfl)) (by rfl)) (by rfl) (by rfl)) (by decide) (by rfl) (by rfl) (by rfl))
    (sb_cons (n_set 5 ND (se_calH (n_P 0) (ok__law_draw T) (hr.mono (by decide)) (by rfl) T.g__law_draw T.F__law_draw.kp T.B__law_draw tk (sa_cons (se_int) (sa_nil) (by rfl)) (by decide) (by rfl) (by rfl)) (by decide))
    (sb_cons (ss_if (sc_cmp (o_eq hu.u64) ((n_V 5)) ((sv_of se_int)) (fun _ h => by cases h; decide) (by rfl)) (sb_one (ss_par (i := 2) (j := 3) rfl ND (by rfl) (by rfl) (by decide) (by rfl) (by rfl) (sa_cons ((se_rev ((n_V 2)))) ((sa_cons ((n_E 3)) (sa_nil) (by rfl))) (by rfl)) (by decide) (by decide) (by rfl) (by rfl))) sb_nil)
    (sb_cons (ss_if (sc_cmp (o_eq hu.u64) ((n_V 5)) ((sv_of se_int)) (fun _ h => by cases h; decide) (by rfl)) (sb_one (ss_par (i := 2) (j := 3) rfl ND (by rfl) (by rfl) (by decide) (by rfl) (by rfl) (sa_cons ((se_cal (ok__law_less T) (hr.mono (by decide)) (by rfl) T.g__law_less T.F__law_less.kp T.B__law_less tk (sa_cons ((n_E 2)) (sa_nil) (by rfl)) (by decide) (by rfl) (by rfl))) ((sa_cons ((n_E 3)) (sa_nil) (by rfl))) (by rfl)) (by decide) (by decide) (by rfl) (by rfl))) sb_nil)
    (sb_cons (ss_if (sc_cmp (o_eq hu.u64) ((n_V 5)) ((sv_of se_int)) (fun _ h => by cases h; decide) (by rfl)) (sb_one (ss_par (i := 2) (j := 3) rfl ND (by rfl) (by rfl) (by decide) (by rfl) (by rfl) (sa_cons ((n_E 3)) ((sa_cons ((n_E 2)) (sa_nil) (by rfl))) (by rfl)) (by decide) (by decide) (by rfl) (by rfl))) sb_nil)
    (sb_one (ss_if (sc_cmp (o_eq hu.u64) ((n_V 5)) ((sv_of se_int)) (fun _ h => by cases h; decide) (by rfl)) (sb_one (ss_par (i := 2) (j := 3) rfl ND (by rfl) (by rfl) (by decide) (by rfl) (by rfl) (sa_cons ((se_cal (ok__law_by_turns T) (hr.mono (by decide)) (by rfl) T.g__law_by_turns T.F__law_by_turns.kp T.B__law_by_turns tk (sa_cons ((n_E 2)) (sa_nil) (by rfl)) (by decide) (by rfl) (by rfl))) ((sa_cons ((se_cal (ok__law_by_turns T) (hr.mono (by decide)) (by rfl) T.g__law_by_turns T.F__law_by_turns.kp T.B__law_by_turns tk (sa_cons ((n_E 3)) (sa_nil) (by rfl)) (by decide) (by rfl) (by rfl))) (sa_nil) (by rfl))) (by rfl)) (by decide) (by decide) (by rfl) (by rfl))) sb_nil))))))) (by decide) (fun _ => rfl))
    (sb_one (ss_ret (se_tup ((sa_cons ((n_E 2)) ((sa_cons ((n_E 3)) (sa_nil) (by rfl))) (by rfl))) (by decide)))))))
theorem ok__law_is_row (T : Tx K P mg Γ) : FnOk P w K mg base (L2.CX P w) 1 T.a__law_is_row T.d__law_is_row ["thing"] (spF Γ [] m__law_is_row) :=
  fn_ok T.F__law_is_row sc__law_is_row T.hK (by decide) (by decide) (fun _ => rfl) fun cdv A outer s H E hr => by
    have ND := sc__law_is_row.nd
    have hu := hr.uok
    have tk := takesF (P := P) (w := w) (K := K) (mg := mg) (base := base) (N := ["thing", "one"]) (qual := "_law_is_row") (scope := defScope s__law_is_row) (f := T.a__law_is_row) (cd := cdv) (A := A) (outer := outer) (s := s) (H := H) (E := E)
    have po := ownsF (P := P) (w := w) (K := K) (mg := mg) (base := base) (N := ["thing", "one"]) (qual := "_law_is_row") (scope := defScope s__law_is_row) (f := T.a__law_is_row) (cd := cdv) (A := A) (outer := outer) (s := s) (H := H) (E := E)
    exact (sb_cons (ss_if (sc_w (sw_or (sc_not (sc_val (se_isi (by rfl) T.n_isinstance (by rfl) ((n_V 0)) (by decide) (by decide) (pe_ty (by rfl) T.n_tuple (by rfl)) (by rfl) (by rfl) (by rfl)) (fun _ => rfl))) (sw_or1 (sc_not (sc_chain o_le o_le ((sv_of se_int)) ((sv_of (se_callB1 k_len (by rfl) T.n_len (by rfl) ((n_V 0)) (by decide) (by decide) (by rfl) (by rfl)))) ((sv_of se_int)) (fun _ h => nomatch h) (fun _ h => nomatch h) (by rfl)))))) (sb_one (ss_ret se_bl)) sb_nil)
    (sb_one (ss_ret (se_callB1 (k_all rfl) (by rfl) T.n_all (by rfl) ((sv_of (se_lc (own := [("one", 1)]) rfl ND (si_seq (n_E 0)) (blkOk_by (by kernel_rfl)) (fun _ _ _ _ _ => (n_G 1 ND)) (fun _ _ _ _ _ => sts_nil) (fun _ _ _ _ _ => (se_and ((se_isi (by rfl) T.n_isinstance (by rfl) ((n_V 1)) (by decide) (by decide) (pe_ty (by rfl) T.n_int (by rfl)) (by rfl) (by rfl) (by rfl))) ((se_and ((se_not ((sv_of (se_isi (by rfl) T.n_isinstance (by rfl) ((n_V 1)) (by decide) (by decide) (pe_ty (by rfl) T.n_bool (by rfl)) (by rfl) (by rfl) (by rfl)))))) ((se_one (se_cmp (o_in hu.u65) ((n_V 1)) ((sv_of (se_tup ((sa_cons (se_int) ((sa_cons ((se_un o_neg ((sv_of se_int)))) (sa_nil) (by rfl))) (by rfl))) (by decide)))) (fun _ h => by cases h; decide) (by rfl)))))))) (fun _ => rfl) (by decide)))) (by decide) (by decide) (by rfl) (by rfl)))))
theorem ok__law_is_due (T : Tx K P mg Γ) : FnOk P w K mg base (L2.CX P w) 2 T.a__law_is_due T.d__law_is_due ["one", "other", "is_ring"] (spF Γ [] m__law_is_due) :=
  fn_ok T.F__law_is_due sc__law_is_due T.hK (by decide) (by decide) (fun _ => rfl) fun cdv A outer s H E hr => by
    have ND := sc__law_is_due.nd
    have hu := hr.uok
    have tk := takesF (P := P) (w := w) (K := K) (mg := mg) (base := base) (N := ["one", "other", "is_ring", "s"]) (qual := "_law_is_due") (scope := defScope s__law_is_due) (f := T.a__law_is_due) (cd := cdv) (A := A) (outer := outer) (s := s) (H := H) (E := E)
    have po := ownsF (P := P) (w := w) (K := K) (mg := mg) (base := base) (N := ["one", "other", "is_ring", "s"]) (qual := "_law_is_due") (scope := defScope s__law_is_due) (f := T.a__law_is_due) (cd := cdv) (A := A) (outer := outer) (s := s) (H := H) (E := E)
    exact (sb_cons (ss_if (sc_w (sw_or (sc_not (sc_val (se_cal (ok__law_is_row T) (hr.mono (by decide)) (by rfl) T.g__law_is_row T.F__law_is_row.kp T.B__law_is_row tk (sa_cons ((n_E 0)) (sa_nil) (by rfl)) (by decide) (by rfl) (by rfl)) (fun _ => rfl))) (sw_or (sc_not (sc_val (se_cal (ok__law_is_row T) (hr.mono (by decide)) (by rfl) T.g__law_is_row T.F__law_is_row.kp T.B__law_is_row tk (sa_cons ((n_E 1)) (sa_nil) (by rfl)) (by decide) (by rfl) (by rfl)) (fun _ => rfl))) (sw_or1 (sc_cmp (o_ne hu.u64) ((sv_of (se_callB1 k_len (by rfl) T.n_len (by rfl) ((n_V 0)) (by decide) (by decide) (by rfl) (by rfl)))) ((sv_of (se_callB1 k_len (by rfl) T.n_len (by rfl) ((n_V 1)) (by decide) (by decide) (by rfl) (by rfl)))) (fun _ h => nomatch h) (by rfl)))))) (sb_one (ss_ret se_bl)) sb_nil)
    (sb_cons (ss_if (sc_val (n_E 2) (fun _ => rfl)) (sb_one (ss_ret (se_callB1 (k_all rfl) (by rfl) T.n_all (by rfl) ((sv_of (se_lc (own := [("s", 3)]) rfl ND (si_rng2 (by rfl) T.n_range (sa_cons (se_int) ((sa_cons ((se_callB1 k_len (by rfl) T.n_len (by rfl) ((n_V 0)) (by decide) (by decide) (by rfl) (by rfl))) (sa_nil) (by rfl))) (by rfl)) (by rfl) (by rfl)) (blkOk_by (by kernel_rfl)) (fun _ _ _ _ _ => (n_G 3 ND)) (fun _ _ _ _ _ => sts_nil) (fun _ _ _ _ _ => (se_cmp (o_eq hu.u64) ((sv_of (se_op o_add ((sv_of (se_cal (ok__law_ring T) (hr.mono (by decide)) (by rfl) T.g__law_ring T.F__law_ring.kp T.B__law_ring takes0 (sa_cons ((n_E 0)) ((sa_cons ((n_E 3)) (sa_nil) (by rfl))) (by rfl)) (by decide) (by rfl) (by rfl)))) ((sv_of (se_cal (ok__law_ring T) (hr.mono (by decide)) (by rfl) T.g__law_ring T.F__law_ring.kp T.B__law_ring takes0 (sa_cons ((n_E 1)) ((sa_cons ((n_E 3)) (sa_nil) (by rfl))) (by rfl)) (by decide) (by rfl) (by rfl)))) (fun _ h => nomatch h)))) ((sv_of se_int)) (fun _ h => nomatch h) (by rfl))) (fun _ => rfl) (by decide)))) (by decide) (by decide) (by rfl) (by rfl)))) sb_nil)
    (sb_one (ss_ret (se_callB1 (k_all rfl) (by rfl) T.n_all (by rfl) ((sv_of (se_lc (own := [("s", 3)]) rfl ND (si_rng2 (by rfl) T.n_range (sa_cons (se_int) ((sa_cons ((se_callB1 k_len (by rfl) T.n_len (by rfl) ((n_V 0)) (by decide) (by decide) (by rfl) (by rfl))) (sa_nil) (by rfl))) (by rfl)) (by rfl) (by rfl)) (blkOk_by (by kernel_rfl)) (fun _ _ _ _ _ => (n_G 3 ND)) (fun _ _ _ _ _ => sts_nil) (fun _ _ _ _ _ => (se_cmp (o_eq hu.u64) ((sv_of (se_op o_add ((sv_of (se_cal (ok__law_line T) (hr.mono (by decide)) (by rfl) T.g__law_line T.F__law_line.kp T.B__law_line takes0 (sa_cons ((n_E 0)) ((sa_cons ((n_E 3)) (sa_nil) (by rfl))) (by rfl)) (by decide) (by rfl) (by rfl)))) ((sv_of (se_cal (ok__law_line T) (hr.mono (by decide)) (by rfl) T.g__law_line T.F__law_line.kp T.B__law_line takes0 (sa_cons ((n_E 1)) ((sa_cons ((n_E 3)) (sa_nil) (by rfl))) (by rfl)) (by decide) (by rfl) (by rfl)))) (fun _ h => nomatch h)))) ((sv_of se_int)) (fun _ h => nomatch h) (by rfl))) (fun _ => rfl) (by decide)))) (by decide) (by decide) (by rfl) (by rfl))))))
theorem ok__law_bent (T : Tx K P mg Γ) : FnOk P w K mg base (L2.CX P w) 3 T.a__law_bent T.d__law_bent ["hand", "row"] (spF Γ [0] m__law_bent) :=
  fn_ok T.F__law_bent sc__law_bent T.hK (by decide) (by decide) (fun _ => rfl) fun cdv A outer s H E hr => by
    have ND := sc__law_bent.nd
    have hu := hr.uok
    have tk := takesF (P := P) (w := w) (K := K) (mg := mg) (base := base) (N := ["hand", "row", "at", "odd", "some"]) (qual := "_law_bent") (scope := defScope s__law_bent) (f := T.a__law_bent) (cd := cdv) (A := A) (outer := outer) (s := s) (H := H) (E := E)
    have po := ownsF (P := P) (w := w) (K := K) (mg := mg) (base := base) (N := ["hand", "row", "at", "odd", "some"]) (qual := "_law_bent") (scope := defScope s__law_bent) (f := T.a__law_bent) (cd := cdv) (A := A) (outer := outer) (s := s) (H := H) (E := E)
    exact (sb_cons (n_set 2 ND (se_calH (n_P 0) (ok__law_draw T) (hr.mono (by decide)) (by rfl) T.g__law_draw T.F__law_draw.kp T.B__law_draw tk (sa_cons ((se_callB1 k_len (by rfl) T.n_len (by rfl) ((n_V 1)) (by decide) (by decide) (by rfl) (by rfl))) (sa_nil) (by rfl)) (by decide) (by rfl) (by rfl)) (by decide))
    (sb_cons (n_set 3 ND (se_calH (n_P 0) (ok__law_any T) (hr.mono (by decide)) (by rfl) T.g__law_any T.F__law_any.kp T.B__law_any tk (sa_cons ((se_lst ((sa_cons ((se_op o_sub ((sv_of se_int)) ((sv_ix hu.u1 ((n_V 1)) ((n_V 2)) (by decide) (fun _ _ => rfl))) (fun _ h => nomatch h))) ((sa_cons ((se_op o_sub ((sv_of se_int)) ((sv_ix hu.u1 ((n_V 1)) ((n_V 2)) (by decide) (fun _ _ => rfl))) (fun _ h => nomatch h))) ((sa_cons ((se_op o_sub ((sv_of se_int)) ((sv_ix hu.u1 ((n_V 1)) ((n_V 2)) (by decide) (fun _ _ => rfl))) (fun _ h => nomatch h))) ((sa_cons (se_int) ((sa_cons (se_int) ((sa_cons (se_non) ((sa_cons (se_bl) ((sa_cons (se_str) ((sa_cons ((se_tup ((sa_cons (se_int) (sa_nil) (by rfl))) (by decide))) ((sa_cons ((se_lst ((sa_cons (se_int) (sa_nil) (by rfl))) (by decide))) (sa_nil) (by rfl))) (by rfl))) (by rfl))) (by rfl))) (by rfl))) (by rfl))) (by rfl))) (by rfl))) (by rfl))) (by rfl))) (by decide))) (sa_nil) (by rfl)) (by decide) (by rfl) (by rfl)) (by decide))
    (sb_cons (n_set 4 ND (se_op o_add ((sv_of (se_op o_mul ((sv_of (se_lst ((sa_cons ((se_op o_add ((sv_of (se_op o_add ((sv_of (se_slice ((n_V 1)) (so_none) ((so_some ((n_V 2)))) (fun _ h => by cases h; decide)))) ((sv_of (se_tup ((sa_cons ((n_E 3)) (sa_nil) (by rfl))) (by decide)))) (fun _ h => nomatch h)))) ((sv_of (se_slice ((n_V 1)) ((so_some ((sv_of (se_op o_add ((n_V 2)) ((sv_of se_int)) (fun _ h => by cases h; decide)))))) (so_none) (fun _ h => by cases h; decide)))) (fun _ h => nomatch h))) (sa_nil) (by rfl))) (by decide)))) ((sv_of se_int)) (fun _ h => nomatch h)))) ((sv_of (se_frz (se_lst ((sa_cons ((se_slice ((n_V 1)) ((so_some ((sv_of se_int)))) (so_none) (fun _ h => by cases h; decide))) ((sa_cons ((se_op o_add ((n_V 1)) ((sv_of (se_tup ((sa_cons (se_int) (sa_nil) (by rfl))) (by decide)))) (fun _ h => by cases h; decide))) ((sa_cons ((se_rev ((n_V 1)))) ((sa_cons ((se_callT1 k_list (by rfl) T.n_list (by rfl) ((n_V 1)) (by decide) (by decide) (by rfl) (by rfl))) ((sa_cons ((se_tup ((sa_cons ((n_E 1)) (sa_nil) (by rfl))) (by decide))) ((sa_cons (se_non) ((sa_cons (se_int) ((sa_cons (se_dicK) ((sa_cons ((se_tup (sa_nil) (by decide))) (sa_nil) (by rfl))) (by rfl))) (by rfl))) (by rfl))) (by rfl))) (by rfl))) (by rfl))) (by rfl))) (by rfl))) (by decide))))) (fun _ h => nomatch h)) (by decide))
    (sb_one (ss_ret (se_calH (n_P 0) (ok__law_any T) (hr.mono (by decide)) (by rfl) T.g__law_any T.F__law_any.kp T.B__law_any tk (sa_cons ((n_E 4)) (sa_nil) (by rfl)) (by decide) (by rfl) (by rfl)))))))
theorem ok__law_are_judged_right (T : Tx K P mg Γ) : FnG P w K mg base 5 T.a__law_are_judged_right T.d__law_are_judged_right ["hand", "one", "other"] (spF Γ [0] m__law_are_judged_right) :=
  fn_okG T.F__law_are_judged_right sc__law_are_judged_right T.hK (by decide) (by decide) (fun _ => rfl) fun cdv A outer s H E GD hr => by
    have ND := sc__law_are_judged_right.nd
    have hu := hr.uok
    have tk := takesF (P := P) (w := w) (K := K) (mg := mg) (base := base) (N := ["hand", "one", "other", "turn", "first", "second", "before"]) (qual := "_law_are_judged_right") (scope := defScope s__law_are_judged_right) (f := T.a__law_are_judged_right) (cd := cdv) (A := A) (outer := outer) (s := s) (H := H) (E := E)
    have po := ownsF (P := P) (w := w) (K := K) (mg := mg) (base := base) (N := ["hand", "one", "other", "turn", "first", "second", "before"]) (qual := "_law_are_judged_right") (scope := defScope s__law_are_judged_right) (f := T.a__law_are_judged_right) (cd := cdv) (A := A) (outer := outer) (s := s) (H := H) (E := E)
    exact (sb_cons (ss_for po rfl (si_rng1 (by rfl) T.n_range (sa_cons (se_int) (sa_nil) (by rfl)) (by rfl)) (n_G 3 ND) (sb_cons (n_set 4 ND (se_if ((sc_cmp (o_eq hu.u64) ((sv_of (se_calH (n_P 0) (ok__law_draw T) (hr.mono (by decide)) (by rfl) T.g__law_draw T.F__law_draw.kp T.B__law_draw tk (sa_cons (se_int) (sa_nil) (by rfl)) (by decide) (by rfl) (by rfl)))) ((sv_of se_int)) (fun _ h => nomatch h) (by rfl))) ((n_E 1)) ((se_calH (n_P 0) (ok__law_bent T) (hr.mono (by decide)) (by rfl) T.g__law_bent T.F__law_bent.kp T.B__law_bent tk (sa_cons ((n_E 1)) (sa_nil) (by rfl)) (by decide) (by rfl) (by rfl)))) (by decide))
    (sb_cons (n_set 5 ND (se_if ((sc_cmp (o_eq hu.u64) ((sv_of (se_calH (n_P 0) (ok__law_draw T) (hr.mono (by decide)) (by rfl) T.g__law_draw T.F__law_draw.kp T.B__law_draw tk (sa_cons (se_int) (sa_nil) (by rfl)) (by decide) (by rfl) (by rfl)))) ((sv_of se_int)) (fun _ h => nomatch h) (by rfl))) ((n_E 2)) ((se_calH (n_P 0) (ok__law_bent T) (hr.mono (by decide)) (by rfl) T.g__law_bent T.F__law_bent.kp T.B__law_bent tk (sa_cons ((n_E 2)) (sa_nil) (by rfl)) (by decide) (by rfl) (by rfl)))) (by decide))
    (sb_cons (n_set 6 ND (se_callB1 (k_repr GD hu.u65 T.gbS) (by rfl) T.n_repr (by rfl) ((sv_of (se_lst ((sa_cons ((n_E 4)) ((sa_cons ((n_E 5)) (sa_nil) (by rfl))) (by rfl))) (by decide)))) (by decide) (by decide) (by rfl) (by rfl)) (by decide))
    (sb_cons (ss_if (sc_cmp (o_ne hu.u64) ((sv_of (se_cal (ok_is_pair T) (hr.mono (by decide)) (by rfl) T.g_is_pair T.F_is_pair.kp T.B_is_pair tk (sa_cons ((n_E 4)) ((sa_cons ((n_E 5)) (sa_nil) (by rfl))) (by rfl)) (by decide) (by rfl) (by rfl)))) ((sv_of (se_cal (ok__law_is_due T) (hr.mono (by decide)) (by rfl) T.g__law_is_due T.F__law_is_due.kp T.B__law_is_due tk (sa_cons ((n_E 4)) ((sa_cons ((n_E 5)) ((sa_cons (se_bl) (sa_nil) (by rfl))) (by rfl))) (by rfl)) (by decide) (by rfl) (by rfl)))) (fun _ h => nomatch h) (by rfl)) (sb_one (ss_ret se_bl)) sb_nil)
    (sb_cons (ss_if (sc_w (sw_or (sc_cmp (o_ne hu.u64) ((sv_of (se_cal (ok_is_ring_pair T) (hr.mono (by decide)) (by rfl) T.g_is_ring_pair T.F_is_ring_pair.kp T.B_is_ring_pair tk (sa_cons ((n_E 4)) ((sa_cons ((n_E 5)) (sa_nil) (by rfl))) (by rfl)) (by decide) (by rfl) (by rfl)))) ((sv_of (se_cal (ok__law_is_due T) (hr.mono (by decide)) (by rfl) T.g__law_is_due T.F__law_is_due.kp T.B__law_is_due tk (sa_cons ((n_E 4)) ((sa_cons ((n_E 5)) ((sa_cons (se_bl) (sa_nil) (by rfl))) (by rfl))) (by rfl)) (by decide) (by rfl) (by rfl)))) (fun _ h => nomatch h) (by rfl)) (sw_or1 (sc_cmp (o_ne hu.u64) ((sv_of (se_callB1 (k_repr GD hu.u65 T.gbS) (by rfl) T.n_repr (by rfl) ((sv_of (se_lst ((sa_cons ((n_E 4)) ((sa_cons ((n_E 5)) (sa_nil) (by rfl))) (by rfl))) (by decide)))) (by decide) (by decide) (by rfl) (by rfl)))) ((n_V 6)) (fun _ h => nomatch h) (by rfl))))) (sb_one (ss_ret se_bl)) sb_nil)
    (sb_one (ss_if (sc_w (sw_and (sc_val (se_cal (ok_is_pair T) (hr.mono (by decide)) (by rfl) T.g_is_pair T.F_is_pair.kp T.B_is_pair tk (sa_cons ((n_E 4)) ((sa_cons ((n_E 5)) (sa_nil) (by rfl))) (by rfl)) (by decide) (by rfl) (by rfl)) (fun _ => rfl)) (sw_and1 (sc_not (sc_val (se_cal (ok_is_ring_pair T) (hr.mono (by decide)) (by rfl) T.g_is_ring_pair T.F_is_ring_pair.kp T.B_is_ring_pair tk (sa_cons ((n_E 4)) ((sa_cons ((n_E 5)) (sa_nil) (by rfl))) (by rfl)) (by decide) (by rfl) (by rfl)) (fun _ => rfl)))))) (sb_one (ss_ret se_bl)) sb_nil))))))) (by decide) (fun _ => rfl))
    (sb_one (ss_ret se_bl)))
theorem ok__law_are_made_right (T : Tx K P mg Γ) : FnOk P w K mg base (L2.CX P w) 7 T.a__law_are_made_right T.d__law_are_made_right ["one", "other"] (spF Γ [] m__law_are_made_right) :=
  fn_ok T.F__law_are_made_right sc__law_are_made_right T.hK (by decide) (by decide) (fun _ => rfl) fun cdv A outer s H E hr => by
    have ND := sc__law_are_made_right.nd
    have hu := hr.uok
    have tk := takesF (P := P) (w := w) (K := K) (mg := mg) (base := base) (N := ["one", "other", "n", "twice", "woven", "row"]) (qual := "_law_are_made_right") (scope := defScope s__law_are_made_right) (f := T.a__law_are_made_right) (cd := cdv) (A := A) (outer := outer) (s := s) (H := H) (E := E)
    have po := ownsF (P := P) (w := w) (K := K) (mg := mg) (base := base) (N := ["one", "other", "n", "twice", "woven", "row"]) (qual := "_law_are_made_right") (scope := defScope s__law_are_made_right) (f := T.a__law_are_made_right) (cd := cdv) (A := A) (outer := outer) (s := s) (H := H) (E := E)
    exact (sb_cons (n_set 2 ND (se_callB1 k_len (by rfl) T.n_len (by rfl) ((n_V 0)) (by decide) (by decide) (by rfl) (by rfl)) (by decide))
    (sb_cons (ss_if (sc_w (sw_or (sc_cmp o_gt ((n_V 2)) ((sv_of se_int)) (fun _ h => by cases h; decide) (by rfl)) (sw_or1 (sc_not (sc_val (se_cal (ok__law_is_due T) (hr.mono (by decide)) (by rfl) T.g__law_is_due T.F__law_is_due.kp T.B__law_is_due tk (sa_cons ((n_E 0)) ((sa_cons ((n_E 1)) ((sa_cons (se_bl) (sa_nil) (by rfl))) (by rfl))) (by rfl)) (by decide) (by rfl) (by rfl)) (fun _ => rfl)))))) (sb_one (ss_ret se_bl)) sb_nil)
    (sb_cons (ss_par (i := 3) (j := 4) rfl ND (by rfl) (by rfl) (by decide) (by rfl) (by rfl) (sa_cons ((se_cal (ok_doubled_pair T) (hr.mono (by decide)) (by rfl) T.g_doubled_pair T.F_doubled_pair.kp T.B_doubled_pair tk (sa_cons ((n_E 0)) ((sa_cons ((n_E 1)) (sa_nil) (by rfl))) (by rfl)) (by decide) (by rfl) (by rfl))) ((sa_cons ((se_cal (ok_woven_pair T) (hr.mono (by decide)) (by rfl) T.g_woven_pair T.F_woven_pair.kp T.B_woven_pair tk (sa_cons ((n_E 0)) ((sa_cons ((n_E 1)) (sa_nil) (by rfl))) (by rfl)) (by decide) (by rfl) (by rfl))) (sa_nil) (by rfl))) (by rfl)) (by decide) (by decide) (by rfl) (by rfl))
    (sb_cons (ss_if (sc_w (sw_or (sc_cmp (o_ne hu.u64) ((n_V 3)) ((sv_of (se_cal (ok__law_doubled T) (hr.mono (by decide)) (by rfl) T.g__law_doubled T.F__law_doubled.kp T.B__law_doubled tk (sa_cons ((n_E 0)) ((sa_cons ((n_E 1)) (sa_nil) (by rfl))) (by rfl)) (by decide) (by rfl) (by rfl)))) (fun _ h => by cases h; decide) (by rfl)) (sw_or1 (sc_cmp (o_ne hu.u64) ((n_V 4)) ((sv_of (se_cal (ok__law_woven T) (hr.mono (by decide)) (by rfl) T.g__law_woven T.F__law_woven.kp T.B__law_woven tk (sa_cons ((n_E 0)) ((sa_cons ((n_E 1)) (sa_nil) (by rfl))) (by rfl)) (by decide) (by rfl) (by rfl)))) (fun _ h => by cases h; decide) (by rfl))))) (sb_one (ss_ret se_bl)) sb_nil)
    (sb_cons (ss_if (sc_w (sw_or (sc_not (sc_val (se_isi (by rfl) T.n_isinstance (by rfl) ((n_V 3)) (by decide) (by decide) (pe_ty (by rfl) T.n_tuple (by rfl)) (by rfl) (by rfl) (by rfl)) (fun _ => rfl))) (sw_or1 (sc_not (sc_val (se_callB1 (k_all rfl) (by rfl) T.n_all (by rfl) ((sv_of (se_lc (own := [("row", 5)]) rfl ND (si_seq (se_op o_add ((n_V 3)) ((n_V 4)) (fun _ h => by cases h; decide))) (blkOk_by (by kernel_rfl)) (fun _ _ _ _ _ => (n_G 5 ND)) (fun _ _ _ _ _ => sts_nil) (fun _ _ _ _ _ => (se_isi (by rfl) T.n_isinstance (by rfl) ((n_V 5)) (by decide) (by decide) (pe_ty (by rfl) T.n_tuple (by rfl)) (by rfl) (by rfl) (by rfl))) (fun _ => rfl) (by decide)))) (by decide) (by decide) (by rfl) (by rfl)) (fun _ => rfl)))))) (sb_one (ss_ret se_bl)) sb_nil)
    (sb_one (ss_ret (se_and ((se_cmp o_is ((sv_of (se_cal (ok_is_pair T) (hr.mono (by decide)) (by rfl) T.g_is_pair T.F_is_pair.kp T.B_is_pair tk (sa_cons ((se_ix hu.u1 ((n_V 3)) ((sv_of se_int)) (fun _ h => by cases h; decide) (fun _ _ => rfl))) ((sa_cons ((se_ix hu.u1 ((n_V 3)) ((sv_of se_int)) (fun _ h => by cases h; decide) (fun _ _ => rfl))) (sa_nil) (by rfl))) (by rfl)) (by decide) (by rfl) (by rfl)))) ((sv_of se_bl)) (fun _ h => nomatch h) (by rfl))) ((se_one (se_cmp o_is ((sv_of (se_cal (ok_is_pair T) (hr.mono (by decide)) (by rfl) T.g_is_pair T.F_is_pair.kp T.B_is_pair tk (sa_cons ((se_ix hu.u1 ((n_V 4)) ((sv_of se_int)) (fun _ h => by cases h; decide) (fun _ _ => rfl))) ((sa_cons ((se_ix hu.u1 ((n_V 4)) ((sv_of se_int)) (fun _ h => by cases h; decide) (fun _ _ => rfl))) (sa_nil) (by rfl))) (by rfl)) (by decide) (by rfl) (by rfl)))) ((sv_of se_bl)) (fun _ h => nomatch h) (by rfl))))))))))))
theorem ok__law_first_is_none (T : Tx K P mg Γ) : FnOk P w K mg base (L2.CX P w) 2 T.a__law_first_is_none T.d__law_first_is_none ["n"] (spF Γ [] m__law_first_is_none) :=
  fn_ok T.F__law_first_is_none sc__law_first_is_none T.hK (by decide) (by decide) (fun _ => rfl) fun cdv A outer s H E hr => by
    have ND := sc__law_first_is_none.nd
    have hu := hr.uok
    have tk := takesF (P := P) (w := w) (K := K) (mg := mg) (base := base) (N := ["n", "rows", "turn", "longer", "row", "sums", "key", "s", "one"]) (qual := "_law_first_is_none") (scope := defScope s__law_first_is_none) (f := T.a__law_first_is_none) (cd := cdv) (A := A) (outer := outer) (s := s) (H := H) (E := E)
    have po := ownsF (P := P) (w := w) (K := K) (mg := mg) (base := base) (N := ["n", "rows", "turn", "longer", "row", "sums", "key", "s", "one"]) (qual := "_law_first_is_none") (scope := defScope s__law_first_is_none) (f := T.a__law_first_is_none) (cd := cdv) (A := A) (outer := outer) (s := s) (H := H) (E := E)
    exact (sb_cons (n_set 1 ND (se_lst ((sa_cons ((se_tup ((sa_cons (se_int) (sa_nil) (by rfl))) (by decide))) (sa_nil) (by rfl))) (by decide)) (by decide))
    (sb_cons (ss_for po rfl (si_rng1 (by rfl) T.n_range (sa_cons ((se_op o_sub ((n_V 0)) ((sv_of se_int)) (fun _ h => by cases h; decide))) (sa_nil) (by rfl)) (by rfl)) (n_G 2 ND) (sb_cons (n_set 3 ND (se_lst (sa_nil) (by decide)) (by decide))
    (sb_cons (ss_for po rfl (si_seq (n_E 1)) (n_G 4 ND) (sb_one (n_set 3 ND (se_op o_add ((n_V 3)) ((sv_of (se_lst ((sa_cons ((se_op o_add ((n_V 4)) ((sv_of (se_tup ((sa_cons (se_int) (sa_nil) (by rfl))) (by decide)))) (fun _ h => by cases h; decide))) ((sa_cons ((se_op o_add ((n_V 4)) ((sv_of (se_tup ((sa_cons ((se_un o_neg ((sv_of se_int)))) (sa_nil) (by rfl))) (by decide)))) (fun _ h => by cases h; decide))) (sa_nil) (by rfl))) (by rfl))) (by decide)))) (fun _ h => by cases h; decide)) (by decide))) (by decide) (fun _ => rfl))
    (sb_one (n_set 1 ND (n_E 3) (by decide))))) (by decide) (fun _ => rfl))
    (sb_cons (n_set 5 ND (se_lock (se_callT1 (k_dictP rfl hu.u8) (by rfl) T.n_dict (by rfl) ((sv_of (se_lc (own := [("row", 4)]) rfl ND (si_seq (n_E 1)) (blkOk_by (by kernel_rfl)) (fun _ _ _ _ _ => (n_G 4 ND)) (fun _ _ _ _ _ => sts_nil) (fun _ _ _ _ _ => (se_tup ((sa_cons ((se_callT1 k_tup (by rfl) T.n_tuple (by rfl) ((sv_of (se_lc (own := [("s", 7)]) rfl ND (si_rng2 (by rfl) T.n_range (sa_cons (se_int) ((sa_cons ((n_E 0)) (sa_nil) (by rfl))) (by rfl)) (by rfl) (by rfl)) (blkOk_by (by kernel_rfl)) (fun _ _ _ _ _ => (n_G 7 ND)) (fun _ _ _ _ _ => sts_nil) (fun _ _ _ _ _ => (se_cal (ok__law_line T) (hr.mono (by decide)) (by rfl) T.g__law_line T.F__law_line.kp T.B__law_line takes0 (sa_cons ((n_E 4)) ((sa_cons ((n_E 7)) (sa_nil) (by rfl))) (by rfl)) (by decide) (by rfl) (by rfl))) (fun _ => rfl) (by decide)))) (by decide) (by decide) (by rfl) (by rfl))) ((sa_cons (se_bl) (sa_nil) (by rfl))) (by rfl))) (by decide))) (fun _ => rfl) (by decide)))) (by decide) (by decide) (by rfl) (by rfl))) (by decide))
    (sb_one (ss_ret (se_not ((sv_of (se_callB1 (k_any rfl) (by rfl) T.n_any (by rfl) ((sv_of (se_lc (own := [("key", 6)]) rfl ND (si_keys (n_E 5)) (blkOk_by (by kernel_rfl)) (fun _ _ _ _ _ => (n_G 6 ND)) (fun _ _ _ _ _ => sts_nil) (fun _ _ _ _ _ => (se_cmp (o_inX hu.u65) ((sv_of (se_callT1 k_tup (by rfl) T.n_tuple (by rfl) ((sv_of (se_lc (own := [("one", 8)]) rfl ND (si_seq (n_E 6)) (blkOk_by (by kernel_rfl)) (fun _ _ _ _ _ => (n_G 8 ND)) (fun _ _ _ _ _ => sts_nil) (fun _ _ _ _ _ => (se_op o_sub ((sv_of se_int)) ((n_V 8)) (fun _ h => nomatch h))) (fun _ => rfl) (by decide)))) (by decide) (by decide) (by rfl) (by rfl)))) ((n_V 5)) (fun _ h => nomatch h) (by rfl))) (fun _ => rfl) (by decide)))) (by decide) (by decide) (by rfl) (by rfl))))))))))
theorem ok__law_is_first_right (T : Tx K P mg Γ) : FnOk P w K mg base (L2.CX P w) 4 T.a__law_is_first_right T.d__law_is_first_right ["hand"] (spF Γ [0] m__law_is_first_right) :=
  fn_ok T.F__law_is_first_right sc__law_is_first_right T.hK (by decide) (by decide) (fun _ => rfl) fun cdv A outer s H E hr => by
    have ND := sc__law_is_first_right.nd
    have hu := hr.uok
    have tk := takesF (P := P) (w := w) (K := K) (mg := mg) (base := base) (N := ["hand", "n", "told", "one", "other", "near", "squares_here", "k", "a", "b"]) (qual := "_law_is_first_right") (scope := defScope s__law_is_first_right) (f := T.a__law_is_first_right) (cd := cdv) (A := A) (outer := outer) (s := s) (H := H) (E := E)
    have po := ownsF (P := P) (w := w) (K := K) (mg := mg) (base := base) (N := ["hand", "n", "told", "one", "other", "near", "squares_here", "k", "a", "b"]) (qual := "_law_is_first_right") (scope := defScope s__law_is_first_right) (f := T.a__law_is_first_right) (cd := cdv) (A := A) (outer := outer) (s := s) (H := H) (E := E)
    exact (sb_cons (n_set 1 ND (se_op o_add ((sv_of se_int)) ((sv_of (se_calH (n_P 0) (ok__law_draw T) (hr.mono (by decide)) (by rfl) T.g__law_draw T.F__law_draw.kp T.B__law_draw tk (sa_cons (se_int) (sa_nil) (by rfl)) (by decide) (by rfl) (by rfl)))) (fun _ h => nomatch h)) (by decide))
    (sb_cons (n_set 2 ND (se_cal (ok_first_pair T) (hr.mono (by decide)) (by rfl) T.g_first_pair T.F_first_pair.kp T.B_first_pair tk (sa_cons ((n_E 1)) (sa_nil) (by rfl)) (by decide) (by rfl) (by rfl)) (by decide))
    (sb_cons (ss_if (sc_w (sw_or (sc_cmp (o_ne hu.u64) ((sv_of (se_cmp o_is ((n_V 2)) ((sv_of se_non)) (fun _ h => by cases h; decide) (by rfl)))) ((sv_of (se_cmp (o_in hu.u65) ((n_V 1)) ((sv_of (se_tup ((sa_cons (se_int) ((sa_cons (se_int) ((sa_cons (se_int) ((sa_cons (se_int) ((sa_cons (se_int) (sa_nil) (by rfl))) (by rfl))) (by rfl))) (by rfl))) (by rfl))) (by decide)))) (fun _ h => by cases h; decide) (by rfl)))) (fun _ h => nomatch h) (by rfl)) (sw_or1 (sc_w (sw_and (sc_cmp o_lt ((n_V 1)) ((sv_of se_int)) (fun _ h => by cases h; decide) (by rfl)) (sw_and1 (sc_cmp (o_ne hu.u64) ((sv_of (se_cmp o_is ((n_V 2)) ((sv_of se_non)) (fun _ h => by cases h; decide) (by rfl)))) ((sv_of (se_cal (ok__law_first_is_none T) (hr.mono (by decide)) (by rfl) T.g__law_first_is_none T.F__law_first_is_none.kp T.B__law_first_is_none tk (sa_cons ((n_E 1)) (sa_nil) (by rfl)) (by decide) (by rfl) (by rfl)))) (fun _ h => nomatch h) (by rfl)))))))) (sb_one (ss_ret se_bl)) sb_nil)
    (sb_cons (ss_if (sc_cmp o_is ((n_V 2)) ((sv_of se_non)) (fun _ h => by cases h; decide) (by rfl)) (sb_one (ss_ret se_bl)) sb_nil)
    (sb_cons (ss_asg (n_E 2) (sg_tup rfl (sgs_cons (n_G 3 ND) (sgs_cons (n_G 4 ND) sgs_nil (by rfl)) (by rfl)) (by rfl) (by rfl)) (by decide) (by rfl) (by rfl) (by rfl))
    (sb_cons (n_set 5 ND (se_lc (own := [("k", 7)]) rfl ND (si_rng1 (by rfl) T.n_range (sa_cons (se_int) (sa_nil) (by rfl)) (by rfl)) (blkOk_by (by kernel_rfl)) (fun _ _ _ _ _ => (n_G 7 ND)) (fun _ _ _ _ _ => (sts_one (sc_cmp o_le ((sv_of (se_callT1 k_int (by rfl) T.n_int (by rfl) ((sv_of (se_op o_mul ((n_V 7)) ((n_V 7)) (fun _ h => by cases h; decide)))) (by decide) (by decide) (by rfl) (by rfl)))) ((sv_of (se_op o_mul ((sv_of se_int)) ((n_V 1)) (fun _ h => nomatch h)))) (fun _ h => nomatch h) (by rfl)))) (fun _ _ _ _ _ => (n_E 7)) (fun _ => rfl) (by decide)) (by decide))
    (sb_cons (ss_setLc (own := [("a", 8)]) rfl ND (by rfl) (by rfl) (sw_true rfl rfl rfl (by decide +kernel)) (si_seq (n_E 5)) (blkOk_by (by kernel_rfl)) (fun _ _ _ _ _ => (n_G 8 ND)) (fun _ _ _ _ _ => (sts_one (sc_cmp (o_in hu.u65) ((sv_of (se_op o_sub ((sv_of (se_op o_mul ((sv_of se_int)) ((n_V 1)) (fun _ h => nomatch h)))) ((sv_of (se_op o_mul ((n_V 8)) ((n_V 8)) (fun _ h => by cases h; decide)))) (fun _ h => nomatch h)))) ((sv_of (se_lc (own := [("b", 9)]) rfl ND (si_seq (n_E 5)) (blkOk_by (by kernel_rfl)) (fun _ _ _ _ _ => (n_G 9 ND)) (fun _ _ _ _ _ => sts_nil) (fun _ _ _ _ _ => (se_op o_mul ((n_V 9)) ((n_V 9)) (fun _ h => by cases h; decide))) (fun _ => rfl) (by decide)))) (fun _ h => nomatch h) (by rfl)))) (fun _ _ _ _ _ => (se_op o_mul ((n_V 8)) ((n_V 8)) (fun _ h => by cases h; decide))) (fun _ => rfl) (by decide) (by decide))
    (sb_one (ss_ret (se_and ((se_cmp (o_eq hu.u64) ((sv_of (se_callB1 k_len (by rfl) T.n_len (by rfl) ((n_V 3)) (by decide) (by decide) (by rfl) (by rfl)))) ((n_V 1)) (fun _ h => nomatch h) (by rfl))) ((se_and ((se_cal (ok__law_is_due T) (hr.mono (by decide)) (by rfl) T.g__law_is_due T.F__law_is_due.kp T.B__law_is_due tk (sa_cons ((n_E 3)) ((sa_cons ((n_E 4)) ((sa_cons (se_bl) (sa_nil) (by rfl))) (by rfl))) (by rfl)) (by decide) (by rfl) (by rfl))) ((se_one (se_cmp o_gt ((sv_of (se_callB1 k_len (by rfl) T.n_len (by rfl) ((n_V 6)) (by decide) (by decide) (by rfl) (by rfl)))) ((sv_of se_int)) (fun _ h => nomatch h) (by rfl))))))))))))))))
theorem hdo__law_word : ∀ f act, endsF (gw__law_word f act (argD 3 [.rf f])) = go__law_word act := fun f act => by
  cases act <;> simp [gw__law_word, go__law_word, sTryA, argD, sSeq, sNil, sPass, sBreak, sCont, sExpr, sRet, sRetN, sSet, dput, sIf, sAsg, sPar, gSet, gTup', gCons', gNil', aNil, aCons, eTup, eLst, eC, eNm, eLk, ev1, ev2, eIf, eAnd, eOr, eChain, cVal, cAnd, cOr, cNot, eSl, oNone, oSome, eRm, lft, SOut.unset, endsF]
theorem hind__law_word : ∀ (a : Addr) (c : Nat), csB c = some true → (gh__law_word a c ((List.replicate 3 none).set 1 (some (.rf a)))).unset 1 = (gh__law_word 0 c ((List.replicate 3 none).set 1 (some (.rf 0)))).unset 1 := by
  intro a c hc
  rcases csB_mem hc with rfl | rfl <;> simp [gh__law_word, eIsF, kB_NoSequence, kB_NoNumber, kB_ValueError, sSeq, sNil, sPass, sBreak, sCont, sExpr, sRet, sRetN, sSet, dput, sIf, sAsg, sPar, gSet, gTup', gCons', gNil', aNil, aCons, eTup, eLst, eC, eNm, eLk, ev1, ev2, eIf, eAnd, eOr, eChain, cVal, cAnd, cOr, cNot, eSl, oNone, oSome, eRm, lft, SOut.unset, endsF, dCount, D.fls, D.fl1, dIx, dIxA, nOwn, D.own, tyR, List.countP_cons, List.countP_nil, eqV, eqU, dNe, dEq, D.eqOk, D.eqb, atI, ixN]
theorem gv__law_word {X : Cx} {Γ : Gm} (T : Tx X.K X.prog X.mg Γ) {g : Addr} {cdg : Value} {q : Str} {k : Nat} (hrX : Room k X.A) (hK : X.K = Γ.K) : LamX.GivesTo X ["call", "fault", "flags"] "_law_word" (defScope s__law_word) g cdg (defBody s__law_word) "call" q (TTpv Γ go__law_word) :=
  gives_pv (gw := gw__law_word) (by decide) hdo__law_word hK fun f c' s H fb Wb σm slc gr tl hsub hcode C htl act => by
    have ND := sc__law_word.nd
    have hu := hrX.uokd (envOfC "_law_word" (defScope s__law_word) s.heap.objs.size g cdg)
    exact sb_cons (try_core (k := false) (n := 3) (i := 1) (cs := csB) (gh := gh__law_word) (x := "BlockError") (cv := .ref T.k_BlockError) rfl rfl ND rfl rfl ⟨by rfl, by decide, .inl T.g_BlockError⟩ takes0 rfl (fun c hc => ⟨T.ex_m c hc, T.ex_fl c hc⟩) hsub hcode C htl (fun W pn xe tk => (tryE (fun E hW => act W pn xe E _ _ tk hW) (by rfl))) (fun a oe c pn hc hz hf => (sb_cons (n_set 2 ND (se_lst ((sa_cons ((se_isF (cv := .ref T.k_NoSequence) (T.ex_ok c hc) hz hf (by rfl) T.n_isinstance (by rfl) (by decide) (by decide) (n_P 1) (pe_glob (v := .ref T.k_NoSequence) (by rfl) T.g_NoSequence rfl) (fun _ h => h) (T.kit_NoSequence c hc) (by rfl) (by rfl) (by rfl))) ((sa_cons ((se_isF (cv := .ref T.k_NoNumber) (T.ex_ok c hc) hz hf (by rfl) T.n_isinstance (by rfl) (by decide) (by decide) (n_P 1) (pe_glob (v := .ref T.k_NoNumber) (by rfl) T.g_NoNumber rfl) (fun _ h => h) (T.kit_NoNumber c hc) (by rfl) (by rfl) (by rfl))) (sa_nil) (by rfl))) (by rfl))) (by decide)) (by decide))
    (sb_cons (ss_if (sc_w (sw_or (sc_cmp (o_ne hu.u64) ((sv_of (se_rm r_count PySem.F.plainAttrs_list PySem.F.slot_list_count PySem.F.type_list_count ((n_V 2)) ((sv_of se_bl)) (fun _ h => by cases h; decide) (by rfl) (by rfl) (by rfl) (by rfl) (by rfl)))) ((sv_of se_int)) (fun _ h => nomatch h) (by rfl)) (sw_or1 (sc_not (sc_val (se_isF (cv := .type "ValueError") (T.ex_ok c hc) hz hf (by rfl) T.n_isinstance (by rfl) (by decide) (by decide) (n_P 1) (pe_ty (by rfl) T.n_ValueError (by rfl)) (fun _ h => h) (T.kit_ValueError c hc) (by rfl) (by rfl) (by rfl)) (fun _ => rfl)))))) (sb_one (ss_ret se_str)) sb_nil)
    (sb_one (ss_ret (se_if ((sc_val (se_ix hu.u1 ((n_V 2)) ((sv_of se_int)) (fun _ h => by cases h; decide) (fun _ _ => rfl)) (fun _ => rfl))) (se_str) (se_str))))))) hind__law_word) (sb_one (ss_ret se_str))
theorem ok__law_two (T : Tx K P mg Γ) (TB : TxB T base) : FnOk P w K mg base (L2.CX P w) 9 T.a__law_two T.d__law_two ["ask", "one", "other"] (spF Γ [] m__law_two) :=
  fn_okC T.FC__law_two sc__law_two T.hK (by decide) (by decide) (fun _ => rfl) fun A outer s H E hr => by
    let cdv : Value := .ref T.c__law_two
    obtain ⟨oc__law_word, od__law_word, kV__law_word, doc__law_word, pm__law_word, an__law_word, cdv__law_word, ct__law_word, osl__law_word, efd__law_word, lk__law_word, hcg__law_word⟩ := T.F__law_word.ex
    have bW__law_word := T.B__law_word
    rw [efd__law_word] at lk__law_word bW__law_word
    have ND := sc__law_two.nd
    have hu := hr.uok
    have tk := takesF (P := P) (w := w) (K := K) (mg := mg) (base := base) (N := ["ask", "one", "other"]) (qual := "_law_two") (scope := defScope s__law_two) (f := T.a__law_two) (cd := .ref T.c__law_two) (A := A) (outer := outer) (s := s) (H := H) (E := E)
    have po := ownsF (P := P) (w := w) (K := K) (mg := mg) (base := base) (N := ["ask", "one", "other"]) (qual := "_law_two") (scope := defScope s__law_two) (f := T.a__law_two) (cd := .ref T.c__law_two) (A := A) (outer := outer) (s := s) (H := H) (E := E)
    exact (sb_one (ss_ret (se_lam (cs := [0, 1, 2]) (gout := go__law_word) (k := 6) (by rfl) T.g__law_word T.F__law_word.kp lk__law_word hcg__law_word bW__law_word sc__law_word (by rfl) (by first | exact Or.inl rfl | exact Or.inr (Or.inl rfl)) (fun hK => gv__law_word T hr hK) TB.tb__law_two rfl T.tbm__law_two T.tbu__law_two (hr.mono (by decide)) (LamX.lamS_by (by kernel_rfl)) (by rfl) (fun _ _ _ _ _ => by rfl) (fun A outer s H E f c hr => have hu := hr.uok; (se_calV (k := 6) (ks := [8, 9]) (ms := FM) (fat_8_9 T) (hr.mono (by decide)) (by rfl) (by first | exact Or.inl rfl | exact Or.inr (Or.inl rfl) | exact Or.inr (Or.inr rfl)) takes_lam (sa_cons ((n_E 1)) ((sa_cons ((n_E 2)) (sa_nil) (by rfl))) (by rfl)) (by decide) (by decide) (by rfl) (by rfl))))))
theorem ok__law_are_refused (T : Tx K P mg Γ) (TB : TxB T base) : FnOk P w K mg base (L2.CX P w) 12 T.a__law_are_refused T.d__law_are_refused ["hand"] (spF Γ [0] m__law_are_refused) :=
  fn_okC T.FC__law_are_refused sc__law_are_refused T.hK (by decide) (by decide) (fun _ => rfl) fun A outer s H E hr => by
    let cdv : Value := .ref T.c__law_are_refused
    obtain ⟨oc__law_word, od__law_word, kV__law_word, doc__law_word, pm__law_word, an__law_word, cdv__law_word, ct__law_word, osl__law_word, efd__law_word, lk__law_word, hcg__law_word⟩ := T.F__law_word.ex
    have bW__law_word := T.B__law_word
    rw [efd__law_word] at lk__law_word bW__law_word
    have ND := sc__law_are_refused.nd
    have hu := hr.uok
    have tk := takesF (P := P) (w := w) (K := K) (mg := mg) (base := base) (N := ["hand", "bad", "length", "one", "other", "turn", "ask", "words"]) (qual := "_law_are_refused") (scope := defScope s__law_are_refused) (f := T.a__law_are_refused) (cd := .ref T.c__law_are_refused) (A := A) (outer := outer) (s := s) (H := H) (E := E)
    have po := ownsF (P := P) (w := w) (K := K) (mg := mg) (base := base) (N := ["hand", "bad", "length", "one", "other", "turn", "ask", "words"]) (qual := "_law_are_refused") (scope := defScope s__law_are_refused) (f := T.a__law_are_refused) (cd := .ref T.c__law_are_refused) (A := A) (outer := outer) (s := s) (H := H) (E := E)
    exact (sb_cons (n_set 1 ND (se_calH (n_P 0) (ok__law_any T) (hr.mono (by decide)) (by rfl) T.g__law_any T.F__law_any.kp T.B__law_any tk (sa_cons ((se_lst ((sa_cons (se_non) ((sa_cons (se_int) ((sa_cons ((se_lst ((sa_cons (se_int) (sa_nil) (by rfl))) (by decide))) ((sa_cons ((se_tup (sa_nil) (by decide))) ((sa_cons ((se_tup ((sa_cons (se_int) ((sa_cons (se_int) (sa_nil) (by rfl))) (by rfl))) (by decide))) ((sa_cons ((se_tup ((sa_cons (se_int) ((sa_cons (se_bl) (sa_nil) (by rfl))) (by rfl))) (by decide))) ((sa_cons ((se_tup ((sa_cons (se_int) (sa_nil) (by rfl))) (by decide))) ((sa_cons (se_str) ((sa_cons (se_dicK) ((sa_cons ((se_op o_mul ((sv_of (se_tup ((sa_cons (se_int) (sa_nil) (by rfl))) (by decide)))) ((sv_of se_int)) (fun _ h => nomatch h))) (sa_nil) (by rfl))) (by rfl))) (by rfl))) (by rfl))) (by rfl))) (by rfl))) (by rfl))) (by rfl))) (by rfl))) (by rfl))) (by decide))) (sa_nil) (by rfl)) (by decide) (by rfl) (by rfl)) (by decide))
    (sb_cons (n_set 2 ND (se_calH (n_P 0) (ok__law_any T) (hr.mono (by decide)) (by rfl) T.g__law_any T.F__law_any.kp T.B__law_any tk (sa_cons ((se_lst ((sa_cons (se_int) ((sa_cons (se_int) ((sa_cons ((se_un o_neg ((sv_of se_int)))) ((sa_cons (se_non) ((sa_cons (se_bl) ((sa_cons (se_str) ((sa_cons ((se_tup ((sa_cons (se_int) (sa_nil) (by rfl))) (by decide))) ((sa_cons ((se_lst ((sa_cons (se_int) (sa_nil) (by rfl))) (by decide))) ((sa_cons (se_dicK) (sa_nil) (by rfl))) (by rfl))) (by rfl))) (by rfl))) (by rfl))) (by rfl))) (by rfl))) (by rfl))) (by rfl))) (by decide))) (sa_nil) (by rfl)) (by decide) (by rfl) (by rfl)) (by decide))
    (sb_cons (ss_asg (se_tup ((sa_cons ((se_tup ((sa_cons (se_int) ((sa_cons (se_int) ((sa_cons ((se_un o_neg ((sv_of se_int)))) ((sa_cons (se_int) ((sa_cons ((se_un o_neg ((sv_of se_int)))) ((sa_cons (se_int) ((sa_cons ((se_un o_neg ((sv_of se_int)))) ((sa_cons ((se_un o_neg ((sv_of se_int)))) ((sa_cons (se_int) ((sa_cons (se_int) (sa_nil) (by rfl))) (by rfl))) (by rfl))) (by rfl))) (by rfl))) (by rfl))) (by rfl))) (by rfl))) (by rfl))) (by rfl))) (by decide))) ((sa_cons ((se_tup ((sa_cons (se_int) ((sa_cons (se_int) ((sa_cons ((se_un o_neg ((sv_of se_int)))) ((sa_cons (se_int) ((sa_cons (se_int) ((sa_cons (se_int) ((sa_cons (se_int) ((sa_cons (se_int) ((sa_cons ((se_un o_neg ((sv_of se_int)))) ((sa_cons ((se_un o_neg ((sv_of se_int)))) (sa_nil) (by rfl))) (by rfl))) (by rfl))) (by rfl))) (by rfl))) (by rfl))) (by rfl))) (by rfl))) (by rfl))) (by rfl))) (by decide))) (sa_nil) (by rfl))) (by rfl))) (by decide)) (sg_tup rfl (sgs_cons (n_G 3 ND) (sgs_cons (n_G 4 ND) sgs_nil (by rfl)) (by rfl)) (by rfl) (by rfl)) (by decide) (by rfl) (by rfl) (by rfl))
    (sb_cons (ss_for po rfl (si_rng1 (by rfl) T.n_range (sa_cons (se_int) (sa_nil) (by rfl)) (by rfl)) (n_G 5 ND) (sb_one (ss_asg (se_if ((sc_cmp (o_eq hu.u64) ((sv_of (se_calH (n_P 0) (ok__law_draw T) (hr.mono (by decide)) (by rfl) T.g__law_draw T.F__law_draw.kp T.B__law_draw tk (sa_cons (se_int) (sa_nil) (by rfl)) (by decide) (by rfl) (by rfl)))) ((sv_of se_int)) (fun _ h => nomatch h) (by rfl))) ((se_cal (ok__law_doubled T) (hr.mono (by decide)) (by rfl) T.g__law_doubled T.F__law_doubled.kp T.B__law_doubled tk (sa_cons ((n_E 3)) ((sa_cons ((n_E 4)) (sa_nil) (by rfl))) (by rfl)) (by decide) (by rfl) (by rfl))) ((se_cal (ok__law_woven T) (hr.mono (by decide)) (by rfl) T.g__law_woven T.F__law_woven.kp T.B__law_woven tk (sa_cons ((n_E 3)) ((sa_cons ((n_E 4)) (sa_nil) (by rfl))) (by rfl)) (by decide) (by rfl) (by rfl)))) (sg_tup rfl (sgs_cons (n_G 3 ND) (sgs_cons (n_G 4 ND) sgs_nil (by rfl)) (by rfl)) (by rfl) (by rfl)) (by decide) (by rfl) (by rfl) (by rfl))) (by decide) (fun _ => rfl))
    (sb_cons (ss_for po rfl (si_seq (se_tup ((sa_cons ((se_glob (v := .ref T.a_doubled_pair) (by rfl) T.g_doubled_pair rfl (fun _ => congrArg V.ref T.fa_doubled_pair.symm) (by decide))) ((sa_cons ((se_glob (v := .ref T.a_woven_pair) (by rfl) T.g_woven_pair rfl (fun _ => congrArg V.ref T.fa_woven_pair.symm) (by decide))) (sa_nil) (by rfl))) (by rfl))) (by decide))) (n_G 6 ND) (sb_cons (n_set 7 ND (se_lst ((sa_cons ((se_cal (ok__law_two T TB) (hr.mono (by decide)) (by rfl) T.g__law_two T.F__law_two.kp T.B__law_two tk (sa_cons ((n_E 6)) ((sa_cons ((n_E 1)) ((sa_cons ((se_tup ((sa_cons (se_int) (sa_nil) (by rfl))) (by decide))) (sa_nil) (by rfl))) (by rfl))) (by rfl)) (by decide) (by rfl) (by rfl))) ((sa_cons ((se_cal (ok__law_two T TB) (hr.mono (by decide)) (by rfl) T.g__law_two T.F__law_two.kp T.B__law_two tk (sa_cons ((n_E 6)) ((sa_cons ((se_tup ((sa_cons (se_int) (sa_nil) (by rfl))) (by decide))) ((sa_cons ((n_E 1)) (sa_nil) (by rfl))) (by rfl))) (by rfl)) (by decide) (by rfl) (by rfl))) ((sa_cons ((se_cal (ok__law_two T TB) (hr.mono (by decide)) (by rfl) T.g__law_two T.F__law_two.kp T.B__law_two tk (sa_cons ((n_E 6)) ((sa_cons ((n_E 3)) ((sa_cons ((n_E 4)) (sa_nil) (by rfl))) (by rfl))) (by rfl)) (by decide) (by rfl) (by rfl))) (sa_nil) (by rfl))) (by rfl))) (by rfl))) (by decide)) (by decide))
    (sb_one (ss_if (sc_cmp (o_ne hu.u64) ((n_V 7)) ((sv_of (se_lst ((sa_cons (se_str) ((sa_cons (se_str) ((sa_cons (se_str) (sa_nil) (by rfl))) (by rfl))) (by rfl))) (by decide)))) (fun _ h => by cases h; decide) (by rfl)) (sb_one (ss_ret se_bl)) sb_nil))) (by decide) (fun _ => rfl))
    (sb_one (ss_ret (se_cmp (o_eq hu.u64) ((sv_of (se_lam (cs := [2]) (gout := go__law_word) (k := 3) (by rfl) T.g__law_word T.F__law_word.kp lk__law_word hcg__law_word bW__law_word sc__law_word (by rfl) (by first | exact Or.inl rfl | exact Or.inr (Or.inl rfl)) (fun hK => gv__law_word T hr hK) TB.tb__law_are_refused rfl T.tbm__law_are_refused T.tbu__law_are_refused (hr.mono (by decide)) (LamX.lamS_by (by kernel_rfl)) (by rfl) (fun _ _ _ _ _ => by rfl) (fun A outer s H E f c hr => have hu := hr.uok; (se_cal (ok_first_pair T) (hr.mono (by decide)) (by rfl) T.g_first_pair T.F_first_pair.kp T.B_first_pair takes_lam (sa_cons ((n_E 2)) (sa_nil) (by rfl)) (by decide) (by rfl) (by rfl)))))) ((sv_of se_str)) (fun _ h => nomatch h) (by rfl)))))))))
theorem ok_law (T : Tx K P mg Γ) (TB : TxB T base) : FnG P w K mg base 13 T.a_law T.d_law ["script"] (spF Γ [] m_law) :=
  fn_okG T.F_law sc_law T.hK (by decide) (by decide) (fun _ => rfl) fun cdv A outer s H E GD hr => by
    have ND := sc_law.nd
    have hu := hr.uok
    have tk := takesF (P := P) (w := w) (K := K) (mg := mg) (base := base) (N := ["script", "hand", "turn", "one", "other", "n", "two", "row", "k"]) (qual := "law") (scope := defScope s_law) (f := T.a_law) (cd := cdv) (A := A) (outer := outer) (s := s) (H := H) (E := E)
    have po := ownsF (P := P) (w := w) (K := K) (mg := mg) (base := base) (N := ["script", "hand", "turn", "one", "other", "n", "two", "row", "k"]) (qual := "law") (scope := defScope s_law) (f := T.a_law) (cd := cdv) (A := A) (outer := outer) (s := s) (H := H) (E := E)
    exact (sb_cons (n_set 1 ND (se_cal (ok__law_hand T) (hr.mono (by decide)) (by rfl) T.g__law_hand T.F__law_hand.kp T.B__law_hand tk (sa_cons ((n_E 0)) (sa_nil) (by rfl)) (by decide) (by rfl) (by rfl)) (by decide))
    (sb_cons (ss_if (sc_w (sw_or (sc_cmp (o_ne hu.u64) ((sv_of (se_cal (ok_doubled_pair T) (hr.mono (by decide)) (by rfl) T.g_doubled_pair T.F_doubled_pair.kp T.B_doubled_pair tk (sa_cons ((se_tup ((sa_cons (se_int) (sa_nil) (by rfl))) (by decide))) ((sa_cons ((se_tup ((sa_cons (se_int) (sa_nil) (by rfl))) (by decide))) (sa_nil) (by rfl))) (by rfl)) (by decide) (by rfl) (by rfl)))) ((sv_of (se_tup ((sa_cons ((se_tup ((sa_cons (se_int) ((sa_cons (se_int) (sa_nil) (by rfl))) (by rfl))) (by decide))) ((sa_cons ((se_tup ((sa_cons (se_int) ((sa_cons ((se_un o_neg ((sv_of se_int)))) (sa_nil) (by rfl))) (by rfl))) (by decide))) (sa_nil) (by rfl))) (by rfl))) (by decide)))) (fun _ h => nomatch h) (by rfl)) (sw_or1 (sc_cmp (o_ne hu.u64) ((sv_of (se_cal (ok_woven_pair T) (hr.mono (by decide)) (by rfl) T.g_woven_pair T.F_woven_pair.kp T.B_woven_pair tk (sa_cons ((se_tup ((sa_cons (se_int) ((sa_cons (se_int) (sa_nil) (by rfl))) (by rfl))) (by decide))) ((sa_cons ((se_tup ((sa_cons (se_int) ((sa_cons ((se_un o_neg ((sv_of se_int)))) (sa_nil) (by rfl))) (by rfl))) (by decide))) (sa_nil) (by rfl))) (by rfl)) (by decide) (by rfl) (by rfl)))) ((sv_of (se_tup ((sa_cons ((se_tup ((sa_cons (se_int) ((sa_cons (se_int) ((sa_cons (se_int) ((sa_cons ((se_un o_neg ((sv_of se_int)))) (sa_nil) (by rfl))) (by rfl))) (by rfl))) (by rfl))) (by decide))) ((sa_cons ((se_tup ((sa_cons (se_int) ((sa_cons ((se_un o_neg ((sv_of se_int)))) ((sa_cons (se_int) ((sa_cons (se_int) (sa_nil) (by rfl))) (by rfl))) (by rfl))) (by rfl))) (by decide))) (sa_nil) (by rfl))) (by rfl))) (by decide)))) (fun _ h => nomatch h) (by rfl))))) (sb_one (ss_ret se_bl)) sb_nil)
    (sb_cons (ss_if (sc_w (sw_or (sc_cmp o_isN ((sv_of (se_cal (ok_is_pair T) (hr.mono (by decide)) (by rfl) T.g_is_pair T.F_is_pair.kp T.B_is_pair tk (sa_cons ((se_tup ((sa_cons (se_int) ((sa_cons (se_int) (sa_nil) (by rfl))) (by rfl))) (by decide))) ((sa_cons ((se_tup ((sa_cons (se_int) ((sa_cons (se_int) (sa_nil) (by rfl))) (by rfl))) (by decide))) (sa_nil) (by rfl))) (by rfl)) (by decide) (by rfl) (by rfl)))) ((sv_of se_bl)) (fun _ h => nomatch h) (by rfl)) (sw_or1 (sc_cmp o_isN ((sv_of (se_cal (ok_is_pair T) (hr.mono (by decide)) (by rfl) T.g_is_pair T.F_is_pair.kp T.B_is_pair tk (sa_cons ((se_tup ((sa_cons (se_int) (sa_nil) (by rfl))) (by decide))) ((sa_cons ((se_tup ((sa_cons ((se_un o_neg ((sv_of se_int)))) (sa_nil) (by rfl))) (by decide))) (sa_nil) (by rfl))) (by rfl)) (by decide) (by rfl) (by rfl)))) ((sv_of se_bl)) (fun _ h => nomatch h) (by rfl))))) (sb_one (ss_ret se_bl)) sb_nil)
    (sb_cons (ss_if (sc_cmp o_isN ((sv_of (se_cal (ok_is_ring_pair T) (hr.mono (by decide)) (by rfl) T.g_is_ring_pair T.F_is_ring_pair.kp T.B_is_ring_pair tk (sa_cons ((se_tup ((sa_cons (se_int) ((sa_cons (se_int) (sa_nil) (by rfl))) (by rfl))) (by decide))) ((sa_cons ((se_tup ((sa_cons (se_int) ((sa_cons ((se_un o_neg ((sv_of se_int)))) (sa_nil) (by rfl))) (by rfl))) (by decide))) (sa_nil) (by rfl))) (by rfl)) (by decide) (by rfl) (by rfl)))) ((sv_of se_bl)) (fun _ h => nomatch h) (by rfl)) (sb_one (ss_ret se_bl)) sb_nil)
    (sb_cons (ss_for po rfl (si_rng1 (by rfl) T.n_range (sa_cons (se_int) (sa_nil) (by rfl)) (by rfl)) (n_G 2 ND) (sb_cons (ss_asg (se_calH (n_P 1) (ok__law_grown T) (hr.mono (by decide)) (by rfl) T.g__law_grown T.F__law_grown.kp T.B__law_grown tk sa_nil (by decide) (by rfl) (by rfl)) (sg_tup rfl (sgs_cons (n_G 3 ND) (sgs_cons (n_G 4 ND) sgs_nil (by rfl)) (by rfl)) (by rfl) (by rfl)) (by decide) (by rfl) (by rfl) (by rfl))
    (sb_cons (ss_if (sc_w (sw_or (sc_cmp o_isN ((sv_of (se_cal (ok_is_pair T) (hr.mono (by decide)) (by rfl) T.g_is_pair T.F_is_pair.kp T.B_is_pair tk (sa_cons ((n_E 3)) ((sa_cons ((n_E 4)) (sa_nil) (by rfl))) (by rfl)) (by decide) (by rfl) (by rfl)))) ((sv_of se_bl)) (fun _ h => nomatch h) (by rfl)) (sw_or1 (sc_not (sc_val (se_calHG (n_P 1) (ok__law_are_judged_right T) GD (hr.mono (by decide)) (by rfl) T.g__law_are_judged_right T.F__law_are_judged_right.kp T.B__law_are_judged_right tk (sa_cons ((n_E 3)) ((sa_cons ((n_E 4)) (sa_nil) (by rfl))) (by rfl)) (by decide) (by rfl) (by rfl)) (fun _ => rfl)))))) (sb_one (ss_ret se_bl)) sb_nil)
    (sb_cons (ss_if (sc_not (sc_val (se_cal (ok__law_are_made_right T) (hr.mono (by decide)) (by rfl) T.g__law_are_made_right T.F__law_are_made_right.kp T.B__law_are_made_right tk (sa_cons ((n_E 3)) ((sa_cons ((n_E 4)) (sa_nil) (by rfl))) (by rfl)) (by decide) (by rfl) (by rfl)) (fun _ => rfl))) (sb_one (ss_ret se_bl)) sb_nil)
    (sb_cons (n_set 5 ND (se_op o_add ((sv_of se_int)) ((sv_of (se_calH (n_P 1) (ok__law_draw T) (hr.mono (by decide)) (by rfl) T.g__law_draw T.F__law_draw.kp T.B__law_draw tk (sa_cons (se_int) (sa_nil) (by rfl)) (by decide) (by rfl) (by rfl)))) (fun _ h => nomatch h)) (by decide))
    (sb_cons (ss_setLc (own := [("row", 7)]) rfl ND (by rfl) (by rfl) (sw_true rfl rfl rfl (by decide +kernel)) (si_rng1 (by rfl) T.n_range (sa_cons (se_int) (sa_nil) (by rfl)) (by rfl)) (blkOk_by (by kernel_rfl)) (fun _ _ _ _ _ => (n_G 7 ND)) (fun _ _ _ _ _ => sts_nil) (fun _ _ _ _ _ => (se_callT1 k_tup (by rfl) T.n_tuple (by rfl) ((sv_of (se_lc (own := [("k", 8)]) rfl ND (si_rng1 (by rfl) T.n_range (sa_cons ((n_E 5)) (sa_nil) (by rfl)) (by rfl)) (blkOk_by (by kernel_rfl)) (fun _ _ _ _ _ => (n_G 8 ND)) (fun _ _ _ _ _ => sts_nil) (fun _ _ _ _ _ => (se_calH (n_P 1) (ok__law_any T) (hr.mono (by decide)) (by rfl) T.g__law_any T.F__law_any.kp T.B__law_any takes0 (sa_cons ((se_lst ((sa_cons (se_int) ((sa_cons ((se_un o_neg ((sv_of se_int)))) (sa_nil) (by rfl))) (by rfl))) (by decide))) (sa_nil) (by rfl)) (by decide) (by rfl) (by rfl))) (fun _ => rfl) (by decide)))) (by decide) (by decide) (by rfl) (by rfl))) (fun _ => rfl) (by decide) (by decide))
    (sb_one (ss_if (sc_w (sw_or (sc_not (sc_val (se_calHG (n_P 1) (ok__law_are_judged_right T) GD (hr.mono (by decide)) (by rfl) T.g__law_are_judged_right T.F__law_are_judged_right.kp T.B__law_are_judged_right tk (sa_cons ((se_ix hu.u1 ((n_V 6)) ((sv_of se_int)) (fun _ h => by cases h; decide) (fun _ _ => rfl))) ((sa_cons ((se_ix hu.u1 ((n_V 6)) ((sv_of se_int)) (fun _ h => by cases h; decide) (fun _ _ => rfl))) (sa_nil) (by rfl))) (by rfl)) (by decide) (by rfl) (by rfl)) (fun _ => rfl))) (sw_or1 (sc_not (sc_val (se_cal (ok__law_are_made_right T) (hr.mono (by decide)) (by rfl) T.g__law_are_made_right T.F__law_are_made_right.kp T.B__law_are_made_right tk (sa_cons ((se_ix hu.u1 ((n_V 6)) ((sv_of se_int)) (fun _ h => by cases h; decide) (fun _ _ => rfl))) ((sa_cons ((se_ix hu.u1 ((n_V 6)) ((sv_of se_int)) (fun _ h => by cases h; decide) (fun _ _ => rfl))) (sa_nil) (by rfl))) (by rfl)) (by decide) (by rfl) (by rfl)) (fun _ => rfl)))))) (sb_one (ss_ret se_bl)) sb_nil))))))) (by decide) (fun _ => rfl))
    (sb_one (ss_ret (se_and ((se_calH (n_P 1) (ok__law_is_first_right T) (hr.mono (by decide)) (by rfl) T.g__law_is_first_right T.F__law_is_first_right.kp T.B__law_is_first_right tk sa_nil (by decide) (by rfl) (by rfl))) ((se_one (se_calH (n_P 1) (ok__law_are_refused T TB) (hr.mono (by decide)) (by rfl) T.g__law_are_refused T.F__law_are_refused.kp T.B__law_are_refused tk sa_nil (by decide) (by rfl) (by rfl))))))))))))
end
theorem tx_all {K : PySem.W.Frag} {prog : Program} {mg : Str → Option Value} {h : Heap} {tb : List (Addr × Str)} {gb : Hp} (X : K.In h) (G : h.Ns mainGlobals mg)
    {f_is_integer : Addr} {od_is_integer an_is_integer : Option Addr} {sl_is_integer : Array (Option Value)} {oc_is_integer kV_is_integer dc_is_integer pm_is_integer ct_is_integer : Value} {cd_is_integer : Value}
    {f_is_within : Addr} {od_is_within an_is_within : Option Addr} {sl_is_within : Array (Option Value)} {oc_is_within kV_is_within dc_is_within pm_is_within ct_is_within : Value} {cd_is_within : Value}
    {f_is_tuple : Addr} {od_is_tuple an_is_tuple : Option Addr} {sl_is_tuple : Array (Option Value)} {oc_is_tuple kV_is_tuple dc_is_tuple pm_is_tuple ct_is_tuple : Value} {cd_is_tuple : Value}
    {f_is_row : Addr} {od_is_row an_is_row : Option Addr} {sl_is_row : Array (Option Value)} {oc_is_row kV_is_row dc_is_row pm_is_row ct_is_row : Value} {cd_is_row : Value}
    {f_moved_sums : Addr} {od_moved_sums an_moved_sums : Option Addr} {sl_moved_sums : Array (Option Value)} {oc_moved_sums kV_moved_sums dc_moved_sums pm_moved_sums ct_moved_sums : Value} {cd_moved_sums : Value}
    {f_ring_sums_of : Addr} {od_ring_sums_of an_ring_sums_of : Option Addr} {sl_ring_sums_of : Array (Option Value)} {oc_ring_sums_of kV_ring_sums_of dc_ring_sums_of pm_ring_sums_of ct_ring_sums_of : Value} {cd_ring_sums_of : Value}
    {f_is_pair : Addr} {od_is_pair an_is_pair : Option Addr} {sl_is_pair : Array (Option Value)} {oc_is_pair kV_is_pair dc_is_pair pm_is_pair ct_is_pair : Value} {cd_is_pair : Value}
    {f_check_pair : Addr} {od_check_pair an_check_pair : Option Addr} {sl_check_pair : Array (Option Value)} {oc_check_pair kV_check_pair dc_check_pair pm_check_pair ct_check_pair : Value} {cd_check_pair : Value}
    {f_doubled_pair : Addr} {od_doubled_pair an_doubled_pair : Option Addr} {sl_doubled_pair : Array (Option Value)} {oc_doubled_pair kV_doubled_pair dc_doubled_pair pm_doubled_pair ct_doubled_pair : Value} {cd_doubled_pair : Value}
    {f_woven_pair : Addr} {od_woven_pair an_woven_pair : Option Addr} {sl_woven_pair : Array (Option Value)} {oc_woven_pair kV_woven_pair dc_woven_pair pm_woven_pair ct_woven_pair : Value} {cd_woven_pair : Value}
    {f_all_rows : Addr} {od_all_rows an_all_rows : Option Addr} {sl_all_rows : Array (Option Value)} {oc_all_rows kV_all_rows dc_all_rows pm_all_rows ct_all_rows : Value} {cd_all_rows : Value}
    {f_first_pair : Addr} {od_first_pair an_first_pair : Option Addr} {sl_first_pair : Array (Option Value)} {oc_first_pair kV_first_pair dc_first_pair pm_first_pair ct_first_pair : Value} {cd_first_pair : Value}
    {f_is_ring_pair : Addr} {od_is_ring_pair an_is_ring_pair : Option Addr} {sl_is_ring_pair : Array (Option Value)} {oc_is_ring_pair kV_is_ring_pair dc_is_ring_pair pm_is_ring_pair ct_is_ring_pair : Value} {cd_is_ring_pair : Value}
    {f__law_hand : Addr} {od__law_hand an__law_hand : Option Addr} {sl__law_hand : Array (Option Value)} {oc__law_hand kV__law_hand dc__law_hand pm__law_hand ct__law_hand : Value} {cd__law_hand : Value}
    {f__law_draw : Addr} {od__law_draw an__law_draw : Option Addr} {sl__law_draw : Array (Option Value)} {oc__law_draw kV__law_draw dc__law_draw pm__law_draw ct__law_draw : Value} {cd__law_draw : Value}
    {f__law_any : Addr} {od__law_any an__law_any : Option Addr} {sl__law_any : Array (Option Value)} {oc__law_any kV__law_any dc__law_any pm__law_any ct__law_any : Value} {cd__law_any : Value}
    {f__law_line : Addr} {od__law_line an__law_line : Option Addr} {sl__law_line : Array (Option Value)} {oc__law_line kV__law_line dc__law_line pm__law_line ct__law_line : Value} {cd__law_line : Value}
    {f__law_ring : Addr} {od__law_ring an__law_ring : Option Addr} {sl__law_ring : Array (Option Value)} {oc__law_ring kV__law_ring dc__law_ring pm__law_ring ct__law_ring : Value} {cd__law_ring : Value}
    {f__law_less : Addr} {od__law_less an__law_less : Option Addr} {sl__law_less : Array (Option Value)} {oc__law_less kV__law_less dc__law_less pm__law_less ct__law_less : Value} {cd__law_less : Value}
    {f__law_by_turns : Addr} {od__law_by_turns an__law_by_turns : Option Addr} {sl__law_by_turns : Array (Option Value)} {oc__law_by_turns kV__law_by_turns dc__law_by_turns pm__law_by_turns ct__law_by_turns : Value} {cd__law_by_turns : Value}
    {f__law_doubled : Addr} {od__law_doubled an__law_doubled : Option Addr} {sl__law_doubled : Array (Option Value)} {oc__law_doubled kV__law_doubled dc__law_doubled pm__law_doubled ct__law_doubled : Value} {cd__law_doubled : Value}
    {f__law_woven : Addr} {od__law_woven an__law_woven : Option Addr} {sl__law_woven : Array (Option Value)} {oc__law_woven kV__law_woven dc__law_woven pm__law_woven ct__law_woven : Value} {cd__law_woven : Value}
    {f__law_grown : Addr} {od__law_grown an__law_grown : Option Addr} {sl__law_grown : Array (Option Value)} {oc__law_grown kV__law_grown dc__law_grown pm__law_grown ct__law_grown : Value} {cd__law_grown : Value}
    {f__law_is_row : Addr} {od__law_is_row an__law_is_row : Option Addr} {sl__law_is_row : Array (Option Value)} {oc__law_is_row kV__law_is_row dc__law_is_row pm__law_is_row ct__law_is_row : Value} {cd__law_is_row : Value}
    {f__law_is_due : Addr} {od__law_is_due an__law_is_due : Option Addr} {sl__law_is_due : Array (Option Value)} {oc__law_is_due kV__law_is_due dc__law_is_due pm__law_is_due ct__law_is_due : Value} {cd__law_is_due : Value}
    {f__law_bent : Addr} {od__law_bent an__law_bent : Option Addr} {sl__law_bent : Array (Option Value)} {oc__law_bent kV__law_bent dc__law_bent pm__law_bent ct__law_bent : Value} {cd__law_bent : Value}
    {f__law_are_judged_right : Addr} {od__law_are_judged_right an__law_are_judged_right : Option Addr} {sl__law_are_judged_right : Array (Option Value)} {oc__law_are_judged_right kV__law_are_judged_right dc__law_are_judged_right pm__law_are_judged_right ct__law_are_judged_right : Value} {cd__law_are_judged_right : Value}
    {f__law_are_made_right : Addr} {od__law_are_made_right an__law_are_made_right : Option Addr} {sl__law_are_made_right : Array (Option Value)} {oc__law_are_made_right kV__law_are_made_right dc__law_are_made_right pm__law_are_made_right ct__law_are_made_right : Value} {cd__law_are_made_right : Value}
    {f__law_first_is_none : Addr} {od__law_first_is_none an__law_first_is_none : Option Addr} {sl__law_first_is_none : Array (Option Value)} {oc__law_first_is_none kV__law_first_is_none dc__law_first_is_none pm__law_first_is_none ct__law_first_is_none : Value} {cd__law_first_is_none : Value}
    {f__law_is_first_right : Addr} {od__law_is_first_right an__law_is_first_right : Option Addr} {sl__law_is_first_right : Array (Option Value)} {oc__law_is_first_right kV__law_is_first_right dc__law_is_first_right pm__law_is_first_right ct__law_is_first_right : Value} {cd__law_is_first_right : Value}
    {f__law_word : Addr} {od__law_word an__law_word : Option Addr} {sl__law_word : Array (Option Value)} {oc__law_word kV__law_word dc__law_word pm__law_word ct__law_word : Value} {cd__law_word : Value}
    {f__law_two : Addr} {od__law_two an__law_two : Option Addr} {sl__law_two : Array (Option Value)} {oc__law_two kV__law_two dc__law_two pm__law_two ct__law_two : Value} {cc__law_two : Addr}
    {f__law_are_refused : Addr} {od__law_are_refused an__law_are_refused : Option Addr} {sl__law_are_refused : Array (Option Value)} {oc__law_are_refused kV__law_are_refused dc__law_are_refused pm__law_are_refused ct__law_are_refused : Value} {cc__law_are_refused : Addr}
    {f_law : Addr} {od_law an_law : Option Addr} {sl_law : Array (Option Value)} {oc_law kV_law dc_law pm_law ct_law : Value} {cd_law : Value}
    {t_MOST_LENGTH : Tok}
    {C_BlockError : Addr}
    {C_NoNumber : Addr}
    {C_NoSequence : Addr}
    {fI_NoNumber : Addr}
    {fI_NoSequence : Addr}
    {P__law_two : Addr}
    {P__law_are_refused : Addr}
    (a_is_integer : PySem.W.nsIn K mainGlobals "is_integer" = some (some (.ref f_is_integer)))
    (l_is_integer : K.lookup f_is_integer = some ⟨oc_is_integer, od_is_integer, .func (PySem.W.fnOf "is_integer" "is_integer" (defArgs s_is_integer) (defBody s_is_integer) (defScope s_is_integer) .none kV_is_integer dc_is_integer pm_is_integer an_is_integer cd_is_integer ct_is_integer), sl_is_integer⟩)
    (c_is_integer : PySem.W.codeIn K cd_is_integer "is_integer" = true)
    (k_is_integer : PySem.W.keepIn K (.ref f_is_integer) = true)
    (a_is_within : PySem.W.nsIn K mainGlobals "is_within" = some (some (.ref f_is_within)))
    (l_is_within : K.lookup f_is_within = some ⟨oc_is_within, od_is_within, .func (PySem.W.fnOf "is_within" "is_within" (defArgs s_is_within) (defBody s_is_within) (defScope s_is_within) .none kV_is_within dc_is_within pm_is_within an_is_within cd_is_within ct_is_within), sl_is_within⟩)
    (c_is_within : PySem.W.codeIn K cd_is_within "is_within" = true)
    (k_is_within : PySem.W.keepIn K (.ref f_is_within) = true)
    (a_is_tuple : PySem.W.nsIn K mainGlobals "is_tuple" = some (some (.ref f_is_tuple)))
    (l_is_tuple : K.lookup f_is_tuple = some ⟨oc_is_tuple, od_is_tuple, .func (PySem.W.fnOf "is_tuple" "is_tuple" (defArgs s_is_tuple) (defBody s_is_tuple) (defScope s_is_tuple) .none kV_is_tuple dc_is_tuple pm_is_tuple an_is_tuple cd_is_tuple ct_is_tuple), sl_is_tuple⟩)
    (c_is_tuple : PySem.W.codeIn K cd_is_tuple "is_tuple" = true)
    (k_is_tuple : PySem.W.keepIn K (.ref f_is_tuple) = true)
    (a_is_row : PySem.W.nsIn K mainGlobals "is_row" = some (some (.ref f_is_row)))
    (l_is_row : K.lookup f_is_row = some ⟨oc_is_row, od_is_row, .func (PySem.W.fnOf "is_row" "is_row" (defArgs s_is_row) (defBody s_is_row) (defScope s_is_row) .none kV_is_row dc_is_row pm_is_row an_is_row cd_is_row ct_is_row), sl_is_row⟩)
    (c_is_row : PySem.W.codeIn K cd_is_row "is_row" = true)
    (k_is_row : PySem.W.keepIn K (.ref f_is_row) = true)
    (a_moved_sums : PySem.W.nsIn K mainGlobals "moved_sums" = some (some (.ref f_moved_sums)))
    (l_moved_sums : K.lookup f_moved_sums = some ⟨oc_moved_sums, od_moved_sums, .func (PySem.W.fnOf "moved_sums" "moved_sums" (defArgs s_moved_sums) (defBody s_moved_sums) (defScope s_moved_sums) .none kV_moved_sums dc_moved_sums pm_moved_sums an_moved_sums cd_moved_sums ct_moved_sums), sl_moved_sums⟩)
    (c_moved_sums : PySem.W.codeIn K cd_moved_sums "moved_sums" = true)
    (k_moved_sums : PySem.W.keepIn K (.ref f_moved_sums) = true)
    (a_ring_sums_of : PySem.W.nsIn K mainGlobals "ring_sums_of" = some (some (.ref f_ring_sums_of)))
    (l_ring_sums_of : K.lookup f_ring_sums_of = some ⟨oc_ring_sums_of, od_ring_sums_of, .func (PySem.W.fnOf "ring_sums_of" "ring_sums_of" (defArgs s_ring_sums_of) (defBody s_ring_sums_of) (defScope s_ring_sums_of) .none kV_ring_sums_of dc_ring_sums_of pm_ring_sums_of an_ring_sums_of cd_ring_sums_of ct_ring_sums_of), sl_ring_sums_of⟩)
    (c_ring_sums_of : PySem.W.codeIn K cd_ring_sums_of "ring_sums_of" = true)
    (k_ring_sums_of : PySem.W.keepIn K (.ref f_ring_sums_of) = true)
    (a_is_pair : PySem.W.nsIn K mainGlobals "is_pair" = some (some (.ref f_is_pair)))
    (l_is_pair : K.lookup f_is_pair = some ⟨oc_is_pair, od_is_pair, .func (PySem.W.fnOf "is_pair" "is_pair" (defArgs s_is_pair) (defBody s_is_pair) (defScope s_is_pair) .none kV_is_pair dc_is_pair pm_is_pair an_is_pair cd_is_pair ct_is_pair), sl_is_pair⟩)
    (c_is_pair : PySem.W.codeIn K cd_is_pair "is_pair" = true)
    (k_is_pair : PySem.W.keepIn K (.ref f_is_pair) = true)
    (a_check_pair : PySem.W.nsIn K mainGlobals "check_pair" = some (some (.ref f_check_pair)))
    (l_check_pair : K.lookup f_check_pair = some ⟨oc_check_pair, od_check_pair, .func (PySem.W.fnOf "check_pair" "check_pair" (defArgs s_check_pair) (defBody s_check_pair) (defScope s_check_pair) .none kV_check_pair dc_check_pair pm_check_pair an_check_pair cd_check_pair ct_check_pair), sl_check_pair⟩)
    (c_check_pair : PySem.W.codeIn K cd_check_pair "check_pair" = true)
    (k_check_pair : PySem.W.keepIn K (.ref f_check_pair) = true)
    (a_doubled_pair : PySem.W.nsIn K mainGlobals "doubled_pair" = some (some (.ref f_doubled_pair)))
    (l_doubled_pair : K.lookup f_doubled_pair = some ⟨oc_doubled_pair, od_doubled_pair, .func (PySem.W.fnOf "doubled_pair" "doubled_pair" (defArgs s_doubled_pair) (defBody s_doubled_pair) (defScope s_doubled_pair) .none kV_doubled_pair dc_doubled_pair pm_doubled_pair an_doubled_pair cd_doubled_pair ct_doubled_pair), sl_doubled_pair⟩)
    (c_doubled_pair : PySem.W.codeIn K cd_doubled_pair "doubled_pair" = true)
    (k_doubled_pair : PySem.W.keepIn K (.ref f_doubled_pair) = true)
    (a_woven_pair : PySem.W.nsIn K mainGlobals "woven_pair" = some (some (.ref f_woven_pair)))
    (l_woven_pair : K.lookup f_woven_pair = some ⟨oc_woven_pair, od_woven_pair, .func (PySem.W.fnOf "woven_pair" "woven_pair" (defArgs s_woven_pair) (defBody s_woven_pair) (defScope s_woven_pair) .none kV_woven_pair dc_woven_pair pm_woven_pair an_woven_pair cd_woven_pair ct_woven_pair), sl_woven_pair⟩)
    (c_woven_pair : PySem.W.codeIn K cd_woven_pair "woven_pair" = true)
    (k_woven_pair : PySem.W.keepIn K (.ref f_woven_pair) = true)
    (a_all_rows : PySem.W.nsIn K mainGlobals "all_rows" = some (some (.ref f_all_rows)))
    (l_all_rows : K.lookup f_all_rows = some ⟨oc_all_rows, od_all_rows, .func (PySem.W.fnOf "all_rows" "all_rows" (defArgs s_all_rows) (defBody s_all_rows) (defScope s_all_rows) .none kV_all_rows dc_all_rows pm_all_rows an_all_rows cd_all_rows ct_all_rows), sl_all_rows⟩)
    (c_all_rows : PySem.W.codeIn K cd_all_rows "all_rows" = true)
    (k_all_rows : PySem.W.keepIn K (.ref f_all_rows) = true)
    (a_first_pair : PySem.W.nsIn K mainGlobals "first_pair" = some (some (.ref f_first_pair)))
    (l_first_pair : K.lookup f_first_pair = some ⟨oc_first_pair, od_first_pair, .func (PySem.W.fnOf "first_pair" "first_pair" (defArgs s_first_pair) (defBody s_first_pair) (defScope s_first_pair) .none kV_first_pair dc_first_pair pm_first_pair an_first_pair cd_first_pair ct_first_pair), sl_first_pair⟩)
    (c_first_pair : PySem.W.codeIn K cd_first_pair "first_pair" = true)
    (k_first_pair : PySem.W.keepIn K (.ref f_first_pair) = true)
    (a_is_ring_pair : PySem.W.nsIn K mainGlobals "is_ring_pair" = some (some (.ref f_is_ring_pair)))
    (l_is_ring_pair : K.lookup f_is_ring_pair = some ⟨oc_is_ring_pair, od_is_ring_pair, .func (PySem.W.fnOf "is_ring_pair" "is_ring_pair" (defArgs s_is_ring_pair) (defBody s_is_ring_pair) (defScope s_is_ring_pair) .none kV_is_ring_pair dc_is_ring_pair pm_is_ring_pair an_is_ring_pair cd_is_ring_pair ct_is_ring_pair), sl_is_ring_pair⟩)
    (c_is_ring_pair : PySem.W.codeIn K cd_is_ring_pair "is_ring_pair" = true)
    (k_is_ring_pair : PySem.W.keepIn K (.ref f_is_ring_pair) = true)
    (a__law_hand : PySem.W.nsIn K mainGlobals "_law_hand" = some (some (.ref f__law_hand)))
    (l__law_hand : K.lookup f__law_hand = some ⟨oc__law_hand, od__law_hand, .func (PySem.W.fnOf "_law_hand" "_law_hand" (defArgs s__law_hand) (defBody s__law_hand) (defScope s__law_hand) .none kV__law_hand dc__law_hand pm__law_hand an__law_hand cd__law_hand ct__law_hand), sl__law_hand⟩)
    (c__law_hand : PySem.W.codeIn K cd__law_hand "_law_hand" = true)
    (k__law_hand : PySem.W.keepIn K (.ref f__law_hand) = true)
    (a__law_draw : PySem.W.nsIn K mainGlobals "_law_draw" = some (some (.ref f__law_draw)))
    (l__law_draw : K.lookup f__law_draw = some ⟨oc__law_draw, od__law_draw, .func (PySem.W.fnOf "_law_draw" "_law_draw" (defArgs s__law_draw) (defBody s__law_draw) (defScope s__law_draw) .none kV__law_draw dc__law_draw pm__law_draw an__law_draw cd__law_draw ct__law_draw), sl__law_draw⟩)
    (c__law_draw : PySem.W.codeIn K cd__law_draw "_law_draw" = true)
    (k__law_draw : PySem.W.keepIn K (.ref f__law_draw) = true)
    (a__law_any : PySem.W.nsIn K mainGlobals "_law_any" = some (some (.ref f__law_any)))
    (l__law_any : K.lookup f__law_any = some ⟨oc__law_any, od__law_any, .func (PySem.W.fnOf "_law_any" "_law_any" (defArgs s__law_any) (defBody s__law_any) (defScope s__law_any) .none kV__law_any dc__law_any pm__law_any an__law_any cd__law_any ct__law_any), sl__law_any⟩)
    (c__law_any : PySem.W.codeIn K cd__law_any "_law_any" = true)
    (k__law_any : PySem.W.keepIn K (.ref f__law_any) = true)
    (a__law_line : PySem.W.nsIn K mainGlobals "_law_line" = some (some (.ref f__law_line)))
    (l__law_line : K.lookup f__law_line = some ⟨oc__law_line, od__law_line, .func (PySem.W.fnOf "_law_line" "_law_line" (defArgs s__law_line) (defBody s__law_line) (defScope s__law_line) .none kV__law_line dc__law_line pm__law_line an__law_line cd__law_line ct__law_line), sl__law_line⟩)
    (c__law_line : PySem.W.codeIn K cd__law_line "_law_line" = true)
    (k__law_line : PySem.W.keepIn K (.ref f__law_line) = true)
    (a__law_ring : PySem.W.nsIn K mainGlobals "_law_ring" = some (some (.ref f__law_ring)))
    (l__law_ring : K.lookup f__law_ring = some ⟨oc__law_ring, od__law_ring, .func (PySem.W.fnOf "_law_ring" "_law_ring" (defArgs s__law_ring) (defBody s__law_ring) (defScope s__law_ring) .none kV__law_ring dc__law_ring pm__law_ring an__law_ring cd__law_ring ct__law_ring), sl__law_ring⟩)
    (c__law_ring : PySem.W.codeIn K cd__law_ring "_law_ring" = true)
    (k__law_ring : PySem.W.keepIn K (.ref f__law_ring) = true)
    (a__law_less : PySem.W.nsIn K mainGlobals "_law_less" = some (some (.ref f__law_less)))
    (l__law_less : K.lookup f__law_less = some ⟨oc__law_less, od__law_less, .func (PySem.W.fnOf "_law_less" "_law_less" (defArgs s__law_less) (defBody s__law_less) (defScope s__law_less) .none kV__law_less dc__law_less pm__law_less an__law_less cd__law_less ct__law_less), sl__law_less⟩)
    (c__law_less : PySem.W.codeIn K cd__law_less "_law_less" = true)
    (k__law_less : PySem.W.keepIn K (.ref f__law_less) = true)
    (a__law_by_turns : PySem.W.nsIn K mainGlobals "_law_by_turns" = some (some (.ref f__law_by_turns)))
    (l__law_by_turns : K.lookup f__law_by_turns = some ⟨oc__law_by_turns, od__law_by_turns, .func (PySem.W.fnOf "_law_by_turns" "_law_by_turns" (defArgs s__law_by_turns) (defBody s__law_by_turns) (defScope s__law_by_turns) .none kV__law_by_turns dc__law_by_turns pm__law_by_turns an__law_by_turns cd__law_by_turns ct__law_by_turns), sl__law_by_turns⟩)
    (c__law_by_turns : PySem.W.codeIn K cd__law_by_turns "_law_by_turns" = true)
    (k__law_by_turns : PySem.W.keepIn K (.ref f__law_by_turns) = true)
    (a__law_doubled : PySem.W.nsIn K mainGlobals "_law_doubled" = some (some (.ref f__law_doubled)))
    (l__law_doubled : K.lookup f__law_doubled = some ⟨oc__law_doubled, od__law_doubled, .func (PySem.W.fnOf "_law_doubled" "_law_doubled" (defArgs s__law_doubled) (defBody s__law_doubled) (defScope s__law_doubled) .none kV__law_doubled dc__law_doubled pm__law_doubled an__law_doubled cd__law_doubled ct__law_doubled), sl__law_doubled⟩)
    (c__law_doubled : PySem.W.codeIn K cd__law_doubled "_law_doubled" = true)
    (k__law_doubled : PySem.W.keepIn K (.ref f__law_doubled) = true)
    (a__law_woven : PySem.W.nsIn K mainGlobals "_law_woven" = some (some (.ref f__law_woven)))
    (l__law_woven : K.lookup f__law_woven = some ⟨oc__law_woven, od__law_woven, .func (PySem.W.fnOf "_law_woven" "_law_woven" (defArgs s__law_woven) (defBody s__law_woven) (defScope s__law_woven) .none kV__law_woven dc__law_woven pm__law_woven an__law_woven cd__law_woven ct__law_woven), sl__law_woven⟩)
    (c__law_woven : PySem.W.codeIn K cd__law_woven "_law_woven" = true)
    (k__law_woven : PySem.W.keepIn K (.ref f__law_woven) = true)
    (a__law_grown : PySem.W.nsIn K mainGlobals "_law_grown" = some (some (.ref f__law_grown)))
    (l__law_grown : K.lookup f__law_grown = some ⟨oc__law_grown, od__law_grown, .func (PySem.W.fnOf "_law_grown" "_law_grown" (defArgs s__law_grown) (defBody s__law_grown) (defScope s__law_grown) .none kV__law_grown dc__law_grown pm__law_grown an__law_grown cd__law_grown ct__law_grown), sl__law_grown⟩)
    (c__law_grown : PySem.W.codeIn K cd__law_grown "_law_grown" = true)
    (k__law_grown : PySem.W.keepIn K (.ref f__law_grown) = true)
    (a__law_is_row : PySem.W.nsIn K mainGlobals "_law_is_row" = some (some (.ref f__law_is_row)))
    (l__law_is_row : K.lookup f__law_is_row = some ⟨oc__law_is_row, od__law_is_row, .func (PySem.W.fnOf "_law_is_row" "_law_is_row" (defArgs s__law_is_row) (defBody s__law_is_row) (defScope s__law_is_row) .none kV__law_is_row dc__law_is_row pm__law_is_row an__law_is_row cd__law_is_row ct__law_is_row), sl__law_is_row⟩)
    (c__law_is_row : PySem.W.codeIn K cd__law_is_row "_law_is_row" = true)
    (k__law_is_row : PySem.W.keepIn K (.ref f__law_is_row) = true)
    (a__law_is_due : PySem.W.nsIn K mainGlobals "_law_is_due" = some (some (.ref f__law_is_due)))
    (l__law_is_due : K.lookup f__law_is_due = some ⟨oc__law_is_due, od__law_is_due, .func (PySem.W.fnOf "_law_is_due" "_law_is_due" (defArgs s__law_is_due) (defBody s__law_is_due) (defScope s__law_is_due) .none kV__law_is_due dc__law_is_due pm__law_is_due an__law_is_due cd__law_is_due ct__law_is_due), sl__law_is_due⟩)
    (c__law_is_due : PySem.W.codeIn K cd__law_is_due "_law_is_due" = true)
    (k__law_is_due : PySem.W.keepIn K (.ref f__law_is_due) = true)
    (a__law_bent : PySem.W.nsIn K mainGlobals "_law_bent" = some (some (.ref f__law_bent)))
    (l__law_bent : K.lookup f__law_bent = some ⟨oc__law_bent, od__law_bent, .func (PySem.W.fnOf "_law_bent" "_law_bent" (defArgs s__law_bent) (defBody s__law_bent) (defScope s__law_bent) .none kV__law_bent dc__law_bent pm__law_bent an__law_bent cd__law_bent ct__law_bent), sl__law_bent⟩)
    (c__law_bent : PySem.W.codeIn K cd__law_bent "_law_bent" = true)
    (k__law_bent : PySem.W.keepIn K (.ref f__law_bent) = true)
    (a__law_are_judged_right : PySem.W.nsIn K mainGlobals "_law_are_judged_right" = some (some (.ref f__law_are_judged_right)))
    (l__law_are_judged_right : K.lookup f__law_are_judged_right = some ⟨oc__law_are_judged_right, od__law_are_judged_right, .func (PySem.W.fnOf "_law_are_judged_right" "_law_are_judged_right" (defArgs s__law_are_judged_right) (defBody s__law_are_judged_right) (defScope s__law_are_judged_right) .none kV__law_are_judged_right dc__law_are_judged_right pm__law_are_judged_right an__law_are_judged_right cd__law_are_judged_right ct__law_are_judged_right), sl__law_are_judged_right⟩)
    (c__law_are_judged_right : PySem.W.codeIn K cd__law_are_judged_right "_law_are_judged_right" = true)
    (k__law_are_judged_right : PySem.W.keepIn K (.ref f__law_are_judged_right) = true)
    (a__law_are_made_right : PySem.W.nsIn K mainGlobals "_law_are_made_right" = some (some (.ref f__law_are_made_right)))
    (l__law_are_made_right : K.lookup f__law_are_made_right = some ⟨oc__law_are_made_right, od__law_are_made_right, .func (PySem.W.fnOf "_law_are_made_right" "_law_are_made_right" (defArgs s__law_are_made_right) (defBody s__law_are_made_right) (defScope s__law_are_made_right) .none kV__law_are_made_right dc__law_are_made_right pm__law_are_made_right an__law_are_made_right cd__law_are_made_right ct__law_are_made_right), sl__law_are_made_right⟩)
    (c__law_are_made_right : PySem.W.codeIn K cd__law_are_made_right "_law_are_made_right" = true)
    (k__law_are_made_right : PySem.W.keepIn K (.ref f__law_are_made_right) = true)
    (a__law_first_is_none : PySem.W.nsIn K mainGlobals "_law_first_is_none" = some (some (.ref f__law_first_is_none)))
    (l__law_first_is_none : K.lookup f__law_first_is_none = some ⟨oc__law_first_is_none, od__law_first_is_none, .func (PySem.W.fnOf "_law_first_is_none" "_law_first_is_none" (defArgs s__law_first_is_none) (defBody s__law_first_is_none) (defScope s__law_first_is_none) .none kV__law_first_is_none dc__law_first_is_none pm__law_first_is_none an__law_first_is_none cd__law_first_is_none ct__law_first_is_none), sl__law_first_is_none⟩)
    (c__law_first_is_none : PySem.W.codeIn K cd__law_first_is_none "_law_first_is_none" = true)
    (k__law_first_is_none : PySem.W.keepIn K (.ref f__law_first_is_none) = true)
    (a__law_is_first_right : PySem.W.nsIn K mainGlobals "_law_is_first_right" = some (some (.ref f__law_is_first_right)))
    (l__law_is_first_right : K.lookup f__law_is_first_right = some ⟨oc__law_is_first_right, od__law_is_first_right, .func (PySem.W.fnOf "_law_is_first_right" "_law_is_first_right" (defArgs s__law_is_first_right) (defBody s__law_is_first_right) (defScope s__law_is_first_right) .none kV__law_is_first_right dc__law_is_first_right pm__law_is_first_right an__law_is_first_right cd__law_is_first_right ct__law_is_first_right), sl__law_is_first_right⟩)
    (c__law_is_first_right : PySem.W.codeIn K cd__law_is_first_right "_law_is_first_right" = true)
    (k__law_is_first_right : PySem.W.keepIn K (.ref f__law_is_first_right) = true)
    (a__law_word : PySem.W.nsIn K mainGlobals "_law_word" = some (some (.ref f__law_word)))
    (l__law_word : K.lookup f__law_word = some ⟨oc__law_word, od__law_word, .func (PySem.W.fnOf "_law_word" "_law_word" (defArgs s__law_word) (defBody s__law_word) (defScope s__law_word) .none kV__law_word dc__law_word pm__law_word an__law_word cd__law_word ct__law_word), sl__law_word⟩)
    (c__law_word : PySem.W.codeIn K cd__law_word "_law_word" = true)
    (k__law_word : PySem.W.keepIn K (.ref f__law_word) = true)
    (a__law_two : PySem.W.nsIn K mainGlobals "_law_two" = some (some (.ref f__law_two)))
    (l__law_two : K.lookup f__law_two = some ⟨oc__law_two, od__law_two, .func (PySem.W.fnOf "_law_two" "_law_two" (defArgs s__law_two) (defBody s__law_two) (defScope s__law_two) .none kV__law_two dc__law_two pm__law_two an__law_two (.ref cc__law_two) ct__law_two), sl__law_two⟩)
    (c__law_two : PySem.W.codeIn K (.ref cc__law_two) "_law_two" = true)
    (k__law_two : PySem.W.keepIn K (.ref f__law_two) = true)
    (a__law_are_refused : PySem.W.nsIn K mainGlobals "_law_are_refused" = some (some (.ref f__law_are_refused)))
    (l__law_are_refused : K.lookup f__law_are_refused = some ⟨oc__law_are_refused, od__law_are_refused, .func (PySem.W.fnOf "_law_are_refused" "_law_are_refused" (defArgs s__law_are_refused) (defBody s__law_are_refused) (defScope s__law_are_refused) .none kV__law_are_refused dc__law_are_refused pm__law_are_refused an__law_are_refused (.ref cc__law_are_refused) ct__law_are_refused), sl__law_are_refused⟩)
    (c__law_are_refused : PySem.W.codeIn K (.ref cc__law_are_refused) "_law_are_refused" = true)
    (k__law_are_refused : PySem.W.keepIn K (.ref f__law_are_refused) = true)
    (a_law : PySem.W.nsIn K mainGlobals "law" = some (some (.ref f_law)))
    (l_law : K.lookup f_law = some ⟨oc_law, od_law, .func (PySem.W.fnOf "law" "law" (defArgs s_law) (defBody s_law) (defScope s_law) .none kV_law dc_law pm_law an_law cd_law ct_law), sl_law⟩)
    (c_law : PySem.W.codeIn K cd_law "law" = true)
    (k_law : PySem.W.keepIn K (.ref f_law) = true)
    (z_ValueError : PySem.W.nsIn K mainGlobals "ValueError" = some none)
    (z_abs : PySem.W.nsIn K mainGlobals "abs" = some none)
    (z_all : PySem.W.nsIn K mainGlobals "all" = some none)
    (z_any : PySem.W.nsIn K mainGlobals "any" = some none)
    (z_bool : PySem.W.nsIn K mainGlobals "bool" = some none)
    (z_dict : PySem.W.nsIn K mainGlobals "dict" = some none)
    (z_enumerate : PySem.W.nsIn K mainGlobals "enumerate" = some none)
    (z_int : PySem.W.nsIn K mainGlobals "int" = some none)
    (z_isinstance : PySem.W.nsIn K mainGlobals "isinstance" = some none)
    (z_len : PySem.W.nsIn K mainGlobals "len" = some none)
    (z_list : PySem.W.nsIn K mainGlobals "list" = some none)
    (z_range : PySem.W.nsIn K mainGlobals "range" = some none)
    (z_repr : PySem.W.nsIn K mainGlobals "repr" = some none)
    (z_sum : PySem.W.nsIn K mainGlobals "sum" = some none)
    (z_tuple : PySem.W.nsIn K mainGlobals "tuple" = some none)
    (z_zip : PySem.W.nsIn K mainGlobals "zip" = some none)
    (z_super : PySem.W.nsIn K mainGlobals "super" = some none)
    (q_MOST_LENGTH : PySem.W.nsIn K mainGlobals "MOST_LENGTH" = some (some (.int 64 t_MOST_LENGTH)))
    (a_BlockError : PySem.W.nsIn K mainGlobals "BlockError" = some (some (.ref C_BlockError)))
    (a_NoNumber : PySem.W.nsIn K mainGlobals "NoNumber" = some (some (.ref C_NoNumber)))
    (a_NoSequence : PySem.W.nsIn K mainGlobals "NoSequence" = some (some (.ref C_NoSequence)))
    (Z_NoNumber : Nonempty (PySem.W.Ex0 K prog C_NoNumber fI_NoNumber))
    (Z_NoSequence : Nonempty (PySem.W.Ex0 K prog C_NoSequence fI_NoSequence))
    (x_NoNumber : ExcC K C_NoNumber)
    (m_NoNumber_BlockError : PySem.W.exmOne K (.ref C_NoNumber) (.ref C_BlockError) = some true)
    (kit_NoNumber_NoSequence : PySem.W.kitOne K (.ref C_NoNumber) (.ref C_NoSequence) = some (kB_NoSequence 1))
    (kit_NoNumber_NoNumber : PySem.W.kitOne K (.ref C_NoNumber) (.ref C_NoNumber) = some (kB_NoNumber 1))
    (kit_NoNumber_ValueError : PySem.W.kitOne K (.ref C_NoNumber) (.type "ValueError") = some (kB_ValueError 1))
    (x_NoSequence : ExcC K C_NoSequence)
    (m_NoSequence_BlockError : PySem.W.exmOne K (.ref C_NoSequence) (.ref C_BlockError) = some true)
    (kit_NoSequence_NoSequence : PySem.W.kitOne K (.ref C_NoSequence) (.ref C_NoSequence) = some (kB_NoSequence 2))
    (kit_NoSequence_NoNumber : PySem.W.kitOne K (.ref C_NoSequence) (.ref C_NoNumber) = some (kB_NoNumber 2))
    (kit_NoSequence_ValueError : PySem.W.kitOne K (.ref C_NoSequence) (.type "ValueError") = some (kB_ValueError 2))
    (tbm__law_two : (P__law_two, ("_law_two" : Str) ++ ".<locals>." ++ "<lambda>") ∈ tb)
    (tbu__law_two : ∀ p ∈ tb, p.1 = P__law_two → p.2 = ("_law_two" : Str) ++ ".<locals>." ++ "<lambda>")
    (tbm__law_are_refused : (P__law_are_refused, ("_law_are_refused" : Str) ++ ".<locals>." ++ "<lambda>") ∈ tb)
    (tbu__law_are_refused : ∀ p ∈ tb, p.1 = P__law_are_refused → p.2 = ("_law_are_refused" : Str) ++ ".<locals>." ++ "<lambda>")
    (gbS : ∃ o u, gb sysModules = some (.frz o u))
    : ∃ T : Tx K prog mg ⟨K, fun j => if j = 8 then f_doubled_pair else if j = 9 then f_woven_pair else 0, fun c => if c = 0 then C_BlockError else if c = 1 then C_NoNumber else if c = 2 then C_NoSequence else 0, fun _ => [], tb, gb⟩, T.a_law = f_law ∧ T.d_law = PySem.W.fnOf "law" "law" (defArgs s_law) (defBody s_law) (defScope s_law) .none kV_law dc_law pm_law an_law cd_law ct_law ∧ T.c__law_two = cc__law_two ∧ T.P__law_two = P__law_two ∧ T.c__law_are_refused = cc__law_are_refused ∧ T.P__law_are_refused = P__law_are_refused := by
  obtain ⟨Z_NoNumber⟩ := Z_NoNumber
  obtain ⟨Z_NoSequence⟩ := Z_NoSequence
  refine ⟨{
    hK := rfl,
    a_is_integer := f_is_integer, d_is_integer := _, F_is_integer := fun_mk (st := s_is_integer) l_is_integer c_is_integer k_is_integer, g_is_integer := PySem.W.mg_of X G a_is_integer,
    B_is_integer := (fun_mk (st := s_is_integer) l_is_integer c_is_integer k_is_integer).binds (ps := ["thing"]) fun _ _ _ _ _ _ us hl => match us, hl with | [_], _ => rfl,
    a_is_within := f_is_within, d_is_within := _, F_is_within := fun_mk (st := s_is_within) l_is_within c_is_within k_is_within, g_is_within := PySem.W.mg_of X G a_is_within,
    B_is_within := (fun_mk (st := s_is_within) l_is_within c_is_within k_is_within).binds (ps := ["thing", "least", "most"]) fun _ _ _ _ _ _ us hl => match us, hl with | [_, _, _], _ => rfl,
    a_is_tuple := f_is_tuple, d_is_tuple := _, F_is_tuple := fun_mk (st := s_is_tuple) l_is_tuple c_is_tuple k_is_tuple, g_is_tuple := PySem.W.mg_of X G a_is_tuple,
    B_is_tuple := (fun_mk (st := s_is_tuple) l_is_tuple c_is_tuple k_is_tuple).binds (ps := ["thing", "least", "most"]) fun _ _ _ _ _ _ us hl => match us, hl with | [_, _, _], _ => rfl,
    a_is_row := f_is_row, d_is_row := _, F_is_row := fun_mk (st := s_is_row) l_is_row c_is_row k_is_row, g_is_row := PySem.W.mg_of X G a_is_row,
    B_is_row := (fun_mk (st := s_is_row) l_is_row c_is_row k_is_row).binds (ps := ["thing"]) fun _ _ _ _ _ _ us hl => match us, hl with | [_], _ => rfl,
    a_moved_sums := f_moved_sums, d_moved_sums := _, F_moved_sums := fun_mk (st := s_moved_sums) l_moved_sums c_moved_sums k_moved_sums, g_moved_sums := PySem.W.mg_of X G a_moved_sums,
    B_moved_sums := (fun_mk (st := s_moved_sums) l_moved_sums c_moved_sums k_moved_sums).binds (ps := ["row"]) fun _ _ _ _ _ _ us hl => match us, hl with | [_], _ => rfl,
    a_ring_sums_of := f_ring_sums_of, d_ring_sums_of := _, F_ring_sums_of := fun_mk (st := s_ring_sums_of) l_ring_sums_of c_ring_sums_of k_ring_sums_of, g_ring_sums_of := PySem.W.mg_of X G a_ring_sums_of,
    B_ring_sums_of := (fun_mk (st := s_ring_sums_of) l_ring_sums_of c_ring_sums_of k_ring_sums_of).binds (ps := ["row"]) fun _ _ _ _ _ _ us hl => match us, hl with | [_], _ => rfl,
    a_is_pair := f_is_pair, d_is_pair := _, F_is_pair := fun_mk (st := s_is_pair) l_is_pair c_is_pair k_is_pair, g_is_pair := PySem.W.mg_of X G a_is_pair,
    B_is_pair := (fun_mk (st := s_is_pair) l_is_pair c_is_pair k_is_pair).binds (ps := ["one", "other"]) fun _ _ _ _ _ _ us hl => match us, hl with | [_, _], _ => rfl,
    a_check_pair := f_check_pair, d_check_pair := _, F_check_pair := fun_mk (st := s_check_pair) l_check_pair c_check_pair k_check_pair, g_check_pair := PySem.W.mg_of X G a_check_pair,
    B_check_pair := (fun_mk (st := s_check_pair) l_check_pair c_check_pair k_check_pair).binds (ps := ["one", "other"]) fun _ _ _ _ _ _ us hl => match us, hl with | [_, _], _ => rfl,
    a_doubled_pair := f_doubled_pair, d_doubled_pair := _, F_doubled_pair := fun_mk (st := s_doubled_pair) l_doubled_pair c_doubled_pair k_doubled_pair, g_doubled_pair := PySem.W.mg_of X G a_doubled_pair,
    B_doubled_pair := (fun_mk (st := s_doubled_pair) l_doubled_pair c_doubled_pair k_doubled_pair).binds (ps := ["one", "other"]) fun _ _ _ _ _ _ us hl => match us, hl with | [_, _], _ => rfl,
    a_woven_pair := f_woven_pair, d_woven_pair := _, F_woven_pair := fun_mk (st := s_woven_pair) l_woven_pair c_woven_pair k_woven_pair, g_woven_pair := PySem.W.mg_of X G a_woven_pair,
    B_woven_pair := (fun_mk (st := s_woven_pair) l_woven_pair c_woven_pair k_woven_pair).binds (ps := ["one", "other"]) fun _ _ _ _ _ _ us hl => match us, hl with | [_, _], _ => rfl,
    a_all_rows := f_all_rows, d_all_rows := _, F_all_rows := fun_mk (st := s_all_rows) l_all_rows c_all_rows k_all_rows, g_all_rows := PySem.W.mg_of X G a_all_rows,
    B_all_rows := (fun_mk (st := s_all_rows) l_all_rows c_all_rows k_all_rows).binds (ps := ["length"]) fun _ _ _ _ _ _ us hl => match us, hl with | [_], _ => rfl,
    a_first_pair := f_first_pair, d_first_pair := _, F_first_pair := fun_mk (st := s_first_pair) l_first_pair c_first_pair k_first_pair, g_first_pair := PySem.W.mg_of X G a_first_pair,
    B_first_pair := (fun_mk (st := s_first_pair) l_first_pair c_first_pair k_first_pair).binds (ps := ["length"]) fun _ _ _ _ _ _ us hl => match us, hl with | [_], _ => rfl,
    a_is_ring_pair := f_is_ring_pair, d_is_ring_pair := _, F_is_ring_pair := fun_mk (st := s_is_ring_pair) l_is_ring_pair c_is_ring_pair k_is_ring_pair, g_is_ring_pair := PySem.W.mg_of X G a_is_ring_pair,
    B_is_ring_pair := (fun_mk (st := s_is_ring_pair) l_is_ring_pair c_is_ring_pair k_is_ring_pair).binds (ps := ["one", "other"]) fun _ _ _ _ _ _ us hl => match us, hl with | [_, _], _ => rfl,
    a__law_hand := f__law_hand, d__law_hand := _, F__law_hand := fun_mk (st := s__law_hand) l__law_hand c__law_hand k__law_hand, g__law_hand := PySem.W.mg_of X G a__law_hand,
    B__law_hand := (fun_mk (st := s__law_hand) l__law_hand c__law_hand k__law_hand).binds (ps := ["script"]) fun _ _ _ _ _ _ us hl => match us, hl with | [_], _ => rfl,
    a__law_draw := f__law_draw, d__law_draw := _, F__law_draw := fun_mk (st := s__law_draw) l__law_draw c__law_draw k__law_draw, g__law_draw := PySem.W.mg_of X G a__law_draw,
    B__law_draw := (fun_mk (st := s__law_draw) l__law_draw c__law_draw k__law_draw).binds (ps := ["hand", "many"]) fun _ _ _ _ _ _ us hl => match us, hl with | [_, _], _ => rfl,
    a__law_any := f__law_any, d__law_any := _, F__law_any := fun_mk (st := s__law_any) l__law_any c__law_any k__law_any, g__law_any := PySem.W.mg_of X G a__law_any,
    B__law_any := (fun_mk (st := s__law_any) l__law_any c__law_any k__law_any).binds (ps := ["hand", "some"]) fun _ _ _ _ _ _ us hl => match us, hl with | [_, _], _ => rfl,
    a__law_line := f__law_line, d__law_line := _, F__law_line := fun_mk (st := s__law_line) l__law_line c__law_line k__law_line, g__law_line := PySem.W.mg_of X G a__law_line,
    B__law_line := (fun_mk (st := s__law_line) l__law_line c__law_line k__law_line).binds (ps := ["row", "s"]) fun _ _ _ _ _ _ us hl => match us, hl with | [_, _], _ => rfl,
    a__law_ring := f__law_ring, d__law_ring := _, F__law_ring := fun_mk (st := s__law_ring) l__law_ring c__law_ring k__law_ring, g__law_ring := PySem.W.mg_of X G a__law_ring,
    B__law_ring := (fun_mk (st := s__law_ring) l__law_ring c__law_ring k__law_ring).binds (ps := ["row", "s"]) fun _ _ _ _ _ _ us hl => match us, hl with | [_, _], _ => rfl,
    a__law_less := f__law_less, d__law_less := _, F__law_less := fun_mk (st := s__law_less) l__law_less c__law_less k__law_less, g__law_less := PySem.W.mg_of X G a__law_less,
    B__law_less := (fun_mk (st := s__law_less) l__law_less c__law_less k__law_less).binds (ps := ["row"]) fun _ _ _ _ _ _ us hl => match us, hl with | [_], _ => rfl,
    a__law_by_turns := f__law_by_turns, d__law_by_turns := _, F__law_by_turns := fun_mk (st := s__law_by_turns) l__law_by_turns c__law_by_turns k__law_by_turns, g__law_by_turns := PySem.W.mg_of X G a__law_by_turns,
    B__law_by_turns := (fun_mk (st := s__law_by_turns) l__law_by_turns c__law_by_turns k__law_by_turns).binds (ps := ["row"]) fun _ _ _ _ _ _ us hl => match us, hl with | [_], _ => rfl,
    a__law_doubled := f__law_doubled, d__law_doubled := _, F__law_doubled := fun_mk (st := s__law_doubled) l__law_doubled c__law_doubled k__law_doubled, g__law_doubled := PySem.W.mg_of X G a__law_doubled,
    B__law_doubled := (fun_mk (st := s__law_doubled) l__law_doubled c__law_doubled k__law_doubled).binds (ps := ["one", "other"]) fun _ _ _ _ _ _ us hl => match us, hl with | [_, _], _ => rfl,
    a__law_woven := f__law_woven, d__law_woven := _, F__law_woven := fun_mk (st := s__law_woven) l__law_woven c__law_woven k__law_woven, g__law_woven := PySem.W.mg_of X G a__law_woven,
    B__law_woven := (fun_mk (st := s__law_woven) l__law_woven c__law_woven k__law_woven).binds (ps := ["one", "other"]) fun _ _ _ _ _ _ us hl => match us, hl with | [_, _], _ => rfl,
    a__law_grown := f__law_grown, d__law_grown := _, F__law_grown := fun_mk (st := s__law_grown) l__law_grown c__law_grown k__law_grown, g__law_grown := PySem.W.mg_of X G a__law_grown,
    B__law_grown := (fun_mk (st := s__law_grown) l__law_grown c__law_grown k__law_grown).binds (ps := ["hand"]) fun _ _ _ _ _ _ us hl => match us, hl with | [_], _ => rfl,
    a__law_is_row := f__law_is_row, d__law_is_row := _, F__law_is_row := fun_mk (st := s__law_is_row) l__law_is_row c__law_is_row k__law_is_row, g__law_is_row := PySem.W.mg_of X G a__law_is_row,
    B__law_is_row := (fun_mk (st := s__law_is_row) l__law_is_row c__law_is_row k__law_is_row).binds (ps := ["thing"]) fun _ _ _ _ _ _ us hl => match us, hl with | [_], _ => rfl,
    a__law_is_due := f__law_is_due, d__law_is_due := _, F__law_is_due := fun_mk (st := s__law_is_due) l__law_is_due c__law_is_due k__law_is_due, g__law_is_due := PySem.W.mg_of X G a__law_is_due,
    B__law_is_due := (fun_mk (st := s__law_is_due) l__law_is_due c__law_is_due k__law_is_due).binds (ps := ["one", "other", "is_ring"]) fun _ _ _ _ _ _ us hl => match us, hl with | [_, _, _], _ => rfl,
    a__law_bent := f__law_bent, d__law_bent := _, F__law_bent := fun_mk (st := s__law_bent) l__law_bent c__law_bent k__law_bent, g__law_bent := PySem.W.mg_of X G a__law_bent,
    B__law_bent := (fun_mk (st := s__law_bent) l__law_bent c__law_bent k__law_bent).binds (ps := ["hand", "row"]) fun _ _ _ _ _ _ us hl => match us, hl with | [_, _], _ => rfl,
    a__law_are_judged_right := f__law_are_judged_right, d__law_are_judged_right := _, F__law_are_judged_right := fun_mk (st := s__law_are_judged_right) l__law_are_judged_right c__law_are_judged_right k__law_are_judged_right, g__law_are_judged_right := PySem.W.mg_of X G a__law_are_judged_right,
    B__law_are_judged_right := (fun_mk (st := s__law_are_judged_right) l__law_are_judged_right c__law_are_judged_right k__law_are_judged_right).binds (ps := ["hand", "one", "other"]) fun _ _ _ _ _ _ us hl => match us, hl with | [_, _, _], _ => rfl,
    a__law_are_made_right := f__law_are_made_right, d__law_are_made_right := _, F__law_are_made_right := fun_mk (st := s__law_are_made_right) l__law_are_made_right c__law_are_made_right k__law_are_made_right, g__law_are_made_right := PySem.W.mg_of X G a__law_are_made_right,
    B__law_are_made_right := (fun_mk (st := s__law_are_made_right) l__law_are_made_right c__law_are_made_right k__law_are_made_right).binds (ps := ["one", "other"]) fun _ _ _ _ _ _ us hl => match us, hl with | [_, _], _ => rfl,
    a__law_first_is_none := f__law_first_is_none, d__law_first_is_none := _, F__law_first_is_none := fun_mk (st := s__law_first_is_none) l__law_first_is_none c__law_first_is_none k__law_first_is_none, g__law_first_is_none := PySem.W.mg_of X G a__law_first_is_none,
    B__law_first_is_none := (fun_mk (st := s__law_first_is_none) l__law_first_is_none c__law_first_is_none k__law_first_is_none).binds (ps := ["n"]) fun _ _ _ _ _ _ us hl => match us, hl with | [_], _ => rfl,
    a__law_is_first_right := f__law_is_first_right, d__law_is_first_right := _, F__law_is_first_right := fun_mk (st := s__law_is_first_right) l__law_is_first_right c__law_is_first_right k__law_is_first_right, g__law_is_first_right := PySem.W.mg_of X G a__law_is_first_right,
    B__law_is_first_right := (fun_mk (st := s__law_is_first_right) l__law_is_first_right c__law_is_first_right k__law_is_first_right).binds (ps := ["hand"]) fun _ _ _ _ _ _ us hl => match us, hl with | [_], _ => rfl,
    a__law_word := f__law_word, d__law_word := _, F__law_word := fun_mk (st := s__law_word) l__law_word c__law_word k__law_word, g__law_word := PySem.W.mg_of X G a__law_word,
    B__law_word := (fun_mk (st := s__law_word) l__law_word c__law_word k__law_word).binds (ps := ["call"]) fun _ _ _ _ _ _ us hl => match us, hl with | [_], _ => rfl,
    a__law_two := f__law_two, d__law_two := _, F__law_two := fun_mk (st := s__law_two) l__law_two c__law_two k__law_two, g__law_two := PySem.W.mg_of X G a__law_two,
    B__law_two := (fun_mk (st := s__law_two) l__law_two c__law_two k__law_two).binds (ps := ["ask", "one", "other"]) fun _ _ _ _ _ _ us hl => match us, hl with | [_, _, _], _ => rfl,
    a__law_are_refused := f__law_are_refused, d__law_are_refused := _, F__law_are_refused := fun_mk (st := s__law_are_refused) l__law_are_refused c__law_are_refused k__law_are_refused, g__law_are_refused := PySem.W.mg_of X G a__law_are_refused,
    B__law_are_refused := (fun_mk (st := s__law_are_refused) l__law_are_refused c__law_are_refused k__law_are_refused).binds (ps := ["hand"]) fun _ _ _ _ _ _ us hl => match us, hl with | [_], _ => rfl,
    a_law := f_law, d_law := _, F_law := fun_mk (st := s_law) l_law c_law k_law, g_law := PySem.W.mg_of X G a_law,
    B_law := (fun_mk (st := s_law) l_law c_law k_law).binds (ps := ["script"]) fun _ _ _ _ _ _ us hl => match us, hl with | [_], _ => rfl,
    fa_doubled_pair := rfl,
    fa_woven_pair := rfl,
    n_ValueError := PySem.W.mg_none_of X G z_ValueError,
    n_abs := PySem.W.mg_none_of X G z_abs,
    n_all := PySem.W.mg_none_of X G z_all,
    n_any := PySem.W.mg_none_of X G z_any,
    n_bool := PySem.W.mg_none_of X G z_bool,
    n_dict := PySem.W.mg_none_of X G z_dict,
    n_enumerate := PySem.W.mg_none_of X G z_enumerate,
    n_int := PySem.W.mg_none_of X G z_int,
    n_isinstance := PySem.W.mg_none_of X G z_isinstance,
    n_len := PySem.W.mg_none_of X G z_len,
    n_list := PySem.W.mg_none_of X G z_list,
    n_range := PySem.W.mg_none_of X G z_range,
    n_repr := PySem.W.mg_none_of X G z_repr,
    n_sum := PySem.W.mg_none_of X G z_sum,
    n_tuple := PySem.W.mg_none_of X G z_tuple,
    n_zip := PySem.W.mg_none_of X G z_zip,
    n_super := PySem.W.mg_none_of X G z_super,
    t_MOST_LENGTH := t_MOST_LENGTH, c_MOST_LENGTH := PySem.W.mg_of X G q_MOST_LENGTH,
    k_BlockError := C_BlockError, g_BlockError := PySem.W.mg_of X G a_BlockError, ca_BlockError := rfl,
    k_NoNumber := C_NoNumber, g_NoNumber := PySem.W.mg_of X G a_NoNumber, ca_NoNumber := rfl,
    k_NoSequence := C_NoSequence, g_NoSequence := PySem.W.mg_of X G a_NoSequence, ca_NoSequence := rfl,
    fI_NoNumber := fI_NoNumber, Z_NoNumber := Z_NoNumber, fl_NoNumber := rfl,
    fI_NoSequence := fI_NoSequence, Z_NoSequence := Z_NoSequence, fl_NoSequence := rfl,
    kit_NoSequence := (fun c hc => by
      rcases csB_mem hc with rfl | rfl
      · exact kit_NoNumber_NoSequence
      · exact kit_NoSequence_NoSequence),
    kit_NoNumber := (fun c hc => by
      rcases csB_mem hc with rfl | rfl
      · exact kit_NoNumber_NoNumber
      · exact kit_NoSequence_NoNumber),
    kit_ValueError := (fun c hc => by
      rcases csB_mem hc with rfl | rfl
      · exact kit_NoNumber_ValueError
      · exact kit_NoSequence_ValueError),
    ex_ok := (fun c hc => by
      rcases csB_mem hc with rfl | rfl
      · exact x_NoNumber
      · exact x_NoSequence),
    ex_fl := fun _ _ => rfl,
    ex_m := (fun c hc => by
      rcases csB_mem hc with rfl | rfl
      · exact m_NoNumber_BlockError
      · exact m_NoSequence_BlockError),
    c__law_two := cc__law_two, P__law_two := P__law_two, FC__law_two := ⟨_, _, _, _, _, _, _, _, rfl, l__law_two, c__law_two⟩, tbm__law_two := tbm__law_two, tbu__law_two := tbu__law_two,
    c__law_are_refused := cc__law_are_refused, P__law_are_refused := P__law_are_refused, FC__law_are_refused := ⟨_, _, _, _, _, _, _, _, rfl, l__law_are_refused, c__law_are_refused⟩, tbm__law_are_refused := tbm__law_are_refused, tbu__law_are_refused := tbu__law_are_refused,
    gbS := gbS
    }, rfl, rfl, rfl, rfl, rfl, rfl⟩
end L2.Pv.K75
end
section
set_option Elab.async false
set_option linter.all false
set_option autoImplicit false
set_option maxRecDepth 100000
set_option maxHeartbeats 1000000
namespace L2.Pv.K75
open PySem Golay
/-! ### kinds -/
theorem kits : kitB "int" "int" = some true ∧ kitB "bool" "int" = some true ∧ kitB "NoneType" "int" = some false ∧ kitB "str" "int" = some false ∧ kitB "tuple" "int" = some false ∧ kitB "list" "int" = some false ∧ kitB "dict" "int" = some false := by decide +kernel
theorem kitsB : kitB "int" "bool" = some false ∧ kitB "bool" "bool" = some true ∧ kitB "NoneType" "bool" = some false ∧ kitB "str" "bool" = some false ∧ kitB "tuple" "bool" = some false ∧ kitB "list" "bool" = some false ∧ kitB "dict" "bool" = some false := by decide +kernel
theorem kitsT : kitB "int" "tuple" = some false ∧ kitB "bool" "tuple" = some false ∧ kitB "NoneType" "tuple" = some false ∧ kitB "str" "tuple" = some false ∧ kitB "tuple" "tuple" = some true ∧ kitB "list" "tuple" = some false ∧ kitB "dict" "tuple" = some false := by decide +kernel
/-- what may stand in a row, told apart by its kind -/
def okA : D → Bool
  | .non => true
  | .bl _ => true
  | .int _ => true
  | .str _ => true
  | .tup _ => true
  | .lst o _ => !o
  | .dic o (.k _) _ => !o
  | _ => false
def isTup : D → Bool
  | .tup _ => true
  | _ => false
theorem okA_own {d : D} (h : okA d = true) : d.own = false := by
  cases d with
  | lst o xs => simpa [okA, D.own] using h
  | dic o ks xs => cases ks with
    | k ks => simpa [okA, D.own] using h
    | t ks => exact nomatch h
  | _ => first | rfl | exact nomatch h
theorem isi_int {d : D} (h : okA d = true) : dIsi "int" d = some (.bl (match d with | .int _ => true | .bl _ => true | _ => false)) := by
  obtain ⟨k1, k2, k3, k4, k5, k6, k7⟩ := kits
  unfold dIsi
  cases d with
  | dic o ks xs => cases ks with
    | k ks => simp [D.tyn, k7]
    | t ks => exact nomatch h
  | _ => first | (simp [D.tyn, k1, k2, k3, k4, k5, k6]; done) | exact nomatch h
theorem isi_bool {d : D} (h : okA d = true) : dIsi "bool" d = some (.bl (match d with | .bl _ => true | _ => false)) := by
  obtain ⟨k1, k2, k3, k4, k5, k6, k7⟩ := kitsB
  unfold dIsi
  cases d with
  | dic o ks xs => cases ks with
    | k ks => simp [D.tyn, k7]
    | t ks => exact nomatch h
  | _ => first | (simp [D.tyn, k1, k2, k3, k4, k5, k6]; done) | exact nomatch h
theorem isi_tup {d : D} (h : okA d = true) : dIsi "tuple" d = some (.bl (isTup d)) := by
  obtain ⟨k1, k2, k3, k4, k5, k6, k7⟩ := kitsT
  unfold dIsi
  cases d with
  | dic o ks xs => cases ks with
    | k ks => simp [D.tyn, k7, isTup]
    | t ks => exact nomatch h
  | _ => first | (simp [D.tyn, k1, k2, k3, k4, k5, k6, isTup]; done) | exact nomatch h
@[simp] theorem dNot_bl {b : Bool} : dNot (.bl b) = some (.bl (!b)) := by cases b <;> rfl
theorem is_integer_ok {d : D} (h : okA d = true) : m_is_integer [d] = .ok (.bl d.isInt) [] := by
  unfold m_is_integer
  rw [runF_1]
  simp [b_is_integer, isi_int h, isi_bool h]
  cases d <;> first | rfl | simp [D.isInt]
theorem is_within_ok {d : D} (h : okA d = true) (a b : Int) : m_is_within [d, .int a, .int b] = .ok (.bl (match d with | .int i => decide (a ≤ i) && decide (i ≤ b) | _ => false)) [] := by
  unfold m_is_within
  rw [runF_3]
  simp [b_is_within, okA_own h, is_integer_ok h]
  cases d <;> simp [D.isInt]
  rename_i i
  by_cases h1 : a ≤ i <;> simp [h1]
theorem is_tuple_ok {d : D} (h : okA d = true) (a b : Int) : m_is_tuple [d, .int a, .int b] = .ok (.bl (match d with | .tup xs => decide (a ≤ (xs.length : Int)) && decide ((xs.length : Int) ≤ b) | _ => false)) [] := by
  unfold m_is_tuple
  rw [runF_3]
  simp [b_is_tuple, okA_own h, isi_tup h]
  cases d <;> simp [isTup]
  rename_i xs
  by_cases h1 : a ≤ (xs.length : Int) <;> simp [h1]
/-! ### sums -/
theorem zs_range : ∀ (m : Nat) (a b : List Int), a.length ≤ m ∨ b.length ≤ m → ((List.range m).map fun k => a.getD k 0 * b.getD k 0).sum = zs a b
  | 0, a, b, h => by
    rcases h with h | h
    · have : a = [] := List.eq_nil_of_length_eq_zero (by omega)
      subst this; simp
    · have : b = [] := List.eq_nil_of_length_eq_zero (by omega)
      subst this; simp
  | m + 1, [], b, h => by
    rw [zs_nil_l]
    have : ((List.range (m + 1)).map fun k => ([] : List Int).getD k 0 * b.getD k 0) = (List.range (m + 1)).map fun _ => 0 := List.map_congr_left fun k _ => by simp
    rw [this]
    induction (List.range (m + 1)) with
    | nil => rfl
    | cons x xs ih => simp at ih ⊢; exact ih
  | m + 1, x :: a, [], h => by
    rw [zs_nil_r]
    have : ((List.range (m + 1)).map fun k => (x :: a).getD k 0 * ([] : List Int).getD k 0) = (List.range (m + 1)).map fun _ => 0 := List.map_congr_left fun k _ => by simp
    rw [this]
    induction (List.range (m + 1)) with
    | nil => rfl
    | cons x xs ih => simp at ih ⊢; exact ih
  | m + 1, x :: a, y :: b, h => by
    rw [List.range_succ_eq_map, List.map_cons, List.sum_cons, List.map_map, zs_cons, ← zs_range m a b (by simpa using h)]
    rfl
theorem corr_range (xs : List Int) (s : Nat) : ((List.range (xs.length - s)).map fun k => xs.getD k 0 * xs.getD (k + s) 0).sum = corr xs s := by
  unfold corr
  rw [← zs_range (xs.length - s) xs (xs.drop s) (.inr (by simp))]
  congr 1
  refine List.map_congr_left fun k _ => ?_
  rw [List.getD_eq_getElem?_getD (l := xs.drop s), List.getElem?_drop, Nat.add_comm s k, List.getD_eq_getElem?_getD (l := xs) (i := k + s)]
theorem rc_range (xs : List Int) {s : Nat} (hs : s ≤ xs.length) : ((List.range xs.length).map fun k => xs.getD k 0 * xs.getD ((k + s) % xs.length) 0).sum = rc xs s := by
  unfold rc
  rw [← zs_range xs.length xs (xs.drop s ++ xs.take s) (.inl (Nat.le_refl _))]
  congr 1
  refine List.map_congr_left fun k hk => ?_
  have hk : k < xs.length := List.mem_range.mp hk
  congr 1
  rw [List.getD_eq_getElem?_getD, List.getD_eq_getElem?_getD]
  congr 1
  by_cases h : k + s < xs.length
  · rw [Nat.mod_eq_of_lt h, List.getElem?_append_left (by simp; omega), List.getElem?_drop, Nat.add_comm]
  · have e : (k + s) % xs.length = k + s - xs.length := by
      rw [Nat.mod_eq_sub_mod (by omega), Nat.mod_eq_of_lt (by omega)]
    rw [e, List.getElem?_append_right (by simp; omega), List.length_drop, List.getElem?_take_of_lt (by omega)]
    congr 1
    omega
def small (xs : List Int) : Prop := xs.length ≤ 1000 ∧ ∀ x ∈ xs, x.natAbs ≤ 2 ^ 60
theorem small.get {xs : List Int} (h : small xs) (k : Nat) : -(2 ^ 64) < xs.getD k 0 ∧ xs.getD k 0 < 2 ^ 64 := by
  rw [List.getD_eq_getElem?_getD]
  cases e : xs[k]? with
  | none => decide
  | some x =>
    have := h.2 x (List.mem_of_getElem? e)
    simp only [Option.getD_some]
    omega
/-- the sum over a range of products of a row's numbers -/
theorem line_sum {xs : List Int} (h : small xs) {vs : List Nat} {i : Nat} {fi : EvA} {fe : Ev} {δ δ1 : DS} {m : Nat} {w : Nat → Nat} {S : Nat → DS} (hi : fi δ = .ok (rangeD 0 m) δ1) (ht : ∀ k, gSet i (.int (0 + (k : Nat))) (wipeG δ1 vs) = some (S k))
    (he : ∀ k, k < m → fe (S k) = lft (dMul (.int (xs.getD k 0)) (.int (xs.getD (w k) 0))) (S k)) (hw : ∀ k, wipeG (S k) vs = wipeG δ1 vs) (hr : restG δ1 (wipeG δ1 vs) vs = δ1) :
    ev1 dSum (eLc vs fi (gSet i) cYes fe) δ = .ok (.int ((List.range m).map fun k => xs.getD k 0 * xs.getD (w k) 0).sum) δ1 := by
  rw [ev1_ap, eLc_map (L := List.range m) (ι := fun k => D.int (0 + (k : Nat))) (S := S) (g := fun k => D.int (xs.getD k 0 * xs.getD (w k) 0)) hi (fun k _ => ht k) (fun k hk => ?_) (fun k _ => hw k) hr, bd_ok, dSum_map, lft_some]
  rw [he k (List.mem_range.mp hk), dMul_int (mulOk_l (h.get k).1 (h.get k).2), lft_some]
theorem moved_ok {xs : List Int} (h : small xs) : m_moved_sums [tR xs] = .ok (.lst true ((List.range xs.length).map fun s => D.int (corr xs s))) [] := by
  have hz : xs.length ≤ sizeLine := sz_le (by have := h.1; omega)
  unfold m_moved_sums
  rw [runF_1]
  simp [b_moved_sums]
  rw [eLc_map (L := List.range xs.length) (ι := fun k => D.int (0 + (k : Nat))) (S := fun s => [some (tR xs), some (.int xs.length), some (.int (0 + (s : Nat))), none]) (g := fun s => D.int (corr xs s)) (δ1 := [some (tR xs), some (.int xs.length), none, none])]
  · simp
  · exact iRng_1 (j := (xs.length : Int)) (by simp) (by have := h.1; omega)
  · intro s _; rfl
  · intro s hs
    have hs : s < xs.length := List.mem_range.mp hs
    rw [line_sum h (m := xs.length - s) (w := fun k => k + s) (S := fun k => [some (tR xs), some (.int xs.length), some (.int (0 + (s : Nat))), some (.int (0 + (k : Nat)))]) (δ1 := [some (tR xs), some (.int xs.length), some (.int (0 + (s : Nat))), none])]
    · rw [corr_range]
    · rw [iRng_1 (j := (xs.length : Int) - (0 + (s : Nat))) (δ' := [some (tR xs), some (.int xs.length), some (.int (0 + (s : Nat))), none]) (by simp) (by have := h.1; omega), show ((xs.length : Int) - (0 + (s : Nat))).toNat = xs.length - s by omega]
    · intro k; rfl
    · intro k hk
      have a1 := atI_row (xs := xs) (k := k) (by omega)
      have a2 := atI_row (xs := xs) (k := k + s) (by omega)
      rw [Int.natCast_add] at a2
      simp [a1, a2]
    · intro k; rfl
    · rfl
  · intro s _; rfl
  · rfl
end L2.Pv.K75
end
section
set_option Elab.async false
set_option linter.all false
set_option autoImplicit false
set_option maxRecDepth 100000
set_option maxHeartbeats 1000000
namespace L2.Pv.K75
open PySem Golay
theorem ring_ok {xs : List Int} (h : small xs) : m_ring_sums_of [tR xs] = .ok (.lst true ((List.range xs.length).map fun s => D.int (rc xs s))) [] := by
  unfold m_ring_sums_of
  rw [runF_1]
  simp [b_ring_sums_of]
  rw [eLc_map (L := List.range xs.length) (ι := fun k => D.int (0 + (k : Nat))) (S := fun s => [some (tR xs), some (.int xs.length), some (.int (0 + (s : Nat))), none]) (g := fun s => D.int (rc xs s)) (δ1 := [some (tR xs), some (.int xs.length), none, none])]
  · simp
  · exact iRng_1 (j := (xs.length : Int)) (by simp) (by have := h.1; omega)
  · intro s _; rfl
  · intro s hs
    have hs : s < xs.length := List.mem_range.mp hs
    rw [line_sum h (m := xs.length) (w := fun k => (k + s) % xs.length) (S := fun k => [some (tR xs), some (.int xs.length), some (.int (0 + (s : Nat))), some (.int (0 + (k : Nat)))]) (δ1 := [some (tR xs), some (.int xs.length), some (.int (0 + (s : Nat))), none])]
    · rw [rc_range xs (by omega)]
    · rw [iRng_1 (j := (xs.length : Int)) (δ' := [some (tR xs), some (.int xs.length), some (.int (0 + (s : Nat))), none]) (by simp) (by have := h.1; omega)]
      rfl
    · intro k; rfl
    · intro k hk
      have a1 := atI_row (xs := xs) (k := k) (by omega)
      have a2 := atI_row (xs := xs) (k := (k + s) % xs.length) (Nat.mod_lt _ (by omega))
      rw [Int.natCast_emod, Int.natCast_add] at a2
      simp [a1, a2, dMod_int (j := (xs.length : Int)) (by omega)]
    · intro k; rfl
    · rfl
  · intro s _; rfl
  · rfl
theorem line_ok {xs : List Int} (h : small xs) (s : Nat) (hs : s ≤ 1000) : m__law_line [tR xs, .int s] = .ok (.int (corr xs s)) [] := by
  unfold m__law_line
  rw [runF_2]
  simp [b__law_line, -ev1_ap]
  rw [line_sum h (m := xs.length - s) (w := fun k => k + s) (S := fun k => [some (tR xs), some (.int s), some (.int (0 + (k : Nat)))]) (δ1 := [some (tR xs), some (.int s), none])]
  · rw [corr_range]; simp
  · rw [iRng_1 (j := (xs.length : Int) - s) (δ' := [some (tR xs), some (.int s), none]) (by simp) (by have := h.1; omega), show ((xs.length : Int) - s).toNat = xs.length - s by omega]
  · intro k; rfl
  · intro k hk
    have a1 := atI_row (xs := xs) (k := k) (by omega)
    have a2 := atI_row (xs := xs) (k := k + s) (by omega)
    rw [Int.natCast_add] at a2
    simp [a1, a2]
  · intro k; rfl
  · rfl
theorem lring_ok {xs : List Int} (h : small xs) (s : Nat) (hs : s ≤ xs.length) : m__law_ring [tR xs, .int s] = .ok (.int (rc xs s)) [] := by
  unfold m__law_ring
  rw [runF_2]
  simp [b__law_ring, -ev1_ap]
  rw [line_sum h (m := xs.length) (w := fun k => (k + s) % xs.length) (S := fun k => [some (tR xs), some (.int s), some (.int (0 + (k : Nat)))]) (δ1 := [some (tR xs), some (.int s), none])]
  · rw [rc_range xs hs]; simp
  · rw [iRng_1 (j := (xs.length : Int)) (δ' := [some (tR xs), some (.int s), none]) (by simp) (by have := h.1; omega)]
    rfl
  · intro k; rfl
  · intro k hk
    have a1 := atI_row (xs := xs) (k := k) (by omega)
    have a2 := atI_row (xs := xs) (k := (k + s) % xs.length) (Nat.mod_lt _ (by omega))
    rw [Int.natCast_emod, Int.natCast_add] at a2
    simp [a1, a2, dMod_int (j := (xs.length : Int)) (by omega)]
  · intro k; rfl
  · rfl
/-! ### rows -/
def sgnB : D → Bool
  | .int i => decide (i = 1) || decide (i = -1)
  | _ => false
def isRow : D → Bool
  | .tup xs => decide (1 ≤ xs.length) && decide (xs.length ≤ 64) && xs.all sgnB
  | _ => false
structure okD (d : D) : Prop where
  a : okA d = true
  t : ∀ xs, d = .tup xs → ∀ x ∈ xs, okA x = true
theorem is_row_ok {d : D} (h : okD d) : m_is_row [d] = .ok (.bl (isRow d)) [] := by
  unfold m_is_row
  rw [runF_1]
  simp [b_is_row, okA_own h.a, is_tuple_ok h.a]
  cases d with
  | tup xs =>
    simp only [isRow]
    by_cases h1 : 1 ≤ (xs.length : Int)
    · by_cases h2 : (xs.length : Int) ≤ 64
      · simp [h1, h2]
        rw [eLc_map (L := xs) (ι := fun x => x) (S := fun x => [some (.tup xs), some x]) (g := fun x => D.bl (sgnB x)) (δ1 := [some (.tup xs), none])]
        · rw [bd_ok, dAll_map]; simp; intro _; omega
        · simp
        · intro x _; rfl
        · intro x hx
          have hx := h.t xs rfl x hx
          simp [okA_own hx, is_within_ok hx]
          cases x <;> simp [sgnB]
          rename_i i _
          by_cases h1 : -1 ≤ i <;> by_cases h2 : i ≤ 1 <;> by_cases h3 : i = 0 <;> simp [h1, h2, h3] <;> omega
        · intro x _; rfl
        · rfl
      · simp [h1, h2]; omega
    · simp [h1]; omega
  | _ => simp [isRow]
theorem lrow_ok {d : D} (h : okD d) : m__law_is_row [d] = .ok (.bl (isRow d)) [] := by
  unfold m__law_is_row
  rw [runF_1]
  simp [b__law_is_row, okA_own h.a, isi_tup h.a]
  cases d with
  | tup xs =>
    simp only [isRow, isTup]
    simp
    by_cases h1 : 1 ≤ (xs.length : Int)
    · by_cases h2 : (xs.length : Int) ≤ 64
      · simp [h1, h2]
        rw [eLc_map (L := xs) (ι := fun x => x) (S := fun x => [some (.tup xs), some x]) (g := fun x => D.bl (sgnB x)) (δ1 := [some (.tup xs), none])]
        · rw [bd_ok, dAll_map]; simp; intro _; omega
        · simp
        · intro x _; rfl
        · intro x hx
          have hx := h.t xs rfl x hx
          simp [okA_own hx, isi_int hx, isi_bool hx]
          cases x <;> simp [sgnB]
          rename_i i _
          simp [dIn, D.frzs, D.frz, D.eqOk, D.eqOks, D.isIn, D.eqb]
          by_cases h1 : i = 1
          · subst h1; rfl
          · by_cases h2 : i = -1
            · subst h2; rfl
            · have q1 : ¬ 1 = i := fun z => h1 z.symm
              have q2 : ¬ -1 = i := fun z => h2 z.symm
              simp [h1, h2, q1, q2]
        · intro x _; rfl
        · rfl
      · simp [h1, h2]; omega
    · simp [h1]; omega
  | _ => simp [isRow, isTup]
/-! ### what is a row, a pair -/
def Row (xs : List Int) : Prop := (1 ≤ xs.length ∧ xs.length ≤ 64) ∧ ∀ x ∈ xs, x = 1 ∨ x = -1
theorem isRow_row {xs : List Int} (h : Row xs) : isRow (tR xs) = true := by
  simp [isRow, h.1.1, h.1.2, List.all_map]
  intro x hx
  rcases h.2 x hx with rfl | rfl <;> rfl
theorem row_of {d : D} (h : isRow d = true) : ∃ xs, d = tR xs ∧ Row xs := by
  cases d with
  | tup ds =>
    simp only [isRow, Bool.and_eq_true, decide_eq_true_eq] at h
    obtain ⟨⟨h1, h2⟩, h3⟩ := h
    have key : ∀ ds : List D, ds.all sgnB = true → ∃ xs : List Int, ds = xs.map D.int ∧ ∀ x ∈ xs, x = 1 ∨ x = -1 := by
      intro ds
      induction ds with
      | nil => intro _; exact ⟨[], rfl, by simp⟩
      | cons d ds ih =>
        intro h
        rw [List.all_cons, Bool.and_eq_true] at h
        obtain ⟨xs, e, hx⟩ := ih h.2
        cases d with
        | int i =>
          have hi : i = 1 ∨ i = -1 := by simpa [sgnB] using h.1
          exact ⟨i :: xs, by rw [e]; rfl, fun x hxx => by
            rcases List.mem_cons.mp hxx with rfl | hxx
            · exact hi
            · exact hx x hxx⟩
        | _ => exact nomatch h.1
    obtain ⟨xs, rfl, hx⟩ := key ds h3
    exact ⟨xs, rfl, ⟨by simpa using h1, by simpa using h2⟩, hx⟩
  | _ => exact nomatch h
theorem Row.small {xs : List Int} (h : Row xs) : small xs := ⟨by have := h.1.2; omega, fun x hx => by rcases h.2 x hx with rfl | rfl <;> decide⟩
theorem okD_row (xs : List Int) : okD (tR xs) := ⟨rfl, fun ys e x hx => by
  cases e
  obtain ⟨i, _, rfl⟩ := List.mem_map.mp hx
  rfl⟩
def dues (f : List Int → Nat → Int) (xs ys : List Int) : Bool := (List.range (xs.length - 1)).all fun k => decide (f xs (k + 1) + f ys (k + 1) = 0)
def valsOf : D → List Int
  | .tup ds => (intsOf ds).getD []
  | _ => []
@[simp] theorem valsOf_row (xs : List Int) : valsOf (tR xs) = xs := by simp [valsOf]
def pairB (f : List Int → Nat → Int) (d e : D) : Bool := isRow d && (isRow e && (decide ((valsOf d).length = (valsOf e).length) && dues f (valsOf d) (valsOf e)))
theorem zip_same {α : Type} (L : List α) (f g : α → D) : zipD (L.map f) (L.map g) = L.map fun a => .tup [f a, g a] := by
  unfold zipD
  induction L with
  | nil => rfl
  | cons x L ih => simp [ih]
theorem frzs_ints {α : Type} (L : List α) (f : α → Int) : D.frzs (L.map fun a => D.int (f a)) = L.map fun a => D.int (f a) := by
  rw [D.frzs_map, List.map_map]; rfl
theorem ziptail {fa : EvA} {δ : DS} {n : Nat} {a b : Nat → Int} (h : fa δ = .ok [.lst true ((List.range n).map fun s => D.int (a s)), .lst true ((List.range n).map fun s => D.int (b s))] δ) :
    iSeq (eSl (eLz fa) (oSome (eC (.int 1))) oNone) δ = .ok ((List.range (n - 1)).map fun k => D.tup [.int (a (k + 1)), .int (b (k + 1))]) δ := by
  have e1 : eLz fa δ = .ok (.lst true ((List.range n).map fun s => D.tup [.int (a s), .int (b s)])) δ := by
    unfold eLz
    rw [h, bd_ok]
    unfold lzO
    simp only [lft_some, frzs_ints]
    rw [zip_same]
  have e2 : dSl (.lst true ((List.range n).map fun s => D.tup [.int (a s), .int (b s)])) (some 1) none = some (.lst true ((List.range (n - 1)).map fun k => D.tup [.int (a (k + 1)), .int (b (k + 1))])) := by
    have al : ((List.range n).map fun s => D.tup [.int (a s), .int (b s)]).all nOwn = true := by simp [List.all_map]
    unfold dSl
    simp only [al, if_true]
    unfold dCut
    have i1 : HT.sIx ((List.range n).map fun s => D.tup [.int (a s), .int (b s)]).length 0 (some 1) = min 1 n := by
      have := HT.sIx_nat ((List.range n).map fun s => D.tup [.int (a s), .int (b s)]).length 0 1
      simpa using this
    rw [i1, HT.sIx_none]
    congr 2
    cases n with
    | zero => rfl
    | succ n =>
      rw [show min 1 (n + 1) = 1 by omega, List.range_succ_eq_map, List.map_cons, List.drop_succ_cons, List.drop_zero, List.map_map, List.take_of_length_le (by simp)]
      rfl
  rw [iSeq_ap, eSl_ap, e1]
  simp only [bd_ok, oSome_ap, eC_ap, ti_ok, oNone_ap, e2, lft_some]
  rw [D.frzs_map, List.map_map]
  congr 1
theorem pair_body {m : List D → FOut} {f : List Int → Nat → Int} {xs ys : List Int} (hl : xs.length = ys.length) (hm : ∀ zs, small zs → m [tR zs] = .ok (.lst true ((List.range zs.length).map fun s => D.int (f zs s))) []) (hx : small xs) (hy : small ys) :
    ev1 dAll (eLc [2, 3] (iSeq (eSl (eLz (aCons (calF m (aCons (eNm 0) aNil)) (aCons (calF m (aCons (eNm 1) aNil)) aNil))) (oSome (eC (.int 1))) oNone)) (gTup' 2 (gCons' (gSet 2) (gCons' (gSet 3) gNil'))) cYes (ev2 dEq (ev2 dAdd (eLk 2) (eLk 3)) (eC (.int 0))))
      [some (tR xs), some (tR ys), none, none] = .ok (.bl (dues f xs ys)) [some (tR xs), some (tR ys), none, none] := by
  have h1 : (aCons (calF m (aCons (eNm 0) aNil)) (aCons (calF m (aCons (eNm 1) aNil)) aNil)) [some (tR xs), some (tR ys), none, none] = .ok [.lst true ((List.range xs.length).map fun s => D.int (f xs s)), .lst true ((List.range xs.length).map fun s => D.int (f ys s))] [some (tR xs), some (tR ys), none, none] := by
    simp [hm xs hx, hm ys hy, hl]
  rw [ev1_ap, eLc_map (L := List.range (xs.length - 1)) (ι := fun k => D.tup [.int (f xs (k + 1)), .int (f ys (k + 1))]) (S := fun k => [some (tR xs), some (tR ys), some (.int (f xs (k + 1))), some (.int (f ys (k + 1)))]) (g := fun k => D.bl (decide (f xs (k + 1) + f ys (k + 1) = 0))) (ziptail h1), bd_ok, dAll_map, lft_some]
  · rfl
  · intro k _; rfl
  · intro k _; simp
  · intro k _; rfl
  · rfl
theorem two_rows {m : List D → FOut} {f : List Int → Nat → Int} {d e : D} (hd : okD d) (he : okD e) (hm : ∀ zs, small zs → m [tR zs] = .ok (.lst true ((List.range zs.length).map fun s => D.int (f zs s))) []) :
    runF [] 4 2 (sSeq (sIf (cOr (cNot (cVal (calF m_is_row (aCons (eNm 0) (aNil))))) (cOr (cNot (cVal (calF m_is_row (aCons (eNm 1) (aNil))))) (cVal (ev2 dNe (ev1 dLen (eLk 0)) (ev1 dLen (eLk 1)))))) (sRet (eC (.bl false))) (sNil)) (sRet (ev1 dAll (eLc [2, 3] (iSeq (eSl (eLz (aCons (calF m (aCons (eNm 0) aNil)) (aCons (calF m (aCons (eNm 1) aNil)) aNil))) (oSome (eC (.int 1))) oNone)) (gTup' 2 (gCons' (gSet 2) (gCons' (gSet 3) gNil'))) cYes (ev2 dEq (ev2 dAdd (eLk 2) (eLk 3)) (eC (.int 0))))))) [d, e]
      = .ok (.bl (pairB f d e)) [] := by
  rw [runF_2]
  unfold pairB
  cases r1 : isRow d with
  | false => simp [okA_own hd.a, okA_own he.a, is_row_ok hd, is_row_ok he, r1]
  | true =>
    cases r2 : isRow e with
    | false => simp [okA_own hd.a, okA_own he.a, is_row_ok hd, is_row_ok he, r1, r2]
    | true =>
      obtain ⟨xs, rfl, hx⟩ := row_of r1
      obtain ⟨ys, rfl, hy⟩ := row_of r2
      by_cases hl : xs.length = ys.length
      · have hl2 : (xs.length : Int) = ys.length := by omega
        have pb := pair_body hl hm hx.small hy.small
        rw [ev1_ap] at pb
        simp [is_row_ok hd, is_row_ok he, r1, r2, hl2]
        rw [pb]
        simp [hl]
      · have hl2 : ¬ (xs.length : Int) = ys.length := by omega
        simp [is_row_ok hd, is_row_ok he, r1, r2, hl2, hl]
theorem due_body {m : List D → FOut} {f : List Int → Nat → Int} {xs ys : List Int} {b : Bool} (hl : xs.length = ys.length) (hm : ∀ (zs : List Int) (s : Nat), Row zs → s ≤ zs.length → m [tR zs, .int s] = .ok (.int (f zs s)) []) (hx : Row xs) (hy : Row ys) :
    ev1 dAll (eLc [3] (iRng (aCons (eC (.int 1)) (aCons (ev1 dLen (eLk 0)) aNil))) (gSet 3) cYes (ev2 dEq (ev2 dAdd (calF m (aCons (eNm 0) (aCons (eNm 3) aNil))) (calF m (aCons (eNm 1) (aCons (eNm 3) aNil)))) (eC (.int 0))))
      [some (tR xs), some (tR ys), some (.bl b), none] = .ok (.bl (dues f xs ys)) [some (tR xs), some (tR ys), some (.bl b), none] := by
  have h1 : iRng (aCons (eC (.int 1)) (aCons (ev1 dLen (eLk 0)) aNil)) [some (tR xs), some (tR ys), some (.bl b), none] = .ok ((List.range (xs.length - 1)).map fun k => D.int ((k + 1 : Nat) : Int)) [some (tR xs), some (tR ys), some (.bl b), none] := by
    rw [iRng_2 (i := 1) (j := (xs.length : Int)) (δ' := [some (tR xs), some (tR ys), some (.bl b), none]) (δ'' := [some (tR xs), some (tR ys), some (.bl b), none]) (by simp) (by simp) (by decide) (by have := hx.1.2; omega), rangeD_eq, show ((xs.length : Int) - 1).toNat = xs.length - 1 by omega]
    congr 1
    refine List.map_congr_left fun k _ => ?_
    congr 1
    omega
  rw [ev1_ap, eLc_map (L := List.range (xs.length - 1)) (ι := fun k => D.int ((k + 1 : Nat) : Int)) (S := fun k => [some (tR xs), some (tR ys), some (.bl b), some (.int ((k + 1 : Nat) : Int))]) (g := fun k => D.bl (decide (f xs (k + 1) + f ys (k + 1) = 0))) h1, bd_ok, dAll_map, lft_some]
  · rfl
  · intro k _; rfl
  · intro k hk
    have hk : k < xs.length - 1 := List.mem_range.mp hk
    have e1 := hm xs (k + 1) hx (by omega)
    have e2 := hm ys (k + 1) hy (by omega)
    rw [Int.natCast_add] at e1 e2
    simp at e1 e2
    simp [e1, e2]
  · intro k _; rfl
  · rfl
theorem due_ok {d e : D} (hd : okD d) (he : okD e) (b : Bool) : m__law_is_due [d, e, .bl b] = .ok (.bl (pairB (if b then rc else corr) d e)) [] := by
  unfold m__law_is_due
  rw [runF_3]
  unfold pairB b__law_is_due
  cases r1 : isRow d with
  | false => simp [okA_own hd.a, okA_own he.a, lrow_ok hd, lrow_ok he, r1]
  | true =>
    cases r2 : isRow e with
    | false => simp [okA_own hd.a, okA_own he.a, lrow_ok hd, lrow_ok he, r1, r2]
    | true =>
      obtain ⟨xs, rfl, hx⟩ := row_of r1
      obtain ⟨ys, rfl, hy⟩ := row_of r2
      by_cases hl : xs.length = ys.length
      · have hl2 : (xs.length : Int) = ys.length := by omega
        cases b with
        | true =>
          have pb := due_body (b := true) hl (fun zs s h hs => lring_ok h.small s hs) hx hy
          rw [ev1_ap] at pb
          simp [lrow_ok hd, lrow_ok he, r1, r2, hl2]
          rw [pb]
          simp [hl]
        | false =>
          have pb := due_body (b := false) hl (fun zs s h hs => line_ok h.small s (by have := h.1.2; omega)) hx hy
          rw [ev1_ap] at pb
          simp [lrow_ok hd, lrow_ok he, r1, r2, hl2]
          rw [pb]
          simp [hl]
      · have hl2 : ¬ (xs.length : Int) = ys.length := by omega
        simp [lrow_ok hd, lrow_ok he, r1, r2, hl2, hl]
/-! ### pairs -/
theorem dues_pair {xs ys : List Int} (hl : xs.length = ys.length) : dues corr xs ys = true ↔ Pair xs ys := by
  unfold dues Pair
  rw [List.all_eq_true]
  constructor
  · intro h s hs
    by_cases hb : s < xs.length
    · have := h (s - 1) (List.mem_range.mpr (by omega))
      rw [decide_eq_true_eq, show s - 1 + 1 = s by omega] at this
      exact this
    · rw [corr_big xs (by omega), corr_big ys (by omega)]; rfl
  · intro h k _
    rw [decide_eq_true_eq]
    exact h (k + 1) (by omega)
theorem pairB_pair {xs ys : List Int} (hx : Row xs) (hy : Row ys) (hl : xs.length = ys.length) (h : Pair xs ys) : pairB corr (tR xs) (tR ys) = true := by
  unfold pairB
  rw [isRow_row hx, isRow_row hy, valsOf_row, valsOf_row, (dues_pair hl).mpr h]
  simp [hl]
theorem pairB_inv {f : List Int → Nat → Int} {d e : D} (h : pairB f d e = true) : ∃ xs ys, d = tR xs ∧ e = tR ys ∧ Row xs ∧ Row ys ∧ xs.length = ys.length ∧ dues f xs ys = true := by
  unfold pairB at h
  simp only [Bool.and_eq_true, decide_eq_true_eq] at h
  obtain ⟨h1, h2, h3, h4⟩ := h
  obtain ⟨xs, rfl, hx⟩ := row_of h1
  obtain ⟨ys, rfl, hy⟩ := row_of h2
  rw [valsOf_row, valsOf_row] at h3 h4
  exact ⟨xs, ys, rfl, rfl, hx, hy, h3, h4⟩
theorem pairB_ring {d e : D} (h : pairB corr d e = true) : pairB rc d e = true := by
  obtain ⟨xs, ys, rfl, rfl, hx, hy, hl, hd⟩ := pairB_inv h
  have hp := (dues_pair hl).mp hd
  unfold pairB
  rw [isRow_row hx, isRow_row hy, valsOf_row, valsOf_row]
  have : dues rc xs ys = true := by
    unfold dues
    rw [List.all_eq_true]
    intro k hk
    have hk := List.mem_range.mp hk
    rw [decide_eq_true_eq]
    exact hp.ring hl (by omega) (by omega)
  rw [this]
  simp [hl]
theorem is_pair_ok {d e : D} (hd : okD d) (he : okD e) : m_is_pair [d, e] = .ok (.bl (pairB corr d e)) [] := two_rows hd he fun zs h => moved_ok h
theorem is_ring_ok {d e : D} (hd : okD d) (he : okD e) : m_is_ring_pair [d, e] = .ok (.bl (pairB rc d e)) [] := two_rows hd he fun zs h => ring_ok h
end L2.Pv.K75
end
section
set_option Elab.async false
set_option linter.all false
set_option autoImplicit false
set_option maxRecDepth 100000
set_option maxHeartbeats 1000000
namespace L2.Pv.K75
open PySem Golay
theorem check_ok {d e : D} (hd : okD d) (he : okD e) : m_check_pair [d, e] = if pairB corr d e then .ok .non [] else .exc 2 [] [] := by
  unfold m_check_pair
  rw [runF_2]
  simp [b_check_pair, okA_own hd.a, okA_own he.a, is_pair_ok hd he]
  cases pairB corr d e <;> simp
theorem neg_map {xs : List Int} (f : Int → D) (hf : ∀ x, f x = .int (-x)) : xs.map f = (neg xs).map D.int := by
  unfold neg
  rw [List.map_map]
  exact List.map_congr_left fun x _ => hf x
/-- the row, each number less -/
theorem less_body {i : Nat} {fi : EvA} {fe : Ev} {δ δ1 : DS} {vs : List Nat} {xs : List Int} {S : Int → DS} (hi : fi δ = .ok (xs.map D.int) δ1) (ht : ∀ x, gSet i (.int x) (wipeG δ1 vs) = some (S x)) (he : ∀ x, fe (S x) = .ok (.int (-x)) (S x)) (hw : ∀ x, wipeG (S x) vs = wipeG δ1 vs) (hr : restG δ1 (wipeG δ1 vs) vs = δ1) :
    ev1 dTup (eLc vs fi (gSet i) cYes fe) δ = .ok (tR (neg xs)) δ1 := by
  rw [ev1_ap, eLc_map (L := xs) (ι := D.int) (S := S) (g := fun x => D.int (-x)) hi (fun x _ => ht x) (fun x _ => he x) (fun x _ => hw x) hr, bd_ok, neg_map _ fun _ => rfl, dTup_int, lft_some]
theorem add_rows {xs ys : List Int} (h : xs.length + ys.length ≤ 1000000) : dAdd (tR xs) (tR ys) = some (tR (xs ++ ys)) := by
  rw [dAdd_tup (by simpa using h), ← List.map_append]
theorem doubled_ok {d e : D} (hd : okD d) (he : okD e) (h : pairB corr d e = false) : m_doubled_pair [d, e] = .exc 2 [] [] := by
  unfold m_doubled_pair
  rw [runF_2]
  simp [b_doubled_pair, okA_own hd.a, okA_own he.a, check_ok hd he, h]
theorem doubled_big {xs ys : List Int} (hl : 64 < 2 * xs.length) (h : pairB corr (tR xs) (tR ys) = true) : m_doubled_pair [tR xs, tR ys] = .exc 1 [] [] := by
  have e : (64 : Int) < 2 * (xs.length : Int) := by omega
  unfold m_doubled_pair
  rw [runF_2]
  simp [b_doubled_pair, check_ok (okD_row xs) (okD_row ys), h, e]
theorem doubled_fit {xs ys : List Int} (hl : 2 * xs.length ≤ 64) (hy : ys.length ≤ 64) (h : pairB corr (tR xs) (tR ys) = true) : m_doubled_pair [tR xs, tR ys] = .ok (.tup [tR (xs ++ ys), tR (xs ++ neg ys)]) [] := by
  have e : ¬ (64 : Int) < 2 * (xs.length : Int) := by omega
  have lb := less_body (i := 2) (fi := iSeq (eNm 1)) (fe := ev1 dNeg (eLk 2)) (δ := [some (tR xs), some (tR ys), none]) (δ1 := [some (tR xs), some (tR ys), none]) (vs := [2]) (xs := ys) (S := fun x => [some (tR xs), some (tR ys), some (.int x)]) (by simp) (fun _ => rfl) (fun x => by simp) (fun _ => rfl) rfl
  rw [ev1_ap] at lb
  unfold m_doubled_pair
  rw [runF_2]
  simp [b_doubled_pair, check_ok (okD_row xs) (okD_row ys), h, e, add_rows (xs := xs) (ys := ys) (by omega)]
  rw [lb]
  simp [add_rows (xs := xs) (ys := neg ys) (by simp; omega)]
theorem lless_ok (xs : List Int) : m__law_less [tR xs] = .ok (tR (neg xs)) [] := by
  have lb := less_body (i := 1) (fi := iSeq (eNm 0)) (fe := ev2 dSub (eC (.int 0)) (eLk 1)) (δ := [some (tR xs), none]) (δ1 := [some (tR xs), none]) (vs := [1]) (xs := xs) (S := fun x => [some (tR xs), some (.int x)]) (by simp) (fun _ => rfl) (fun x => by simp) (fun _ => rfl) rfl
  rw [ev1_ap] at lb
  unfold m__law_less
  rw [runF_1]
  simp [b__law_less]
  rw [lb]
  simp
theorem ldoubled_ok {xs ys : List Int} (hx : xs.length ≤ 1000) (hy : ys.length ≤ 1000) : m__law_doubled [tR xs, tR ys] = .ok (.tup [tR (xs ++ ys), tR (xs ++ neg ys)]) [] := by
  unfold m__law_doubled
  rw [runF_2]
  simp [b__law_doubled, lless_ok, add_rows (xs := xs) (ys := ys) (by omega), add_rows (xs := xs) (ys := neg ys) (by simp; omega)]
/-! by turns -/
theorem weave_zip : ∀ {xs ys : List Int}, xs.length = ys.length → ((xs.zip ys).map fun p => [D.int p.1, D.int p.2]).flatten = (weave xs ys).map D.int
  | [], [], _ => by simp
  | [], _ :: _, h => by simp at h
  | _ :: _, [], h => by simp at h
  | x :: xs, y :: ys, h => by
    rw [List.zip_cons_cons, List.map_cons, List.flatten_cons, weave_zip (by simpa using h), weave_cons, weave_cons]
    rfl
theorem zipD_zip : ∀ (xs ys : List Int), zipD (xs.map D.int) (ys.map D.int) = (xs.zip ys).map fun p => D.tup [.int p.1, .int p.2]
  | [], _ => rfl
  | _ :: _, [] => rfl
  | x :: xs, y :: ys => by
    have := zipD_zip xs ys
    unfold zipD at this ⊢
    rw [List.map_cons, List.map_cons, List.zipWith_cons_cons, this, List.zip_cons_cons, List.map_cons]
theorem zip_neg : ∀ (xs ys : List Int), (xs.zip ys).map (fun p => [D.int p.1, D.int (-p.2)]) = (xs.zip (neg ys)).map fun p => [D.int p.1, D.int p.2]
  | [], _ => by simp
  | _ :: _, [] => by simp [neg]
  | x :: xs, y :: ys => by
    have := zip_neg xs ys
    rw [List.zip_cons_cons, List.map_cons, this]
    simp [neg]
theorem flat_len2 {α : Type} (L : List α) (f g : α → D) : (L.map fun a => [f a, g a]).flatten.length = 2 * L.length := by
  induction L with
  | nil => rfl
  | cons x L ih => rw [List.map_cons, List.flatten_cons, List.length_append, ih, List.length_cons]; simp; omega
theorem woven_no {d e : D} (hd : okD d) (he : okD e) (h : pairB corr d e = false) : m_woven_pair [d, e] = .exc 2 [] [] := by
  unfold m_woven_pair
  rw [runF_2]
  simp [b_woven_pair, okA_own hd.a, okA_own he.a, check_ok hd he, h]
theorem woven_big {xs ys : List Int} (hl : 64 < 2 * xs.length) (h : pairB corr (tR xs) (tR ys) = true) : m_woven_pair [tR xs, tR ys] = .exc 1 [] [] := by
  have e : (64 : Int) < 2 * (xs.length : Int) := by omega
  unfold m_woven_pair
  rw [runF_2]
  simp [b_woven_pair, check_ok (okD_row xs) (okD_row ys), h, e]
theorem woven_fit {xs ys : List Int} (hl : 2 * xs.length ≤ 64) (hy : xs.length = ys.length) (h : pairB corr (tR xs) (tR ys) = true) : m_woven_pair [tR xs, tR ys] = .ok (.tup [tR (weave xs ys), tR (weave xs (neg ys))]) [] := by
  have e : ¬ (64 : Int) < 2 * (xs.length : Int) := by omega
  have zl : (xs.zip ys).length ≤ 64 := by rw [List.length_zip]; omega
  unfold m_woven_pair
  rw [runF_2]
  simp [b_woven_pair, check_ok (okD_row xs) (okD_row ys), h, e]
  rw [eLc2_map (L := xs.zip ys) (ι := fun p => D.tup [.int p.1, .int p.2]) (δ1 := [some (tR xs), some (tR ys), none, none, none, none, none, none]) (S := fun p => [some (tR xs), some (tR ys), none, none, some (.tup [.int p.1, .int p.2]), none, none, none]) (M := fun p => [p.1, p.2]) (κ := fun _ x => D.int x) (R := fun p x => [some (tR xs), some (tR ys), none, none, some (.tup [.int p.1, .int p.2]), some (.int x), none, none]) (g := fun _ x => D.int x)]
  · simp
    rw [weave_zip hy]
    rw [eLc2_map (L := xs.zip ys) (ι := fun p => D.tup [.int p.1, .int p.2]) (δ1 := [some (tR xs), some (tR ys), some (.lst true ((weave xs ys).map D.int)), none, none, none, none, none]) (S := fun p => [some (tR xs), some (tR ys), some (.lst true ((weave xs ys).map D.int)), none, none, none, some (.int p.1), some (.int p.2)]) (M := fun p => [p.1, -p.2]) (κ := fun _ x => D.int x) (R := fun p x => [some (tR xs), some (tR ys), some (.lst true ((weave xs ys).map D.int)), none, none, some (.int x), some (.int p.1), some (.int p.2)]) (g := fun _ x => D.int x)]
    · simp
      rw [zip_neg, weave_zip (by simpa using hy)]
      simp
    · simp [zipD_zip]
    · intro p _; rfl
    · intro p _; simp
    · intro p _ x _; rfl
    · intro p _ x _; simp
    · intro p _ x _; rfl
    · intro p _; rfl
    · rfl
    · simp only [List.map_cons, List.map_nil]
      rw [flat_len2]; omega
  · simp [zipD_zip]
  · intro p _; rfl
  · intro p _; simp
  · intro p _ x _; rfl
  · intro p _ x _; simp
  · intro p _ x _; rfl
  · intro p _; rfl
  · rfl
  · simp only [List.map_cons, List.map_nil]
    rw [flat_len2]; omega
end L2.Pv.K75
end
section
set_option Elab.async false
set_option linter.all false
set_option autoImplicit false
set_option maxRecDepth 100000
set_option maxHeartbeats 1000000
namespace L2.Pv.K75
open PySem
/-- the hand that draws -/
def handD (cs : List Int) (p r m c : Int) : D := .lst true [.lst false (cs.map D.int), .int p, .int r, .int m, .int c]
structure Hand (h : D) : Prop where
  ex : ∃ (cs : List Int) (p r m c : Int), h = handD cs p r m c ∧ (∀ z ∈ cs, 0 ≤ z) ∧ 0 ≤ p ∧ 0 ≤ r ∧ 0 ≤ m ∧ m < 2147483629 ∧ 0 ≤ c
theorem draw_digit {cs : List Int} {p r m c k : Int} (h1 : 0 < k) (h2 : k < 1073741824) (hr : 0 < r) : m__law_draw [handD cs p r m c, .int k] = .ok (.int (r % k)) [handD cs p (r / k) m c] := by
  have hr0 : r ≠ 0 := by omega
  unfold m__law_draw runF handD
  simp [argD, b__law_draw, hr0, hr, dMod_int h1, dFdiv_int ⟨h1, h2⟩]
theorem draw_mix {cs : List Int} {p m c k : Int} (h1 : 0 < k) (hp : ¬ p < cs.length) : ∃ r, m__law_draw [handD cs p 0 m c, .int k] = .ok (.int r) [handD cs p 0 m (c + 1)] ∧ 0 ≤ r ∧ r < k := by
  unfold m__law_draw runF handD
  simp [argD, b__law_draw, hp, dMod_int h1]
  generalize ha : (m + 7919 * (c + 1)) * 48271 % 2147483647 = a
  have a1 : 0 ≤ a := by rw [← ha]; exact Int.emod_nonneg _ (by decide)
  have a2 : a < 2147483647 := by rw [← ha]; exact Int.emod_lt_of_pos _ (by decide)
  simp [dMul_int (mulOk_l (i := a) (j := a / 1009 + 69621) (by omega) (by omega)), dMod_int h1]
  generalize hb : a * (a / 1009 + 69621) % 2147483647 = b
  have b1 : 0 ≤ b := by rw [← hb]; exact Int.emod_nonneg _ (by decide)
  have b2 : b < 2147483647 := by rw [← hb]; exact Int.emod_lt_of_pos _ (by decide)
  simp [dMul_int (mulOk_l (i := b) (j := b / 2003 + 40014) (by omega) (by omega)), dMod_int h1]
  exact ⟨Int.emod_nonneg _ (by omega), Int.emod_lt_of_pos _ h1⟩
theorem draw_more {cs : List Int} {p : Nat} {m c k x : Int} (h1 : 0 < k) (h2 : k < 1073741824) (hx : cs[p]? = some x) (hx0 : 0 ≤ x) (hm : 0 ≤ m ∧ m < 2147483629) : ∃ r r' m' c', m__law_draw [handD cs p 0 m c, .int k] = .ok (.int r) [handD cs (p + 1) r' m' c'] ∧ 0 ≤ r ∧ r < k ∧ 0 ≤ r' ∧ 0 ≤ m' ∧ m' < 2147483629 ∧ (c' = c ∨ c' = c + 1) := by
  have hl : (p : Int) < cs.length := by have := (List.getElem?_eq_some_iff.mp hx).1; omega
  have e1 : dIx (.lst false (cs.map D.int)) (.int p) = some (.int x) := dIx_lst (atI_int (by simp [hx])) rfl
  generalize hm' : (m * 69621 + x * 40692 + 107) % 2147483629 = m'
  have m1 : 0 ≤ m' := by rw [← hm']; exact Int.emod_nonneg _ (by decide)
  have m2 : m' < 2147483629 := by rw [← hm']; exact Int.emod_lt_of_pos _ (by decide)
  by_cases hg : 1000000000000000000 ≤ x
  · have hx1 : 0 < x := by omega
    refine ⟨x % k, x / k, m', c, ?_, Int.emod_nonneg _ (by omega), Int.emod_lt_of_pos _ h1, Int.ediv_nonneg hx0 (by omega), m1, m2, .inl rfl⟩
    unfold m__law_draw runF handD
    simp [argD, b__law_draw, hl, e1, hm', hg, hx1, dMod_int h1, dFdiv_int ⟨h1, h2⟩]
  · have hm2 : ∀ c : Int, (m' + 7919 * c) * 48271 % 2147483647 = (m' + 7919 * c) * 48271 % 2147483647 := fun _ => rfl
    unfold m__law_draw runF handD
    simp [argD, b__law_draw, hl, e1, hm', hg, dMod_int h1]
    generalize ha : (m' + 7919 * (c + 1)) * 48271 % 2147483647 = a
    have a1 : 0 ≤ a := by rw [← ha]; exact Int.emod_nonneg _ (by decide)
    have a2 : a < 2147483647 := by rw [← ha]; exact Int.emod_lt_of_pos _ (by decide)
    simp [dMul_int (mulOk_l (i := a) (j := a / 1009 + 69621) (by omega) (by omega)), dMod_int h1]
    generalize hb : a * (a / 1009 + 69621) % 2147483647 = b
    have b1 : 0 ≤ b := by rw [← hb]; exact Int.emod_nonneg _ (by decide)
    have b2 : b < 2147483647 := by rw [← hb]; exact Int.emod_lt_of_pos _ (by decide)
    simp [dMul_int (mulOk_l (i := b) (j := b / 2003 + 40014) (by omega) (by omega)), dMod_int h1]
    refine ⟨_, _, _, _, ⟨rfl, rfl, rfl, rfl⟩, ?_⟩
    exact ⟨Int.emod_nonneg _ (by omega), Int.emod_lt_of_pos _ h1, by omega, m1, m2, .inr rfl⟩
theorem draw_ok {h : D} (H : Hand h) {k : Int} (h1 : 0 < k) (h2 : k < 1073741824) : ∃ r h', m__law_draw [h, .int k] = .ok (.int r) [h'] ∧ 0 ≤ r ∧ r < k ∧ Hand h' := by
  obtain ⟨cs, p, r, m, c, rfl, hc, hp, hr, hm, hm2, hc0⟩ := H
  by_cases hr0 : 0 < r
  · exact ⟨_, _, draw_digit h1 h2 hr0, Int.emod_nonneg _ (by omega), Int.emod_lt_of_pos _ h1, ⟨_, _, _, _, _, rfl, hc, hp, Int.ediv_nonneg hr (by omega), hm, hm2, hc0⟩⟩
  · obtain rfl : r = 0 := by omega
    by_cases hl : p < cs.length
    · obtain ⟨n, rfl⟩ : ∃ n : Nat, p = n := ⟨p.toNat, by omega⟩
      have hx := List.getElem?_eq_getElem (l := cs) (i := n) (by omega)
      obtain ⟨r, r', m', c', e, q1, q2, q3, q4, q5, q6⟩ := draw_more (m := m) (c := c) h1 h2 hx (hc _ (List.getElem_mem _)) ⟨hm, hm2⟩
      exact ⟨_, _, e, q1, q2, ⟨_, _, _, _, _, rfl, hc, by omega, q3, q4, q5, by omega⟩⟩
    · obtain ⟨r, e, q1, q2⟩ := draw_mix (m := m) (c := c) h1 hl
      exact ⟨_, _, e, q1, q2, ⟨_, _, _, _, _, rfl, hc, hp, by omega, hm, hm2, by omega⟩⟩
end L2.Pv.K75
end
section
set_option Elab.async false
set_option linter.all false
set_option autoImplicit false
set_option maxRecDepth 100000
set_option maxHeartbeats 2000000
namespace L2.Pv.K75
open PySem Golay
/-! ### by turns, the law's own -/
theorem lwoven_loop : ∀ (L : List (Int × Int)) (A B : List Int) (x y s4 s5 : Option D), A.length + 2 * L.length ≤ 100000 → B.length + 2 * L.length ≤ 100000 → ∃ s4' s5',
    forL (gTup' 2 (gCons' (gSet 4) (gCons' (gSet 5) gNil'))) (sPar 2 3 (aCons (ev2 dAdd (eLk 2) (eLst (aCons (eNm 4) (aCons (eNm 5) aNil)))) (aCons (ev2 dAdd (eLk 3) (eLst (aCons (eNm 4) (aCons (ev2 dSub (eC (.int 0)) (eLk 5)) aNil)))) aNil))) (L.map fun p => D.tup [.int p.1, .int p.2])
      [x, y, some (.lst true (A.map D.int)), some (.lst true (B.map D.int)), s4, s5] = .nx [x, y, some (.lst true (A.map D.int ++ (L.map fun p => [D.int p.1, D.int p.2]).flatten)), some (.lst true (B.map D.int ++ (L.map fun p => [D.int p.1, D.int (-p.2)]).flatten)), s4', s5']
  | [], A, B, x, y, s4, s5, _, _ => ⟨s4, s5, by simp⟩
  | (p, q) :: L, A, B, x, y, s4, s5, hA, hB => by
    simp only [List.length_cons] at hA hB
    obtain ⟨s4', s5', ih⟩ := lwoven_loop L (A ++ [p, q]) (B ++ [p, -q]) x y (some (.int p)) (some (.int q)) (by simp; omega) (by simp; omega)
    refine ⟨s4', s5', ?_⟩
    have a1 : dAdd (.lst true (A.map D.int)) (.lst true [.int p, .int q]) = some (.lst true ((A ++ [p, q]).map D.int)) := by
      rw [dAdd_lst (by simp; omega) (allN_int A) rfl, List.map_append]; rfl
    have a2 : dAdd (.lst true (B.map D.int)) (.lst true [.int p, .int (-q)]) = some (.lst true ((B ++ [p, -q]).map D.int)) := by
      rw [dAdd_lst (by simp; omega) (allN_int B) rfl, List.map_append]; rfl
    rw [List.map_cons]
    unfold forL
    simp [a1, a2]
    simp at ih
    rw [ih]
theorem lwoven_ok {xs ys : List Int} (hl : xs.length = ys.length) (hx : xs.length ≤ 1000) : m__law_woven [tR xs, tR ys] = .ok (.tup [tR (weave xs ys), tR (weave xs (neg ys))]) [] := by
  unfold m__law_woven
  rw [runF_2]
  obtain ⟨s4, s5, h⟩ := lwoven_loop (xs.zip ys) [] [] (some (tR xs)) (some (tR ys)) none none (by simp; omega) (by simp; omega)
  rw [zip_neg, weave_zip hl, weave_zip (by simpa using hl)] at h
  simp at h
  simp [b__law_woven, zipD_zip]
  rw [h]
  simp
theorem mapIdx_of {α β γ : Type} (f : Nat → α → β) (g : β → γ) (xs : List α) : (xs.mapIdx f).map g = xs.mapIdx fun i x => g (f i x) := by
  apply List.ext_getElem?; intro i
  simp [List.getElem?_mapIdx]
  cases xs[i]? <;> rfl
theorem mapIdx_on {α β γ : Type} (f : Nat → β → γ) (g : α → β) (xs : List α) : (xs.map g).mapIdx f = xs.mapIdx fun i x => f i (g x) := by
  apply List.ext_getElem?; intro i
  simp [List.getElem?_mapIdx]
  cases xs[i]? <;> rfl
theorem alt_idx : ∀ (xs : List Int) (k : Nat), (xs.mapIdx fun i x => D.int (x * (1 - 2 * (((i + k : Nat) : Int) % 2)))) = (alt (1 - 2 * ((k : Int) % 2)) xs).map D.int
  | [], _ => rfl
  | x :: xs, k => by
    rw [List.mapIdx_cons, alt, List.map_cons]
    have ih := alt_idx xs (k + 1)
    have e : (1 - 2 * (((k + 1 : Nat) : Int) % 2)) = -(1 - 2 * ((k : Int) % 2)) := by omega
    rw [e] at ih
    rw [← ih]
    congr 1
    · rw [Nat.zero_add, Int.mul_comm]
    · congr 1
      funext i x
      rw [show i + 1 + k = i + (k + 1) by omega]
theorem turns_ok (xs : List Int) : m__law_by_turns [tR xs] = .ok (tR (alt 1 xs)) [] := by
  unfold m__law_by_turns
  rw [runF_1]
  simp [b__law_by_turns]
  rw [eLc_map (L := xs.mapIdx fun i x => (i, x)) (ι := fun p => D.tup [.int (p.1 : Nat), .int p.2]) (S := fun p => [some (tR xs), some (.int (p.1 : Nat)), some (.int p.2)]) (g := fun p => D.int (p.2 * (1 - 2 * ((p.1 : Int) % 2)))) (δ1 := [some (tR xs), none, none])]
  · have e := alt_idx xs 0
    have e2 : (List.map (fun p => D.int (p.2 * (1 - 2 * ((p.1 : Int) % 2)))) (xs.mapIdx fun i x => (i, x))) = (alt 1 xs).map D.int := by
      rw [mapIdx_of]
      simpa using e
    rw [bd_ok, e2]
    simp
  · simp [enumD, mapIdx_on, mapIdx_of]
  · intro p _; rfl
  · intro p hp
    have h1 : -(2 ^ 64) < (1 - 2 * ((p.1 : Int) % 2)) := by omega
    have h2 : (1 - 2 * ((p.1 : Int) % 2)) < 2 ^ 64 := by omega
    simp [dMul_int (mulOk_r (i := p.2) h1 h2)]
  · intro p _; rfl
  · rfl
/-! ### drawn things -/
theorem frz_nOwn (d : D) : nOwn d.frz = true := by cases d <;> rfl
theorem any_own {h : D} (H : Hand h) {ds : List D} (h0 : 0 < ds.length) (hz : ds.length ≤ 1000000) : ∃ d h', d ∈ ds ∧ m__law_any [h, .lst true ds] = .ok d.frz [h'] ∧ Hand h' := by
  obtain ⟨r, h', e, r0, r1, H'⟩ := draw_ok H (k := (ds.length : Int)) (by omega) (by omega)
  obtain ⟨n, rfl⟩ : ∃ n : Nat, r = n := ⟨r.toNat, by omega⟩
  have hn : n < ds.length := by omega
  refine ⟨ds[n], h', List.getElem_mem _, ?_, H'⟩
  have e2 : dIx (.lst false (D.frzs ds)) (.int n) = some ds[n].frz := dIx_lst (atI_int (by rw [D.frzs_map, List.getElem?_map, List.getElem?_eq_getElem hn]; rfl)) (frz_nOwn _)
  have e3 : (D.frzs ds).length = ds.length := by rw [D.frzs_map, List.length_map]
  unfold m__law_any
  rw [runF_2]
  simp [b__law_any, D.frz, e3, e, e2]
theorem any_frz {h : D} (H : Hand h) {ds : List D} (h0 : 0 < ds.length) (hz : ds.length ≤ 1000000) (hn : ∀ d ∈ ds, nOwn d = true) : ∃ d h', d ∈ ds ∧ m__law_any [h, .lst false ds] = .ok d [h'] ∧ Hand h' := by
  obtain ⟨r, h', e, r0, r1, H'⟩ := draw_ok H (k := (ds.length : Int)) (by omega) (by omega)
  obtain ⟨n, rfl⟩ : ∃ n : Nat, r = n := ⟨r.toNat, by omega⟩
  have hl : n < ds.length := by omega
  refine ⟨ds[n], h', List.getElem_mem _, ?_, H'⟩
  have e2 : dIx (.lst false ds) (.int n) = some ds[n] := dIx_lst (atI_int (List.getElem?_eq_getElem hl)) (hn _ (List.getElem_mem _))
  unfold m__law_any
  rw [runF_2]
  simp [b__law_any, e, e2]
theorem hand_ok {ns : List Int} (h : ns.length ≤ 63) : ∃ h', m__law_hand [.scr ns] = .ok h' [] ∧ Hand h' := by
  refine ⟨handD (ns.map fun n => (if n < 0 then -n else n) % 1000000000000000000000000000000000000) 0 0 (75 + 3 * ns.length) 0, ?_, ⟨_, _, _, _, _, rfl, ?_, by decide, by decide, by omega, by omega, by decide⟩⟩
  · unfold m__law_hand
    rw [runF_1]
    simp [b__law_hand]
    rw [eLc_map (L := ns) (ι := D.int) (S := fun n => [some (.scr ns), none, some (.int n)]) (g := fun n => D.int ((if n < 0 then -n else n) % 1000000000000000000000000000000000000)) (δ1 := [some (.scr ns), none, none])]
    · have e : (ns.map fun n => D.int ((if n < 0 then -n else n) % 1000000000000000000000000000000000000)) = (ns.map fun n => (if n < 0 then -n else n) % 1000000000000000000000000000000000000).map D.int := by rw [List.map_map]; rfl
      rw [e]
      have hl : (ns.map fun n => (if n < 0 then -n else n) % 1000000000000000000000000000000000000).length = ns.length := List.length_map _
      generalize (ns.map fun n => (if n < 0 then -n else n) % 1000000000000000000000000000000000000) = zs at hl ⊢
      simp [D.frz, handD, hl]
    · have e1 : HT.sIx ns.length ns.length (some 63) = ns.length := by
        have := HT.sIx_nat ns.length ns.length 63
        have e : ((63 : Nat) : Int) = 63 := rfl
        rw [e] at this
        rw [this]; omega
      have e2 : dSl (.scr ns) none (some 63) = some (.lst true (ns.map D.int)) := by
        unfold dSl
        simp [e1, HT.sIx_none]
      simp [e2]
    · intro n _; rfl
    · intro n _
      by_cases hn : n < 0 <;> simp [dAbs, hn]
    · intro n _; rfl
    · rfl
  · intro z hz
    obtain ⟨n, _, rfl⟩ := List.mem_map.mp hz
    exact Int.emod_nonneg _ (by decide)
end L2.Pv.K75
end
section
set_option Elab.async false
set_option linter.all false
set_option autoImplicit false
set_option maxRecDepth 100000
set_option maxHeartbeats 2000000
namespace L2.Pv.K75
open PySem Golay
/-! ### grown pairs -/
structure GP (xs ys : List Int) : Prop where
  x : Row xs
  y : Row ys
  l : xs.length = ys.length
  p : Pair xs ys
theorem sign_neg {xs : List Int} (h : ∀ x ∈ xs, x = 1 ∨ x = -1) : ∀ x ∈ neg xs, x = 1 ∨ x = -1 := fun x hx => by
  obtain ⟨y, hy, rfl⟩ := List.mem_map.mp hx
  rcases h y hy with rfl | rfl
  · exact .inr rfl
  · exact .inl rfl
theorem sign_app {xs ys : List Int} (h : ∀ x ∈ xs, x = 1 ∨ x = -1) (h' : ∀ x ∈ ys, x = 1 ∨ x = -1) : ∀ x ∈ xs ++ ys, x = 1 ∨ x = -1 := fun x hx => by
  rcases List.mem_append.mp hx with hx | hx
  · exact h x hx
  · exact h' x hx
theorem sign_weave : ∀ (n : Nat) (xs ys : List Int), xs.length + ys.length ≤ n → (∀ x ∈ xs, x = 1 ∨ x = -1) → (∀ x ∈ ys, x = 1 ∨ x = -1) → ∀ x ∈ weave xs ys, x = 1 ∨ x = -1
  | _, [], ys, _, _, _, x, hx => by simp at hx
  | 0, x :: xs, ys, h, _, _, z, hz => by simp at h
  | n + 1, x :: xs, ys, h, h1, h2, z, hz => by
    rw [weave_cons] at hz
    simp only [List.length_cons] at h
    rcases List.mem_cons.mp hz with rfl | hz
    · exact h1 _ List.mem_cons_self
    · exact sign_weave n ys xs (by omega) h2 (fun w hw => h1 w (List.mem_cons_of_mem _ hw)) z hz
theorem sign_alt : ∀ (e : Int) (xs : List Int), (e = 1 ∨ e = -1) → (∀ x ∈ xs, x = 1 ∨ x = -1) → ∀ x ∈ alt e xs, x = 1 ∨ x = -1
  | _, [], _, _, x, hx => by simp [alt] at hx
  | e, y :: xs, he, h, x, hx => by
    rw [alt] at hx
    rcases List.mem_cons.mp hx with rfl | hx
    · rcases he with rfl | rfl <;> rcases h y List.mem_cons_self with rfl | rfl <;> decide
    · exact sign_alt (-e) xs (by omega) (fun w hw => h w (List.mem_cons_of_mem _ hw)) x hx
theorem GP.doubled {xs ys : List Int} (g : GP xs ys) (h : 2 * xs.length ≤ 64) : GP (xs ++ ys) (xs ++ neg ys) :=
  ⟨⟨⟨by have := g.x.1.1; simp; omega, by have := g.l; simp; omega⟩, sign_app g.x.2 g.y.2⟩, ⟨⟨by have := g.x.1.1; simp; omega, by have := g.l; simp; omega⟩, sign_app g.x.2 (sign_neg g.y.2)⟩, by simp, g.p.doubled g.l⟩
theorem wl {xs ys : List Int} (h : xs.length = ys.length) : (weave xs ys).length = xs.length + ys.length := weave_len _ xs ys (Nat.le_refl _) (by omega) (by omega)
theorem GP.woven {xs ys : List Int} (g : GP xs ys) (h : 2 * xs.length ≤ 64) : GP (weave xs ys) (weave xs (neg ys)) := by
  have l1 := wl g.l
  have l2 := wl (xs := xs) (ys := neg ys) (by simpa using g.l)
  rw [neg_len] at l2
  have := g.x.1.1
  have := g.l
  exact ⟨⟨⟨by omega, by omega⟩, sign_weave _ _ _ (Nat.le_refl _) g.x.2 g.y.2⟩, ⟨⟨by omega, by omega⟩, sign_weave _ _ _ (Nat.le_refl _) g.x.2 (sign_neg g.y.2)⟩, by omega, g.p.woven g.l⟩
theorem GP.turned {xs ys : List Int} (g : GP xs ys) : GP xs.reverse ys := ⟨⟨by simpa using g.x.1, fun x hx => g.x.2 x (List.mem_reverse.mp hx)⟩, g.y, by simpa using g.l, g.p.turned⟩
theorem GP.less {xs ys : List Int} (g : GP xs ys) : GP (neg xs) ys := ⟨⟨by simpa using g.x.1, sign_neg g.x.2⟩, g.y, by simpa using g.l, g.p.less⟩
theorem GP.swap {xs ys : List Int} (g : GP xs ys) : GP ys xs := ⟨g.y, g.x, g.l.symm, g.p.swap⟩
theorem GP.alts {xs ys : List Int} (g : GP xs ys) : GP (alt 1 xs) (alt 1 ys) := ⟨⟨by simpa using g.x.1, sign_alt _ _ (.inl rfl) g.x.2⟩, ⟨by simpa using g.y.1, sign_alt _ _ (.inl rfl) g.y.2⟩, by simpa using g.l, g.p.alts 1⟩
theorem rev_row (xs : List Int) : dRev (tR xs) = some (tR xs.reverse) := by rw [dRev_tup, ← List.map_reverse]
def bodyG : Es := sSeq (sAsg (eIf (cVal (ev2 dEq (calH m__law_draw 0 (aCons (eC (.int 2)) (aNil))) (eC (.int 0)))) (calF m__law_doubled (aCons (eNm 2) (aCons (eNm 3) (aNil)))) (calF m__law_woven (aCons (eNm 2) (aCons (eNm 3) (aNil))))) (gTup' 2 (gCons' (gSet 2) (gCons' (gSet 3) (gNil'))))) (sSeq (sSet 5 (calH m__law_draw 0 (aCons (eC (.int 6)) (aNil)))) (sSeq (sIf (cVal (ev2 dEq (eLk 5) (eC (.int 0)))) (sPar 2 3 (aCons (ev1 dRev (eLk 2)) (aCons (eNm 3) (aNil)))) (sNil)) (sSeq (sIf (cVal (ev2 dEq (eLk 5) (eC (.int 1)))) (sPar 2 3 (aCons (calF m__law_less (aCons (eNm 2) (aNil))) (aCons (eNm 3) (aNil)))) (sNil)) (sSeq (sIf (cVal (ev2 dEq (eLk 5) (eC (.int 2)))) (sPar 2 3 (aCons (eNm 3) (aCons (eNm 2) (aNil)))) (sNil)) (sIf (cVal (ev2 dEq (eLk 5) (eC (.int 3)))) (sPar 2 3 (aCons (calF m__law_by_turns (aCons (eNm 2) (aNil))) (aCons (calF m__law_by_turns (aCons (eNm 3) (aNil))) (aNil)))) (sNil))))))
theorem turn_kind {h : D} (H : Hand h) {xs ys : List Int} (g : GP xs ys) (s1 s4 s5 : Option D) : ∃ h' xs' ys' s5', Hand h' ∧ GP xs' ys' ∧ xs'.length = xs.length ∧
    (sSeq (sSet 5 (calH m__law_draw 0 (aCons (eC (.int 6)) (aNil)))) (sSeq (sIf (cVal (ev2 dEq (eLk 5) (eC (.int 0)))) (sPar 2 3 (aCons (ev1 dRev (eLk 2)) (aCons (eNm 3) (aNil)))) (sNil)) (sSeq (sIf (cVal (ev2 dEq (eLk 5) (eC (.int 1)))) (sPar 2 3 (aCons (calF m__law_less (aCons (eNm 2) (aNil))) (aCons (eNm 3) (aNil)))) (sNil)) (sSeq (sIf (cVal (ev2 dEq (eLk 5) (eC (.int 2)))) (sPar 2 3 (aCons (eNm 3) (aCons (eNm 2) (aNil)))) (sNil)) (sIf (cVal (ev2 dEq (eLk 5) (eC (.int 3)))) (sPar 2 3 (aCons (calF m__law_by_turns (aCons (eNm 2) (aNil))) (aCons (calF m__law_by_turns (aCons (eNm 3) (aNil))) (aNil)))) (sNil)))))) [some h, s1, some (tR xs), some (tR ys), s4, s5]
      = .nx [some h', s1, some (tR xs'), some (tR ys'), s4, s5'] := by
  obtain ⟨r, h', e, r0, r1, H'⟩ := draw_ok H (k := 6) (by decide) (by decide)
  by_cases k0 : r = 0
  · subst k0
    exact ⟨h', xs.reverse, ys, some (.int 0), H', g.turned, by simp, by simp [e]⟩
  · by_cases k1 : r = 1
    · subst k1
      exact ⟨h', neg xs, ys, some (.int 1), H', g.less, by simp, by simp [e, lless_ok]⟩
    · by_cases k2 : r = 2
      · subst k2
        exact ⟨h', ys, xs, some (.int 2), H', g.swap, g.l.symm, by simp [e]⟩
      · by_cases k3 : r = 3
        · subst k3
          exact ⟨h', alt 1 xs, alt 1 ys, some (.int 3), H', g.alts, by simp, by simp [e, turns_ok]⟩
        · exact ⟨h', xs, ys, some (.int r), H', g, rfl, by simp [e, k0, k1, k2, k3]⟩
theorem grown_turn {h : D} (H : Hand h) {xs ys : List Int} (g : GP xs ys) (hz : 2 * xs.length ≤ 64) (s1 s4 s5 : Option D) : ∃ h' xs' ys' s5', Hand h' ∧ GP xs' ys' ∧ xs'.length = 2 * xs.length ∧
    bodyG [some h, s1, some (tR xs), some (tR ys), s4, s5] = .nx [some h', s1, some (tR xs'), some (tR ys'), s4, s5'] := by
  obtain ⟨r, h1, e, r0, r1, H1⟩ := draw_ok H (k := 2) (by decide) (by decide)
  have hy := g.l
  unfold bodyG
  by_cases k0 : r = 0
  · subst k0
    obtain ⟨h2, xs', ys', s5', H2, g2, l2, e2⟩ := turn_kind H1 (g.doubled hz) s1 s4 s5
    refine ⟨h2, xs', ys', s5', H2, g2, by rw [l2]; simp; omega, ?_⟩
    rw [sSeq_ap, ← e2]
    simp [e, ldoubled_ok (xs := xs) (ys := ys) (by omega) (by omega)]
  · obtain ⟨h2, xs', ys', s5', H2, g2, l2, e2⟩ := turn_kind H1 (g.woven hz) s1 s4 s5
    refine ⟨h2, xs', ys', s5', H2, g2, by rw [l2, wl g.l]; omega, ?_⟩
    rw [sSeq_ap, ← e2]
    simp [e, k0, lwoven_ok (xs := xs) (ys := ys) hy (by omega)]
theorem grown_loop : ∀ (ds : List D) {h : D} (H : Hand h) {xs ys : List Int} (g : GP xs ys) (s1 s4 s5 : Option D), xs.length * 2 ^ ds.length ≤ 64 → ∃ h' xs' ys' s4' s5', Hand h' ∧ GP xs' ys' ∧
    forL (gSet 4) bodyG ds [some h, s1, some (tR xs), some (tR ys), s4, s5] = .nx [some h', s1, some (tR xs'), some (tR ys'), s4', s5']
  | [], h, H, xs, ys, g, s1, s4, s5, _ => ⟨h, xs, ys, s4, s5, H, g, rfl⟩
  | d :: ds, h, H, xs, ys, g, s1, s4, s5, hz => by
    rw [List.length_cons, Nat.pow_succ] at hz
    have p1 : 1 ≤ 2 ^ ds.length := Nat.one_le_two_pow
    have hz2 : 2 * xs.length ≤ 64 := by
      have : xs.length * 1 ≤ xs.length * 2 ^ ds.length := Nat.mul_le_mul_left _ p1
      have : xs.length * (2 ^ ds.length * 2) = 2 * (xs.length * 2 ^ ds.length) := by rw [← Nat.mul_assoc, Nat.mul_comm]
      omega
    obtain ⟨h1, xs1, ys1, s51, H1, g1, l1, e1⟩ := grown_turn H g hz2 s1 (some d) s5
    obtain ⟨h2, xs2, ys2, s42, s52, H2, g2, e2⟩ := grown_loop ds H1 g1 s1 (some d) s51 (by
      rw [l1]
      have : xs.length * (2 ^ ds.length * 2) = 2 * xs.length * 2 ^ ds.length := by rw [← Nat.mul_assoc, Nat.mul_comm, Nat.mul_assoc]
      omega)
    refine ⟨h2, xs2, ys2, s42, s52, H2, g2, ?_⟩
    unfold forL
    rw [gSet_ap (by simp)]
    simp
    rw [e1, lp_nx, e2]
def ten1 : List Int := [1, 1, -1, 1, -1, 1, -1, -1, 1, 1]
def ten2 : List Int := [1, 1, -1, 1, 1, 1, 1, 1, -1, -1]
theorem gp_ten : GP ten1 ten2 := ⟨⟨by decide, by decide⟩, ⟨by decide, by decide⟩, rfl, (dues_pair (xs := ten1) (ys := ten2) rfl).mp (by decide)⟩
theorem gp_one : GP [1] [1] := ⟨⟨by decide, by decide⟩, ⟨by decide, by decide⟩, rfl, (dues_pair (xs := [1]) (ys := [1]) rfl).mp (by decide)⟩
theorem gp_two : GP [1] [-1] := ⟨⟨by decide, by decide⟩, ⟨by decide, by decide⟩, rfl, (dues_pair (xs := [1]) (ys := [-1]) rfl).mp (by decide)⟩
theorem p64 : ∀ r, r < 5 → 1 * 2 ^ r ≤ 64 := by decide
theorem p10 : ∀ r, r < 3 → 10 * 2 ^ r ≤ 64 := by decide
theorem grown_ok {h : D} (H : Hand h) : ∃ xs ys h', m__law_grown [h] = .ok (.tup [tR xs, tR ys]) [h'] ∧ GP xs ys ∧ Hand h' := by
  obtain ⟨d, h1, hd, e1, H1⟩ := any_own H (ds := [.tup [tR [1], tR [1]], .tup [tR [1], tR [-1]], .tup [tR [1], tR [1]], .tup [tR ten1, tR ten2]]) (by decide) (by decide)
  have base : ∃ xs ys, d = .tup [tR xs, tR ys] ∧ GP xs ys ∧ (xs.length = 1 ∨ xs.length = 10) := by
    simp only [List.mem_cons, List.not_mem_nil, or_false] at hd
    rcases hd with rfl | rfl | rfl | rfl
    · exact ⟨_, _, rfl, gp_one, .inl rfl⟩
    · exact ⟨_, _, rfl, gp_two, .inl rfl⟩
    · exact ⟨_, _, rfl, gp_one, .inl rfl⟩
    · exact ⟨_, _, rfl, gp_ten, .inr rfl⟩
  obtain ⟨xs, ys, rfl, g, hl⟩ := base
  have e1 : m__law_any [h, .lst true [.tup [tR [1], tR [1]], .tup [tR [1], tR [-1]], .tup [tR [1], tR [1]], .tup [tR ten1, tR ten2]]] = .ok (.tup [tR xs, tR ys]) [h1] := e1
  have step : ∀ (k : Int) (m : Nat), (k = 5 ∧ xs.length = 1 ∧ m = 5 ∨ k = 3 ∧ xs.length = 10 ∧ m = 3) → ∃ r : Nat, ∃ h2, m__law_draw [h1, .int k] = .ok (.int (r : Nat)) [h2] ∧ Hand h2 ∧ r < m := by
    intro k m hk
    obtain ⟨r, h2, e2, r0, r1, H2⟩ := draw_ok H1 (k := k) (by omega) (by omega)
    exact ⟨r.toNat, h2, by rw [e2, Int.toNat_of_nonneg r0], H2, by omega⟩
  have fin : ∀ (r : Nat) (h2 : D), Hand h2 → xs.length * 2 ^ r ≤ 64 → ∃ h' xs' ys' s4' s5', Hand h' ∧ GP xs' ys' ∧
      forL (gSet 4) bodyG (rangeD 0 r) [some h2, some (.tup [tR ten1, tR ten2]), some (tR xs), some (tR ys), none, none] = .nx [some h', some (.tup [tR ten1, tR ten2]), some (tR xs'), some (tR ys'), s4', s5'] :=
    fun r h2 H2 hz => grown_loop (rangeD 0 r) H2 g _ none none (by rw [rangeD_len]; exact hz)
  have lit1 : (tR ten1) = .tup [.int 1, .int 1, .int (-1), .int 1, .int (-1), .int 1, .int (-1), .int (-1), .int 1, .int 1] := rfl
  have lit2 : (tR ten2) = .tup [.int 1, .int 1, .int (-1), .int 1, .int 1, .int 1, .int 1, .int 1, .int (-1), .int (-1)] := rfl
  rcases hl with hl | hl
  · obtain ⟨r, h2, e2, H2, hr⟩ := step 5 5 (.inl ⟨rfl, hl, rfl⟩)
    obtain ⟨h', xs', ys', s4, s5, H', g', e3⟩ := fin r h2 H2 (by rw [hl]; exact p64 r hr)
    refine ⟨xs', ys', h', ?_, g', H'⟩
    unfold m__law_grown
    rw [runF_1]
    rw [lit1, lit2] at e1 e3
    have sz : r ≤ sizeLine := sz_le (by omega)
    unfold bodyG at e3
    simp [b__law_grown]
    simp only [tR, List.map_cons, List.map_nil] at e1
    rw [e1]
    simp [hl, e2, sz]
    rw [e3]
    simp
  · obtain ⟨r, h2, e2, H2, hr⟩ := step 3 3 (.inr ⟨rfl, hl, rfl⟩)
    obtain ⟨h', xs', ys', s4, s5, H', g', e3⟩ := fin r h2 H2 (by rw [hl]; exact p10 r hr)
    refine ⟨xs', ys', h', ?_, g', H'⟩
    unfold m__law_grown
    rw [runF_1]
    rw [lit1, lit2] at e1 e3
    have sz : r ≤ sizeLine := sz_le (by omega)
    unfold bodyG at e3
    simp [b__law_grown]
    simp only [tR, List.map_cons, List.map_nil] at e1
    rw [e1]
    simp [hl, e2, sz]
    rw [e3]
    simp
end L2.Pv.K75
end
section
set_option Elab.async false
set_option linter.all false
set_option autoImplicit false
set_option maxRecDepth 100000
set_option maxHeartbeats 2000000
namespace L2.Pv
open PySem
open PySem.PyData (strOk)
/-! ### what repr shows -/
/-- shown in few letters -/
structure Lt (n m : Nat) (d : D) : Prop where
  r : d.repOk = true
  s : d.pyR.showable = true
  l : d.pyR.leavesShort 13 = true
  z : d.pyR.depth ≤ n
  b : d.pyR.bulk ≤ m
  o : strOk d.pyR.shown = true
theorem strOk_append (a b : Str) : strOk (a ++ b) = (strOk a && strOk b) := by
  show (a.cps ++ b.cps).all _ = _
  rw [Array.all_append]; rfl
theorem strOk_join (s : Str) (hs : strOk s = true) : ∀ ts : List Str, (∀ t ∈ ts, strOk t = true) → strOk (Str.join s ts) = true
  | [], _ => by
    show strOk (Str.ofString "") = true
    decide +kernel
  | [x], h => h x List.mem_cons_self
  | x :: y :: r, h => by
    show strOk (x ++ s ++ Str.join s (y :: r)) = true
    rw [strOk_append, strOk_append, h x List.mem_cons_self, hs, strOk_join s hs (y :: r) fun t ht => h t (List.mem_cons_of_mem _ ht)]
    rfl
theorem strOk_from : ∀ (ts : List Str) (k : Nat) (acc : Str), strOk acc = true → (∀ t ∈ ts, strOk t = true) → strOk (textFrom k acc ts) = true
  | [], _, _, h, _ => h
  | t :: ts, k, acc, h, h2 => by
    refine strOk_from ts (k + 1) _ ?_ fun u hu => h2 u (List.mem_cons_of_mem _ hu)
    rw [strOk_append, strOk_append, h, h2 t List.mem_cons_self]
    by_cases hk : k > 0
    · rw [if_pos hk]; decide +kernel
    · rw [if_neg hk]; decide +kernel
theorem strOk_list {ts : List Str} (h : ∀ t ∈ ts, strOk t = true) : strOk (listText ts) = true := by
  unfold listText
  rw [strOk_append, strOk_from ts 0 _ (by decide +kernel) h]; decide +kernel
theorem strOk_tup {ts : List Str} (h : ∀ t ∈ ts, strOk t = true) : strOk (tupleText ts) = true := by
  unfold tupleText
  rw [strOk_append, strOk_append, strOk_join _ (by decide +kernel) ts h]
  split <;> decide +kernel
theorem Lt.mono {n m n' m' : Nat} {d : D} (h : Lt n m d) (hn : n ≤ n') (hm : m ≤ m') : Lt n' m' d := ⟨h.r, h.s, h.l, Nat.le_trans h.z hn, Nat.le_trans h.b hm, h.o⟩
theorem Lt.all {n m : Nat} : ∀ {ds : List D}, (∀ d ∈ ds, Lt n m d) → D.repOks ds = true ∧ PyData.showableAll (D.pyRs ds) = true ∧ PyData.leavesShortAll 13 (D.pyRs ds) = true ∧ PyData.depthAll (D.pyRs ds) ≤ n ∧ PyData.bulkAll (D.pyRs ds) ≤ (m + 1) * ds.length ∧ ∀ t ∈ PyData.shownAll (D.pyRs ds), strOk t = true
  | [], _ => ⟨by simp [D.repOks], by simp [D.pyRs, PyData.showableAll], by simp [D.pyRs, PyData.leavesShortAll], by simp [D.pyRs, PyData.depthAll], by simp [D.pyRs, PyData.bulkAll], by simp [D.pyRs, PyData.shownAll]⟩
  | d :: ds, h => by
    obtain ⟨a1, a2, a3, a4, a5, a6⟩ := Lt.all fun d' hd => h d' (List.mem_cons_of_mem _ hd)
    obtain ⟨b1, b2, b3, b4, b5, b6⟩ := h d List.mem_cons_self
    refine ⟨by simp [D.repOks, a1, b1], by simp [D.pyRs, PyData.showableAll, a2, b2], by simp [D.pyRs, PyData.leavesShortAll, a3, b3], by simp only [D.pyRs, PyData.depthAll]; omega, ?_, ?_⟩
    · simp only [D.pyRs, PyData.bulkAll, List.length_cons, Nat.mul_add]; omega
    · intro t ht
      simp only [D.pyRs, PyData.shownAll, List.mem_cons] at ht
      rcases ht with rfl | ht
      · exact b6
      · exact a6 t ht
theorem Lt.tup {n m : Nat} {ds : List D} (h : ∀ d ∈ ds, Lt n m d) : Lt (n + 1) ((m + 1) * ds.length) (.tup ds) := by
  obtain ⟨a1, a2, a3, a4, a5, a6⟩ := Lt.all h
  exact ⟨by simpa [D.repOk] using a1, by simpa [D.pyR, PyData.showable] using a2, by simpa [D.pyR, PyData.leavesShort] using a3, by simp only [D.pyR, PyData.depth]; omega, by simpa only [D.pyR, PyData.bulk] using a5, by simpa only [D.pyR, PyData.shown] using strOk_tup a6⟩
theorem Lt.lst {n m : Nat} {o : Bool} {ds : List D} (h : ∀ d ∈ ds, Lt n m d) : Lt (n + 1) ((m + 1) * ds.length) (.lst o ds) := by
  obtain ⟨a1, a2, a3, a4, a5, a6⟩ := Lt.all h
  exact ⟨by simpa [D.repOk] using a1, by simpa [D.pyR, PyData.showable] using a2, by simpa [D.pyR, PyData.leavesShort] using a3, by simp only [D.pyR, PyData.depth]; omega, by simpa only [D.pyR, PyData.bulk] using a5, by simpa only [D.pyR, PyData.shown] using strOk_list a6⟩
theorem repr_lt {n m : Nat} {o : Bool} {ds : List D} (h : Lt n m (.lst o ds)) (hn : n ≤ 64) (hm : m ≤ 2 ^ 20) : ∃ x : Str, dRepr (.lst o ds) = some (.str x) ∧ strOk x = true := by
  refine ⟨_, ?_, h.o⟩
  unfold dRepr
  have z := h.z
  have f := PyData.shown_fits_bulk (B := 13) (by decide) (by decide) h.l (Nat.le_trans h.b hm)
  refine if_pos ?_
  simp only [Bool.and_eq_true, decide_eq_true_eq]
  exact ⟨⟨⟨h.r, h.s⟩, by omega⟩, f⟩
instance {n m : Nat} {d : D} : Decidable (Lt n m d) := decidable_of_iff (d.repOk = true ∧ d.pyR.showable = true ∧ d.pyR.leavesShort 13 = true ∧ d.pyR.depth ≤ n ∧ d.pyR.bulk ≤ m ∧ strOk d.pyR.shown = true) ⟨fun ⟨a, b, c, d, e, f⟩ => ⟨a, b, c, d, e, f⟩, fun ⟨a, b, c, d, e, f⟩ => ⟨a, b, c, d, e, f⟩⟩
theorem dNe_str {x : Str} (h : strOk x = true) : dNe (.str x) (.str x) = some (.bl false) := by
  have h2 : (D.str x).eqOk 64 = true := by simpa [D.eqOk, PyData.canLay0] using h
  unfold dNe
  rw [if_pos ⟨h2, h2⟩]
  simp [D.eqb]
@[simp] theorem dNe_bl {a b : Bool} : dNe (.bl a) (.bl b) = some (.bl (a != b)) := by
  unfold dNe
  rw [if_pos ⟨rfl, rfl⟩]
  cases a <;> cases b <;> rfl
end L2.Pv
namespace L2.Pv.K75
open PySem Golay
theorem lt_sign {x : Int} (h : x = 1 ∨ x = -1) : Lt 0 0 (.int x) := by
  rcases h with rfl | rfl <;> decide +kernel
theorem lt_row {xs : List Int} (h : Row xs) : Lt 1 64 (tR xs) := by
  have := Lt.tup (n := 0) (m := 0) (ds := xs.map D.int) fun d hd => by
    obtain ⟨x, hx, rfl⟩ := List.mem_map.mp hd
    exact lt_sign (h.2 x hx)
  refine this.mono (Nat.le_refl _) ?_
  rw [List.length_map]
  have := h.1.2
  omega
theorem lt_vals : Lt 0 0 (.int 0) ∧ Lt 0 0 (.int 2) ∧ Lt 0 0 .non ∧ Lt 0 0 (.bl true) ∧ Lt 0 1 (.str "1") ∧ Lt 1 1 (.tup [.int 1]) ∧ Lt 1 1 (.lst false [.int 1]) ∧ Lt 1 0 (.dic false (.k []) []) ∧ Lt 1 0 (.tup []) := by decide +kernel
end L2.Pv.K75
end
section
set_option Elab.async false
set_option linter.all false
set_option autoImplicit false
set_option maxRecDepth 100000
set_option maxHeartbeats 2000000
namespace L2.Pv.K75
open PySem Golay
/-! ### bent rows -/
/-- what the judges are asked about -/
structure Ask (d : D) : Prop where
  k : okD d
  s : Lt 3 300 d
theorem Ask.row {xs : List Int} (h : Row xs) : Ask (tR xs) := ⟨okD_row xs, (lt_row h).mono (by decide) (by decide)⟩
theorem Ask.tup {ds : List D} (h : ∀ d ∈ ds, okA d = true ∧ Lt 2 1 d) (hl : ds.length ≤ 70) : Ask (.tup ds) :=
  ⟨⟨rfl, fun xs e x hx => by cases e; exact (h x hx).1⟩, (Lt.tup fun d hd => (h d hd).2).mono (Nat.le_refl _) (by omega)⟩
theorem Ask.sgn {x : Int} (h : x = 1 ∨ x = -1) : okA (.int x) = true ∧ Lt 2 1 (.int x) := ⟨rfl, (lt_sign h).mono (by decide) (by decide)⟩
theorem Ask.flat {d : D} (ha : okA d = true) (ht : isTup d = false) (s : Lt 3 300 d) : Ask d := ⟨⟨ha, fun xs e => by rw [e] at ht; exact nomatch ht⟩, s⟩
theorem sl_to {xs : List D} {n : Nat} (h : n ≤ xs.length) : dSl (.tup xs) none (some (n : Int)) = some (.tup (xs.take n)) := by
  unfold dSl dCut
  simp only [HT.sIx_none, HT.sIx_nat]
  rw [Nat.min_eq_left h, Nat.sub_zero, List.drop_zero]
theorem sl_from {xs : List D} {n : Nat} (h : n ≤ xs.length) : dSl (.tup xs) (some (n : Int)) none = some (.tup (xs.drop n)) := by
  unfold dSl dCut
  simp only [HT.sIx_none, HT.sIx_nat]
  rw [Nat.min_eq_left h, List.take_of_length_le (by rw [List.length_drop]; omega)]
theorem sl_1 {xs : List D} (h : 1 ≤ xs.length) : dSl (.tup xs) (some 1) none = some (.tup (xs.drop 1)) := sl_from (n := 1) h
theorem dMul_6 {xs : List D} (h : xs.length ≤ 1000) (hn : xs.all nOwn = true) : dMul (.lst true xs) (.int 6) = some (.lst true (List.replicate 6 xs).flatten) := if_pos ⟨by decide, by decide, h, hn⟩
theorem dList_tup {xs : List D} : dList (.tup xs) = some (.lst true xs) := rfl
def odds (x : Int) : List D := [.int (0 - x), .int (0 - x), .int (0 - x), .int 0, .int 2, .non, .bl true, .str "1", .tup [.int 1], .lst true [.int 1]]
theorem odds_ok {x : Int} (hx : x = 1 ∨ x = -1) {d : D} (h : d ∈ odds x) : okA d.frz = true ∧ Lt 2 1 d.frz := by
  have : ∀ x : Int, (x = 1 ∨ x = -1) → ∀ d ∈ odds x, okA d.frz = true ∧ Lt 2 1 d.frz := by
    intro x hx
    rcases hx with rfl | rfl <;> decide +kernel
  exact this x hx d h
theorem odds_frz {x : Int} {d : D} (h : d ∈ odds x) : d.frz.frz = d.frz := by
  simp only [odds, List.mem_cons, List.not_mem_nil, or_false] at h
  rcases h with rfl | rfl | rfl | rfl | rfl | rfl | rfl | rfl | rfl | rfl <;> rfl
def bents (xs : List Int) (n : Nat) (o : D) : List D :=
  let t : D := .tup ((xs.map D.int).take n ++ [o] ++ (xs.map D.int).drop (n + 1))
  [t, t, t, t, t, t, .tup ((xs.map D.int).drop 1), .tup (xs.map D.int ++ [.int 1]), .tup (xs.map D.int).reverse, .lst false (xs.map D.int), .tup [tR xs], .non, .int 0, .dic false (.k []) [], .tup []]
theorem bents_ok {xs : List Int} (hx : Row xs) {n : Nat} {o : D} (ho : okA o = true ∧ Lt 2 1 o) {d : D} (h : d ∈ bents xs n o) : Ask d ∧ nOwn d = true := by
  have sg : ∀ d ∈ xs.map D.int, okA d = true ∧ Lt 2 1 d := fun d hd => by
    obtain ⟨x, hx', rfl⟩ := List.mem_map.mp hd
    exact Ask.sgn (hx.2 x hx')
  have hl : (xs.map D.int).length ≤ 64 := by rw [List.length_map]; exact hx.1.2
  have t1 : Ask (.tup ((xs.map D.int).take n ++ [o] ++ (xs.map D.int).drop (n + 1))) := Ask.tup (fun d hd => by
    simp only [List.mem_append, List.mem_singleton] at hd
    rcases hd with (hd | rfl) | hd
    · exact sg d (List.mem_of_mem_take hd)
    · exact ho
    · exact sg d (List.mem_of_mem_drop hd)) (by simp only [List.length_append, List.length_take, List.length_drop, List.length_singleton]; omega)
  have t2 : Ask (.tup ((xs.map D.int).drop 1)) := Ask.tup (fun d hd => sg d (List.mem_of_mem_drop hd)) (by rw [List.length_drop]; omega)
  have t3 : Ask (.tup (xs.map D.int ++ [.int 1])) := Ask.tup (fun d hd => by
    rcases List.mem_append.mp hd with hd | hd
    · exact sg d hd
    · rw [List.mem_singleton] at hd
      subst hd
      exact Ask.sgn (.inl rfl)) (by rw [List.length_append, List.length_singleton]; omega)
  have t4 : Ask (.tup (xs.map D.int).reverse) := Ask.tup (fun d hd => sg d (List.mem_reverse.mp hd)) (by rw [List.length_reverse]; omega)
  have t5 : Ask (.lst false (xs.map D.int)) := Ask.flat rfl rfl ((Lt.lst fun d hd => (sg d hd).2).mono (Nat.le_refl _) (by omega))
  have t6 : Ask (.tup [tR xs]) := ⟨⟨rfl, fun ys e x hx => by cases e; rw [List.mem_singleton] at hx; subst hx; rfl⟩, (Lt.tup (n := 1) (m := 64) fun d hd => by rw [List.mem_singleton] at hd; subst hd; exact lt_row hx).mono (by decide) (show (64 + 1) * 1 ≤ 300 by decide)⟩
  have t7 : Ask .non := Ask.flat rfl rfl (by decide +kernel)
  have t8 : Ask (.int 0) := Ask.flat rfl rfl (by decide +kernel)
  have t9 : Ask (.dic false (.k []) []) := Ask.flat rfl rfl (by decide +kernel)
  have t10 : Ask (.tup []) := Ask.tup (fun d hd => nomatch hd) (by decide)
  simp only [bents, List.mem_cons, List.not_mem_nil, or_false] at h
  rcases h with rfl | rfl | rfl | rfl | rfl | rfl | rfl | rfl | rfl | rfl | rfl | rfl | rfl | rfl | rfl
  all_goals first | exact ⟨t1, rfl⟩ | exact ⟨t2, rfl⟩ | exact ⟨t3, rfl⟩ | exact ⟨t4, rfl⟩ | exact ⟨t5, rfl⟩ | exact ⟨t6, rfl⟩ | exact ⟨t7, rfl⟩ | exact ⟨t8, rfl⟩ | exact ⟨t9, rfl⟩ | exact ⟨t10, rfl⟩
theorem bent_ok {h : D} (H : Hand h) {xs : List Int} (hx : Row xs) : ∃ d h', m__law_bent [h, tR xs] = .ok d [h'] ∧ Ask d ∧ Hand h' := by
  have hl1 := hx.1.1
  have hl2 := hx.1.2
  obtain ⟨r, h1, e1, r0, r1, H1⟩ := draw_ok H (k := (xs.length : Int)) (by omega) (by omega)
  obtain ⟨n, rfl⟩ : ∃ n : Nat, r = n := ⟨r.toNat, by omega⟩
  have hn : n < xs.length := by omega
  have hs : xs.getD n 0 = 1 ∨ xs.getD n 0 = -1 := by
    rw [List.getD_eq_getElem?_getD, List.getElem?_eq_getElem hn]
    exact hx.2 _ (List.getElem_mem _)
  have a1 := atI_row hn
  generalize xs.getD n 0 = x at hs a1
  obtain ⟨o, h2, ho, e2, H2⟩ := any_own H1 (ds := odds x) (by simp [odds]) (by simp [odds])
  have oo := odds_ok hs ho
  obtain ⟨d, h3, hd, e3, H3⟩ := any_frz H2 (ds := bents xs n o.frz) (by simp [bents]) (by simp [bents]) (fun d hd => (bents_ok hx oo hd).2)
  obtain ⟨k1, k2⟩ := bents_ok hx oo hd
  refine ⟨d, h3, ?_, k1, H3⟩
  have s1 := sl_to (xs := xs.map D.int) (n := n) (by simp; omega)
  have s2 := sl_from (xs := xs.map D.int) (n := n + 1) (by simp; omega)
  have s3 := sl_1 (xs := xs.map D.int) (by simp; omega)
  rw [Int.natCast_add] at s2
  unfold m__law_bent
  rw [runF_2]
  unfold odds at e2
  have d1 : dAdd (.tup ((xs.map D.int).take n)) (.tup [o.frz]) = some (.tup ((xs.map D.int).take n ++ [o.frz])) := dAdd_tup (by simp; omega)
  have d2 : dAdd (.tup ((xs.map D.int).take n ++ [o.frz])) (.tup ((xs.map D.int).drop (n + 1))) = some (.tup ((xs.map D.int).take n ++ [o.frz] ++ (xs.map D.int).drop (n + 1))) := dAdd_tup (by simp; omega)
  have d3 : dAdd (.tup (xs.map D.int)) (.tup [.int 1]) = some (.tup (xs.map D.int ++ [.int 1])) := dAdd_tup (by simp; omega)
  have d4 : ∀ t : List D, dAdd (.lst true (List.replicate 6 [D.tup t]).flatten) (.lst false [.tup ((xs.map D.int).drop 1), .tup (xs.map D.int ++ [.int 1]), .tup (xs.map D.int).reverse, .lst false (xs.map D.int), .tup [tR xs], .non, .int 0, .dic false (.k []) [], .tup []]) = some (.lst true [.tup t, .tup t, .tup t, .tup t, .tup t, .tup t, .tup ((xs.map D.int).drop 1), .tup (xs.map D.int ++ [.int 1]), .tup (xs.map D.int).reverse, .lst false (xs.map D.int), .tup [tR xs], .non, .int 0, .dic false (.k []) [], .tup []]) := fun t => dAdd_lst (show 6 + 9 ≤ 1000000 by decide) rfl rfl
  unfold bents at e3
  simp at s1 s2 s3 d1 d2 d3 d4 e2 e3
  simp [b__law_bent, e1, a1, e2, s1, s2, s3, d1, d2, d3, d4, dMul_6, dList_tup, okA_own oo.1, eDicK, odds_frz ho, D.frz, e3]
theorem seq_set {f : Ev} {g : Es} {i : Nat} {δ δ' : DS} {d : D} (h : f δ = .ok d δ') (hi : i < δ'.length) : sSeq (sSet i f) g δ = g (δ'.set i (some d)) := by
  rw [sSeq_ap, sSet_ap, h]
  simp [dput_ap hi]
def bodyJ : Es := sSeq (sSet 4 (eIf (cVal (ev2 dEq (calH m__law_draw 0 (aCons (eC (.int 2)) (aNil))) (eC (.int 0)))) (eNm 1) (calH m__law_bent 0 (aCons (eNm 1) (aNil))))) (sSeq (sSet 5 (eIf (cVal (ev2 dEq (calH m__law_draw 0 (aCons (eC (.int 2)) (aNil))) (eC (.int 0)))) (eNm 2) (calH m__law_bent 0 (aCons (eNm 2) (aNil))))) (sSeq (sSet 6 (ev1 dRepr (eLst (aCons (eNm 4) (aCons (eNm 5) (aNil)))))) (sSeq (sIf (cVal (ev2 dNe (calF m_is_pair (aCons (eNm 4) (aCons (eNm 5) (aNil)))) (calF m__law_is_due (aCons (eNm 4) (aCons (eNm 5) (aCons (eC (.bl false)) (aNil))))))) (sRet (eC (.bl false))) (sNil)) (sSeq (sIf (cOr (cVal (ev2 dNe (calF m_is_ring_pair (aCons (eNm 4) (aCons (eNm 5) (aNil)))) (calF m__law_is_due (aCons (eNm 4) (aCons (eNm 5) (aCons (eC (.bl true)) (aNil))))))) (cVal (ev2 dNe (ev1 dRepr (eLst (aCons (eNm 4) (aCons (eNm 5) (aNil))))) (eLk 6)))) (sRet (eC (.bl false))) (sNil)) (sIf (cAnd (cVal (calF m_is_pair (aCons (eNm 4) (aCons (eNm 5) (aNil))))) (cNot (cVal (calF m_is_ring_pair (aCons (eNm 4) (aCons (eNm 5) (aNil))))))) (sRet (eC (.bl false))) (sNil))))))
theorem pick_1 {h : D} (H : Hand h) {xs : List Int} (hx : Row xs) {s2 s3 s4 s5 s6 : Option D} : ∃ a h', Ask a ∧ Hand h' ∧ (eIf (cVal (ev2 dEq (calH m__law_draw 0 (aCons (eC (.int 2)) (aNil))) (eC (.int 0)))) (eNm 1) (calH m__law_bent 0 (aCons (eNm 1) (aNil)))) [some h, some (tR xs), s2, s3, s4, s5, s6] = .ok a [some h', some (tR xs), s2, s3, s4, s5, s6] := by
  obtain ⟨r, h1, e1, r0, r1, H1⟩ := draw_ok H (k := 2) (by decide) (by decide)
  by_cases k0 : r = 0
  · subst k0
    exact ⟨tR xs, h1, Ask.row hx, H1, by simp [e1]⟩
  · obtain ⟨a, h2, e2, ha, H2⟩ := bent_ok H1 hx
    exact ⟨a, h2, ha, H2, by simp [e1, k0, e2]⟩
theorem pick_2 {h : D} (H : Hand h) {xs : List Int} (hx : Row xs) {s1 s3 s4 s5 s6 : Option D} : ∃ a h', Ask a ∧ Hand h' ∧ (eIf (cVal (ev2 dEq (calH m__law_draw 0 (aCons (eC (.int 2)) (aNil))) (eC (.int 0)))) (eNm 2) (calH m__law_bent 0 (aCons (eNm 2) (aNil)))) [some h, s1, some (tR xs), s3, s4, s5, s6] = .ok a [some h', s1, some (tR xs), s3, s4, s5, s6] := by
  obtain ⟨r, h1, e1, r0, r1, H1⟩ := draw_ok H (k := 2) (by decide) (by decide)
  by_cases k0 : r = 0
  · subst k0
    exact ⟨tR xs, h1, Ask.row hx, H1, by simp [e1]⟩
  · obtain ⟨a, h2, e2, ha, H2⟩ := bent_ok H1 hx
    exact ⟨a, h2, ha, H2, by simp [e1, k0, e2]⟩
theorem judge_turn {h : D} (H : Hand h) {xs ys : List Int} (hx : Row xs) (hy : Row ys) (s3 s4 s5 s6 : Option D) : ∃ h' s4' s5' s6', Hand h' ∧ bodyJ [some h, some (tR xs), some (tR ys), s3, s4, s5, s6] = .nx [some h', some (tR xs), some (tR ys), s3, s4', s5', s6'] := by
  obtain ⟨a, h1, ha, H1, e1⟩ := pick_1 H hx (s2 := some (tR ys)) (s3 := s3) (s4 := s4) (s5 := s5) (s6 := s6)
  obtain ⟨b, h2, hb, H2, e2⟩ := pick_2 H1 hy (s1 := some (tR xs)) (s3 := s3) (s4 := some a) (s5 := s5) (s6 := s6)
  have la : Lt 4 602 (.lst true [a, b]) := (Lt.lst (n := 3) (m := 300) (o := true) (ds := [a, b]) fun d hd => by
    simp only [List.mem_cons, List.not_mem_nil, or_false] at hd
    rcases hd with rfl | rfl
    · exact ha.s
    · exact hb.s).mono (Nat.le_refl _) (Nat.le_refl _)
  obtain ⟨x, rx, ox⟩ := repr_lt la (by decide) (by decide)
  refine ⟨h2, some a, some b, some (.str x), H2, ?_⟩
  have oa := okA_own ha.k.a
  have ob := okA_own hb.k.a
  have p1 := is_pair_ok ha.k hb.k
  have p2 := is_ring_ok ha.k hb.k
  have p3 := due_ok ha.k hb.k false
  have p4 := due_ok ha.k hb.k true
  have nx := dNe_str ox
  have pr : (pairB corr a b && !pairB rc a b) = false := by
    cases e : pairB corr a b with
    | false => rfl
    | true => rw [pairB_ring e]; rfl
  unfold bodyJ
  rw [seq_set e1 (by simp), show ([some h1, some (tR xs), some (tR ys), s3, s4, s5, s6] : DS).set 4 (some a) = [some h1, some (tR xs), some (tR ys), s3, some a, s5, s6] from rfl, seq_set e2 (by simp)]
  simp at p3 p4
  simp [oa, ob, rx, p1, p2, p3, p4, nx]
  cases e : pairB corr a b with
  | false => simp
  | true => simp [pairB_ring e]
theorem judge_loop : ∀ (ds : List D) {h : D} (H : Hand h) {xs ys : List Int} (hx : Row xs) (hy : Row ys) (s3 s4 s5 s6 : Option D), ∃ h' s3' s4' s5' s6', Hand h' ∧ forL (gSet 3) bodyJ ds [some h, some (tR xs), some (tR ys), s3, s4, s5, s6] = .nx [some h', some (tR xs), some (tR ys), s3', s4', s5', s6']
  | [], h, H, xs, ys, hx, hy, s3, s4, s5, s6 => ⟨h, s3, s4, s5, s6, H, rfl⟩
  | d :: ds, h, H, xs, ys, hx, hy, s3, s4, s5, s6 => by
    obtain ⟨h1, t4, t5, t6, H1, e1⟩ := judge_turn H hx hy (some d) s4 s5 s6
    obtain ⟨h2, u3, u4, u5, u6, H2, e2⟩ := judge_loop ds H1 hx hy (some d) t4 t5 t6
    refine ⟨h2, u3, u4, u5, u6, H2, ?_⟩
    unfold forL
    rw [gSet_ap (by simp)]
    simp
    rw [e1, lp_nx, e2]
theorem judged_ok {h : D} (H : Hand h) {xs ys : List Int} (hx : Row xs) (hy : Row ys) : ∃ h', m__law_are_judged_right [h, tR xs, tR ys] = .ok (.bl true) [h'] ∧ Hand h' := by
  obtain ⟨h', s3, s4, s5, s6, H', e⟩ := judge_loop (rangeD 0 8) H hx hy none none none none
  refine ⟨h', ?_, H'⟩
  unfold m__law_are_judged_right
  rw [runF_3]
  have sz : 8 ≤ sizeLine := sz_le (by decide)
  unfold bodyJ at e
  simp [b__law_are_judged_right, sz]
  rw [e]
  simp
end L2.Pv.K75
end
section
set_option Elab.async false
set_option linter.all false
set_option autoImplicit false
set_option maxRecDepth 100000
set_option maxHeartbeats 2000000
namespace L2.Pv.K75
open PySem Golay
/-! ### made pairs -/
theorem eqOks_int (n : Nat) : ∀ xs : List Int, D.eqOks n (xs.map D.int) = true
  | [] => by simp [D.eqOks]
  | x :: xs => by simp [D.eqOks, D.eqOk, eqOks_int n xs]
theorem eqbs_int : ∀ xs ys : List Int, D.eqbs (xs.map D.int) (ys.map D.int) = decide (xs = ys)
  | [], [] => by simp [D.eqbs]
  | [], _ :: _ => by simp [D.eqbs]
  | _ :: _, [] => by simp [D.eqbs]
  | x :: xs, y :: ys => by
    simp only [List.map_cons, D.eqbs, D.eqb, eqbs_int xs ys]
    by_cases h1 : x = y <;> by_cases h2 : xs = ys <;> simp [h1, h2]
theorem eqOk_two (xs ys : List Int) : (D.tup [tR xs, tR ys]).eqOk 64 = true := by
  simp [D.eqOk, D.eqOks, eqOks_int]
theorem dNe_two (xs ys : List Int) : dNe (.tup [tR xs, tR ys]) (.tup [tR xs, tR ys]) = some (.bl false) := by
  unfold dNe
  rw [if_pos ⟨eqOk_two xs ys, eqOk_two xs ys⟩]
  simp [D.eqb, D.eqbs, eqbs_int]
theorem isi_tup_tup (ds : List D) : dIsi "tuple" (.tup ds) = some (.bl true) := isi_tup (d := .tup ds) rfl
@[simp] theorem dIs_bl {a b : Bool} : dIs (.bl a) (.bl b) = some (.bl (decide (a = b))) := rfl
@[simp] theorem dIsN_bl {a b : Bool} : dIsN (.bl a) (.bl b) = some (.bl (!decide (a = b))) := rfl
theorem made_ok {xs ys : List Int} (hx : Row xs) (hy : Row ys) : m__law_are_made_right [tR xs, tR ys] = .ok (.bl true) [] := by
  have due := due_ok (okD_row xs) (okD_row ys) false
  simp at due
  unfold m__law_are_made_right
  rw [runF_2]
  by_cases hl : 32 < (xs.length : Int)
  · simp [b__law_are_made_right, hl]
  · cases hp : pairB corr (tR xs) (tR ys) with
    | false => simp [b__law_are_made_right, hl, due, hp]
    | true =>
      obtain ⟨xs', ys', e1, e2, _, _, hl2, hd⟩ := pairB_inv hp
      have ix : xs' = xs := by
        have := congrArg valsOf e1
        rw [valsOf_row, valsOf_row] at this
        exact this.symm
      have iy : ys' = ys := by
        have := congrArg valsOf e2
        rw [valsOf_row, valsOf_row] at this
        exact this.symm
      subst ix; subst iy
      have g : GP xs' ys' := ⟨hx, hy, hl2, (dues_pair hl2).mp hd⟩
      have h64 : 2 * xs'.length ≤ 64 := by omega
      have d1 := doubled_fit h64 (by omega) hp
      have w1 := woven_fit h64 hl2 hp
      have d2 := ldoubled_ok (xs := xs') (ys := ys') (by omega) (by omega)
      have w2 := lwoven_ok (xs := xs') (ys := ys') hl2 (by omega)
      have gd := g.doubled h64
      have gw := g.woven h64
      have pd := is_pair_ok (okD_row (xs' ++ ys')) (okD_row (xs' ++ neg ys'))
      rw [pairB_pair gd.x gd.y gd.l gd.p] at pd
      have pw := is_pair_ok (okD_row (weave xs' ys')) (okD_row (weave xs' (neg ys')))
      rw [pairB_pair gw.x gw.y gw.l gw.p] at pw
      generalize xs' ++ ys' = a1 at d1 d2 pd
      generalize xs' ++ neg ys' = a2 at d1 d2 pd
      generalize weave xs' ys' = a3 at w1 w2 pw
      generalize weave xs' (neg ys') = a4 at w1 w2 pw
      have ad : dAdd (.tup [tR a1, tR a2]) (.tup [tR a3, tR a4]) = some (.tup [tR a1, tR a2, tR a3, tR a4]) := dAdd_tup (show 2 + 2 ≤ 1000000 by decide)
      simp [b__law_are_made_right, hl, due, hp, d1, w1, d2, w2, dNe_two, isi_tup_tup, ad]
      rw [eLc_map (L := [a1, a2, a3, a4]) (ι := tR) (S := fun a => [some (tR xs'), some (tR ys'), some (.int xs'.length), some (.tup [tR a1, tR a2]), some (.tup [tR a3, tR a4]), some (tR a)]) (g := fun _ => D.bl true) (δ1 := [some (tR xs'), some (tR ys'), some (.int xs'.length), some (.tup [tR a1, tR a2]), some (.tup [tR a3, tR a4]), none])]
      · rw [bd_ok, dAll_map]
        have i1 : dIx (.tup [tR a1, tR a2]) (.int 0) = some (tR a1) := rfl
        have i2 : dIx (.tup [tR a1, tR a2]) (.int 1) = some (tR a2) := rfl
        have i3 : dIx (.tup [tR a3, tR a4]) (.int 0) = some (tR a3) := rfl
        have i4 : dIx (.tup [tR a3, tR a4]) (.int 1) = some (tR a4) := rfl
        simp [i1, i2, i3, i4, pd, pw]
      · simp [ad]
      · intro a _; rfl
      · intro a _; simp [isi_tup_tup]
      · intro a _; rfl
      · rfl
end L2.Pv.K75
end
section
set_option Elab.async false
set_option linter.all false
set_option autoImplicit false
set_option maxRecDepth 100000
set_option maxHeartbeats 2000000
namespace L2.Pv.K75
open PySem Golay
/-! ### all rows -/
def rowsL : Nat → List (List Int)
  | 0 => [[]]
  | n + 1 => ((rowsL n).map fun r => [r ++ [1], r ++ [-1]]).flatten
theorem rowsL_mem : ∀ (n : Nat) (xs : List Int), xs ∈ rowsL n ↔ xs.length = n ∧ ∀ x ∈ xs, x = 1 ∨ x = -1
  | 0, xs => by
    simp only [rowsL, List.mem_singleton]
    constructor
    · rintro rfl; exact ⟨rfl, fun _ h => nomatch h⟩
    · rintro ⟨h, _⟩; exact List.eq_nil_of_length_eq_zero h
  | n + 1, xs => by
    simp only [rowsL, List.mem_flatten, List.mem_map]
    constructor
    · rintro ⟨l, ⟨r, hr, rfl⟩, hx⟩
      obtain ⟨h1, h2⟩ := (rowsL_mem n r).mp hr
      simp only [List.mem_cons, List.not_mem_nil, or_false] at hx
      rcases hx with rfl | rfl
      · exact ⟨by simp [h1], sign_app h2 (by simp)⟩
      · exact ⟨by simp [h1], sign_app h2 (by simp)⟩
    · rintro ⟨h1, h2⟩
      have hne : xs ≠ [] := by rintro rfl; simp at h1
      have e := List.dropLast_concat_getLast hne
      have hl := h2 _ (List.getLast_mem hne)
      refine ⟨_, ⟨xs.dropLast, (rowsL_mem n _).mpr ⟨by simp [h1], fun x hx => h2 x ((List.dropLast_sublist xs).subset hx)⟩, rfl⟩, ?_⟩
      rcases hl with hl | hl
      · rw [hl] at e
        rw [← e]; simp
      · rw [hl] at e
        rw [← e]; simp
theorem flat2_len {α β : Type} (L : List α) (f g : α → β) : (L.map fun a => [f a, g a]).flatten.length = 2 * L.length := by
  induction L with
  | nil => rfl
  | cons x L ih => rw [List.map_cons, List.flatten_cons, List.length_append, ih, List.length_cons]; simp; omega
theorem rowsL_len : ∀ n, (rowsL n).length = 2 ^ n
  | 0 => rfl
  | n + 1 => by rw [rowsL, flat2_len, rowsL_len n, Nat.pow_succ, Nat.mul_comm]
theorem rows_d (n : Nat) : (rowsL (n + 1)).map tR = ((rowsL n).map fun r => [tR (r ++ [1]), tR (r ++ [-1])]).flatten := by
  rw [rowsL, List.map_flatten, List.map_map]
  rfl
theorem frzs_rows (L : List (List Int)) : D.frzs (L.map tR) = L.map tR := by
  rw [D.frzs_map, List.map_map]; rfl
def bodyA : Es := (sSet 1 (eLc2 [3, 4] [4] (iSeq (eNm 1)) (gSet 3) (cYes) (iSeq (eTup (aCons (eC (.int 1)) (aCons (ev1 dNeg (eC (.int 1))) (aNil))))) (gSet 4) (cYes) (ev2 dAdd (eLk 3) (eTup (aCons (eNm 4) (aNil))))))
theorem rows_turn {n : Nat} (hn : n < 10) (s0 s2 : Option D) : bodyA [s0, some (.lst true ((rowsL n).map tR)), s2, none, none] = .nx [s0, some (.lst true ((rowsL (n + 1)).map tR)), s2, none, none] := by
  unfold bodyA
  have hl := rowsL_len n
  have p10 : 2 ^ n ≤ 2 ^ 10 := Nat.pow_le_pow_right (by decide) (by omega)
  rw [sSet_ap, eLc2_map (L := rowsL n) (ι := tR) (δ1 := [s0, some (.lst false ((rowsL n).map tR)), s2, none, none]) (S := fun r => [s0, some (.lst false ((rowsL n).map tR)), s2, some (tR r), none]) (M := fun _ => [(1 : Int), -1]) (κ := fun _ x => .int x) (R := fun r x => [s0, some (.lst false ((rowsL n).map tR)), s2, some (tR r), some (.int x)]) (g := fun r x => tR (r ++ [x]))]
  · rw [rows_d]
    simp
  · simp [D.frz, frzs_rows]
  · intro r _; rfl
  · intro r _; simp
  · intro r _ x _; rfl
  · intro r hr x _
    have hr := ((rowsL_mem n r).mp hr).1
    have := add_rows (xs := r) (ys := [x]) (by simp; omega)
    have e : dAdd (tR r) (.tup [.int x]) = some (tR (r ++ [x])) := this
    simp only [tR] at e
    simp [e]
  · intro r _ x _; rfl
  · intro r _; rfl
  · rfl
  · rw [show ((rowsL n).map fun a => ([(1 : Int), -1]).map fun x => tR (a ++ [x])).flatten = (rowsL (n + 1)).map tR from (rows_d n).symm, List.length_map, rowsL_len, Nat.pow_succ]
    omega
theorem rows_loop : ∀ (ds : List D) (n : Nat) (s0 s2 : Option D), n + ds.length ≤ 10 → ∃ s2', forL (gSet 2) bodyA ds [s0, some (.lst true ((rowsL n).map tR)), s2, none, none] = .nx [s0, some (.lst true ((rowsL (n + ds.length)).map tR)), s2', none, none]
  | [], n, s0, s2, _ => ⟨s2, rfl⟩
  | d :: ds, n, s0, s2, h => by
    rw [List.length_cons] at h
    obtain ⟨s2', e⟩ := rows_loop ds (n + 1) s0 (some d) (by omega)
    refine ⟨s2', ?_⟩
    unfold forL
    rw [gSet_ap (by simp)]
    simp
    rw [rows_turn (by omega), lp_nx, e, show n + 1 + ds.length = n + (ds.length + 1) by omega]
theorem rows_ok {n : Nat} (hn : n ≤ 10) : m_all_rows [.int (n : Nat)] = .ok (.lst false ((rowsL n).map tR)) [] := by
  obtain ⟨s2, e⟩ := rows_loop (rangeD 0 n) 0 (some (.int (n : Nat))) none (by rw [rangeD_len]; omega)
  rw [rangeD_len, Nat.zero_add] at e
  have sz : n ≤ sizeLine := sz_le (by omega)
  unfold m_all_rows
  rw [runF_1]
  unfold bodyA at e
  have e0 : (rowsL 0).map tR = [D.tup []] := rfl
  rw [e0] at e
  simp [b_all_rows, sz]
  rw [e]
  simp [D.frz, frzs_rows]
end L2.Pv.K75
end
section
set_option Elab.async false
set_option linter.all false
set_option autoImplicit false
set_option maxRecDepth 100000
set_option maxHeartbeats 2000000
namespace L2.Pv.K75
open PySem Golay
/-! ### the first pair of n signs -/
def sums (xs : List Int) : List Int := (List.range (xs.length - 1)).map fun k => corr xs (k + 1)
theorem sums_tail (xs : List Int) : dSl (.lst true ((List.range xs.length).map fun s => D.int (corr xs s))) (some 1) none = some (.lst true ((sums xs).map D.int)) := by
  have al : ((List.range xs.length).map fun s => D.int (corr xs s)).all nOwn = true := by simp [List.all_map]
  unfold dSl
  simp only [al, if_true]
  unfold dCut
  have i1 : HT.sIx ((List.range xs.length).map fun s => D.int (corr xs s)).length 0 (some 1) = min 1 xs.length := by
    have := HT.sIx_nat ((List.range xs.length).map fun s => D.int (corr xs s)).length 0 1
    simpa using this
  rw [i1, HT.sIx_none]
  congr 2
  unfold sums
  generalize xs.length = n
  cases n with
  | zero => rfl
  | succ n =>
    rw [show min 1 (n + 1) = 1 by omega, List.range_succ_eq_map, List.map_cons, List.drop_succ_cons, List.drop_zero, List.map_map, List.take_of_length_le (by simp), List.map_map]
    rfl
theorem keys1_int : ∀ zs : List Int, D.keys1 (zs.map D.int) = some (zs.map Sum.inl)
  | [] => rfl
  | z :: zs => by simp [D.keys1, D.key1, keys1_int zs]
theorem keyT_row (zs : List Int) : (tR zs).keyT = some (zs.map Sum.inl) := keys1_int zs
def kOf (r : List Int) : List Key := (sums r).map Sum.inl
def KD (vs : List (List Int)) : D := .dic true (.t (vs.map kOf)) (vs.map tR)
theorem inl_inj : ∀ {a b : List Int}, (a.map Sum.inl : List Key) = b.map Sum.inl → a = b
  | [], [], _ => rfl
  | [], _ :: _, h => nomatch h
  | _ :: _, [], h => nomatch h
  | x :: a, y :: b, h => by
    rw [List.map_cons, List.map_cons] at h
    injection h with h1 h2
    rw [Sum.inl.inj h1, inl_inj h2]
theorem pos_some {vs : List (List Int)} {z : List Int} {i : Nat} (h : posOf (vs.map kOf) (z.map Sum.inl) = some i) : ∃ r, vs[i]? = some r ∧ sums r = z := by
  have := posOf_lt h
  rw [List.getElem?_map] at this
  cases e : vs[i]? with
  | none => rw [e] at this; cases this
  | some r =>
    rw [e] at this
    exact ⟨r, rfl, inl_inj (Option.some.inj this)⟩
theorem pos_none {vs : List (List Int)} {z : List Int} (h : posOf (vs.map kOf) (z.map Sum.inl) = none) : ∀ r ∈ vs, sums r ≠ z := fun r hr e => posOf_none h (by
  rw [← e]
  exact List.mem_map.mpr ⟨r, hr, rfl⟩)
theorem small_row {n : Nat} (hn : n ≤ 10) {r : List Int} (h : r ∈ rowsL n) : small r := by
  obtain ⟨h1, h2⟩ := (rowsL_mem n r).mp h
  exact ⟨by omega, fun x hx => by rcases h2 x hx with rfl | rfl <;> decide⟩
def body1 : Es := (sExpr (eMeth "dict" 2 (pNm 2) (aCons (ev1 dTup (eSl (calF m_moved_sums (aCons (eNm 3) (aNil))) (oSome (eC (.int 1))) (oNone))) (aCons (eNm 3) (aNil))) mSdT))
theorem sd_turn {vs : List (List Int)} {r : List Int} (hr : small r) (hv : vs.length ≤ 100000) (s0 s1 : Option D) : ∃ vs', (∀ x ∈ vs', x ∈ vs ∨ x = r) ∧ (∀ x ∈ vs, x ∈ vs') ∧ (∃ x ∈ vs', sums x = sums r) ∧ vs'.length ≤ vs.length + 1 ∧
    body1 [s0, s1, some (KD vs), some (tR r), none, none] = .nx [s0, s1, some (KD vs'), some (tR r), none, none] := by
  have hz : vs.length < sizeLine := sz_le (by omega)
  have m1 := moved_ok hr
  have st := sums_tail r
  cases hp : posOf (vs.map kOf) ((sums r).map Sum.inl) with
  | some i =>
    obtain ⟨w, hw, ew⟩ := pos_some hp
    refine ⟨vs, fun x hx => .inl hx, fun x hx => hx, ⟨w, List.mem_of_getElem? hw, ew⟩, by omega, ?_⟩
    have sd : mSdT (KD vs) [tR (sums r), tR r] = some (KD vs, tR w) := by
      unfold mSdT KD
      simp only [keyT_row, List.length_map, hz, if_true, hp]
      rw [List.getElem?_map, hw]
      rfl
    unfold body1
    simp [eMeth, m1, st, nodeAt, D.at, updM, D.upd, tyOk, KD]
    simp [KD] at sd
    simp [sd]
  | none =>
    have hn := pos_none hp
    refine ⟨vs ++ [r], fun x hx => by simpa using hx, fun x hx => List.mem_append_left _ hx, ⟨r, by simp, rfl⟩, by simp, ?_⟩
    have sd : mSdT (KD vs) [tR (sums r), tR r] = some (KD (vs ++ [r]), tR r) := by
      unfold mSdT KD
      simp only [keyT_row, List.length_map, hz, if_true, hp]
      rw [List.map_append, List.map_append]
      rfl
    unfold body1
    simp [eMeth, m1, st, nodeAt, D.at, updM, D.upd, tyOk, KD]
    simp [KD] at sd
    simp [sd]
theorem sd_loop : ∀ (L : List (List Int)) (vs : List (List Int)) (s0 s1 s3 : Option D), (∀ r ∈ L, small r) → vs.length + L.length ≤ 100000 → ∃ vs' s3', (∀ x ∈ vs', x ∈ vs ∨ x ∈ L) ∧ (∀ x, x ∈ vs ∨ x ∈ L → ∃ y ∈ vs', sums y = sums x) ∧
    forL (gSet 3) body1 (L.map tR) [s0, s1, some (KD vs), s3, none, none] = .nx [s0, s1, some (KD vs'), s3', none, none]
  | [], vs, s0, s1, s3, _, _ => ⟨vs, s3, fun x hx => .inl hx, fun x hx => ⟨x, by simpa using hx, rfl⟩, rfl⟩
  | r :: L, vs, s0, s1, s3, hL, hv => by
    rw [List.length_cons] at hv
    obtain ⟨v1, a1, a2, a3, a4, e1⟩ := sd_turn (hL r List.mem_cons_self) (vs := vs) (by omega) s0 s1
    obtain ⟨v2, s3', b1, b2, e2⟩ := sd_loop L v1 s0 s1 (some (tR r)) (fun x hx => hL x (List.mem_cons_of_mem _ hx)) (by omega)
    refine ⟨v2, s3', ?_, ?_, ?_⟩
    · intro x hx
      rcases b1 x hx with h | h
      · rcases a1 x h with h | rfl
        · exact .inl h
        · exact .inr List.mem_cons_self
      · exact .inr (List.mem_cons_of_mem _ h)
    · intro x hx
      rcases hx with h | h
      · exact b2 x (.inl (a2 x h))
      · rcases List.mem_cons.mp h with rfl | h
        · obtain ⟨y, hy, ey⟩ := a3
          obtain ⟨w, hw, ew⟩ := b2 y (.inl hy)
          exact ⟨w, hw, ew.trans ey⟩
        · exact b2 x (.inr h)
    · rw [List.map_cons]
      unfold forL
      rw [gSet_ap (by simp)]
      simp
      rw [e1, lp_nx]
      simpa using e2
def body2 : Es := (sSeq (sSet 4 (ev1 dTup (eLc [5] (iSeq (eSl (calF m_moved_sums (aCons (eNm 3) (aNil))) (oSome (eC (.int 1))) (oNone))) (gSet 5) (cYes) (ev1 dNeg (eLk 5))))) (sIf (cVal (ev2 dInX (eLk 4) (eLk 2))) (sRet (eTup (aCons (eNm 3) (aCons (ev2 dIx (eLk 2) (eLk 4)) (aNil))))) (sNil)))
theorem find_turn {vs : List (List Int)} {r : List Int} (hr : small r) (s0 s1 s4 : Option D) :
    (∃ w, w ∈ vs ∧ sums w = neg (sums r) ∧ ∃ δ, body2 [s0, s1, some (KD vs), some (tR r), s4, none] = .rt (.tup [tR r, tR w]) δ) ∨
    ((∀ w ∈ vs, sums w ≠ neg (sums r)) ∧ ∃ s4', body2 [s0, s1, some (KD vs), some (tR r), s4, none] = .nx [s0, s1, some (KD vs), some (tR r), s4', none]) := by
  have m1 := moved_ok hr
  have st := sums_tail r
  have lc : ev1 dTup (eLc [5] (iSeq (eSl (calF m_moved_sums (aCons (eNm 3) (aNil))) (oSome (eC (.int 1))) (oNone))) (gSet 5) (cYes) (ev1 dNeg (eLk 5))) [s0, s1, some (KD vs), some (tR r), s4, none] = .ok (tR (neg (sums r))) [s0, s1, some (KD vs), some (tR r), s4, none] := by
    refine less_body (S := fun x => [s0, s1, some (KD vs), some (tR r), s4, some (.int x)]) (xs := sums r) ?_ (fun _ => rfl) (fun x => by simp) (fun _ => rfl) rfl
    simp [m1, st]
  unfold body2
  rw [seq_set lc (by simp)]
  have ix : ∀ o, posOf (vs.map kOf) ((neg (sums r)).map Sum.inl) = o → (DKs.t (vs.map kOf)).ix (tR (neg (sums r))) = some o := fun o h => by
    unfold DKs.ix
    simp only [keyT_row, Option.map_some, h]
  cases hp : posOf (vs.map kOf) ((neg (sums r)).map Sum.inl) with
  | some i =>
    obtain ⟨w, hw, ew⟩ := pos_some hp
    have i1 : dInX (tR (neg (sums r))) (KD vs) = some (.bl true) := by
      unfold dInX KD
      simp only [ix _ hp]; rfl
    have i2 : dIx (KD vs) (tR (neg (sums r))) = some (tR w) := by
      refine dIx_of ?_ rfl
      unfold dIxA KD
      simp only [ix _ hp, Option.bind_some]
      rw [List.getElem?_map, hw]; rfl
    simp only [tR] at i1 i2
    exact .inl ⟨w, List.mem_of_getElem? hw, ew, _, by simp [i1, i2]; rfl⟩
  | none =>
    have i1 : dInX (tR (neg (sums r))) (KD vs) = some (.bl false) := by
      unfold dInX KD
      simp only [ix _ hp]; rfl
    simp only [tR] at i1
    exact .inr ⟨pos_none hp, _, by simp [i1]; rfl⟩
theorem find_loop : ∀ (L : List (List Int)) (vs : List (List Int)) (s0 s1 s3 s4 : Option D), (∀ r ∈ L, small r) → (∃ r ∈ L, ∃ w ∈ vs, sums w = neg (sums r)) → ∃ r w δ, r ∈ L ∧ w ∈ vs ∧ sums w = neg (sums r) ∧
    forL (gSet 3) body2 (L.map tR) [s0, s1, some (KD vs), s3, s4, none] = .rt (.tup [tR r, tR w]) δ
  | [], vs, s0, s1, s3, s4, _, h => nomatch h
  | r :: L, vs, s0, s1, s3, s4, hL, ⟨q, hq, w, hw, e⟩ => by
    rcases find_turn (vs := vs) (hL r List.mem_cons_self) s0 s1 s4 with ⟨w', hw', e', δ, h⟩ | ⟨hno, s4', h⟩
    · refine ⟨r, w', δ, List.mem_cons_self, hw', e', ?_⟩
      rw [List.map_cons]
      unfold forL
      rw [gSet_ap (by simp)]
      simp
      rw [h]; rfl
    · have hq' : q ∈ L := by
        rcases List.mem_cons.mp hq with rfl | h
        · exact absurd e (hno w hw)
        · exact h
      obtain ⟨r2, w2, δ, m1, m2, e2, h2⟩ := find_loop L vs s0 s1 (some (tR r)) s4' (fun x hx => hL x (List.mem_cons_of_mem _ hx)) ⟨q, hq', w, hw, e⟩
      refine ⟨r2, w2, δ, List.mem_cons_of_mem _ m1, m2, e2, ?_⟩
      rw [List.map_cons]
      unfold forL
      rw [gSet_ap (by simp)]
      simp
      rw [h, lp_nx]
      simpa using h2
theorem pair_sums {xs ys : List Int} (hl : xs.length = ys.length) : Pair xs ys ↔ sums ys = neg (sums xs) := by
  unfold sums neg
  rw [List.map_map, ← hl]
  constructor
  · intro h
    refine List.map_congr_left fun k _ => ?_
    have := h (k + 1) (by omega)
    show corr ys (k + 1) = - corr xs (k + 1)
    omega
  · intro h s hs
    by_cases hb : s < xs.length
    · have := congrArg (fun l => l[s - 1]?) h
      simp only [List.getElem?_map, List.getElem?_range (show s - 1 < xs.length - 1 by omega), Option.map_some, Option.some.injEq, Function.comp] at this
      rw [show s - 1 + 1 = s by omega] at this
      omega
    · rw [corr_big xs (by omega), corr_big ys (by omega)]; rfl
theorem first_ok {n : Nat} (h1 : 1 ≤ n) (hn : n ≤ 10) (hm : n = 1 ∨ n % 2 = 0) (he : ∃ xs ys, xs ∈ rowsL n ∧ ys ∈ rowsL n ∧ Pair xs ys) : ∃ xs ys, m_first_pair [.int (n : Nat)] = .ok (.tup [tR xs, tR ys]) [] ∧ GP xs ys ∧ xs.length = n := by
  obtain ⟨xs, ys, hx, hy, hp⟩ := he
  have lx := ((rowsL_mem n xs).mp hx).1
  have ly := ((rowsL_mem n ys).mp hy).1
  have hs : ∀ r ∈ rowsL n, small r := fun r hr => small_row hn hr
  have hln := rowsL_len n
  have p10 : 2 ^ n ≤ 2 ^ 10 := Nat.pow_le_pow_right (by decide) (by omega)
  obtain ⟨vs, s3, a1, a2, e1⟩ := sd_loop (rowsL n) [] (some (.int (n : Nat))) (some (.lst false ((rowsL n).map tR))) none hs (by simp; omega)
  obtain ⟨y', hy', ey⟩ := a2 ys (.inr hy)
  obtain ⟨r, w, δ, hr, hw, ew, e2⟩ := find_loop (rowsL n) vs (some (.int (n : Nat))) (some (.lst false ((rowsL n).map tR))) s3 none hs ⟨xs, hx, y', hy', by rw [ey]; exact (pair_sums (lx.trans ly.symm)).mp hp⟩
  have hw' : w ∈ rowsL n := by simpa using a1 w hw
  obtain ⟨r1, r2⟩ := (rowsL_mem n r).mp hr
  obtain ⟨w1, w2⟩ := (rowsL_mem n w).mp hw'
  refine ⟨r, w, ?_, ⟨⟨⟨by omega, by omega⟩, r2⟩, ⟨⟨by omega, by omega⟩, w2⟩, r1.trans w1.symm, (pair_sums (r1.trans w1.symm)).mpr ew⟩, r1⟩
  have iw := is_within_ok (d := .int (n : Nat)) rfl 1 10
  have g1 : (1 : Int) ≤ (n : Int) := by omega
  have g2 : (n : Int) ≤ 10 := by omega
  simp [g1, g2] at iw
  unfold body1 at e1
  unfold body2 at e2
  have e0 : KD [] = .dic true (.t []) [] := rfl
  rw [e0] at e1
  unfold m_first_pair
  rw [runF_1]
  have sk : (cAnd (cVal (ev2 dGt (eLk 0) (eC (.int 1)))) (cVal (ev2 dEq (ev2 dMod (eLk 0) (eC (.int 2))) (eC (.int 1))))) [some (.int (n : Nat)), none, none, none, none, none] = .ok false [some (.int (n : Nat)), none, none, none, none, none] := by
    rcases hm with rfl | hm
    · rfl
    · have : (n : Int) % 2 = 0 := by omega
      by_cases hg : (1 : Int) < n <;> simp [hg, this]
  have sk2 : ¬ (n : Int) < 1 := by omega
  simp [b_first_pair, iw, -cAnd_ap]
  rw [sk]
  simp [rows_ok hn, eDicT, frzs_rows]
  rw [e1]
  simp [frzs_rows]
  rw [e2]
  simp
end L2.Pv.K75
end
section
set_option Elab.async false
set_option linter.all false
set_option autoImplicit false
set_option maxRecDepth 100000
set_option maxHeartbeats 2000000
namespace L2.Pv.K75
open PySem Golay
/-! ### the first pair, judged -/
theorem none_1 : m__law_first_is_none [.int 1] = .ok (.bl false) [] := by kernel_rfl
theorem none_2 : m__law_first_is_none [.int 2] = .ok (.bl false) [] := by kernel_rfl
theorem none_3 : m__law_first_is_none [.int 3] = .ok (.bl true) [] := by kernel_rfl
theorem none_4 : m__law_first_is_none [.int 4] = .ok (.bl false) [] := by kernel_rfl
theorem none_5 : m__law_first_is_none [.int 5] = .ok (.bl true) [] := by kernel_rfl
theorem none_6 : m__law_first_is_none [.int 6] = .ok (.bl true) [] := by kernel_rfl
theorem pair_3 : m_first_pair [.int 3] = .ok .non [] := by kernel_rfl
theorem pair_5 : m_first_pair [.int 5] = .ok .non [] := by kernel_rfl
theorem pair_6 : m_first_pair [.int 6] = .ok .non [] := by kernel_rfl
theorem pair_7 : m_first_pair [.int 7] = .ok .non [] := by kernel_rfl
theorem pair_9 : m_first_pair [.int 9] = .ok .non [] := by kernel_rfl
end L2.Pv.K75
end
section
set_option Elab.async false
set_option linter.all false
set_option autoImplicit false
set_option maxRecDepth 100000
set_option maxHeartbeats 2000000
namespace L2.Pv.K75
open PySem Golay
/-! ### the first pair, judged -/
theorem pair_of {n : Nat} {xs ys : List Int} (g : GP xs ys) (h : xs.length = n) : ∃ xs ys, xs ∈ rowsL n ∧ ys ∈ rowsL n ∧ Pair xs ys :=
  ⟨xs, ys, (rowsL_mem n xs).mpr ⟨h, g.x.2⟩, (rowsL_mem n ys).mpr ⟨g.l.symm.trans h, g.y.2⟩, g.p⟩
theorem ex_1 : ∃ xs ys, xs ∈ rowsL 1 ∧ ys ∈ rowsL 1 ∧ Pair xs ys := pair_of gp_one rfl
theorem ex_2 : ∃ xs ys, xs ∈ rowsL 2 ∧ ys ∈ rowsL 2 ∧ Pair xs ys := pair_of (gp_one.doubled (by decide)) rfl
theorem ex_4 : ∃ xs ys, xs ∈ rowsL 4 ∧ ys ∈ rowsL 4 ∧ Pair xs ys := pair_of ((gp_one.doubled (by decide)).doubled (by decide)) rfl
theorem ex_8 : ∃ xs ys, xs ∈ rowsL 8 ∧ ys ∈ rowsL 8 ∧ Pair xs ys := pair_of (((gp_one.doubled (by decide)).doubled (by decide)).doubled (by decide)) rfl
theorem ex_10 : ∃ xs ys, xs ∈ rowsL 10 ∧ ys ∈ rowsL 10 ∧ Pair xs ys := pair_of gp_ten rfl
def rootE : Ev := (eLc [7] (iRng (aCons (eC (.int 8)) (aNil))) (gSet 7) (cVal (ev2 dLe (ev1 dInt (ev2 dMul (eLk 7) (eLk 7))) (ev2 dMul (eC (.int 2)) (eLk 1)))) (eNm 7))
def squaE : Ev := (eLc [8] (iSeq (eNm 5)) (gSet 8) (cVal (ev2 dIn (ev2 dSub (ev2 dMul (eC (.int 2)) (eLk 1)) (ev2 dMul (eLk 8) (eLk 8))) (eLc [9] (iSeq (eNm 5)) (gSet 9) (cYes) (ev2 dMul (eLk 9) (eLk 9))))) (ev2 dMul (eLk 8) (eLk 8)))
def rootB (n : Int) : List D := if n = 1 then [.int 0, .int 1] else if n = 2 then [.int 0, .int 1, .int 2] else if n = 4 then [.int 0, .int 1, .int 2] else if n = 8 then [.int 0, .int 1, .int 2, .int 3, .int 4] else [.int 0, .int 1, .int 2, .int 3, .int 4]
def squaB (n : Int) : List D := if n = 1 then [.int 1] else if n = 2 then [.int 0, .int 4] else if n = 4 then [.int 4] else if n = 8 then [.int 0, .int 16] else [.int 4, .int 16]
theorem root_1 : ∀ {s0 s2 s3 s4 s5 s6 : Option D}, rootE [s0, some (.int 1), s2, s3, s4, s5, s6, none, none, none] = .ok (.lst true (rootB 1)) [s0, some (.int 1), s2, s3, s4, s5, s6, none, none, none] := by intros; kernel_rfl
theorem root_2 : ∀ {s0 s2 s3 s4 s5 s6 : Option D}, rootE [s0, some (.int 2), s2, s3, s4, s5, s6, none, none, none] = .ok (.lst true (rootB 2)) [s0, some (.int 2), s2, s3, s4, s5, s6, none, none, none] := by intros; kernel_rfl
theorem root_4 : ∀ {s0 s2 s3 s4 s5 s6 : Option D}, rootE [s0, some (.int 4), s2, s3, s4, s5, s6, none, none, none] = .ok (.lst true (rootB 4)) [s0, some (.int 4), s2, s3, s4, s5, s6, none, none, none] := by intros; kernel_rfl
theorem root_8 : ∀ {s0 s2 s3 s4 s5 s6 : Option D}, rootE [s0, some (.int 8), s2, s3, s4, s5, s6, none, none, none] = .ok (.lst true (rootB 8)) [s0, some (.int 8), s2, s3, s4, s5, s6, none, none, none] := by intros; kernel_rfl
theorem root_10 : ∀ {s0 s2 s3 s4 s5 s6 : Option D}, rootE [s0, some (.int 10), s2, s3, s4, s5, s6, none, none, none] = .ok (.lst true (rootB 10)) [s0, some (.int 10), s2, s3, s4, s5, s6, none, none, none] := by intros; kernel_rfl
theorem squa_1 : ∀ {s0 s2 s3 s4 s6 : Option D}, squaE [s0, some (.int 1), s2, s3, s4, some (.lst true (rootB 1)), s6, none, none, none] = .ok (.lst true (squaB 1)) [s0, some (.int 1), s2, s3, s4, some (.lst false (rootB 1)), s6, none, none, none] := by intros; kernel_rfl
theorem squa_2 : ∀ {s0 s2 s3 s4 s6 : Option D}, squaE [s0, some (.int 2), s2, s3, s4, some (.lst true (rootB 2)), s6, none, none, none] = .ok (.lst true (squaB 2)) [s0, some (.int 2), s2, s3, s4, some (.lst false (rootB 2)), s6, none, none, none] := by intros; kernel_rfl
theorem squa_4 : ∀ {s0 s2 s3 s4 s6 : Option D}, squaE [s0, some (.int 4), s2, s3, s4, some (.lst true (rootB 4)), s6, none, none, none] = .ok (.lst true (squaB 4)) [s0, some (.int 4), s2, s3, s4, some (.lst false (rootB 4)), s6, none, none, none] := by intros; kernel_rfl
theorem squa_8 : ∀ {s0 s2 s3 s4 s6 : Option D}, squaE [s0, some (.int 8), s2, s3, s4, some (.lst true (rootB 8)), s6, none, none, none] = .ok (.lst true (squaB 8)) [s0, some (.int 8), s2, s3, s4, some (.lst false (rootB 8)), s6, none, none, none] := by intros; kernel_rfl
theorem squa_10 : ∀ {s0 s2 s3 s4 s6 : Option D}, squaE [s0, some (.int 10), s2, s3, s4, some (.lst true (rootB 10)), s6, none, none, none] = .ok (.lst true (squaB 10)) [s0, some (.int 10), s2, s3, s4, some (.lst false (rootB 10)), s6, none, none, none] := by intros; kernel_rfl
end L2.Pv.K75
end
section
set_option Elab.async false
set_option linter.all false
set_option autoImplicit false
set_option maxRecDepth 100000
set_option maxHeartbeats 2000000
namespace L2.Pv.K75
open PySem Golay
def tailF : Es := (sSeq (sAsg (eNm 2) (gTup' 2 (gCons' (gSet 3) (gCons' (gSet 4) (gNil'))))) (sSeq (sSet 5 rootE) (sSeq (sSet 6 squaE) (sRet (eAnd (ev2 dEq (ev1 dLen (eLk 3)) (eLk 1)) (eAnd (calF m__law_is_due (aCons (eNm 3) (aCons (eNm 4) (aCons (eC (.bl false)) (aNil))))) (ev2 dGt (ev1 dLen (eLk 6)) (eC (.int 0)))))))))
theorem tail_ok {n : Int} {h : D} {xs ys : List Int} (g : GP xs ys) (hl : (xs.length : Int) = n) (hr : rootE [some h, some (.int n), some (.tup [tR xs, tR ys]), some (tR xs), some (tR ys), none, none, none, none, none] = .ok (.lst true (rootB n)) [some h, some (.int n), some (.tup [tR xs, tR ys]), some (tR xs), some (tR ys), none, none, none, none, none])
    (hs : squaE [some h, some (.int n), some (.tup [tR xs, tR ys]), some (tR xs), some (tR ys), some (.lst true (rootB n)), none, none, none, none] = .ok (.lst true (squaB n)) [some h, some (.int n), some (.tup [tR xs, tR ys]), some (tR xs), some (tR ys), some (.lst false (rootB n)), none, none, none, none]) (h0 : 0 < (squaB n).length) :
    finF [0] (tailF [some h, some (.int n), some (.tup [tR xs, tR ys]), none, none, none, none, none, none, none]) = .ok (.bl true) [h] := by
  have due := due_ok (okD_row xs) (okD_row ys) false
  simp only [Bool.false_eq_true, if_false] at due
  rw [pairB_pair g.x g.y g.l g.p] at due
  have st : ∀ G : Es, sSeq (sAsg (eNm 2) (gTup' 2 (gCons' (gSet 3) (gCons' (gSet 4) (gNil'))))) G [some h, some (.int n), some (.tup [tR xs, tR ys]), none, none, none, none, none, none, none] = G [some h, some (.int n), some (.tup [tR xs, tR ys]), some (tR xs), some (tR ys), none, none, none, none, none] := fun G => by simp
  have e0 : (0 : Int) < (squaB n).length := by omega
  unfold tailF
  rw [st, seq_set hr (by simp)]
  simp only [List.set]
  rw [seq_set hs (by simp)]
  simp [hl, due, e0, h0]
theorem cases_10 {r : Int} (h0 : 0 ≤ r) (h1 : r < 10) : r = 0 ∨ r = 1 ∨ r = 2 ∨ r = 3 ∨ r = 4 ∨ r = 5 ∨ r = 6 ∨ r = 7 ∨ r = 8 ∨ r = 9 := by omega
theorem in_1 : dIn (.int 1) (.tup [.int 3, .int 5, .int 6, .int 7, .int 9]) = some (.bl false) := by kernel_rfl
theorem in_2 : dIn (.int 2) (.tup [.int 3, .int 5, .int 6, .int 7, .int 9]) = some (.bl false) := by kernel_rfl
theorem in_3 : dIn (.int 3) (.tup [.int 3, .int 5, .int 6, .int 7, .int 9]) = some (.bl true) := by kernel_rfl
theorem in_4 : dIn (.int 4) (.tup [.int 3, .int 5, .int 6, .int 7, .int 9]) = some (.bl false) := by kernel_rfl
theorem in_5 : dIn (.int 5) (.tup [.int 3, .int 5, .int 6, .int 7, .int 9]) = some (.bl true) := by kernel_rfl
theorem in_6 : dIn (.int 6) (.tup [.int 3, .int 5, .int 6, .int 7, .int 9]) = some (.bl true) := by kernel_rfl
theorem in_7 : dIn (.int 7) (.tup [.int 3, .int 5, .int 6, .int 7, .int 9]) = some (.bl true) := by kernel_rfl
theorem in_8 : dIn (.int 8) (.tup [.int 3, .int 5, .int 6, .int 7, .int 9]) = some (.bl false) := by kernel_rfl
theorem in_9 : dIn (.int 9) (.tup [.int 3, .int 5, .int 6, .int 7, .int 9]) = some (.bl true) := by kernel_rfl
theorem in_10 : dIn (.int 10) (.tup [.int 3, .int 5, .int 6, .int 7, .int 9]) = some (.bl false) := by kernel_rfl
theorem is_nn : dIs .non .non = some (.bl true) := rfl
theorem is_tn (ds : List D) : dIs (.tup ds) .non = some (.bl false) := rfl
def bodyF (F G : List D → FOut) : Es := sSeq (sSet 1 (ev2 dAdd (eC (.int 1)) (calH m__law_draw 0 (aCons (eC (.int 10)) (aNil))))) (sSeq (sSet 2 (calF F (aCons (eNm 1) (aNil)))) (sSeq (sIf (cOr (cVal (ev2 dNe (ev2 dIs (eLk 2) (eC .non)) (ev2 dIn (eLk 1) (eTup (aCons (eC (.int 3)) (aCons (eC (.int 5)) (aCons (eC (.int 6)) (aCons (eC (.int 7)) (aCons (eC (.int 9)) (aNil)))))))))) (cAnd (cVal (ev2 dLt (eLk 1) (eC (.int 7)))) (cVal (ev2 dNe (ev2 dIs (eLk 2) (eC .non)) (calF G (aCons (eNm 1) (aNil))))))) (sRet (eC (.bl false))) (sNil)) (sSeq (sIf (cVal (ev2 dIs (eLk 2) (eC .non))) (sRet (eC (.bl true))) (sNil)) (sSeq (sAsg (eNm 2) (gTup' 2 (gCons' (gSet 3) (gCons' (gSet 4) (gNil'))))) (sSeq (sSet 5 (eLc [7] (iRng (aCons (eC (.int 8)) (aNil))) (gSet 7) (cVal (ev2 dLe (ev1 dInt (ev2 dMul (eLk 7) (eLk 7))) (ev2 dMul (eC (.int 2)) (eLk 1)))) (eNm 7))) (sSeq (sSet 6 (eLc [8] (iSeq (eNm 5)) (gSet 8) (cVal (ev2 dIn (ev2 dSub (ev2 dMul (eC (.int 2)) (eLk 1)) (ev2 dMul (eLk 8) (eLk 8))) (eLc [9] (iSeq (eNm 5)) (gSet 9) (cYes) (ev2 dMul (eLk 9) (eLk 9))))) (ev2 dMul (eLk 8) (eLk 8)))) (sRet (eAnd (ev2 dEq (ev1 dLen (eLk 3)) (eLk 1)) (eAnd (calF m__law_is_due (aCons (eNm 3) (aCons (eNm 4) (aCons (eC (.bl false)) (aNil))))) (ev2 dGt (ev1 dLen (eLk 6)) (eC (.int 0))))))))))))
theorem bodyF_eq : b__law_is_first_right = bodyF m_first_pair m__law_first_is_none := rfl
theorem run_1 {F G : List D → FOut} {h h1 : D} {xs ys : List Int} (e1 : m__law_draw [h, .int 10] = .ok (.int 0) [h1]) (e2 : F [.int 1] = .ok (.tup [tR xs, tR ys]) []) (e3 : G [.int 1] = .ok (.bl false) []) (g : GP xs ys) (hl : xs.length = 1) : finF [0] (bodyF F G [some h, none, none, none, none, none, none, none, none, none]) = .ok (.bl true) [h1] := by
  have t := tail_ok (n := 1) (h := h1) g (by rw [hl]; rfl) root_1 squa_1 (by decide)
  unfold tailF rootE squaE at t
  unfold bodyF
  simp at e2 t
  simp [e1, e2, in_1, is_nn, is_tn, e3]
  exact t
theorem run_2 {F G : List D → FOut} {h h1 : D} {xs ys : List Int} (e1 : m__law_draw [h, .int 10] = .ok (.int 1) [h1]) (e2 : F [.int 2] = .ok (.tup [tR xs, tR ys]) []) (e3 : G [.int 2] = .ok (.bl false) []) (g : GP xs ys) (hl : xs.length = 2) : finF [0] (bodyF F G [some h, none, none, none, none, none, none, none, none, none]) = .ok (.bl true) [h1] := by
  have t := tail_ok (n := 2) (h := h1) g (by rw [hl]; rfl) root_2 squa_2 (by decide)
  unfold tailF rootE squaE at t
  unfold bodyF
  simp at e2 t
  simp [e1, e2, in_2, is_nn, is_tn, e3]
  exact t
theorem run_3 {F G : List D → FOut} {h h1 : D} (e1 : m__law_draw [h, .int 10] = .ok (.int 2) [h1]) (e2 : F [.int 3] = .ok .non []) (e3 : G [.int 3] = .ok (.bl true) []) : finF [0] (bodyF F G [some h, none, none, none, none, none, none, none, none, none]) = .ok (.bl true) [h1] := by
  unfold bodyF
  simp [e1, e2, in_3, is_nn, is_tn, e3]
theorem run_4 {F G : List D → FOut} {h h1 : D} {xs ys : List Int} (e1 : m__law_draw [h, .int 10] = .ok (.int 3) [h1]) (e2 : F [.int 4] = .ok (.tup [tR xs, tR ys]) []) (e3 : G [.int 4] = .ok (.bl false) []) (g : GP xs ys) (hl : xs.length = 4) : finF [0] (bodyF F G [some h, none, none, none, none, none, none, none, none, none]) = .ok (.bl true) [h1] := by
  have t := tail_ok (n := 4) (h := h1) g (by rw [hl]; rfl) root_4 squa_4 (by decide)
  unfold tailF rootE squaE at t
  unfold bodyF
  simp at e2 t
  simp [e1, e2, in_4, is_nn, is_tn, e3]
  exact t
theorem run_5 {F G : List D → FOut} {h h1 : D} (e1 : m__law_draw [h, .int 10] = .ok (.int 4) [h1]) (e2 : F [.int 5] = .ok .non []) (e3 : G [.int 5] = .ok (.bl true) []) : finF [0] (bodyF F G [some h, none, none, none, none, none, none, none, none, none]) = .ok (.bl true) [h1] := by
  unfold bodyF
  simp [e1, e2, in_5, is_nn, is_tn, e3]
theorem run_6 {F G : List D → FOut} {h h1 : D} (e1 : m__law_draw [h, .int 10] = .ok (.int 5) [h1]) (e2 : F [.int 6] = .ok .non []) (e3 : G [.int 6] = .ok (.bl true) []) : finF [0] (bodyF F G [some h, none, none, none, none, none, none, none, none, none]) = .ok (.bl true) [h1] := by
  unfold bodyF
  simp [e1, e2, in_6, is_nn, is_tn, e3]
theorem run_7 {F G : List D → FOut} {h h1 : D} (e1 : m__law_draw [h, .int 10] = .ok (.int 6) [h1]) (e2 : F [.int 7] = .ok .non []) : finF [0] (bodyF F G [some h, none, none, none, none, none, none, none, none, none]) = .ok (.bl true) [h1] := by
  unfold bodyF
  simp [e1, e2, in_7, is_nn, is_tn]
theorem run_8 {F G : List D → FOut} {h h1 : D} {xs ys : List Int} (e1 : m__law_draw [h, .int 10] = .ok (.int 7) [h1]) (e2 : F [.int 8] = .ok (.tup [tR xs, tR ys]) []) (g : GP xs ys) (hl : xs.length = 8) : finF [0] (bodyF F G [some h, none, none, none, none, none, none, none, none, none]) = .ok (.bl true) [h1] := by
  have t := tail_ok (n := 8) (h := h1) g (by rw [hl]; rfl) root_8 squa_8 (by decide)
  unfold tailF rootE squaE at t
  unfold bodyF
  simp at e2 t
  simp [e1, e2, in_8, is_nn, is_tn]
  exact t
theorem run_9 {F G : List D → FOut} {h h1 : D} (e1 : m__law_draw [h, .int 10] = .ok (.int 8) [h1]) (e2 : F [.int 9] = .ok .non []) : finF [0] (bodyF F G [some h, none, none, none, none, none, none, none, none, none]) = .ok (.bl true) [h1] := by
  unfold bodyF
  simp [e1, e2, in_9, is_nn, is_tn]
theorem run_10 {F G : List D → FOut} {h h1 : D} {xs ys : List Int} (e1 : m__law_draw [h, .int 10] = .ok (.int 9) [h1]) (e2 : F [.int 10] = .ok (.tup [tR xs, tR ys]) []) (g : GP xs ys) (hl : xs.length = 10) : finF [0] (bodyF F G [some h, none, none, none, none, none, none, none, none, none]) = .ok (.bl true) [h1] := by
  have t := tail_ok (n := 10) (h := h1) g (by rw [hl]; rfl) root_10 squa_10 (by decide)
  unfold tailF rootE squaE at t
  unfold bodyF
  simp at e2 t
  simp [e1, e2, in_10, is_nn, is_tn]
  exact t
theorem first_right_ok {h : D} (H : Hand h) : ∃ h', m__law_is_first_right [h] = .ok (.bl true) [h'] ∧ Hand h' := by
  obtain ⟨r, h1, e1, r0, r1, H1⟩ := draw_ok H (k := 10) (by decide) (by decide)
  refine ⟨h1, ?_, H1⟩
  unfold m__law_is_first_right
  rw [runF_1, bodyF_eq]
  rcases cases_10 r0 r1 with rfl | rfl | rfl | rfl | rfl | rfl | rfl | rfl | rfl | rfl
  · obtain ⟨xs, ys, e2, g, hl⟩ := first_ok (n := 1) (by decide) (by decide) (by decide) ex_1
    exact run_1 e1 e2 none_1 g hl
  · obtain ⟨xs, ys, e2, g, hl⟩ := first_ok (n := 2) (by decide) (by decide) (by decide) ex_2
    exact run_2 e1 e2 none_2 g hl
  · exact run_3 e1 pair_3 none_3
  · obtain ⟨xs, ys, e2, g, hl⟩ := first_ok (n := 4) (by decide) (by decide) (by decide) ex_4
    exact run_4 e1 e2 none_4 g hl
  · exact run_5 e1 pair_5 none_5
  · exact run_6 e1 pair_6 none_6
  · exact run_7 e1 pair_7
  · obtain ⟨xs, ys, e2, g, hl⟩ := first_ok (n := 8) (by decide) (by decide) (by decide) ex_8
    exact run_8 e1 e2 g hl
  · exact run_9 e1 pair_9
  · obtain ⟨xs, ys, e2, g, hl⟩ := first_ok (n := 10) (by decide) (by decide) (by decide) ex_10
    exact run_10 e1 e2 g hl
end L2.Pv.K75
end
section
set_option Elab.async false
set_option linter.all false
set_option autoImplicit false
set_option maxRecDepth 100000
set_option maxHeartbeats 2000000
namespace L2.Pv.K75
open PySem Golay
/-! ### what is refused -/
theorem word_row : go__law_word (.exc 2 []) = some (.str "row") := by kernel_rfl
theorem word_num : go__law_word (.exc 1 []) = some (.str "number") := by kernel_rfl
theorem eLam_ok {cs : List Nat} {fb : Ev} {gout : AOut → Option D} {δ : DS} {d : D} (h1 : (capS cs δ).all (fun o => match o with | some d => nOwn d | none => true) = true) (h2 : gout (actOf (fb (capS cs δ))) = some d) : eLam cs fb gout δ = .ok d δ := by
  unfold eLam
  refine (if_pos h1).trans ?_
  rw [h2]
theorem two_word {j c : Nat} {a b : D} {w : Str} (hj : j ∈ [8, 9]) (ha : a.own = false) (hb : b.own = false) (h : FM j [a, b] = .exc c [] []) (hg : go__law_word (.exc c []) = some (.str w)) : m__law_two [.fn j, a, b] = .ok (.str w) [] := by
  unfold m__law_two
  rw [runF_3]
  have na : nOwn a = true := by unfold nOwn; rw [ha]; rfl
  have nb : nOwn b = true := by unfold nOwn; rw [hb]; rfl
  have nj : nOwn (.fn j) = true := rfl
  simp only [List.mem_cons, List.not_mem_nil, or_false] at hj
  have hc : capS [0, 1, 2] [some (.fn j), some a, some b] = [some (.fn j), some a, some b] := rfl
  unfold b__law_two
  rw [sRet_ap, eLam_ok (d := .str w)]
  · simp
  · show (capS [0, 1, 2] [some (.fn j), some a, some b]).all _ = true
    rw [hc]
    simp only [List.all_cons, List.all_nil, na, nb, nj, Bool.and_self]
  · show go__law_word (actOf (calV [8, 9] 0 FM _ (capS [0, 1, 2] [some (.fn j), some a, some b]))) = _
    rw [hc]
    simp [calV, hj, ha, hb, h, actOf, hg]
def bads : List D := [.non, .int 0, .lst true [.int 1], .tup [], .tup [.int 1, .int 0], .tup [.int 1, .bl true], .tup [.int 2], .str "1", .dic true (.k []) [], .tup (List.replicate 65 (.int 1))]
def lens : List D := [.int 0, .int 11, .int (-1), .non, .bl true, .str "4", .tup [.int 4], .lst true [.int 4], .dic true (.k []) []]
theorem bad_ok {d : D} (h : d ∈ bads) : okD d.frz ∧ isRow d.frz = false := by
  simp only [bads, List.mem_cons, List.not_mem_nil, or_false] at h
  rcases h with rfl | rfl | rfl | rfl | rfl | rfl | rfl | rfl | rfl | rfl
  · exact ⟨⟨rfl, fun _ e => nomatch e⟩, rfl⟩
  · exact ⟨⟨rfl, fun _ e => nomatch e⟩, rfl⟩
  · exact ⟨⟨rfl, fun _ e => nomatch e⟩, rfl⟩
  · exact ⟨⟨rfl, fun xs e x hx => by cases e; exact nomatch hx⟩, rfl⟩
  · exact ⟨⟨rfl, fun xs e x hx => by cases e; revert x; decide⟩, rfl⟩
  · exact ⟨⟨rfl, fun xs e x hx => by cases e; revert x; decide⟩, rfl⟩
  · exact ⟨⟨rfl, fun xs e x hx => by cases e; revert x; decide⟩, rfl⟩
  · exact ⟨⟨rfl, fun _ e => nomatch e⟩, rfl⟩
  · exact ⟨⟨rfl, fun _ e => nomatch e⟩, rfl⟩
  · exact ⟨⟨rfl, fun xs e x hx => by cases e; rw [List.eq_of_mem_replicate hx]; rfl⟩, rfl⟩
theorem first_bad {d : D} (h : d ∈ lens) : d.frz.own = false ∧ m_first_pair [d.frz] = .exc 1 [] [] := by
  have go : ∀ d : D, d.own = false → m_is_within [d, .int 1, .int 10] = .ok (.bl false) [] → m_first_pair [d] = .exc 1 [] [] := fun d ha iw => by
    unfold m_first_pair
    rw [runF_1]
    simp [b_first_pair, ha, iw]
  simp only [lens, List.mem_cons, List.not_mem_nil, or_false] at h
  rcases h with rfl | rfl | rfl | rfl | rfl | rfl | rfl | rfl | rfl <;> exact ⟨rfl, go _ rfl (is_within_ok rfl 1 10)⟩
theorem one_row : isRow (tR [1]) = true := rfl
theorem pair_l {d : D} (h : isRow d = false) (e : D) : pairB corr d e = false := by unfold pairB; rw [h]; rfl
theorem pair_r {d : D} (h : isRow d = false) (e : D) : pairB corr e d = false := by unfold pairB; rw [h]; cases isRow e <;> rfl
def bodyW : Es := (sSeq (sSet 7 (eLst (aCons (calF m__law_two (aCons (eNm 6) (aCons (eNm 1) (aCons (eTup (aCons (eC (.int 1)) (aNil))) (aNil))))) (aCons (calF m__law_two (aCons (eNm 6) (aCons (eTup (aCons (eC (.int 1)) (aNil))) (aCons (eNm 1) (aNil))))) (aCons (calF m__law_two (aCons (eNm 6) (aCons (eNm 3) (aCons (eNm 4) (aNil))))) (aNil)))))) (sIf (cVal (ev2 dNe (eLk 7) (eLst (aCons (eC (.str "row")) (aCons (eC (.str "row")) (aCons (eC (.str "number")) (aNil))))))) (sRet (eC (.bl false))) (sNil)))
theorem words_ne : dNe (.lst true [.str "row", .str "row", .str "number"]) (.lst true [.str "row", .str "row", .str "number"]) = some (.bl false) := by kernel_rfl
theorem words_turn {j : Nat} (hj : j ∈ [8, 9]) {d : D} (hd : okD d ∧ isRow d = false) {xs ys : List Int} (g : GP xs ys) (hl : xs.length = 40) (s0 s2 s5 s7 : Option D) : ∃ s7', bodyW [s0, some d, s2, some (tR xs), some (tR ys), s5, some (.fn j), s7] = .nx [s0, some d, s2, some (tR xs), some (tR ys), s5, some (.fn j), s7'] := by
  have pb := pairB_pair g.x g.y g.l g.p
  have big : 64 < 2 * xs.length := by omega
  have f1 : FM j [d, tR [1]] = .exc 2 [] [] := by
    simp only [List.mem_cons, List.not_mem_nil, or_false] at hj
    rcases hj with rfl | rfl
    · exact doubled_ok hd.1 (okD_row [1]) (pair_l hd.2 _)
    · exact woven_no hd.1 (okD_row [1]) (pair_l hd.2 _)
  have f2 : FM j [tR [1], d] = .exc 2 [] [] := by
    simp only [List.mem_cons, List.not_mem_nil, or_false] at hj
    rcases hj with rfl | rfl
    · exact doubled_ok (okD_row [1]) hd.1 (pair_r hd.2 _)
    · exact woven_no (okD_row [1]) hd.1 (pair_r hd.2 _)
  have f3 : FM j [tR xs, tR ys] = .exc 1 [] [] := by
    simp only [List.mem_cons, List.not_mem_nil, or_false] at hj
    rcases hj with rfl | rfl
    · exact doubled_big big pb
    · exact woven_big big pb
  have od := okA_own hd.1.a
  have t1 := two_word hj od rfl f1 word_row
  have t2 := two_word hj rfl od f2 word_row
  have t3 := two_word hj rfl rfl f3 word_num
  refine ⟨some (.lst true [.str "row", .str "row", .str "number"]), ?_⟩
  simp only [tR, List.map_cons, List.map_nil] at t1 t2 t3
  unfold bodyW
  simp [od, t1, t2, t3, words_ne]
def bodyD : Es := (sAsg (eIf (cVal (ev2 dEq (calH m__law_draw 0 (aCons (eC (.int 2)) (aNil))) (eC (.int 0)))) (calF m__law_doubled (aCons (eNm 3) (aCons (eNm 4) (aNil)))) (calF m__law_woven (aCons (eNm 3) (aCons (eNm 4) (aNil))))) (gTup' 2 (gCons' (gSet 3) (gCons' (gSet 4) (gNil')))))
theorem twice_turn {h : D} (H : Hand h) {xs ys : List Int} (g : GP xs ys) (hz : 2 * xs.length ≤ 64) (s1 s2 s5 s6 s7 : Option D) : ∃ h' xs' ys', Hand h' ∧ GP xs' ys' ∧ xs'.length = 2 * xs.length ∧
    bodyD [some h, s1, s2, some (tR xs), some (tR ys), s5, s6, s7] = .nx [some h', s1, s2, some (tR xs'), some (tR ys'), s5, s6, s7] := by
  obtain ⟨r, h1, e, r0, r1, H1⟩ := draw_ok H (k := 2) (by decide) (by decide)
  have hy := g.l
  unfold bodyD
  by_cases k0 : r = 0
  · subst k0
    exact ⟨h1, _, _, H1, g.doubled hz, by simp; omega, by simp [e, ldoubled_ok (xs := xs) (ys := ys) (by omega) (by omega)]⟩
  · exact ⟨h1, _, _, H1, g.woven hz, by rw [wl g.l]; omega, by simp [e, k0, lwoven_ok (xs := xs) (ys := ys) hy (by omega)]⟩
theorem forL_c {j : Nat} {g : Es} {d : D} {ds : List D} {δ δ' : DS} (hj : j < δ.length) (h : g (δ.set j (some d)) = .nx δ') : forL (gSet j) g (d :: ds) δ = forL (gSet j) g ds δ' := by
  show og (gSet j d δ) (fun δ1 => (g δ1).lp (forL (gSet j) g ds)) = _
  rw [gSet_ap hj]
  show (g (δ.set j (some d))).lp _ = _
  rw [h, lp_nx]
theorem refused_ok {h : D} (H : Hand h) : ∃ h', m__law_are_refused [h] = .ok (.bl true) [h'] ∧ Hand h' := by
  obtain ⟨d, h1, hd, e1, H1⟩ := any_own H (ds := bads) (by decide) (by decide)
  obtain ⟨n, h2, hn, e2, H2⟩ := any_own H1 (ds := lens) (by decide) (by decide)
  have bd := bad_ok hd
  obtain ⟨on, fn⟩ := first_bad hn
  obtain ⟨h3, xs1, ys1, H3, g1, l1, t1⟩ := twice_turn H2 gp_ten (by decide) (some d.frz) (some n.frz) (some (.int 0)) none none
  have l1 : xs1.length = 20 := l1
  obtain ⟨h4, xs2, ys2, H4, g2, l2, t2⟩ := twice_turn H3 g1 (by omega) (some d.frz) (some n.frz) (some (.int 1)) none none
  obtain ⟨s7, w1⟩ := words_turn (j := 8) (by decide) bd g2 (by omega) (some h4) (some n.frz) (some (.int 1)) none
  obtain ⟨s7', w2⟩ := words_turn (j := 9) (by decide) bd g2 (by omega) (some h4) (some n.frz) (some (.int 1)) s7
  refine ⟨h4, ?_, H4⟩
  have lit1 : (tR ten1) = .tup [.int 1, .int 1, .int (-1), .int 1, .int (-1), .int 1, .int (-1), .int (-1), .int 1, .int 1] := rfl
  have lit2 : (tR ten2) = .tup [.int 1, .int 1, .int (-1), .int 1, .int 1, .int 1, .int 1, .int 1, .int (-1), .int (-1)] := rfl
  rw [lit1, lit2] at t1
  have rp : dMul (.tup [.int 1]) (.int 65) = some (.tup (List.replicate 65 (.int 1))) := by kernel_rfl
  have sz : 2 ≤ sizeLine := sz_le (by decide)
  unfold bads at e1
  unfold lens at e2
  generalize hr : List.replicate 65 (D.int 1) = rr at e1 rp
  unfold m__law_are_refused
  rw [runF_1]
  unfold b__law_are_refused
  generalize m_first_pair = F at fn ⊢
  unfold bodyD at t1 t2
  unfold bodyW at w1 w2
  simp [eDicK, rp, e1, e2, sz]
  rw [show rangeD 0 2 = [D.int 0, D.int 1] from rfl, forL_c (by simp) t1, forL_c (by simp) t2, forL_nil]
  have lm : eLam [2] (calF F (aCons (eNm 2) aNil)) go__law_word [some h4, some d.frz, some n.frz, some (tR xs2), some (tR ys2), some (.int 1), some (.fn 9), s7'] = .ok (.str "number") [some h4, some d.frz, some n.frz, some (tR xs2), some (tR ys2), some (.int 1), some (.fn 9), s7'] := by
    have hc : capS [2] [some h4, some d.frz, some n.frz, some (tR xs2), some (tR ys2), some (.int 1), some (.fn 9), s7'] = [none, none, some n.frz, none, none, none, none, none] := rfl
    have nn : nOwn n.frz = true := by unfold nOwn; rw [on]; rfl
    refine eLam_ok ?_ ?_
    · rw [hc]
      simp only [List.all_cons, List.all_nil, nn, Bool.and_self]
    · rw [hc]
      simp [on, fn, actOf, word_num]
  have eq : dEq (.str "number") (.str "number") = some (.bl true) := by kernel_rfl
  simp
  rw [forL_c (by simp) w1, forL_c (by simp) w2, forL_nil]
  simp [lm, eq]
end L2.Pv.K75
end
section
set_option Elab.async false
set_option linter.all false
set_option autoImplicit false
set_option maxRecDepth 100000
set_option maxHeartbeats 2000000
namespace L2.Pv.K75
open PySem Golay
/-! ### the law -/
def signE : Ev := (calH m__law_any 1 (aCons (eLst (aCons (eC (.int 1)) (aCons (ev1 dNeg (eC (.int 1))) (aNil)))) (aNil)))
theorem sign_ok {h : D} (H : Hand h) (s0 s2 s3 s4 s5 s6 s7 s8 : Option D) : ∃ x h', (x = 1 ∨ x = -1) ∧ Hand h' ∧ signE [s0, some h, s2, s3, s4, s5, s6, s7, s8] = .ok (.int x) [s0, some h', s2, s3, s4, s5, s6, s7, s8] := by
  obtain ⟨d, h', hd, e, H'⟩ := any_own H (ds := [.int 1, .int (-1)]) (by decide) (by decide)
  simp only [List.mem_cons, List.not_mem_nil, or_false] at hd
  unfold signE
  rcases hd with rfl | rfl
  · exact ⟨1, h', .inl rfl, H', by simp [e]⟩
  · exact ⟨-1, h', .inr rfl, H', by simp [e]⟩
theorem signs_loop : ∀ (ds : List D) {h : D} (H : Hand h) (s0 s2 s3 s4 s5 s6 s7 : Option D), ∃ (xs : List Int) (h' : D), xs.length = ds.length ∧ (∀ x ∈ xs, x = 1 ∨ x = -1) ∧ Hand h' ∧
    lcL [8] (gSet 8) cYes signE ds [s0, some h, s2, s3, s4, s5, s6, s7, none] = some (xs.map D.int, [s0, some h', s2, s3, s4, s5, s6, s7, none])
  | [], h, H, s0, s2, s3, s4, s5, s6, s7 => ⟨[], h, rfl, (fun _ hx => nomatch hx), H, rfl⟩
  | d :: ds, h, H, s0, s2, s3, s4, s5, s6, s7 => by
    obtain ⟨x, h1, hx, H1, e1⟩ := sign_ok H s0 s2 s3 s4 s5 s6 s7 (some d)
    obtain ⟨xs, h2, hl, hs, H2, e2⟩ := signs_loop ds H1 s0 s2 s3 s4 s5 s6 s7
    refine ⟨x :: xs, h2, by simp [hl], fun y hy => ?_, H2, ?_⟩
    · rcases List.mem_cons.mp hy with rfl | hy
      · exact hx
      · exact hs y hy
    · unfold lcL
      rw [gSet_ap (by simp)]
      simp only [Option.bind_some, cYes_ap, List.set]
      rw [e1]
      simp only
      rw [show wipeG [s0, some h1, s2, s3, s4, s5, s6, s7, some d] [8] = [s0, some h1, s2, s3, s4, s5, s6, s7, none] from rfl, e2]
      rfl
def rowE : Ev := (ev1 dTup (eLc [8] (iRng (aCons (eNm 5) (aNil))) (gSet 8) (cYes) signE))
theorem rowE_ok {h : D} (H : Hand h) {n : Nat} (h1 : 1 ≤ n) (hn : n ≤ 64) (s0 s2 s3 s4 s6 s7 : Option D) : ∃ xs h', Row xs ∧ Hand h' ∧
    rowE [s0, some h, s2, s3, s4, some (.int (n : Nat)), s6, s7, none] = .ok (tR xs) [s0, some h', s2, s3, s4, some (.int (n : Nat)), s6, s7, none] := by
  obtain ⟨xs, h', hl, hs, H', e⟩ := signs_loop (rangeD 0 n) H s0 s2 s3 s4 (some (.int (n : Nat))) s6 s7
  rw [rangeD_len] at hl
  refine ⟨xs, h', ⟨⟨by omega, by omega⟩, hs⟩, H', ?_⟩
  have r1 := iRng_1 (f := eNm 5) (δ := [s0, some h, s2, s3, s4, some (.int (n : Nat)), s6, s7, none]) (δ' := [s0, some h, s2, s3, s4, some (.int (n : Nat)), s6, s7, none]) (j := (n : Nat)) (by simp) (by omega)
  unfold rowE
  rw [ev1_ap]
  unfold eLc
  rw [r1, bd_ok, show wipeG [s0, some h, s2, s3, s4, some (.int (n : Nat)), s6, s7, none] [8] = [s0, some h, s2, s3, s4, some (.int (n : Nat)), s6, s7, none] from rfl, Int.toNat_natCast, e]
  simp
  rfl
def twoE : Ev := (eLc [7] (iRng (aCons (eC (.int 2)) (aNil))) (gSet 7) (cYes) rowE)
theorem twoE_ok {h : D} (H : Hand h) {n : Nat} (h1 : 1 ≤ n) (hn : n ≤ 64) (s0 s2 s3 s4 s6 : Option D) : ∃ xs ys h', Row xs ∧ Row ys ∧ Hand h' ∧
    twoE [s0, some h, s2, s3, s4, some (.int (n : Nat)), s6, none, none] = .ok (.lst true [tR xs, tR ys]) [s0, some h', s2, s3, s4, some (.int (n : Nat)), s6, none, none] := by
  obtain ⟨xs, h1', hx, H1, e1⟩ := rowE_ok H h1 hn s0 s2 s3 s4 s6 (some (.int 0))
  obtain ⟨ys, h2', hy, H2, e2⟩ := rowE_ok H1 h1 hn s0 s2 s3 s4 s6 (some (.int 1))
  refine ⟨xs, ys, h2', hx, hy, H2, ?_⟩
  have r1 := iRng_1 (f := eC (.int 2)) (δ := [s0, some h, s2, s3, s4, some (.int (n : Nat)), s6, none, none]) (δ' := [s0, some h, s2, s3, s4, some (.int (n : Nat)), s6, none, none]) (j := 2) rfl (by decide)
  unfold twoE
  unfold eLc
  rw [r1, bd_ok, show rangeD 0 (2 : Int).toNat = [D.int 0, D.int 1] from rfl]
  unfold lcL
  rw [gSet_ap (by simp [wipeG])]
  simp only [Option.bind_some, cYes_ap]
  rw [show (wipeG [s0, some h, s2, s3, s4, some (.int (n : Nat)), s6, none, none] [7]).set 7 (some (D.int 0)) = [s0, some h, s2, s3, s4, some (.int (n : Nat)), s6, some (.int 0), none] from rfl, e1]
  simp only
  unfold lcL
  rw [gSet_ap (by simp [wipeG])]
  simp only [Option.bind_some, cYes_ap]
  rw [show (wipeG [s0, some h1', s2, s3, s4, some (.int (n : Nat)), s6, some (.int 0), none] [7]).set 7 (some (D.int 1)) = [s0, some h1', s2, s3, s4, some (.int (n : Nat)), s6, some (.int 1), none] from rfl, e2]
  rfl
def bodyL : Es := (sSeq (sAsg (calH m__law_grown 1 (aNil)) (gTup' 2 (gCons' (gSet 3) (gCons' (gSet 4) (gNil'))))) (sSeq (sIf (cOr (cVal (ev2 dIsN (calF m_is_pair (aCons (eNm 3) (aCons (eNm 4) (aNil)))) (eC (.bl true)))) (cNot (cVal (calH m__law_are_judged_right 1 (aCons (eNm 3) (aCons (eNm 4) (aNil))))))) (sRet (eC (.bl false))) (sNil)) (sSeq (sIf (cNot (cVal (calF m__law_are_made_right (aCons (eNm 3) (aCons (eNm 4) (aNil)))))) (sRet (eC (.bl false))) (sNil)) (sSeq (sSet 5 (ev2 dAdd (eC (.int 1)) (calH m__law_draw 1 (aCons (eC (.int 8)) (aNil))))) (sSeq (sSet 6 twoE) (sIf (cOr (cNot (cVal (calH m__law_are_judged_right 1 (aCons (ev2 dIx (eLk 6) (eC (.int 0))) (aCons (ev2 dIx (eLk 6) (eC (.int 1))) (aNil)))))) (cNot (cVal (calF m__law_are_made_right (aCons (ev2 dIx (eLk 6) (eC (.int 0))) (aCons (ev2 dIx (eLk 6) (eC (.int 1))) (aNil))))))) (sRet (eC (.bl false))) (sNil)))))))
theorem seq_asg {f : Ev} {fg : Eg} {g : Es} {δ δ1 δ2 : DS} {d : D} (h : f δ = .ok d δ1) (h2 : fg d δ1 = some δ2) : sSeq (sAsg f fg) g δ = g δ2 := by
  rw [sSeq_ap, sAsg_ap, h]
  simp [h2, og]
theorem seq_no {c : EvT} {g1 g : Es} {δ δ1 : DS} (h : c δ = .ok false δ1) : sSeq (sIf c g1 sNil) g δ = g δ1 := by
  rw [sSeq_ap, sIf_ap, h]
  simp
theorem law_turn {h : D} (H : Hand h) (s0 s2 s3 s4 s5 s6 : Option D) : ∃ h' s3' s4' s5' s6', Hand h' ∧ bodyL [s0, some h, s2, s3, s4, s5, s6, none, none] = .nx [s0, some h', s2, s3', s4', s5', s6', none, none] := by
  obtain ⟨xs, ys, h1, e1, g, H1⟩ := grown_ok H
  obtain ⟨h2, e2, H2⟩ := judged_ok H1 g.x g.y
  have pr := is_pair_ok (okD_row xs) (okD_row ys)
  rw [pairB_pair g.x g.y g.l g.p] at pr
  have md := made_ok g.x g.y
  obtain ⟨r, h3, e3, r0, r1, H3⟩ := draw_ok H2 (k := 8) (by decide) (by decide)
  obtain ⟨n, rfl⟩ : ∃ n : Nat, r = n := ⟨r.toNat, by omega⟩
  obtain ⟨as, bs, h4, ha, hb, H4, e4⟩ := twoE_ok H3 (n := 1 + n) (by omega) (by omega) s0 s2 (some (tR xs)) (some (tR ys)) s6
  obtain ⟨h5, e5, H5⟩ := judged_ok H4 ha hb
  have md2 := made_ok ha hb
  refine ⟨h5, some (tR xs), some (tR ys), some (.int ((1 + n : Nat) : Int)), some (.lst true [tR as, tR bs]), H5, ?_⟩
  have a1 : calH m__law_grown 1 aNil [s0, some h, s2, s3, s4, s5, s6, none, none] = .ok (.tup [tR xs, tR ys]) [s0, some h1, s2, s3, s4, s5, s6, none, none] := by simp [e1]
  have a2 : (cOr (cVal (ev2 dIsN (calF m_is_pair (aCons (eNm 3) (aCons (eNm 4) (aNil)))) (eC (.bl true)))) (cNot (cVal (calH m__law_are_judged_right 1 (aCons (eNm 3) (aCons (eNm 4) (aNil))))))) [s0, some h1, s2, some (tR xs), some (tR ys), s5, s6, none, none] = .ok false [s0, some h2, s2, some (tR xs), some (tR ys), s5, s6, none, none] := by simp [pr, e2]
  have a3 : (cNot (cVal (calF m__law_are_made_right (aCons (eNm 3) (aCons (eNm 4) (aNil)))))) [s0, some h2, s2, some (tR xs), some (tR ys), s5, s6, none, none] = .ok false [s0, some h2, s2, some (tR xs), some (tR ys), s5, s6, none, none] := by simp [md]
  have a4 : (ev2 dAdd (eC (.int 1)) (calH m__law_draw 1 (aCons (eC (.int 8)) (aNil)))) [s0, some h2, s2, some (tR xs), some (tR ys), s5, s6, none, none] = .ok (.int ((1 + n : Nat) : Int)) [s0, some h3, s2, some (tR xs), some (tR ys), s5, s6, none, none] := by simp [e3]
  have i1 : dIx (.lst true [tR as, tR bs]) (.int 0) = some (tR as) := rfl
  have i2 : dIx (.lst true [tR as, tR bs]) (.int 1) = some (tR bs) := rfl
  have a5 : (cOr (cNot (cVal (calH m__law_are_judged_right 1 (aCons (ev2 dIx (eLk 6) (eC (.int 0))) (aCons (ev2 dIx (eLk 6) (eC (.int 1))) (aNil)))))) (cNot (cVal (calF m__law_are_made_right (aCons (ev2 dIx (eLk 6) (eC (.int 0))) (aCons (ev2 dIx (eLk 6) (eC (.int 1))) (aNil))))))) [s0, some h4, s2, some (tR xs), some (tR ys), some (.int ((1 + n : Nat) : Int)), some (.lst true [tR as, tR bs]), none, none] = .ok false [s0, some h5, s2, some (tR xs), some (tR ys), some (.int ((1 + n : Nat) : Int)), some (.lst true [tR as, tR bs]), none, none] := by
    simp [i1, i2, e5, md2]
  unfold bodyL
  rw [seq_asg a1 (δ2 := [s0, some h1, s2, some (tR xs), some (tR ys), s5, s6, none, none]) rfl, seq_no a2, seq_no a3, seq_set a4 (by simp)]
  simp only [List.set]
  rw [seq_set e4 (by simp)]
  simp only [List.set]
  rw [sIf_ap, a5]
  rfl
theorem d_ones : m_doubled_pair [.tup [.int 1], .tup [.int 1]] = .ok (.tup [.tup [.int 1, .int 1], .tup [.int 1, .int (-1)]]) [] := by kernel_rfl
theorem w_ones : m_woven_pair [.tup [.int 1, .int 1], .tup [.int 1, .int (-1)]] = .ok (.tup [.tup [.int 1, .int 1, .int 1, .int (-1)], .tup [.int 1, .int (-1), .int 1, .int 1]]) [] := by kernel_rfl
theorem p_ones : m_is_pair [.tup [.int 1, .int 1], .tup [.int 1, .int 1]] = .ok (.bl false) [] := by kernel_rfl
theorem p_one : m_is_pair [.tup [.int 1], .tup [.int (-1)]] = .ok (.bl true) [] := by kernel_rfl
theorem r_ones : m_is_ring_pair [.tup [.int 1, .int 1], .tup [.int 1, .int (-1)]] = .ok (.bl true) [] := by kernel_rfl
theorem ne_d : dNe (.tup [.tup [.int 1, .int 1], .tup [.int 1, .int (-1)]]) (.tup [.tup [.int 1, .int 1], .tup [.int 1, .int (-1)]]) = some (.bl false) := by kernel_rfl
theorem ne_w : dNe (.tup [.tup [.int 1, .int 1, .int 1, .int (-1)], .tup [.int 1, .int (-1), .int 1, .int 1]]) (.tup [.tup [.int 1, .int 1, .int 1, .int (-1)], .tup [.int 1, .int (-1), .int 1, .int 1]]) = some (.bl false) := by kernel_rfl
theorem law_plain (ns : List Int) (h : ns.length ≤ 63) (hb : ∀ z ∈ ns, PySem.Builtin.Int.intBits z ≤ 1048576) : ∃ os, m_law [.scr ns] = .ok (.bl true) os := by
  obtain ⟨h0, e0, H0⟩ := hand_ok h
  obtain ⟨h1, a3, a4, a5, a6, H1, e1⟩ := law_turn H0 (some (.scr ns)) (some (.int 0)) none none none none
  obtain ⟨h2, b3, b4, b5, b6, H2, e2⟩ := law_turn H1 (some (.scr ns)) (some (.int 1)) a3 a4 a5 a6
  obtain ⟨h3, e3, H3⟩ := first_right_ok H2
  obtain ⟨h4, e4, H4⟩ := refused_ok H3
  refine ⟨[], ?_⟩
  have sz : 2 ≤ sizeLine := sz_le (by decide)
  unfold bodyL twoE rowE signE at e1 e2
  unfold m_law
  rw [runF_1]
  simp [b_law, e0, d_ones, w_ones, p_ones, p_one, r_ones, ne_d, ne_w, sz]
  rw [show rangeD 0 2 = [D.int 0, D.int 1] from rfl, forL_c (by simp) e1, forL_c (by simp) e2, forL_nil]
  simp [e3, e4]
end L2.Pv.K75
end
section
set_option Elab.async false
set_option linter.all false
set_option maxRecDepth 100000
set_option maxHeartbeats 4000000
open PySem PySem.W PyProof.Rows in
set_option maxHeartbeats 0 in
theorem PySem.Challenge.cw_pairblocks_k75_whole_pairs_of_rows_of_si_holds : PySem.Challenge.rw_pairblocks_k75_whole_pairs_of_rows_of_si.Holds := by
  w_on; o_law; k_head; (case hw => w_witness2)
  k_fill
  refine L2.Pv.walk_pv (l := PySem.Challenge.rw_pairblocks_k75_whole_pairs_of_rows_of_si) (n := 63) (k := 13) (x := "script") (cs := [(254, 250), (261, 257)]) (tb := [(250, ("_law_two" : PySem.Str) ++ ".<locals>." ++ "<lambda>"), (257, ("_law_are_refused" : PySem.Str) ++ ".<locals>." ++ "<lambda>")]) (m := L2.Pv.K75.m_law) (fas := (fun j => if j = 8 then 122 else if j = 9 then 127 else 0)) (cas := (fun c => if c = 0 then 45 else if c = 1 then 67 else if c = 2 then 88 else 0)) (fls := fun _ => [])
    rfl (by decide) rfl ⟨rfl, by decide, by decide⟩ (fun w h Y => km_in_of Y) (fun w h Y p hp => ?htab) (fun w h Y p hp => ?hcode) (fun w p hp => ?htabK) (by decide +kernel) (fun w => ?hmK) (by decide) ?F L2.Pv.K75.law_plain
  case htab =>
    simp only [List.mem_cons, List.not_mem_nil, or_false] at hp
    rcases hp with rfl | rfl
    · exact km_tabs_of Y 250 (by decide)
    · exact km_tabs_of Y 257 (by decide)
  case hcode =>
    simp only [List.mem_cons, List.not_mem_nil, or_false] at hp
    rcases hp with rfl | rfl
    · exact codeHd_of_K (km_in_of Y) (by kernel_rfl)
    · exact codeHd_of_K (km_in_of Y) (by kernel_rfl)
  case htabK =>
    simp only [List.mem_cons, List.not_mem_nil, or_false] at hp
    rcases hp with rfl | rfl
    · kernel_rfl
    · kernel_rfl
  case hmK => kernel_rfl
  case F =>
    intro w mg fa h g Y KX G hmg hgb
    refine' (fun tx => ?fin) (L2.Pv.K75.tx_all (prog := (PySem.Challenge.rw_pairblocks_k75_whole_pairs_of_rows_of_si).prog) (tb := [(250, ("_law_two" : PySem.Str) ++ ".<locals>." ++ "<lambda>"), (257, ("_law_are_refused" : PySem.Str) ++ ".<locals>." ++ "<lambda>")]) (gb := g) (P__law_two := 250) (P__law_are_refused := 257) KX G ?e0 ?e1 ?e2 ?e3 ?e4 ?e5 ?e6 ?e7 ?e8 ?e9 ?e10 ?e11 ?e12 ?e13 ?e14 ?e15 ?e16 ?e17 ?e18 ?e19 ?e20 ?e21 ?e22 ?e23 ?e24 ?e25 ?e26 ?e27 ?e28 ?e29 ?e30 ?e31 ?e32 ?e33 ?e34 ?e35 ?e36 ?e37 ?e38 ?e39 ?e40 ?e41 ?e42 ?e43 ?e44 ?e45 ?e46 ?e47 ?e48 ?e49 ?e50 ?e51 ?e52 ?e53 ?e54 ?e55 ?e56 ?e57 ?e58 ?e59 ?e60 ?e61 ?e62 ?e63 ?e64 ?e65 ?e66 ?e67 ?e68 ?e69 ?e70 ?e71 ?e72 ?e73 ?e74 ?e75 ?e76 ?e77 ?e78 ?e79 ?e80 ?e81 ?e82 ?e83 ?e84 ?e85 ?e86 ?e87 ?e88 ?e89 ?e90 ?e91 ?e92 ?e93 ?e94 ?e95 ?e96 ?e97 ?e98 ?e99 ?e100 ?e101 ?e102 ?e103 ?e104 ?e105 ?e106 ?e107 ?e108 ?e109 ?e110 ?e111 ?e112 ?e113 ?e114 ?e115 ?e116 ?e117 ?e118 ?e119 ?e120 ?e121 ?e122 ?e123 ?e124 ?e125 ?e126 ?e127 ?e128 ?e129 ?e130 ?e131 ?e132 ?e133 ?e134 ?e135 ?e136 ?e137 ?e138 ?e139 ?e140 ?e141 ?e142 ?e143 ?e144 ?e145 ?e146 ?e147 ?e148 ?e149 ?e150 ?e151 ?e152 ?e153 ?e154 ?e155 ?e156 ?e157 ?e158 ?e159 ?e160 ?e161 ?e162 ?e163 ?e164 ?e165 ?e166 ?e167 ?e168 ?e169 ?e170 ?e171 ?e172 ?e173)
    (case e0 => k_is)
    (case e1 => k_is)
    (case e2 => k_is)
    (case e3 => k_is)
    (case e4 => k_is)
    (case e5 => k_is)
    (case e6 => k_is)
    (case e7 => k_is)
    (case e8 => k_is)
    (case e9 => k_is)
    (case e10 => k_is)
    (case e11 => k_is)
    (case e12 => k_is)
    (case e13 => k_is)
    (case e14 => k_is)
    (case e15 => k_is)
    (case e16 => k_is)
    (case e17 => k_is)
    (case e18 => k_is)
    (case e19 => k_is)
    (case e20 => k_is)
    (case e21 => k_is)
    (case e22 => k_is)
    (case e23 => k_is)
    (case e24 => k_is)
    (case e25 => k_is)
    (case e26 => k_is)
    (case e27 => k_is)
    (case e28 => k_is)
    (case e29 => k_is)
    (case e30 => k_is)
    (case e31 => k_is)
    (case e32 => k_is)
    (case e33 => k_is)
    (case e34 => k_is)
    (case e35 => k_is)
    (case e36 => k_is)
    (case e37 => k_is)
    (case e38 => k_is)
    (case e39 => k_is)
    (case e40 => k_is)
    (case e41 => k_is)
    (case e42 => k_is)
    (case e43 => k_is)
    (case e44 => k_is)
    (case e45 => k_is)
    (case e46 => k_is)
    (case e47 => k_is)
    (case e48 => k_is)
    (case e49 => k_is)
    (case e50 => k_is)
    (case e51 => k_is)
    (case e52 => k_is)
    (case e53 => k_is)
    (case e54 => k_is)
    (case e55 => k_is)
    (case e56 => k_is)
    (case e57 => k_is)
    (case e58 => k_is)
    (case e59 => k_is)
    (case e60 => k_is)
    (case e61 => k_is)
    (case e62 => k_is)
    (case e63 => k_is)
    (case e64 => k_is)
    (case e65 => k_is)
    (case e66 => k_is)
    (case e67 => k_is)
    (case e68 => k_is)
    (case e69 => k_is)
    (case e70 => k_is)
    (case e71 => k_is)
    (case e72 => k_is)
    (case e73 => k_is)
    (case e74 => k_is)
    (case e75 => k_is)
    (case e76 => k_is)
    (case e77 => k_is)
    (case e78 => k_is)
    (case e79 => k_is)
    (case e80 => k_is)
    (case e81 => k_is)
    (case e82 => k_is)
    (case e83 => k_is)
    (case e84 => k_is)
    (case e85 => k_is)
    (case e86 => k_is)
    (case e87 => k_is)
    (case e88 => k_is)
    (case e89 => k_is)
    (case e90 => k_is)
    (case e91 => k_is)
    (case e92 => k_is)
    (case e93 => k_is)
    (case e94 => k_is)
    (case e95 => k_is)
    (case e96 => k_is)
    (case e97 => k_is)
    (case e98 => k_is)
    (case e99 => k_is)
    (case e100 => k_is)
    (case e101 => k_is)
    (case e102 => k_is)
    (case e103 => k_is)
    (case e104 => k_is)
    (case e105 => k_is)
    (case e106 => k_is)
    (case e107 => k_is)
    (case e108 => k_is)
    (case e109 => k_is)
    (case e110 => k_is)
    (case e111 => k_is)
    (case e112 => k_is)
    (case e113 => k_is)
    (case e114 => k_is)
    (case e115 => k_is)
    (case e116 => k_is)
    (case e117 => k_is)
    (case e118 => k_is)
    (case e119 => k_is)
    (case e120 => k_is)
    (case e121 => k_is)
    (case e122 => k_is)
    (case e123 => k_is)
    (case e124 => k_is)
    (case e125 => k_is)
    (case e126 => k_is)
    (case e127 => k_is)
    (case e128 => k_is)
    (case e129 => k_is)
    (case e130 => k_is)
    (case e131 => k_is)
    (case e132 => k_is)
    (case e133 => k_is)
    (case e134 => k_is)
    (case e135 => k_is)
    (case e136 => k_is)
    (case e137 => k_is)
    (case e138 => k_is)
    (case e139 => k_is)
    (case e140 => k_is)
    (case e141 => k_is)
    (case e142 => k_is)
    (case e143 => k_is)
    (case e144 => k_is)
    (case e145 => k_is)
    (case e146 => k_is)
    (case e147 => k_is)
    (case e148 => k_is)
    (case e149 => k_is)
    (case e150 => k_is)
    (case e151 => k_is)
    (case e152 => k_is)
    (case e153 => k_is)
    (case e154 => k_is)
    (case e155 => k_is)
    (case e156 => k_is)
    (case e157 => (refine' L2.Pv.ex0_mk PySem.F.excBase_ValueError ?yq ?yhi ?yhfn ?yho ?yhbody ?yhcd ?yhbind ?yhp ?yhcode ?yhvs ?yhfile ?yhcell ?yhD ?yhsub ?yhks ?yhkc ?yhka ?yhk ?yhcells ?yhco ?yhgen ?yhtop ?yhno ?yhm ?yhB ?yhkeep ?yhEx ?yhTy ?yhe ?yhin ?yhsw; (case yhi => k_is); (case yq => kernel_rfl); (case yhfn => k_is); (case yho => k_is); (case yhbody => rfl); (case yhcd => k_is); (case yhbind => exact fun _ => rfl); (case yhp => rfl); (case yhcode => k_is); (case yhvs => rfl); (case yhfile => rfl); (case yhcell => k_is); (case yhD => k_is); (case yhsub => k_is); (case yhks => rfl); (case yhkc => rfl); (case yhka => rfl); (case yhk => rfl); (case yhcells => decide); (case yhco => rfl); (case yhgen => rfl); (case yhtop => rfl); (case yhno => k_is); (case yhm => ks_is); (case yhB => k_is); (case yhkeep => k_is); (case yhEx => k_is); (case yhTy => k_is); (case yhe => exact fun _ => rfl); (case yhin => exact fun _ => rfl); (case yhsw => exact fun _ => rfl)))
    (case e158 => (refine' L2.Pv.ex0_mk PySem.F.excBase_ValueError ?yq ?yhi ?yhfn ?yho ?yhbody ?yhcd ?yhbind ?yhp ?yhcode ?yhvs ?yhfile ?yhcell ?yhD ?yhsub ?yhks ?yhkc ?yhka ?yhk ?yhcells ?yhco ?yhgen ?yhtop ?yhno ?yhm ?yhB ?yhkeep ?yhEx ?yhTy ?yhe ?yhin ?yhsw; (case yhi => k_is); (case yq => kernel_rfl); (case yhfn => k_is); (case yho => k_is); (case yhbody => rfl); (case yhcd => k_is); (case yhbind => exact fun _ => rfl); (case yhp => rfl); (case yhcode => k_is); (case yhvs => rfl); (case yhfile => rfl); (case yhcell => k_is); (case yhD => k_is); (case yhsub => k_is); (case yhks => rfl); (case yhkc => rfl); (case yhka => rfl); (case yhk => rfl); (case yhcells => decide); (case yhco => rfl); (case yhgen => rfl); (case yhtop => rfl); (case yhno => k_is); (case yhm => ks_is); (case yhB => k_is); (case yhkeep => k_is); (case yhEx => k_is); (case yhTy => k_is); (case yhe => exact fun _ => rfl); (case yhin => exact fun _ => rfl); (case yhsw => exact fun _ => rfl)))
    (case e159 => (refine ⟨?_, ?_, ?_, ?_, ?_, ?_, ?_, ?_⟩ <;> k_is))
    (case e160 => kernel_rfl)
    (case e161 => kernel_rfl)
    (case e162 => kernel_rfl)
    (case e163 => kernel_rfl)
    (case e164 => (refine ⟨?_, ?_, ?_, ?_, ?_, ?_, ?_, ?_⟩ <;> k_is))
    (case e165 => kernel_rfl)
    (case e166 => kernel_rfl)
    (case e167 => kernel_rfl)
    (case e168 => kernel_rfl)
    (case e169 => decide)
    (case e170 => decide)
    (case e171 => decide)
    (case e172 => decide)
    (case e173 => (obtain ⟨om, e⟩ := hgb; exact ⟨om, _, by rw [e]; rfl⟩))
    case fin =>
    obtain ⟨T, ea, ed, ec__law_two, eP__law_two, ec__law_are_refused, eP__law_are_refused⟩ := tx
    have e : fa = T.a_law := by have q := hmg.symm.trans T.g_law; exact Value.ref.inj (Option.some.inj q)
    subst e
    refine ⟨T.d_law, fun s v => by rw [ed]; exact .of_eq rfl, fun base hb hg TB => ?_⟩
    exact L2.Pv.K75.ok_law T ⟨by rw [ec__law_two, eP__law_two]; exact TB (254, 250) (by decide), by rw [ec__law_are_refused, eP__law_are_refused]; exact TB (261, 257) (by decide)⟩
end
