import PyProof.Rows.All
import Wide.All
import OpenK.AllK
import Wide.FinOn
import HandS.ForMost
import HandS.ForExc
import HandS.Deep
import HandS.IsInst
import KE.SortData
import HandS.TupLe
import HandS.TupAny
import HandS.TupMul
import HandS.Wide
import PySem.Challenge.RW_wintold_k02_matches_left_and_points_had
set_option Elab.async false
set_option linter.all false
set_option maxRecDepth 100000
set_option maxHeartbeats 4000000
namespace T
open PySem PySem.Spec PyProof.Rows L2
/-! ### data as trees -/
inductive D where
  | non | bl (b : Bool) | int (i : Int) | str (x : Str)
  | tup (xs : List D) | scr (ns : List Int) | lst (o : Bool) (xs : List D) | dic (o : Bool) (ks vs : List D) | obj (o : Bool) (C : Nat) (ns : List Str) (vs : List D)

mutual
@[simp] def frz : D → D
  | .non => .non
  | .bl b => .bl b
  | .int i => .int i
  | .str x => .str x
  | .tup xs => .tup (frzL xs)
  | .scr ns => .scr ns
  | .lst _ xs => .lst false (frzL xs)
  | .dic _ ks vs => .dic false ks (frzL vs)
  | .obj _ C ns vs => .obj false C ns (frzL vs)
@[simp] def frzL : List D → List D
  | [] => []
  | x :: xs => frz x :: frzL xs
end
mutual
/-- no list, no dict, no object within -/
@[simp] def flat : D → Bool
  | .tup xs => flatL xs
  | .lst _ _ => false
  | .dic _ _ _ => false
  | .obj _ _ _ _ => false
  | _ => true
@[simp] def flatL : List D → Bool
  | [] => true
  | x :: xs => flat x && flatL xs
end
mutual
/-- each list, dict, object within is owned -/
@[simp] def ownd : D → Bool
  | .tup xs => owndL xs
  | .lst o xs => o && owndL xs
  | .dic o _ vs => o && owndL vs
  | .obj o _ _ vs => o && owndL vs
  | _ => true
@[simp] def owndL : List D → Bool
  | [] => true
  | x :: xs => ownd x && owndL xs
end
theorem frzL_map : ∀ xs : List D, frzL xs = xs.map frz
  | [] => rfl
  | x :: xs => by simp only [frzL, frzL_map xs, List.map_cons]
mutual
theorem frz_frz : ∀ d : D, frz (frz d) = frz d
  | .non | .bl _ | .int _ | .str _ | .scr _ => rfl
  | .tup xs => by simp only [frz, frzL_frzL xs]
  | .lst _ xs => by simp only [frz, frzL_frzL xs]
  | .dic _ _ vs => by simp only [frz, frzL_frzL vs]
  | .obj _ _ _ vs => by simp only [frz, frzL_frzL vs]
theorem frzL_frzL : ∀ xs : List D, frzL (frzL xs) = frzL xs
  | [] => rfl
  | x :: xs => by simp only [frzL, frz_frz x, frzL_frzL xs]
end
mutual
theorem frz_flat : ∀ d : D, flat d = true → frz d = d
  | .non, _ | .bl _, _ | .int _, _ | .str _, _ | .scr _, _ => rfl
  | .tup xs, h => by simp only [flat] at h; simp only [frz, frzL_flat xs h]
  | .lst _ xs, h => by simp [flat] at h
  | .dic _ _ vs, h => by simp [flat] at h
  | .obj _ _ _ vs, h => by simp [flat] at h
theorem frzL_flat : ∀ xs : List D, flatL xs = true → frzL xs = xs
  | [], _ => rfl
  | x :: xs, h => by
    simp only [flatL, Bool.and_eq_true] at h
    simp only [frzL, frz_flat x h.1, frzL_flat xs h.2]
end
/-! ### what stands at an address -/
def dKey : Key → D
  | .inl i => .int i
  | .inr x => .str x
/-- the object u is a dict with these keys (as data) and these values -/
def DicAt (u : HO) (ks : List D) (vs : List V) : Prop :=
  (∃ kvs : List (Key × V), u = .dK kvs ∧ kvs.map (fun p => dKey p.1) = ks ∧ kvs.map (·.2) = vs) ∨
  (∃ kvs : List (List Key × V), u = .dT kvs ∧ kvs.map (fun p => D.tup (p.1.map dKey)) = ks ∧ kvs.map (·.2) = vs)
theorem DicAt.mut {u : HO} {ks : List D} {vs : List V} (h : DicAt u ks vs) : Mut (some u) := by
  rcases h with ⟨kvs, rfl, _⟩ | ⟨kvs, rfl, _⟩ <;> trivial
/-- the script, as it stands at the law's entry -/
def ScrAt (K : PySem.W.Frag) (H : Hp) (a : Addr) (ns : List Int) : Prop := (∃ o, H a = some (.frz o (.lst (ns.map V.int)))) ∨
  ∃ (o : Obj) (its : Array Value) (n : Nat), K.lookup a = some o ∧ o.cls = .type "list" ∧ o.dict = none ∧ o.data = .seq its n ∧ its.size ≤ sizeLine ∧ Vals (ns.map V.int) its.toList
theorem ScrAt.sq {K : PySem.W.Frag} {H : Hp} {a : Addr} {ns : List Int} (h : ScrAt K H a ns) : SqL K H a (ns.map V.int) := h.imp (fun ⟨o, e⟩ => .inr ⟨o, e⟩) id
mutual
/-- the value v is the data d; each list, dict and object in it stands at an address of S -/
inductive Vw (K : PySem.W.Frag) (H : Hp) (S : Addr → Prop) : D → V → Prop
  | non : Vw K H S .non .non
  | bl (b : Bool) : Vw K H S (.bl b) (.bl b)
  | int (i : Int) : Vw K H S (.int i) (.int i)
  | str (x : Str) : Vw K H S (.str x) (.str x)
  | scr {a : Addr} {ns : List Int} : ScrAt K H a ns → Vw K H S (.scr ns) (.ref a)
  | tup {a : Addr} {vs : List V} {ds : List D} : SqT K H a vs → VwL K H S ds vs → Vw K H S (.tup ds) (.ref a)
  | lst {o : Bool} {a : Addr} {vs : List V} {ds : List D} : Rd H a (.lst vs) → S a → VwL K H S ds vs → Vw K H S (.lst o ds) (.ref a)
  | dic {o : Bool} {a : Addr} {u : HO} {vs : List V} {ks ds : List D} : Rd H a u → S a → DicAt u ks vs → VwL K H S ds vs → Vw K H S (.dic o ks ds) (.ref a)
  | obj {o : Bool} {C dx a : Addr} {fs : List (Str × V)} {ds : List D} : H a = some (.ins C dx fs) → S a → VwL K H S ds (fs.map (·.2)) → Vw K H S (.obj o C (fs.map (·.1)) ds) (.ref a)
inductive VwL (K : PySem.W.Frag) (H : Hp) (S : Addr → Prop) : List D → List V → Prop
  | nil : VwL K H S [] []
  | cons {d : D} {v : V} {ds : List D} {vs : List V} : Vw K H S d v → VwL K H S ds vs → VwL K H S (d :: ds) (v :: vs)
end
mutual
/-- the same, and the owned ones stand at the addresses os (each once, in order), the others at addresses of U -/
inductive Rp (K : PySem.W.Frag) (H : Hp) (U : Addr → Prop) : D → V → List Addr → Prop
  | non : Rp K H U .non .non []
  | bl (b : Bool) : Rp K H U (.bl b) (.bl b) []
  | int (i : Int) : Rp K H U (.int i) (.int i) []
  | str (x : Str) : Rp K H U (.str x) (.str x) []
  | scr {a : Addr} {ns : List Int} : ScrAt K H a ns → Rp K H U (.scr ns) (.ref a) []
  | tup {a : Addr} {vs : List V} {ds : List D} {os : List Addr} : SqT K H a vs → RpL K H U ds vs os → Rp K H U (.tup ds) (.ref a) os
  | lstO {a : Addr} {vs : List V} {ds : List D} {os : List Addr} : H a = some (.lst vs) → RpL K H U ds vs os → Rp K H U (.lst true ds) (.ref a) (a :: os)
  | lstN {a : Addr} {vs : List V} {ds : List D} {os : List Addr} : Rd H a (.lst vs) → U a → RpL K H U ds vs os → os = [] → Rp K H U (.lst false ds) (.ref a) []
  | dicO {a : Addr} {u : HO} {vs : List V} {ks ds : List D} {os : List Addr} : H a = some u → DicAt u ks vs → RpL K H U ds vs os → Rp K H U (.dic true ks ds) (.ref a) (a :: os)
  | dicN {a : Addr} {u : HO} {vs : List V} {ks ds : List D} {os : List Addr} : Rd H a u → U a → DicAt u ks vs → RpL K H U ds vs os → os = [] → Rp K H U (.dic false ks ds) (.ref a) []
  | objO {C dx a : Addr} {fs : List (Str × V)} {ds : List D} {os : List Addr} : H a = some (.ins C dx fs) → RpL K H U ds (fs.map (·.2)) os → Rp K H U (.obj true C (fs.map (·.1)) ds) (.ref a) (a :: os)
  | objN {C dx a : Addr} {fs : List (Str × V)} {ds : List D} {os : List Addr} : H a = some (.ins C dx fs) → U a → RpL K H U ds (fs.map (·.2)) os → os = [] → Rp K H U (.obj false C (fs.map (·.1)) ds) (.ref a) []
inductive RpL (K : PySem.W.Frag) (H : Hp) (U : Addr → Prop) : List D → List V → List Addr → Prop
  | nil : RpL K H U [] [] []
  | cons {d : D} {v : V} {ds : List D} {vs : List V} {o1 o2 : List Addr} : Rp K H U d v o1 → RpL K H U ds vs o2 → RpL K H U (d :: ds) (v :: vs) (o1 ++ o2)
end
section
variable {K : PySem.W.Frag} {H H' : Hp} {S S' U U' : Addr → Prop}
theorem rd_keep {a : Addr} {u : HO} (k : ∀ o, H a = some o → H' a = some o) (h : Rd H a u) : Rd H' a u := by
  rcases h with h | ⟨o, h⟩
  · exact .inl (k _ h)
  · exact .inr ⟨o, k _ h⟩
theorem rd_at {a : Addr} {u : HO} (h : Rd H a u) : ∃ o, H a = some o := by
  rcases h with h | ⟨o, h⟩
  · exact ⟨_, h⟩
  · exact ⟨_, h⟩
theorem scr_keep {a : Addr} {ns : List Int} (k : ∀ o, H a = some o → ¬ Mut (some o) → H' a = some o) (h : ScrAt K H a ns) : ScrAt K H' a ns := h.imp (fun ⟨o, e⟩ => ⟨o, k _ e fun m => m⟩) id
theorem sqt_keep {a : Addr} {vs : List V} (k : ∀ o, H a = some o → ¬ Mut (some o) → H' a = some o) (h : SqT K H a vs) : SqT K H' a vs := by
  rcases h with h | h
  · refine .inl ?_
    rcases h with h | ⟨o, h⟩
    · exact .inl (k _ h fun m => m)
    · exact .inr ⟨o, k _ h fun m => m⟩
  · exact .inr h
mutual
theorem Vw.mono (hk : ∀ a o, H a = some o → (S a ∨ ¬ Mut (some o)) → H' a = some o) (hs : ∀ a, S a → (∃ o, H a = some o) → S' a) : ∀ {d : D} {v : V}, Vw K H S d v → Vw K H' S' d v
  | _, _, .non => .non
  | _, _, .bl b => .bl b
  | _, _, .int b => .int b
  | _, _, .str b => .str b
  | _, _, .scr t => .scr (scr_keep (fun o e m => hk _ o e (.inr m)) t)
  | _, _, .tup t l => .tup (sqt_keep (fun o e m => hk _ o e (.inr m)) t) (VwL.mono hk hs l)
  | _, _, .lst r s l => .lst (rd_keep (fun o e => hk _ o e (.inl s)) r) (hs _ s (rd_at r)) (VwL.mono hk hs l)
  | _, _, .dic r s t l => .dic (rd_keep (fun o e => hk _ o e (.inl s)) r) (hs _ s (rd_at r)) t (VwL.mono hk hs l)
  | _, _, .obj r s l => .obj (hk _ _ r (.inl s)) (hs _ s ⟨_, r⟩) (VwL.mono hk hs l)
theorem VwL.mono (hk : ∀ a o, H a = some o → (S a ∨ ¬ Mut (some o)) → H' a = some o) (hs : ∀ a, S a → (∃ o, H a = some o) → S' a) : ∀ {d : List D} {v : List V}, VwL K H S d v → VwL K H' S' d v
  | _, _, .nil => .nil
  | _, _, .cons h t => .cons (Vw.mono hk hs h) (VwL.mono hk hs t)
end
mutual
theorem Rp.mono {os0 : List Addr} (hk : ∀ a o, H a = some o → (U a ∨ a ∈ os0 ∨ ¬ Mut (some o)) → H' a = some o) (hs : ∀ a, U a → (∃ o, H a = some o) → U' a) : ∀ {d : D} {v : V} {os : List Addr}, (∀ a ∈ os, a ∈ os0) → Rp K H U d v os → Rp K H' U' d v os
  | _, _, _, _, .non => .non
  | _, _, _, _, .bl b => .bl b
  | _, _, _, _, .int b => .int b
  | _, _, _, _, .str b => .str b
  | _, _, _, _, .scr t => .scr (scr_keep (fun o e m => hk _ o e (.inr (.inr m))) t)
  | _, _, _, q, .tup t l => .tup (sqt_keep (fun o e m => hk _ o e (.inr (.inr m))) t) (RpL.mono hk hs q l)
  | _, _, _, q, .lstO r l => .lstO (hk _ _ r (.inr (.inl (q _ List.mem_cons_self)))) (RpL.mono hk hs (fun a m => q a (List.mem_cons_of_mem _ m)) l)
  | _, _, _, q, .lstN r s l e => .lstN (rd_keep (fun o e => hk _ o e (.inl s)) r) (hs _ s (rd_at r)) (RpL.mono hk hs (fun a m => absurd m (by simp [e])) l) e
  | _, _, _, q, .dicO r t l => .dicO (hk _ _ r (.inr (.inl (q _ List.mem_cons_self)))) t (RpL.mono hk hs (fun a m => q a (List.mem_cons_of_mem _ m)) l)
  | _, _, _, q, .dicN r s t l e => .dicN (rd_keep (fun o e => hk _ o e (.inl s)) r) (hs _ s (rd_at r)) t (RpL.mono hk hs (fun a m => absurd m (by simp [e])) l) e
  | _, _, _, q, .objO r l => .objO (hk _ _ r (.inr (.inl (q _ List.mem_cons_self)))) (RpL.mono hk hs (fun a m => q a (List.mem_cons_of_mem _ m)) l)
  | _, _, _, q, .objN r s l e => .objN (hk _ _ r (.inl s)) (hs _ s ⟨_, r⟩) (RpL.mono hk hs (fun a m => absurd m (by simp [e])) l) e
theorem RpL.mono {os0 : List Addr} (hk : ∀ a o, H a = some o → (U a ∨ a ∈ os0 ∨ ¬ Mut (some o)) → H' a = some o) (hs : ∀ a, U a → (∃ o, H a = some o) → U' a) : ∀ {d : List D} {v : List V} {os : List Addr}, (∀ a ∈ os, a ∈ os0) → RpL K H U d v os → RpL K H' U' d v os
  | _, _, _, _, .nil => .nil
  | _, _, _, q, .cons h t => .cons (Rp.mono hk hs (fun a m => q a (List.mem_append_left _ m)) h) (RpL.mono hk hs (fun a m => q a (List.mem_append_right _ m)) t)
end
mutual
theorem Rp.vw : ∀ {d : D} {v : V} {os : List Addr}, (∀ a ∈ os, S a) → (∀ a, U a → S a) → Rp K H U d v os → Vw K H S d v
  | _, _, _, _, _, .non => .non
  | _, _, _, _, _, .bl b => .bl b
  | _, _, _, _, _, .int b => .int b
  | _, _, _, _, _, .str b => .str b
  | _, _, _, _, _, .scr t => .scr t
  | _, _, _, q, u, .tup t l => .tup t (RpL.vw q u l)
  | _, _, _, q, u, .lstO r l => .lst (.inl r) (q _ List.mem_cons_self) (RpL.vw (fun a m => q a (List.mem_cons_of_mem _ m)) u l)
  | _, _, _, q, u, .lstN r s l e => .lst r (u _ s) (RpL.vw (fun a m => absurd m (by simp [e])) u l)
  | _, _, _, q, u, .dicO r t l => .dic (.inl r) (q _ List.mem_cons_self) t (RpL.vw (fun a m => q a (List.mem_cons_of_mem _ m)) u l)
  | _, _, _, q, u, .dicN r s t l e => .dic r (u _ s) t (RpL.vw (fun a m => absurd m (by simp [e])) u l)
  | _, _, _, q, u, .objO r l => .obj r (q _ List.mem_cons_self) (RpL.vw (fun a m => q a (List.mem_cons_of_mem _ m)) u l)
  | _, _, _, q, u, .objN r s l e => .obj r (u _ s) (RpL.vw (fun a m => absurd m (by simp [e])) u l)
theorem RpL.vw : ∀ {d : List D} {v : List V} {os : List Addr}, (∀ a ∈ os, S a) → (∀ a, U a → S a) → RpL K H U d v os → VwL K H S d v
  | _, _, _, _, _, .nil => .nil
  | _, _, _, q, u, .cons h t => .cons (Rp.vw (fun a m => q a (List.mem_append_left _ m)) u h) (RpL.vw (fun a m => q a (List.mem_append_right _ m)) u t)
end
mutual
theorem Vw.rp (hs : ∀ a, S a → U a) : ∀ {d : D} {v : V}, Vw K H S d v → Rp K H U (frz d) v []
  | _, _, .non => .non
  | _, _, .bl b => .bl b
  | _, _, .int b => .int b
  | _, _, .str b => .str b
  | _, _, .scr t => .scr t
  | _, _, .tup t l => .tup t (VwL.rp hs l)
  | _, _, .lst r s l => .lstN r (hs _ s) (VwL.rp hs l) rfl
  | _, _, .dic r s t l => .dicN r (hs _ s) t (VwL.rp hs l) rfl
  | _, _, .obj r s l => .objN r (hs _ s) (VwL.rp hs l) rfl
theorem VwL.rp (hs : ∀ a, S a → U a) : ∀ {d : List D} {v : List V}, VwL K H S d v → RpL K H U (frzL d) v []
  | _, _, .nil => .nil
  | _, _, .cons h t => .cons (o1 := []) (o2 := []) (Vw.rp hs h) (VwL.rp hs t)
end
mutual
theorem Vw.frz : ∀ {d : D} {v : V}, Vw K H S d v → Vw K H S (frz d) v
  | _, _, .non => .non
  | _, _, .bl b => .bl b
  | _, _, .int b => .int b
  | _, _, .str b => .str b
  | _, _, .scr t => .scr t
  | _, _, .tup t l => .tup t (VwL.frz l)
  | _, _, .lst r s l => .lst r s (VwL.frz l)
  | _, _, .dic r s t l => .dic r s t (VwL.frz l)
  | _, _, .obj r s l => .obj r s (VwL.frz l)
theorem VwL.frz : ∀ {d : List D} {v : List V}, VwL K H S d v → VwL K H S (frzL d) v
  | _, _, .nil => .nil
  | _, _, .cons h t => .cons (Vw.frz h) (VwL.frz t)
end
mutual
/-- what is flat leans on no address -/
theorem Vw.flat : ∀ {d : D} {v : V}, flat d = true → Vw K H S d v → Vw K H S' d v
  | _, _, _, .non => .non
  | _, _, _, .bl b => .bl b
  | _, _, _, .int b => .int b
  | _, _, _, .str b => .str b
  | _, _, _, .scr t => .scr t
  | _, _, q, .tup t l => .tup t (VwL.flat (by simpa [T.flat] using q) l)
  | _, _, q, .lst r s l => absurd q (by simp [T.flat])
  | _, _, q, .dic r s t l => absurd q (by simp [T.flat])
  | _, _, q, .obj r s l => absurd q (by simp [T.flat])
theorem VwL.flat : ∀ {d : List D} {v : List V}, flatL d = true → VwL K H S d v → VwL K H S' d v
  | _, _, _, .nil => .nil
  | _, _, q, .cons h t => .cons (Vw.flat (by simp [flatL] at q; exact q.1) h) (VwL.flat (by simp [flatL] at q; exact q.2) t)
end
mutual
/-- what is all owned leans on no other address -/
theorem Rp.anyU : ∀ {d : D} {v : V} {os : List Addr}, ownd d = true → Rp K H U d v os → Rp K H U' d v os
  | _, _, _, _, .non => .non
  | _, _, _, _, .bl b => .bl b
  | _, _, _, _, .int b => .int b
  | _, _, _, _, .str b => .str b
  | _, _, _, _, .scr t => .scr t
  | _, _, _, q, .tup t l => .tup t (RpL.anyU (by simpa [ownd] using q) l)
  | _, _, _, q, .lstO r l => .lstO r (RpL.anyU (by simpa [ownd] using q) l)
  | _, _, _, q, .lstN r s l e => absurd q (by simp [ownd])
  | _, _, _, q, .dicO r t l => .dicO r t (RpL.anyU (by simpa [ownd] using q) l)
  | _, _, _, q, .dicN r s t l e => absurd q (by simp [ownd])
  | _, _, _, q, .objO r l => .objO r (RpL.anyU (by simpa [ownd] using q) l)
  | _, _, _, q, .objN r s l e => absurd q (by simp [ownd])
theorem RpL.anyU : ∀ {d : List D} {v : List V} {os : List Addr}, owndL d = true → RpL K H U d v os → RpL K H U' d v os
  | _, _, _, _, .nil => .nil
  | _, _, _, q, .cons h t => .cons (Rp.anyU (by simp [owndL] at q; exact q.1) h) (RpL.anyU (by simp [owndL] at q; exact q.2) t)
end
theorem mut_hd {H : Hp} {a b : Addr} {o : HO} {os : List Addr} (h : H b = some o) (m : Mut (some o)) (ha : a ∈ b :: os) (r : a ∈ os → ∃ o, H a = some o ∧ Mut (some o)) : ∃ o, H a = some o ∧ Mut (some o) := by
  rcases List.mem_cons.mp ha with rfl | h'
  · exact ⟨o, h, m⟩
  · exact r h'
mutual
theorem Rp.mut : ∀ {d : D} {v : V} {os : List Addr}, Rp K H U d v os → ∀ a ∈ os, ∃ o, H a = some o ∧ Mut (some o)
  | _, _, _, .non, _, m => absurd m (by simp)
  | _, _, _, .bl b, _, m => absurd m (by simp)
  | _, _, _, .int b, _, m => absurd m (by simp)
  | _, _, _, .str b, _, m => absurd m (by simp)
  | _, _, _, .scr t, _, m => absurd m (by simp)
  | _, _, _, .tup t l, a, m => RpL.mut l a m
  | _, _, _, .lstO r l, a, m => mut_hd r trivial m (RpL.mut l a)
  | _, _, _, .lstN r s l e, _, m => absurd m (by simp)
  | _, _, _, .dicO r t l, a, m => mut_hd r t.mut m (RpL.mut l a)
  | _, _, _, .dicN r s t l e, _, m => absurd m (by simp)
  | _, _, _, .objO r l, a, m => mut_hd r trivial m (RpL.mut l a)
  | _, _, _, .objN r s l e, _, m => absurd m (by simp)
theorem RpL.mut : ∀ {d : List D} {v : List V} {os : List Addr}, RpL K H U d v os → ∀ a ∈ os, ∃ o, H a = some o ∧ Mut (some o)
  | _, _, _, .nil, _, m => absurd m (by simp)
  | _, _, _, .cons h t, a, m => (List.mem_append.mp m).elim (Rp.mut h a) (RpL.mut t a)
end
theorem VwL.length : ∀ {d : List D} {v : List V}, VwL K H S d v → d.length = v.length
  | _, _, .nil => rfl
  | _, _, .cons _ t => by simp [VwL.length t]
theorem RpL.length : ∀ {d : List D} {v : List V} {os : List Addr}, RpL K H U d v os → d.length = v.length
  | _, _, _, .nil => rfl
  | _, _, _, .cons _ t => by simp [RpL.length t]
theorem VwL.get : ∀ {d : List D} {v : List V} {i : Nat} {x : D}, VwL K H S d v → d[i]? = some x → ∃ u, v[i]? = some u ∧ Vw K H S x u
  | _, _, _, _, .nil, e => by simp at e
  | _, _, 0, _, .cons h _, e => by simp at e; subst e; exact ⟨_, rfl, h⟩
  | _, _, i + 1, x, .cons _ t, e => by
    obtain ⟨u, h1, h2⟩ := VwL.get (i := i) (x := x) t (by simpa using e)
    exact ⟨u, by simpa using h1, h2⟩
theorem VwL.append : ∀ {d d' : List D} {v v' : List V}, VwL K H S d v → VwL K H S d' v' → VwL K H S (d ++ d') (v ++ v')
  | _, _, _, _, .nil, s => s
  | _, _, _, _, .cons r t, s => .cons r (VwL.append t s)
theorem VwL.take : ∀ {d : List D} {v : List V} (n : Nat), VwL K H S d v → VwL K H S (d.take n) (v.take n)
  | _, _, 0, _ => .nil
  | _, _, _ + 1, .nil => .nil
  | _, _, n + 1, .cons r t => .cons r (VwL.take n t)
theorem VwL.drop : ∀ {d : List D} {v : List V} (n : Nat), VwL K H S d v → VwL K H S (d.drop n) (v.drop n)
  | _, _, 0, r => r
  | _, _, _ + 1, .nil => .nil
  | _, _, n + 1, .cons _ t => VwL.drop n t
theorem RpL.append : ∀ {d d' : List D} {v v' : List V} {os os' : List Addr}, RpL K H U d v os → RpL K H U d' v' os' → RpL K H U (d ++ d') (v ++ v') (os ++ os')
  | _, _, _, _, _, _, .nil, s => s
  | _, _, _, _, _, _, .cons r t, s => by
    rw [List.append_assoc]
    exact .cons r (RpL.append t s)
theorem Vw.same (e : Same H H') (h : ∀ a, S a → S' a) {d : D} {v : V} (x : Vw K H S d v) : Vw K H' S' d v := x.mono (fun a o q _ => e a o q) fun a s _ => h a s
theorem VwL.same (e : Same H H') (h : ∀ a, S a → S' a) {d : List D} {v : List V} (x : VwL K H S d v) : VwL K H' S' d v := x.mono (fun a o q _ => e a o q) fun a s _ => h a s
end
end T
namespace T
open PySem PySem.Spec PyProof.Rows L2
abbrev Env := List (Option D)
/-- slots and what they hold; os: all owned addresses -/
inductive RpG (K : PySem.W.Frag) (H : Hp) (U : Addr → Prop) : Env → L2.St → List Addr → Prop
  | nil : RpG K H U [] [] []
  | skip {G : Env} {σ : L2.St} {os : List Addr} (x : Option V) : RpG K H U G σ os → RpG K H U (none :: G) (x :: σ) os
  | cons {d : D} {v : V} {G : Env} {σ : L2.St} {o1 o2 : List Addr} : Rp K H U d v o1 → RpG K H U G σ o2 → RpG K H U (some d :: G) (some v :: σ) (o1 ++ o2)
section
variable {K : PySem.W.Frag} {H H' : Hp} {S S' U U' : Addr → Prop}
theorem RpG.mono {os0 : List Addr} (hk : ∀ a o, H a = some o → (U a ∨ a ∈ os0 ∨ ¬ Mut (some o)) → H' a = some o) (hs : ∀ a, U a → (∃ o, H a = some o) → U' a) : ∀ {G : Env} {σ : L2.St} {os : List Addr}, (∀ a ∈ os, a ∈ os0) → RpG K H U G σ os → RpG K H' U' G σ os
  | _, _, _, _, .nil => .nil
  | _, _, _, q, .skip x t => .skip x (RpG.mono hk hs q t)
  | _, _, _, q, .cons h t => .cons (Rp.mono hk hs (fun a m => q a (List.mem_append_left _ m)) h) (RpG.mono hk hs (fun a m => q a (List.mem_append_right _ m)) t)
theorem RpG.length : ∀ {G : Env} {σ : L2.St} {os : List Addr}, RpG K H U G σ os → G.length = σ.length
  | _, _, _, .nil => rfl
  | _, _, _, .skip _ t => by simp [RpG.length t]
  | _, _, _, .cons _ t => by simp [RpG.length t]
theorem RpG.mut : ∀ {G : Env} {σ : L2.St} {os : List Addr}, RpG K H U G σ os → ∀ a ∈ os, ∃ o, H a = some o ∧ Mut (some o)
  | _, _, _, .nil, _, m => absurd m (by simp)
  | _, _, _, .skip _ t, a, m => RpG.mut t a m
  | _, _, _, .cons h t, a, m => (List.mem_append.mp m).elim (Rp.mut h a) (RpG.mut t a)
/-- a slot taken out -/
theorem RpG.take : ∀ {G : Env} {σ : L2.St} {os : List Addr} {i : Nat} {d : D}, RpG K H U G σ os → G[i]? = some (some d) →
    ∃ v o1 o2, σ[i]? = some (some v) ∧ Rp K H U d v o1 ∧ RpG K H U (G.set i none) σ o2 ∧ os.Perm (o1 ++ o2)
  | _, _, _, _, _, .nil, e => by simp at e
  | _, _, _, 0, _, .skip _ _, e => by simp at e
  | _, _, _, 0, _, .cons h t, e => by
    simp at e
    subst e
    exact ⟨_, _, _, rfl, h, .skip _ t, List.Perm.refl _⟩
  | _, _, _, i + 1, d, .skip x t, e => by
    obtain ⟨v, o1, o2, h1, h2, h3, h4⟩ := RpG.take (i := i) (d := d) t (by simpa using e)
    exact ⟨v, o1, o2, by simpa using h1, h2, .skip x h3, h4⟩
  | _, _, _, i + 1, d, .cons (o1 := p1) h t, e => by
    obtain ⟨v, o1, o2, h1, h2, h3, h4⟩ := RpG.take (i := i) (d := d) t (by simpa using e)
    refine ⟨v, o1, p1 ++ o2, by simpa using h1, h2, .cons h h3, ?_⟩
    refine (List.Perm.append_left p1 h4).trans ?_
    rw [← List.append_assoc, ← List.append_assoc]
    exact List.Perm.append_right o2 List.perm_append_comm
/-- a slot forgotten -/
theorem RpG.drop : ∀ {G : Env} {σ : L2.St} {os : List Addr} (i : Nat), RpG K H U G σ os → ∃ o1 o2, RpG K H U (G.set i none) σ o2 ∧ os.Perm (o1 ++ o2)
  | _, _, _, _, .nil => ⟨[], [], .nil, List.Perm.refl _⟩
  | _, _, _, 0, .skip x t => ⟨[], _, .skip x t, List.Perm.refl _⟩
  | _, _, _, 0, .cons (o1 := p1) h t => ⟨p1, _, .skip _ t, List.Perm.refl _⟩
  | _, _, _, i + 1, .skip x t => by
    obtain ⟨o1, o2, h3, h4⟩ := RpG.drop i t
    exact ⟨o1, o2, .skip x h3, h4⟩
  | _, _, _, i + 1, .cons (o1 := p1) h t => by
    obtain ⟨o1, o2, h3, h4⟩ := RpG.drop i t
    refine ⟨o1, p1 ++ o2, .cons h h3, ?_⟩
    refine (List.Perm.append_left p1 h4).trans ?_
    rw [← List.append_assoc, ← List.append_assoc]
    exact List.Perm.append_right o2 List.perm_append_comm
/-- a free slot filled -/
theorem RpG.put : ∀ {G : Env} {σ : L2.St} {os o1 : List Addr} {i : Nat} {d : D} {v : V}, RpG K H U G σ os → G[i]? = some none → Rp K H U d v o1 →
    ∃ o2, RpG K H U (G.set i (some d)) (σ.set i (some v)) o2 ∧ o2.Perm (o1 ++ os)
  | _, _, _, _, _, _, _, .nil, e, _ => by simp at e
  | _, _, _, _, 0, _, _, .skip x t, e, r => ⟨_, .cons r t, List.Perm.refl _⟩
  | _, _, _, _, 0, _, _, .cons _ _, e, _ => by simp at e
  | _, _, _, _, i + 1, _, _, .skip x t, e, r => by
    obtain ⟨o2, h3, h4⟩ := RpG.put (i := i) t (by simpa using e) r
    exact ⟨o2, .skip x h3, h4⟩
  | _, _, _, o1, i + 1, _, _, .cons (o1 := p1) (o2 := p2) h t, e, r => by
    obtain ⟨o2, h3, h4⟩ := RpG.put (i := i) t (by simpa using e) r
    refine ⟨p1 ++ o2, .cons h h3, ?_⟩
    refine (List.Perm.append_left p1 h4).trans ?_
    rw [← List.append_assoc, ← List.append_assoc]
    exact List.Perm.append_right p2 List.perm_append_comm
theorem RpG.none_at : ∀ {G : Env} {i : Nat}, i < G.length → (G.set i none)[i]? = some none := fun {G i} h => by simp [h]
theorem set_none_set {G : Env} {i : Nat} {d : Option D} : (G.set i none).set i d = G.set i d := by simp
/-- what slots hold, as data: each list, dict and object of it at an address of S -/
def VwF (K : PySem.W.Frag) (H : Hp) (S : Addr → Prop) (G : Env) (σ : L2.St) : Prop := ∀ (i : Nat) (d : D), G[i]? = some (some d) → ∃ v, σ[i]? = some (some v) ∧ Vw K H S d v
theorem RpG.vwf {G : Env} {σ : L2.St} {os : List Addr} (hs : ∀ a ∈ os, S a) (hu : ∀ a, U a → S a) (g : RpG K H U G σ os) : VwF K H S G σ := fun i d e => by
  obtain ⟨v, o1, o2, h1, h2, _, h4⟩ := g.take e
  exact ⟨v, h1, h2.vw (fun a m => hs a (h4.mem_iff.mpr (List.mem_append_left _ m))) hu⟩
theorem VwF.same {G : Env} {σ : L2.St} (e : Same H H') (h : ∀ a, S a → S' a) (g : VwF K H S G σ) : VwF K H' S' G σ := fun i d q =>
  let ⟨v, h1, h2⟩ := g i d q
  ⟨v, h1, h2.same e h⟩
structure VwG (K : PySem.W.Frag) (H : Hp) (S : Addr → Prop) (G : Env) (σ : L2.St) : Prop where
  len : G.length = σ.length
  at' : VwF K H S G σ
theorem RpG.vw {G : Env} {σ : L2.St} {os : List Addr} (hs : ∀ a ∈ os, S a) (hu : ∀ a, U a → S a) (g : RpG K H U G σ os) : VwG K H S G σ := ⟨g.length, g.vwf hs hu⟩
theorem VwG.same {G : Env} {σ : L2.St} (e : Same H H') (h : ∀ a, S a → S' a) (g : VwG K H S G σ) : VwG K H' S' G σ := ⟨g.len, g.at'.same e h⟩
/-- the slots of is frozen -/
@[simp] def frzAt (js : List Nat) (k : Nat) : Env → Env
  | [] => []
  | d :: G => (if k ∈ js then d.map frz else d) :: frzAt js (k + 1) G
@[simp] def keepAt (js : List Nat) (k : Nat) : Env → Env
  | [] => []
  | d :: G => (if k ∈ js then d else none) :: keepAt js (k + 1) G
theorem keepAt_len (js : List Nat) : ∀ (G : Env) (k : Nat), (keepAt js k G).length = G.length
  | [], _ => rfl
  | d :: G, k => by simp [keepAt, keepAt_len js G (k + 1)]
theorem keepAt_get (js : List Nat) : ∀ (G : Env) (k i : Nat), (keepAt js k G)[i]? = (G[i]?).map fun d => if k + i ∈ js then d else none
  | [], _, _ => by simp [keepAt]
  | d :: G, k, 0 => by simp [keepAt]
  | d :: G, k, i + 1 => by
    simp only [keepAt, List.getElem?_cons_succ]
    rw [keepAt_get js G (k + 1) i]
    have e : k + 1 + i = k + (i + 1) := by omega
    rw [e]
/-- freezing: the frozen slots' addresses are let go -/
theorem RpG.freeze (js : List Nat) : ∀ {G : Env} {σ : L2.St} {os : List Addr} (k : Nat), RpG K H U G σ os →
    ∃ o1 o2, os.Perm (o1 ++ o2) ∧ (∀ U' : Addr → Prop, (∀ a, U a → U' a) → (∀ a ∈ o1, U' a) → RpG K H U' (frzAt js k G) σ o2) ∧ VwF K H (fun a => a ∈ o1 ∨ U a) (keepAt js k G) σ
  | _, _, _, k, .nil => ⟨[], [], List.Perm.refl _, fun _ _ _ => .nil, fun i d e => by simp [keepAt] at e⟩
  | _, _, _, k, .skip (G := G) x t => by
    obtain ⟨o1, o2, h1, h2, h3⟩ := RpG.freeze js (k + 1) t
    refine ⟨o1, o2, h1, fun U' hu ho => ?_, fun i d e => ?_⟩
    · unfold frzAt
      have z : (if k ∈ js then (none : Option D).map frz else none) = none := by split <;> rfl
      rw [z]
      exact .skip x (h2 U' hu ho)
    · cases i with
      | zero =>
        simp [keepAt] at e
      | succ i =>
        obtain ⟨v, q1, q2⟩ := h3 i d (by simpa [keepAt] using e)
        exact ⟨v, by simpa using q1, q2⟩
  | _, _, _, k, .cons (d := d0) (o1 := p1) (o2 := p2) h t => by
    obtain ⟨o1, o2, h1, h2, h3⟩ := RpG.freeze js (k + 1) t
    by_cases hk : k ∈ js
    · refine ⟨p1 ++ o1, o2, ?_, fun U' hu ho => ?_, fun i d e => ?_⟩
      · rw [List.append_assoc]
        exact List.Perm.append_left p1 h1
      · unfold frzAt
        rw [if_pos hk]
        exact .cons (o1 := []) ((h.vw (S := U') (fun a m => ho a (List.mem_append_left _ m)) hu).rp fun a z => z) (h2 U' hu fun a m => ho a (List.mem_append_right _ m))
      · cases i with
        | zero =>
          simp [keepAt, hk] at e
          subst e
          exact ⟨_, rfl, h.vw (fun a m => .inl (List.mem_append_left _ m)) fun a z => .inr z⟩
        | succ i =>
          obtain ⟨v, q1, q2⟩ := h3 i d (by simpa [keepAt] using e)
          exact ⟨v, by simpa using q1, q2.same (Same.refl H) fun a z => z.elim (fun m => .inl (List.mem_append_right _ m)) .inr⟩
    · refine ⟨o1, p1 ++ o2, ?_, fun U' hu ho => ?_, fun i d e => ?_⟩
      · refine (List.Perm.append_left p1 h1).trans ?_
        rw [← List.append_assoc, ← List.append_assoc]
        exact List.Perm.append_right o2 List.perm_append_comm
      · unfold frzAt
        rw [if_neg hk]
        refine .cons (h.mono (os0 := p1) (fun a o e _ => e) (fun a z _ => hu a z) fun a m => m) (h2 U' hu ho)
      · cases i with
        | zero => simp [keepAt, hk] at e
        | succ i =>
          obtain ⟨v, q1, q2⟩ := h3 i d (by simpa [keepAt] using e)
          exact ⟨v, by simpa using q1, q2⟩

/-! ### steps -/
structure Stp (H H' : Hp) (os os' : List Addr) : Prop where
  keep : ∀ a o, H a = some o → a ∉ os → H' a = some o
  new : ∀ a ∈ os', a ∈ os ∨ H a = none
  dom : ∀ a o, H a = some o → ∃ o', H' a = some o'
theorem Stp.refl (H : Hp) (os : List Addr) : Stp H H os os := ⟨fun _ _ e _ => e, fun _ m => .inl m, fun _ o e => ⟨o, e⟩⟩
theorem Stp.sub {os1 os2 : List Addr} {os : List Addr} (s : Stp H H' os os1) (h : ∀ a ∈ os2, a ∈ os1) : Stp H H' os os2 := ⟨s.keep, fun a m => s.new a (h a m), s.dom⟩
theorem Stp.free {os os' : List Addr} (s : Stp H H' os os') {a : Addr} (h : H' a = none) : H a = none := by
  cases q : H a with
  | none => rfl
  | some o =>
    obtain ⟨o', e⟩ := s.dom a o q
    rw [h] at e
    cases e
theorem Stp.trans {H1 H2 : Hp} {os os1 os2 : List Addr} (a : Stp H H1 os os1) (b : Stp H1 H2 os1 os2) : Stp H H2 os os2 := by
  refine ⟨fun c o e n => b.keep c o (a.keep c o e n) fun m => ?_, fun c m => ?_, fun c o e => ?_⟩
  · rcases a.new c m with z | z
    · exact n z
    · rw [e] at z; cases z
  · rcases b.new c m with z | z
    · exact a.new c z
    · exact .inr (a.free z)
  · obtain ⟨o', q⟩ := a.dom c o e
    exact b.dom c o' q
theorem Stp.of_same (e : Same H H') (os : List Addr) : Stp H H' os os := ⟨fun a o q _ => e a o q, fun _ m => .inl m, fun a o q => ⟨o, e a o q⟩⟩
theorem Stp.same {os : List Addr} (s : Stp H H' [] os) : Same H H' := fun a o e => s.keep a o e (by simp)
/-- more may change, more was owned -/
theorem Stp.wide {os os' o1 : List Addr} (s : Stp H H' os os') : Stp H H' (o1 ++ os) (o1 ++ os') :=
  ⟨fun a o e n => s.keep a o e fun m => n (List.mem_append_right _ m), fun a m => (List.mem_append.mp m).elim (fun z => .inl (List.mem_append_left _ z)) fun z => (s.new a z).imp (fun y => List.mem_append_right _ y) id, s.dom⟩
def Own (H : Hp) (l : List Addr) : Prop := l.Nodup ∧ ∀ a ∈ l, ∃ o, H a = some o ∧ Mut (some o)
theorem Own.nil : Own H [] := ⟨List.nodup_nil, fun _ m => absurd m (by simp)⟩
theorem Own.perm {l l' : List Addr} (h : Own H l) (p : l.Perm l') : Own H l' := ⟨p.nodup_iff.mp h.1, fun a m => h.2 a (p.mem_iff.mpr m)⟩
theorem Own.right {l l' : List Addr} (h : Own H (l ++ l')) : Own H l' := ⟨(List.nodup_append.mp h.1).2.1, fun a m => h.2 a (List.mem_append_right _ m)⟩
theorem Own.left {l l' : List Addr} (h : Own H (l ++ l')) : Own H l := ⟨(List.nodup_append.mp h.1).1, fun a m => h.2 a (List.mem_append_left _ m)⟩
theorem Own.dis {l l' : List Addr} (h : Own H (l ++ l')) {a : Addr} (m : a ∈ l) : a ∉ l' := fun m' => (List.nodup_append.mp h.1).2.2 a m a m' rfl
theorem Own.none {l : List Addr} (h : Own H l) {a : Addr} (e : H a = none) : a ∉ l := fun m => by
  obtain ⟨o, q, _⟩ := h.2 a m
  rw [e] at q
  cases q
/-- addresses that others may lean on -/
def ug (U0 : Addr → Prop) (l : List Addr) : Addr → Prop := fun a => U0 a ∧ a ∉ l
/-- the state of a body: Oo are owned by what is kept aside -/
structure Rep (K : PySem.W.Frag) (U0 : Addr → Prop) (G : Env) (σ : L2.St) (H : Hp) (Oo os : List Addr) : Prop where
  g : RpG K H (ug U0 (Oo ++ os)) G σ os
  own : Own H (Oo ++ os)
  u0 : ∀ a ∈ Oo ++ os, U0 a
  un : ∀ a, H a = none → U0 a
/-- a value beside the slots -/
theorem aside {d : D} {v : V} {U0 : Addr → Prop} {Oo os os' o1 : List Addr} (s : Stp H H' os os') (ow : Own H ((Oo ++ o1) ++ os)) (r : Rp K H (ug U0 ((Oo ++ o1) ++ os)) d v o1) : Rp K H' (ug U0 ((Oo ++ o1) ++ os')) d v o1 := by
  refine r.mono (os0 := o1) (fun a o e h => ?_) (fun a u h => ?_) fun a m => m
  · refine s.keep a o e fun m => ?_
    rcases h with h | h | h
    · exact h.2 (List.mem_append_right _ m)
    · exact ow.dis (List.mem_append_right _ h) m
    · obtain ⟨o', q, mu⟩ := ow.2 a (List.mem_append_right _ m)
      rw [e] at q; cases q
      exact h mu
  · refine ⟨u.1, fun m => ?_⟩
    obtain ⟨o, e⟩ := h
    rcases List.mem_append.mp m with z | z
    · exact u.2 (List.mem_append_left _ z)
    · rcases s.new a z with y | y
      · exact u.2 (List.mem_append_right _ y)
      · rw [e] at y; cases y
end
end T
namespace T
open PySem PySem.Spec PyProof.Rows L2
/-! ### what is read: no slot, no object changes -/
abbrev WR := Env → (D → Prop) → Prop
abbrev WT := Env → (Bool → Prop) → Prop
abbrev WA := Env → (List D → Prop) → Prop
abbrev WO := Env → (Option Int → Prop) → Prop
def gr (S : Addr → Prop) (H : Hp) : Addr → Prop := fun a => S a ∨ H a = none
theorem gr_of {S : Addr → Prop} {H : Hp} : ∀ a, S a → gr S H a := fun _ h => .inl h
theorem gr_gr {S : Addr → Prop} {H H' : Hp} (e : Same H H') : ∀ a, gr (gr S H) H' a → gr S H a := fun a h => by
  rcases h with h | h
  · exact h
  · exact .inr (e.free h)
section
variable {ι : Type} (X : ι → Cx) (K : PySem.W.Frag)
def SndR (e : Expr) (r : WR) : Prop := ∃ t : TE, (∀ i, PE (X i) e t) ∧ ∀ (G : Env) (σ : L2.St) (H : Hp) (S : Addr → Prop) (P : D → Prop) (Q : VK),
  VwG K H S G σ → r G P → (∀ d v H', P d → Same H H' → Vw K H' (gr S H) d v → Q v H') → t σ H Q
def SndT (e : Expr) (r : WT) : Prop := ∃ t : TT, (∀ i, PT (X i) e t) ∧ ∀ (G : Env) (σ : L2.St) (H : Hp) (S : Addr → Prop) (P : Bool → Prop) (Q : Bool → Hp → Prop),
  VwG K H S G σ → r G P → (∀ b H', P b → Same H H' → Q b H') → t σ H Q
def SndW (e : Expr) (r : WT) : Prop := ∃ t : TT, (∀ i, PW (X i) e t) ∧ ∀ (G : Env) (σ : L2.St) (H : Hp) (S : Addr → Prop) (P : Bool → Prop) (Q : Bool → Hp → Prop),
  VwG K H S G σ → r G P → (∀ b H', P b → Same H H' → Q b H') → t σ H Q
def SndA (es : List Expr) (r : WA) : Prop := ∃ t : TA, (∀ i, PA (X i) es t) ∧ ∀ (G : Env) (σ : L2.St) (H : Hp) (S : Addr → Prop) (P : List D → Prop) (Q : List V → Hp → Prop),
  VwG K H S G σ → r G P → (∀ ds vs H', P ds → Same H H' → VwL K H' (gr S H) ds vs → Q vs H') → t σ H Q
def SndO (e : Option Expr) (r : WO) : Prop := ∃ t : TO, (∀ i, PO (X i) e t) ∧ ∀ (G : Env) (σ : L2.St) (H : Hp) (S : Addr → Prop) (P : Option Int → Prop) (Q : Option Int → Hp → Prop),
  VwG K H S G σ → r G P → (∀ o H', P o → Same H H' → Q o H') → t σ H Q
/-- a new list, of what is viewed -/
def SndF (e : Expr) (r : WA) : Prop := ∃ t : TE, (∀ i, PE (X i) e t) ∧ ∀ (G : Env) (σ : L2.St) (H : Hp) (S : Addr → Prop) (P : List D → Prop) (Q : VK),
  VwG K H S G σ → r G P → (∀ ds vs p H', P ds → Same H H' → H' p = none → VwL K H' (gr S H) ds vs → Q (.ref p) (upd H' p (.lst vs))) → t σ H Q
end
section
variable {ι : Type} {X : ι → Cx} {K : PySem.W.Frag}
/-! names, constants -/
@[simp] def rVar (i : Nat) : WR := fun G P => match G[i]? with | some (some d) => P (frz d) | _ => False
@[simp] def rCon (d : D) : WR := fun _ P => P d
theorem r_var (i : Nat) {x : Str} {pos : Pos} (hN : ∀ j, (X j).N[i]? = some x) (hv : ∀ j, Vis (X j).env.scope x) (hd : (x == ("__debug__" : Str)) = false := by decide) (hcd : (x == ("__classdict__" : Str)) = false := by decide) :
    SndR X K (.Name x pos) (rVar i) := by
  refine ⟨tVar i, fun j => pe_var (hN j) (hv j) hd hcd, fun G σ H S P Q g r q => ?_⟩
  unfold rVar at r
  split at r
  · rename_i d e
    obtain ⟨v, h1, h2⟩ := g.at' i d e
    exact ⟨v, h1, q (frz d) v H r (Same.refl H) (h2.frz.same (Same.refl H) gr_of)⟩
  · exact r.elim
theorem r_conK {e : Expr} {d : D} {v : V} (h : ∀ j, PE (X j) e (tC v)) (hv : ∀ H S, Vw K H S d v) : SndR X K e (rCon d) :=
  ⟨tC v, h, fun G σ H S P Q g r q => q d v H r (Same.refl H) (hv H _)⟩
theorem r_int {i : Int} {j pos} : SndR X K (.Constant (.int i) j pos) (rCon (.int i)) := r_conK (fun _ => pe_int) fun _ _ => .int i
theorem r_bl {b : Bool} {j pos} : SndR X K (.Constant (.bool b) j pos) (rCon (.bl b)) := r_conK (fun _ => pe_bl) fun _ _ => .bl b
theorem r_non {j pos} : SndR X K (.Constant .none j pos) (rCon .non) := r_conK (fun _ => pe_non) fun _ _ => .non
theorem r_str {x : Str} {j pos} : SndR X K (.Constant (.str x) j pos) (rCon (.str x)) := r_conK (fun _ => pe_str) fun _ _ => .str x
/-- a constant of the module -/
theorem r_glob {x : Str} {pos : Pos} {d : D} {v : V} {u : Value} (hg : ∀ j, Gl (X j) x) (hm : ∀ j, (X j).mg x = some u) (r : RelV v u) (hv : ∀ H S, Vw K H S d v) (hd : (x == ("__debug__" : Str)) = false := by decide) : SndR X K (.Name x pos) (rCon d) :=
  r_conK (fun j => pe_glob (hg j) (hm j) r hd) hv

/-! two operands -/
def OpOk (K : PySem.W.Frag) (r : R2) (f : D → D → (D → Prop) → Prop) : Prop := ∀ (H : Hp) (S : Addr → Prop) (x y : D) (v u : V) (P : D → Prop) (Q : VK), Vw K H S x v → Vw K H S y u → f x y P →
  (∀ d z H', P d → Same H H' → Vw K H' (gr S H) d z → Q z H') → r v u H Q
@[simp] def rOp (f : D → D → (D → Prop) → Prop) (ra rb : WR) : WR := fun G P => ra G fun x => rb G fun y => f x y P
section
variable {a b : Expr} {ra rb : WR} {r : R2} {f : D → D → (D → Prop) → Prop} {pos : Pos}
theorem r_two {e : Expr} (he : ∀ ta tb, (∀ j, PE (X j) a ta) → (∀ j, PE (X j) b tb) → ∀ j, PE (X j) e (tOp r ta tb)) (ok : OpOk K r f) (ha : SndR X K a ra) (hb : SndR X K b rb) : SndR X K e (rOp f ra rb) := by
  obtain ⟨ta, a1, a2⟩ := ha
  obtain ⟨tb, b1, b2⟩ := hb
  refine ⟨tOp r ta tb, he ta tb a1 b1, fun G σ H S P Q g h q => ?_⟩
  refine a2 G σ H S _ _ g h fun x v H1 h1 s1 v1 => ?_
  refine b2 G σ H1 (gr S H) _ _ (g.same s1 gr_of) h1 fun y u H2 h2 s2 v2 => ?_
  refine ok H2 (gr S H) x y v u P Q (v1.same s2 fun _ z => z) (v2.same (Same.refl _) (gr_gr s1)) h2 fun d z H3 hp s3 hz => ?_
  exact q d z H3 hp ((s1.trans s2).trans s3) (hz.same (Same.refl _) (gr_gr (s1.trans s2)))
theorem r_bin {op : Operator} (ho : ∀ j, OpR (X j) (binaryOp op) r) (ok : OpOk K r f) (ha : SndR X K a ra) (hb : SndR X K b rb) : SndR X K (.BinOp a op b pos) (rOp f ra rb) :=
  r_two (fun ta tb h1 h2 j => pe_op (ho j) (h1 j) (h2 j)) ok ha hb
theorem r_cmp {op : CmpOp} (ho : ∀ j, OpR (X j) (compareOp op) r) (ok : OpOk K r f) (ha : SndR X K a ra) (hb : SndR X K b rb) (hm : behindInMarks op b = false) : SndR X K (.Compare a [op] [b] pos) (rOp f ra rb) :=
  r_two (fun ta tb h1 h2 j => pe_cmpR (ho j) (h1 j) (h2 j) hm) ok ha hb
theorem r_ix {r : R2} (hr : ∀ j, IxR (X j) r) (ok : OpOk K r f) (ha : SndR X K a ra) (hb : SndR X K b rb) (hs : PlainIx b) : SndR X K (.Subscript a b pos) (rOp f ra rb) :=
  r_two (fun ta tb h1 h2 j => pe_ix (hr j) (h1 j) (h2 j) hs) ok ha hb
theorem OpOk.or {r1 r2 : R2} {f1 f2 : D → D → (D → Prop) → Prop} (h1 : OpOk K r1 f1) (h2 : OpOk K r2 f2) : OpOk K (fun x y H Q => r1 x y H Q ∨ r2 x y H Q) (fun x y P => f1 x y P ∨ f2 x y P) := fun H S x y v u P Q a b h q => by
  rcases h with h | h
  · exact .inl (h1 H S x y v u P Q a b h q)
  · exact .inr (h2 H S x y v u P Q a b h q)
end
/-! tests -/
@[simp] def asB (r : WR) : WT := fun G P => r G fun d => match d with | .bl b => P b | _ => False
theorem vw_bl {H : Hp} {S : Addr → Prop} {b : Bool} {v : V} (h : Vw K H S (.bl b) v) : v = .bl b := by
  cases h
  rfl
theorem t_val {e : Expr} {r : WR} (h : SndR X K e r) (he : ∀ j whole, isTrue e (X j).env whole = (do let v ← whole; standAt e.pos; holding [v] (truthy v)) := by intro _ _; rfl) : SndT X K e (asB r) := by
  obtain ⟨t, h1, h2⟩ := h
  refine ⟨tB t, fun j => pt_val (h1 j) (he j), fun G σ H S P Q g r q => ?_⟩
  refine h2 G σ H S _ _ g r fun d v H' p s hv => ?_
  cases d with
  | bl b =>
    cases vw_bl hv
    exact ⟨b, rfl, q b H' p s⟩
  | _ => exact p.elim
theorem t_cmp {a b : Expr} {ra rb : WR} {r : R2} {f : D → D → (D → Prop) → Prop} {pos : Pos} {op : CmpOp} (ho : ∀ j, OpR (X j) (compareOp op) r) (ok : OpOk K r f) (ha : SndR X K a ra) (hb : SndR X K b rb) (hm : behindInMarks op b = false) : SndT X K (.Compare a [op] [b] pos) (asB (rOp f ra rb)) := by
  obtain ⟨ta, a1, a2⟩ := ha
  obtain ⟨tb, b1, b2⟩ := hb
  refine ⟨tTest (tOp r ta tb), fun j => pt_cmpR (ho j) (a1 j) (b1 j) hm, fun G σ H S P Q g h q => ?_⟩
  refine a2 G σ H S _ _ g h fun x v H1 h1 s1 v1 => ?_
  refine b2 G σ H1 (gr S H) _ _ (g.same s1 gr_of) h1 fun y u H2 h2 s2 v2 => ?_
  refine ok H2 (gr S H) x y v u _ _ (v1.same s2 fun _ z => z) (v2.same (Same.refl _) (gr_gr s1)) h2 fun d z H3 hp s3 hz => ?_
  cases d with
  | bl b =>
    cases vw_bl hz
    exact ⟨b, rfl, q b H3 hp ((s1.trans s2).trans s3)⟩
  | _ => exact hp.elim
@[simp] def tNotT (t : WT) : WT := fun G P => t G fun b => P (!b)
@[simp] def tAndT (t u : WT) : WT := fun G P => t G fun b => if b = true then u G P else P false
@[simp] def tOrT (t u : WT) : WT := fun G P => t G fun b => if b = true then P true else u G P
theorem t_not {e : Expr} {t : WT} {pos : Pos} (h : SndT X K e t) : SndT X K (.UnaryOp .Not e pos) (tNotT t) := by
  obtain ⟨u, h1, h2⟩ := h
  exact ⟨tNot u, fun j => pt_not (h1 j), fun G σ H S P Q g r q => h2 G σ H S _ _ g r fun b H' p s => q (!b) H' p s⟩
theorem t_w {e : Expr} {t : WT} (h : SndW X K e t) : SndT X K e t := by
  obtain ⟨u, h1, h2⟩ := h
  exact ⟨u, fun j => (h1 j).pt, h2⟩
theorem w_and1 {e : Expr} {t : WT} {pos : Pos} (h : SndT X K e t) : SndW X K (.BoolOp .And [e] pos) t := by
  obtain ⟨u, h1, h2⟩ := h
  exact ⟨u, fun j => pw_and1 (h1 j), h2⟩
theorem w_or1 {e : Expr} {t : WT} {pos : Pos} (h : SndT X K e t) : SndW X K (.BoolOp .Or [e] pos) t := by
  obtain ⟨u, h1, h2⟩ := h
  exact ⟨u, fun j => pw_or1 (h1 j), h2⟩
theorem w_and {a b : Expr} {rest : List Expr} {t u : WT} {pos : Pos} (h : SndT X K a t) (h' : SndW X K (.BoolOp .And (b :: rest) pos) u) : SndW X K (.BoolOp .And (a :: b :: rest) pos) (tAndT t u) := by
  obtain ⟨ta, a1, a2⟩ := h
  obtain ⟨tb, b1, b2⟩ := h'
  refine ⟨tAnd ta tb, fun j => pw_and (a1 j) (b1 j), fun G σ H S P Q g r q => ?_⟩
  refine a2 G σ H S _ _ g r fun c H1 p s => ?_
  cases c with
  | true => exact b2 G σ H1 (gr S H) _ _ (g.same s gr_of) p fun b H' p' s' => q b H' p' (s.trans s')
  | false => exact q false H1 p s
theorem w_or {a b : Expr} {rest : List Expr} {t u : WT} {pos : Pos} (h : SndT X K a t) (h' : SndW X K (.BoolOp .Or (b :: rest) pos) u) : SndW X K (.BoolOp .Or (a :: b :: rest) pos) (tOrT t u) := by
  obtain ⟨ta, a1, a2⟩ := h
  obtain ⟨tb, b1, b2⟩ := h'
  refine ⟨tOr ta tb, fun j => pw_or (a1 j) (b1 j), fun G σ H S P Q g r q => ?_⟩
  refine a2 G σ H S _ _ g r fun c H1 p s => ?_
  cases c with
  | true => exact q true H1 p s
  | false => exact b2 G σ H1 (gr S H) _ _ (g.same s gr_of) p fun b H' p' s' => q b H' p' (s.trans s')
/-! truth as a value -/
@[simp] def rAnd (ra rb : WR) : WR := fun G P => ra G fun d => match d with | .bl b => (if b = true then rb G P else P (.bl false)) | _ => False
@[simp] def rOr (ra rb : WR) : WR := fun G P => ra G fun d => match d with | .bl b => (if b = true then P (.bl true) else rb G P) | _ => False
@[simp] def rNot (ra : WR) : WR := fun G P => ra G fun d => match d with | .bl b => P (.bl (!b)) | _ => False
theorem r_one {e : Expr} {r : WR} {op} {pos : Pos} (h : SndR X K e r) : SndR X K (.BoolOp op [e] pos) r := by
  obtain ⟨t, h1, h2⟩ := h
  exact ⟨t, fun j => pe_one (h1 j), h2⟩
theorem r_and {a b : Expr} {rest : List Expr} {ra rb : WR} {pos : Pos} (h : SndR X K a ra) (h' : SndR X K (.BoolOp .And (b :: rest) pos) rb) : SndR X K (.BoolOp .And (a :: b :: rest) pos) (rAnd ra rb) := by
  obtain ⟨ta, a1, a2⟩ := h
  obtain ⟨tb, b1, b2⟩ := h'
  refine ⟨tAndV ta tb, fun j => pe_and (a1 j) (b1 j), fun G σ H S P Q g r q => ?_⟩
  refine a2 G σ H S _ _ g r fun d v H1 p s hv => ?_
  cases d with
  | bl c =>
    cases vw_bl hv
    refine ⟨c, rfl, ?_⟩
    cases c with
    | true => exact b2 G σ H1 (gr S H) _ _ (g.same s gr_of) p fun b v H' p' s' hv => q b v H' p' (s.trans s') (hv.same (Same.refl _) (gr_gr s))
    | false => exact q _ _ H1 p s (.bl false)
  | _ => exact p.elim
theorem r_or {a b : Expr} {rest : List Expr} {ra rb : WR} {pos : Pos} (h : SndR X K a ra) (h' : SndR X K (.BoolOp .Or (b :: rest) pos) rb) : SndR X K (.BoolOp .Or (a :: b :: rest) pos) (rOr ra rb) := by
  obtain ⟨ta, a1, a2⟩ := h
  obtain ⟨tb, b1, b2⟩ := h'
  refine ⟨tOrV ta tb, fun j => pe_or (a1 j) (b1 j), fun G σ H S P Q g r q => ?_⟩
  refine a2 G σ H S _ _ g r fun d v H1 p s hv => ?_
  cases d with
  | bl c =>
    cases vw_bl hv
    refine ⟨c, rfl, ?_⟩
    cases c with
    | true => exact q _ _ H1 p s (.bl true)
    | false => exact b2 G σ H1 (gr S H) _ _ (g.same s gr_of) p fun b v H' p' s' hv => q b v H' p' (s.trans s') (hv.same (Same.refl _) (gr_gr s))
  | _ => exact p.elim
theorem r_not {e : Expr} {r : WR} {pos : Pos} (h : SndR X K e r) : SndR X K (.UnaryOp .Not e pos) (rNot r) := by
  obtain ⟨t, h1, h2⟩ := h
  refine ⟨tNotV t, fun j => pe_not (h1 j), fun G σ H S P Q g r q => ?_⟩
  refine h2 G σ H S _ _ g r fun d v H1 p s hv => ?_
  cases d with
  | bl c =>
    cases vw_bl hv
    exact ⟨c, rfl, q _ _ H1 p s (.bl _)⟩
  | _ => exact p.elim
@[simp] def rIf (t : WT) (ra rb : WR) : WR := fun G P => t G fun b => if b = true then ra G P else rb G P
theorem r_ifexp {c a b : Expr} {t : WT} {ra rb : WR} {pos : Pos} (hc : SndT X K c t) (ha : SndR X K a ra) (hb : SndR X K b rb) : SndR X K (.IfExp c a b pos) (rIf t ra rb) := by
  obtain ⟨tc, c1, c2⟩ := hc
  obtain ⟨ta, a1, a2⟩ := ha
  obtain ⟨tb, b1, b2⟩ := hb
  refine ⟨tIf tc ta tb, fun j => pe_ifExp (c1 j) (a1 j) (b1 j), fun G σ H S P Q g r q => ?_⟩
  refine c2 G σ H S _ _ g r fun c H1 p s => ?_
  cases c with
  | true => exact a2 G σ H1 (gr S H) _ _ (g.same s gr_of) p fun b v H' p' s' hv => q b v H' p' (s.trans s') (hv.same (Same.refl _) (gr_gr s))
  | false => exact b2 G σ H1 (gr S H) _ _ (g.same s gr_of) p fun b v H' p' s' hv => q b v H' p' (s.trans s') (hv.same (Same.refl _) (gr_gr s))
/-! argument lists, displays -/
@[simp] def aNil : WA := fun _ P => P []
@[simp] def aCons (r : WR) (t : WA) : WA := fun G P => r G fun d => t G fun ds => P (d :: ds)
theorem a_nil : SndA X K [] aNil := ⟨tNil, fun _ => pa_nil, fun G σ H S P Q g r q => q [] [] H r (Same.refl H) .nil⟩
theorem a_cons {e : Expr} {es : List Expr} {r : WR} {t : WA} (h : SndR X K e r) (h' : SndA X K es t) (hs : ∀ j, starEach (e :: es) (X j).env = (false, eval e (X j).env) :: starEach es (X j).env := by intro _; rfl) : SndA X K (e :: es) (aCons r t) := by
  obtain ⟨ta, a1, a2⟩ := h
  obtain ⟨tb, b1, b2⟩ := h'
  refine ⟨tCons ta tb, fun j => pa_cons (a1 j) (b1 j) (hs j), fun G σ H S P Q g r q => ?_⟩
  refine a2 G σ H S _ _ g r fun d v H1 p s hv => ?_
  refine b2 G σ H1 (gr S H) _ _ (g.same s gr_of) p fun ds vs H2 p2 s2 hvs => ?_
  exact q _ _ H2 p2 (s.trans s2) (.cons (hv.same s2 fun _ z => z) (hvs.same (Same.refl _) (gr_gr s)))
theorem small_line {n : Nat} (h : n ≤ 100000) : n ≤ sizeLine := Nat.le_trans h (by rw [sizeLine_eq]; decide)
theorem small_lt {n : Nat} (h : n ≤ 100000) : n < sizeLine := Nat.lt_of_le_of_lt h (by rw [sizeLine_eq]; decide)
theorem same_new {H : Hp} {p : Addr} {o : HO} (h : H p = none) : Same H (upd H p o) := fun b x e => by
  rw [upd_ne (ne_of_none e h)]
  exact e
@[simp] def rTup (t : WA) : WR := fun G P => t G fun ds => ds.length ≤ 100000 ∧ P (.tup ds)
theorem r_tup {es : List Expr} {t : WA} {x1} {pos : Pos} (h : SndA X K es t) : SndR X K (.Tuple es x1 pos) (rTup t) := by
  obtain ⟨ta, a1, a2⟩ := h
  refine ⟨tTup ta, fun j => pe_tup (a1 j), fun G σ H S P Q g r q => ?_⟩
  refine a2 G σ H S _ _ g r fun ds vs H1 p s hv => ?_
  obtain ⟨hl, p⟩ := p
  refine ⟨by rw [← hv.length]; exact small_line hl, fun a ha => ?_⟩
  refine q _ _ _ p (s.trans (same_new ha)) (.tup (.inl (.inl upd_same)) (hv.same (same_new ha) fun _ z => z))
@[simp] def fLst (t : WA) : WA := fun G P => t G fun ds => ds.length ≤ 100000 ∧ P ds
theorem f_lst {es : List Expr} {t : WA} {pos : Pos} (h : SndA X K es t) : SndF X K (.List es pos) (fLst t) := by
  obtain ⟨ta, a1, a2⟩ := h
  refine ⟨tLst ta, fun j => pe_lst (a1 j), fun G σ H S P Q g r q => ?_⟩
  refine a2 G σ H S _ _ g r fun ds vs H1 p s hv => ?_
  obtain ⟨hl, p⟩ := p
  exact ⟨by rw [← hv.length]; exact small_line hl, fun a ha => q ds vs a H1 p s ha hv⟩
/-- a new list as data -/
@[simp] def rF (t : WA) : WR := fun G P => t G fun ds => P (.lst false ds)
theorem r_f {e : Expr} {t : WA} (h : SndF X K e t) : SndR X K e (rF t) := by
  obtain ⟨ta, a1, a2⟩ := h
  refine ⟨ta, a1, fun G σ H S P Q g r q => ?_⟩
  refine a2 G σ H S _ _ g r fun ds vs p H1 hp s hn hv => ?_
  exact q _ _ _ hp (s.trans (same_new hn)) (.lst (.inl upd_same) (.inr (s.free hn)) (hv.same (same_new hn) fun _ z => z))
/-! calls of built-in functions -/
def CallOk (K : PySem.W.Frag) (r : List V → Hp → VK → Prop) (f : List D → (D → Prop) → Prop) : Prop := ∀ (H : Hp) (S : Addr → Prop) (xs : List D) (vs : List V) (P : D → Prop) (Q : VK), VwL K H S xs vs → f xs P →
  (∀ d z H', P d → Same H H' → Vw K H' (gr S H) d z → Q z H') → r vs H Q
def CallOkF (K : PySem.W.Frag) (r : List V → Hp → VK → Prop) (f : List D → (List D → Prop) → Prop) : Prop := ∀ (H : Hp) (S : Addr → Prop) (xs : List D) (vs : List V) (P : List D → Prop) (Q : VK), VwL K H S xs vs → f xs P →
  (∀ ds zs p H', P ds → Same H H' → H' p = none → VwL K H' (gr S H) ds zs → Q (.ref p) (upd H' p (.lst zs))) → r vs H Q
@[simp] def rCB (f : List D → (D → Prop) → Prop) (t : WA) : WR := fun G P => t G fun ds => f ds P
@[simp] def fCB (f : List D → (List D → Prop) → Prop) (t : WA) : WA := fun G P => t G fun ds => f ds P
section
variable {e : Expr} {es : List Expr} {x : Str} {p pos : Pos} {Ty id : String} {r : List V → Hp → VK → Prop} {f : List D → (D → Prop) → Prop} {ff : List D → (List D → Prop) → Prop} {t : WA}
theorem cb_core {e' : Expr} (he : ∀ ta, (∀ j, PA (X j) (e :: es) ta) → ∀ j, PE (X j) e' (tCB r ta)) (ok : CallOk K r f) (h : SndA X K (e :: es) t) : SndR X K e' (rCB f t) := by
  obtain ⟨ta, a1, a2⟩ := h
  refine ⟨tCB r ta, he ta a1, fun G σ H S P Q g h q => ?_⟩
  refine a2 G σ H S _ _ g h fun ds vs H1 h1 s1 v1 => ?_
  exact ok H1 (gr S H) ds vs P Q v1 h1 fun d z H2 hp s2 hz => q d z H2 hp (s1.trans s2) (hz.same (Same.refl _) (gr_gr s1))
theorem cb_coreF {e' : Expr} (he : ∀ ta, (∀ j, PA (X j) (e :: es) ta) → ∀ j, PE (X j) e' (tCB r ta)) (ok : CallOkF K r ff) (h : SndA X K (e :: es) t) : SndF X K e' (fCB ff t) := by
  obtain ⟨ta, a1, a2⟩ := h
  refine ⟨tCB r ta, he ta a1, fun G σ H S P Q g h q => ?_⟩
  refine a2 G σ H S _ _ g h fun ds vs H1 h1 s1 v1 => ?_
  exact ok H1 (gr S H) ds vs P Q v1 h1 fun ds zs p H2 hp s2 hn hz => q ds zs p H2 hp (s1.trans s2) hn (hz.same (Same.refl _) (gr_gr s1))
theorem r_callB (hc : ∀ j, CallR (X j) (.builtin id) r) (ok : CallOk K r f) (hg : ∀ j, Gl (X j) x) (hm : ∀ j, (X j).mg x = none) (hv : bootBuiltins x = some (.builtin id)) (h : SndA X K (e :: es) t) (hn : x ≠ "__name__" := by decide) (hdb : (x == ("__debug__" : Str)) = false := by decide)
    (hs : ∀ j, starEach (e :: es) (X j).env = (false, eval e (X j).env) :: starEach es (X j).env := by intro _; rfl) (hpl : ∀ j, (backTo pos (starEach es (X j).env)).any (·.1) = false := by intro _; rfl) : SndR X K (.Call (.Name x p) (e :: es) [] pos) (rCB f t) :=
  cb_core (fun ta h j => pe_callB (hc j) (hg j) (hm j) hv (h j) hn hdb (hs j) (hpl j)) ok h
theorem r_callTy (hc : ∀ j, CallR (X j) (.type Ty) r) (ok : CallOk K r f) (hg : ∀ j, Gl (X j) x) (hm : ∀ j, (X j).mg x = none) (hv : bootBuiltins x = some (.type Ty)) (h : SndA X K (e :: es) t) (hn : x ≠ "__name__" := by decide) (hdb : (x == ("__debug__" : Str)) = false := by decide)
    (hs : ∀ j, starEach (e :: es) (X j).env = (false, eval e (X j).env) :: starEach es (X j).env := by intro _; rfl) (hpl : ∀ j, (backTo pos (starEach es (X j).env)).any (·.1) = false := by intro _; rfl) : SndR X K (.Call (.Name x p) (e :: es) [] pos) (rCB f t) :=
  cb_core (fun ta h j => pe_callTy (hc j) (hg j) (hm j) hv (h j) hn hdb (hs j) (hpl j)) ok h
theorem f_callB (hc : ∀ j, CallR (X j) (.builtin id) r) (ok : CallOkF K r ff) (hg : ∀ j, Gl (X j) x) (hm : ∀ j, (X j).mg x = none) (hv : bootBuiltins x = some (.builtin id)) (h : SndA X K (e :: es) t) (hn : x ≠ "__name__" := by decide) (hdb : (x == ("__debug__" : Str)) = false := by decide)
    (hs : ∀ j, starEach (e :: es) (X j).env = (false, eval e (X j).env) :: starEach es (X j).env := by intro _; rfl) (hpl : ∀ j, (backTo pos (starEach es (X j).env)).any (·.1) = false := by intro _; rfl) : SndF X K (.Call (.Name x p) (e :: es) [] pos) (fCB ff t) :=
  cb_coreF (fun ta h j => pe_callB (hc j) (hg j) (hm j) hv (h j) hn hdb (hs j) (hpl j)) ok h
theorem f_callTy (hc : ∀ j, CallR (X j) (.type Ty) r) (ok : CallOkF K r ff) (hg : ∀ j, Gl (X j) x) (hm : ∀ j, (X j).mg x = none) (hv : bootBuiltins x = some (.type Ty)) (h : SndA X K (e :: es) t) (hn : x ≠ "__name__" := by decide) (hdb : (x == ("__debug__" : Str)) = false := by decide)
    (hs : ∀ j, starEach (e :: es) (X j).env = (false, eval e (X j).env) :: starEach es (X j).env := by intro _; rfl) (hpl : ∀ j, (backTo pos (starEach es (X j).env)).any (·.1) = false := by intro _; rfl) : SndF X K (.Call (.Name x p) (e :: es) [] pos) (fCB ff t) :=
  cb_coreF (fun ta h j => pe_callTy (hc j) (hg j) (hm j) hv (h j) hn hdb (hs j) (hpl j)) ok h
end
/-! slices -/
@[simp] def oNone : WO := fun _ P => P none
@[simp] def oSome (r : WR) : WO := fun G P => r G fun d => match d with | .int i => P (some i) | _ => False
theorem o_none : SndO X K none oNone := ⟨tNoPart, fun _ => po_none, fun G σ H S P Q g r q => q none H r (Same.refl H)⟩
theorem o_some {e : Expr} {r : WR} (h : SndR X K e r) : SndO X K (some e) (oSome r) := by
  obtain ⟨ta, a1, a2⟩ := h
  refine ⟨tPart ta, fun j => po_some (a1 j), fun G σ H S P Q g r q => ?_⟩
  refine a2 G σ H S _ _ g r fun d v H1 p s hv => ?_
  cases d with
  | int i =>
    cases hv
    exact ⟨i, rfl, q _ H1 p s⟩
  | _ => exact p.elim
def cutD {α : Type} (xs : List α) (lo hi : Option Int) : List α := (xs.drop (HT.sIx xs.length 0 lo)).take (HT.sIx xs.length xs.length hi - HT.sIx xs.length 0 lo)
theorem cut_vw {H : Hp} {S : Addr → Prop} {ds : List D} {vs : List V} (h : VwL K H S ds vs) (lo hi : Option Int) : VwL K H S (cutD ds lo hi) (cutV vs lo hi) := by
  unfold cutD cutV
  rw [← h.length]
  exact (h.drop _).take _
theorem vw_ints {H : Hp} {S : Addr → Prop} : ∀ ns : List Int, VwL K H S (ns.map .int) (ns.map V.int)
  | [] => .nil
  | n :: ns => .cons (.int n) (vw_ints ns)
def SlOk (K : PySem.W.Frag) (r : V → Option Int → Option Int → Hp → VK → Prop) (f : D → Option Int → Option Int → (D → Prop) → Prop) : Prop := ∀ (H : Hp) (S : Addr → Prop) (x : D) (v : V) (lo hi : Option Int) (P : D → Prop) (Q : VK), Vw K H S x v → f x lo hi P →
  (∀ d z H', P d → Same H H' → Vw K H' (gr S H) d z → Q z H') → r v lo hi H Q
@[simp] def rSl (f : D → Option Int → Option Int → (D → Prop) → Prop) (r : WR) (lo hi : WO) : WR := fun G P => r G fun x => lo G fun l => hi G fun u => f x l u P
theorem sl_core {r : V → Option Int → Option Int → Hp → VK → Prop} {e : Expr} {lo hi : Option Expr} {ra : WR} {wl wh : WO} {pos p2 : Pos} {C : V → Hp → D → Option Int → Option Int → Prop} (hr : ∀ j, SlR (X j) r) (he : SndR X K e ra) (hl : SndO X K lo wl) (hh : SndO X K hi wh) :
    ∃ t : TE, (∀ j, PE (X j) (.Subscript e (.Slice lo hi none p2) pos) t) ∧ ∀ (G : Env) (σ : L2.St) (H : Hp) (S : Addr → Prop) (P : D → Option Int → Option Int → Prop) (Q : VK), VwG K H S G σ → (ra G fun x => wl G fun l => wh G fun u => P x l u) →
      (∀ x l u v H', P x l u → Same H H' → Vw K H' (gr S H) x v → r v l u H' Q) → t σ H Q := by
  obtain ⟨ta, a1, a2⟩ := he
  obtain ⟨tl, b1, b2⟩ := hl
  obtain ⟨th, c1, c2⟩ := hh
  refine ⟨tSl r ta tl th, fun j => pe_slice (hr j) (a1 j) (b1 j) (c1 j), fun G σ H S P Q g h q => ?_⟩
  refine a2 G σ H S _ _ g h fun x v H1 h1 s1 v1 => ?_
  refine b2 G σ H1 (gr S H) _ _ (g.same s1 gr_of) h1 fun l H2 h2 s2 => ?_
  refine c2 G σ H2 (gr S H) _ _ (g.same (s1.trans s2) gr_of) h2 fun u H3 h3 s3 => ?_
  exact q x l u v H3 h3 ((s1.trans s2).trans s3) (v1.same (s2.trans s3) fun _ z => z)
@[simp] def fSlL (r : WR) (lo hi : WO) : WA := fun G P => r G fun x => lo G fun l => hi G fun u => match x with | .lst _ xs => P (cutD xs l u) | .scr ns => P (cutD (ns.map .int) l u) | _ => False
theorem f_slL {e : Expr} {lo hi : Option Expr} {ra : WR} {wl wh : WO} {pos p2 : Pos} (hK : ∀ j, (X j).K = K) (he : SndR X K e ra) (hl : SndO X K lo wl) (hh : SndO X K hi wh) : SndF X K (.Subscript e (.Slice lo hi none p2) pos) (fSlL ra wl wh) := by
  obtain ⟨t, h1, h2⟩ := sl_core (C := fun _ _ _ _ _ => True) (r := rSlL K) (pos := pos) (p2 := p2) (fun j => hK j ▸ sl_list) he hl hh
  refine ⟨t, h1, fun G σ H S P Q g h q => ?_⟩
  refine h2 G σ H S _ _ g h fun x l u v H1 p s hv => ?_
  cases hv with
  | lst rd sa hl => exact ⟨_, _, rfl, .inl rd, fun a ha => q _ _ a H1 p s ha (cut_vw hl l u)⟩
  | scr t => exact ⟨_, _, rfl, t.sq, fun a ha => q _ _ a H1 p s ha (cut_vw (vw_ints _) l u)⟩
  | _ => exact p.elim
/-- a tuple's slice (not the whole) or a text's -/
@[simp] def rSlT (r : WR) (lo hi : WO) : WR := fun G P => r G fun x => lo G fun l => hi G fun u => match x with
  | .tup xs => ¬ (HT.sIx xs.length 0 l = 0 ∧ HT.sIx xs.length xs.length u = xs.length) ∧ P (.tup (cutD xs l u))
  | _ => False
theorem r_slT {e : Expr} {lo hi : Option Expr} {ra : WR} {wl wh : WO} {pos p2 : Pos} (hK : ∀ j, (X j).K = K) (he : SndR X K e ra) (hl : SndO X K lo wl) (hh : SndO X K hi wh) : SndR X K (.Subscript e (.Slice lo hi none p2) pos) (rSlT ra wl wh) := by
  obtain ⟨t, h1, h2⟩ := sl_core (C := fun _ _ _ _ _ => True) (r := L2.rSlT K) (pos := pos) (p2 := p2) (fun j => hK j ▸ sl_tup) he hl hh
  refine ⟨t, h1, fun G σ H S P Q g h q => ?_⟩
  refine h2 G σ H S _ _ g h fun x l u v H1 p s hv => ?_
  cases hv with
  | tup sq hl =>
    refine ⟨_, _, rfl, sq, by rw [← hl.length]; exact p.1, fun a ha => ?_⟩
    exact q _ _ _ p.2 (s.trans (same_new ha)) (.tup (.inl (.inl upd_same)) ((cut_vw hl l u).same (same_new ha) fun _ z => z))
  | _ => exact p.elim
@[simp] def rSlS (r : WR) (lo hi : WO) : WR := fun G P => r G fun x => lo G fun l => hi G fun u => match x with
  | .str z => z.length ≤ 100000 ∧ P (.str (cutS z l u))
  | _ => False
theorem r_slS {e : Expr} {lo hi : Option Expr} {ra : WR} {wl wh : WO} {pos p2 : Pos} (he : SndR X K e ra) (hl : SndO X K lo wl) (hh : SndO X K hi wh) : SndR X K (.Subscript e (.Slice lo hi none p2) pos) (rSlS ra wl wh) := by
  obtain ⟨t, h1, h2⟩ := sl_core (C := fun _ _ _ _ _ => True) (r := L2.rSlS) (pos := pos) (p2 := p2) (fun j => sl_str) he hl hh
  refine ⟨t, h1, fun G σ H S P Q g h q => ?_⟩
  refine h2 G σ H S _ _ g h fun x l u v H1 p s hv => ?_
  cases hv with
  | str z => exact ⟨_, rfl, small_line p.1, q _ _ H1 p.2 s (.str _)⟩
  | _ => exact p.elim
end
end T
namespace T
open PySem PySem.Spec PyProof.Rows L2
section
variable {K : PySem.W.Frag} {U0 : Addr → Prop} {G : Env} {σ : L2.St} {H H' : Hp} {Oo os o2 : List Addr} {d : D} {v : V}
theorem ug_sub {l l' : List Addr} (h : ∀ a ∈ l', a ∈ l) : ∀ a, ug U0 l a → ug U0 l' a := fun a u => ⟨u.1, fun m => u.2 (h a m)⟩
/-- what was kept aside is let go -/
theorem Rep.less (r : Rep K U0 G σ H (Oo ++ o2) os) : Rep K U0 G σ H Oo os := by
  have hs : ∀ a ∈ Oo ++ os, a ∈ (Oo ++ o2) ++ os := fun a m => by
    rcases List.mem_append.mp m with z | z
    · exact List.mem_append_left _ (List.mem_append_left _ z)
    · exact List.mem_append_right _ z
  refine ⟨r.g.mono (os0 := os) (fun a o e _ => e) (fun a u _ => ug_sub hs a u) fun a m => m, ?_, fun a m => r.u0 a (hs a m), r.un⟩
  refine ⟨?_, fun a m => r.own.2 a (hs a m)⟩
  have h := r.own.1
  rw [List.append_assoc] at h
  obtain ⟨h1, h2, h3⟩ := List.nodup_append.mp h
  exact List.nodup_append.mpr ⟨h1, (List.nodup_append.mp h2).2.1, fun a m b m' => h3 a m b (List.mem_append_right _ m')⟩
/-- a value let go: it is frozen -/
theorem frozen (r : Rep K U0 G σ H (Oo ++ o2) os) (h : Rp K H (ug U0 ((Oo ++ o2) ++ os)) d v o2) : Rp K H (ug U0 (Oo ++ os)) (frz d) v [] := by
  have hs : ∀ a ∈ Oo ++ os, a ∈ (Oo ++ o2) ++ os := fun a m => by
    rcases List.mem_append.mp m with z | z
    · exact List.mem_append_left _ (List.mem_append_left _ z)
    · exact List.mem_append_right _ z
  refine (h.vw (S := ug U0 (Oo ++ os)) (fun a m => ⟨r.u0 a (List.mem_append_left _ (List.mem_append_right _ m)), fun q => ?_⟩) (ug_sub hs)).rp fun a z => z
  have nd := r.own.1
  rw [List.append_assoc] at nd
  obtain ⟨_, h2, h3⟩ := List.nodup_append.mp nd
  rcases List.mem_append.mp q with z | z
  · exact h3 a z a (List.mem_append_left _ m) rfl
  · exact (List.nodup_append.mp h2).2.2 a m a z rfl
theorem Rep.same (r : Rep K U0 G σ H Oo os) (e : Same H H') : Rep K U0 G σ H' Oo os :=
  ⟨r.g.mono (os0 := os) (fun a o q _ => e a o q) (fun a u _ => u) fun a m => m, ⟨r.own.1, fun a m => let ⟨o, q, mu⟩ := r.own.2 a m; ⟨o, e a o q, mu⟩⟩, r.u0, fun a h => r.un a (e.free h)⟩
/-- what is viewed of the slots leans on what they lean on -/
theorem Rep.vw (r : Rep K U0 G σ H Oo os) : VwG K H (fun a => ug U0 Oo a) G σ := by
  refine r.g.vw (fun a m => ⟨r.u0 a (List.mem_append_right _ m), fun q => r.own.dis q m⟩) (ug_sub fun a m => List.mem_append_left _ m)
/-- a slot filled by what was kept aside -/
theorem Rep.set (i : Nat) (r : Rep K U0 G σ H (Oo ++ o2) os) (h : Rp K H (ug U0 ((Oo ++ o2) ++ os)) d v o2) : ∃ os', Rep K U0 (G.set i (some d)) (σ.set i (some v)) H Oo os' ∧ ∀ a ∈ os', a ∈ o2 ++ os := by
  have len := r.g.length
  by_cases hi : i < G.length
  · obtain ⟨p1, p2, g1, pm⟩ := r.g.drop i
    obtain ⟨os', g2, pm2⟩ := g1.put (v := v) (d := d) (o1 := o2) (RpG.none_at hi) h
    rw [set_none_set] at g2
    have m2 : ∀ a ∈ os', a ∈ o2 ++ os := fun a m => by
      rcases List.mem_append.mp (pm2.mem_iff.mp m) with z | z
      · exact List.mem_append_left _ z
      · exact List.mem_append_right _ (pm.mem_iff.mpr (List.mem_append_right _ z))
    have hs : ∀ a ∈ Oo ++ os', a ∈ (Oo ++ o2) ++ os := fun a m => by
      rw [List.append_assoc]
      rcases List.mem_append.mp m with z | z
      · exact List.mem_append_left _ z
      · exact List.mem_append_right _ (m2 a z)
    refine ⟨os', ⟨g2.mono (os0 := os') (fun a o e _ => e) (fun a u _ => ug_sub hs a u) fun a m => m, ⟨?_, fun a m => r.own.2 a (hs a m)⟩, fun a m => r.u0 a (hs a m), r.un⟩, m2⟩
    have nd := r.own.1
    rw [List.append_assoc] at nd
    obtain ⟨h1, h2, h3⟩ := List.nodup_append.mp nd
    obtain ⟨h4, h5, h6⟩ := List.nodup_append.mp h2
    have h7 := pm.nodup_iff.mp h5
    obtain ⟨_, h8, _⟩ := List.nodup_append.mp h7
    refine List.nodup_append.mpr ⟨h1, pm2.nodup_iff.mpr (List.nodup_append.mpr ⟨h4, h8, fun a m b m' => h6 a m b (pm.mem_iff.mpr (List.mem_append_right _ m'))⟩), fun a m b m' => h3 a m b (m2 b m')⟩
  · have e1 : G.set i (some d) = G := List.set_eq_of_length_le (by omega)
    have e2 : σ.set i (some v) = σ := List.set_eq_of_length_le (by omega)
    rw [e1, e2]
    exact ⟨os, r.less, fun a m => List.mem_append_right _ m⟩
/-- a slot taken out: its value is kept aside -/
theorem Rep.take {i : Nat} (r : Rep K U0 G σ H Oo os) (e : G[i]? = some (some d)) : ∃ v o1 o2, σ[i]? = some (some v) ∧ Rep K U0 (G.set i none) σ H (Oo ++ o1) o2 ∧ Rp K H (ug U0 ((Oo ++ o1) ++ o2)) d v o1 ∧ os.Perm (o1 ++ o2) := by
  obtain ⟨v, o1, o2, h1, h2, h3, pm⟩ := r.g.take e
  have pm' : (Oo ++ os).Perm ((Oo ++ o1) ++ o2) := by
    rw [List.append_assoc]
    exact List.Perm.append_left Oo pm
  have hs : ∀ a ∈ (Oo ++ o1) ++ o2, a ∈ Oo ++ os := fun a m => pm'.mem_iff.mpr m
  exact ⟨v, o1, o2, h1, ⟨h3.mono (os0 := o2) (fun a o e _ => e) (fun a u _ => ug_sub hs a u) fun a m => m, r.own.perm pm', fun a m => r.u0 a (hs a m), r.un⟩, h2.mono (os0 := o1) (fun a o e _ => e) (fun a u _ => ug_sub hs a u) fun a m => m, pm⟩
/-- slots frozen -/
theorem Rep.freeze (js : List Nat) (r : Rep K U0 G σ H Oo os) : ∃ os', Rep K U0 (frzAt js 0 G) σ H Oo os' ∧ (∀ a ∈ os', a ∈ os) ∧ VwG K H (ug U0 (Oo ++ os')) (keepAt js 0 G) σ := by
  obtain ⟨o1, o2, pm, h1, h2⟩ := r.g.freeze js 0
  have hs : ∀ a ∈ Oo ++ o2, a ∈ Oo ++ os := fun a m => by
    rcases List.mem_append.mp m with z | z
    · exact List.mem_append_left _ z
    · exact List.mem_append_right _ (pm.mem_iff.mpr (List.mem_append_right _ z))
  obtain ⟨n1, n2, n3⟩ := List.nodup_append.mp r.own.1
  obtain ⟨m1, m2, m3⟩ := List.nodup_append.mp (pm.nodup_iff.mp n2)
  have q1 : ∀ a ∈ o1, ug U0 (Oo ++ o2) a := fun a m => ⟨r.u0 a (List.mem_append_right _ (pm.mem_iff.mpr (List.mem_append_left _ m))), fun q => by
    rcases List.mem_append.mp q with z | z
    · exact n3 a z a (pm.mem_iff.mpr (List.mem_append_left _ m)) rfl
    · exact m3 a m a z rfl⟩
  refine ⟨o2, ⟨h1 _ (fun a u => ug_sub hs a u) q1, ⟨List.nodup_append.mpr ⟨n1, m2, fun a m b m' => n3 a m b (pm.mem_iff.mpr (List.mem_append_right _ m'))⟩, fun a m => r.own.2 a (hs a m)⟩, fun a m => r.u0 a (hs a m), r.un⟩, fun a m => pm.mem_iff.mpr (List.mem_append_right _ m), ?_⟩
  exact ⟨by rw [keepAt_len]; exact r.g.length, h2.same (Same.refl H) fun a z => z.elim (q1 a) (ug_sub hs a)⟩
/-- a new owned list -/
theorem Rep.fresh {p : Addr} {ds : List D} {vs : List V} (r : Rep K U0 G σ H Oo os) (hn : H p = none) (h : VwL K H (ug U0 (Oo ++ os)) ds vs) :
    Rep K U0 G σ (upd H p (.lst vs)) (Oo ++ [p]) os ∧ Rp K (upd H p (.lst vs)) (ug U0 ((Oo ++ [p]) ++ os)) (.lst true (frzL ds)) (.ref p) [p] ∧ Stp H (upd H p (.lst vs)) os ([p] ++ os) := by
  have sm : Same H (upd H p (.lst vs)) := same_new hn
  have np : p ∉ Oo ++ os := r.own.none hn
  have r1 := r.same sm
  have gu : ∀ a, ug U0 (Oo ++ os) a → (∃ o, H a = some o) → ug U0 ((Oo ++ [p]) ++ os) a := fun a u ⟨o, e⟩ => ⟨u.1, fun m => by
    rw [List.append_assoc] at m
    rcases List.mem_append.mp m with z | z
    · exact u.2 (List.mem_append_left _ z)
    · rcases List.mem_append.mp z with y | y
      · have : a = p := by simpa using y
        subst this
        rw [hn] at e; cases e
      · exact u.2 (List.mem_append_right _ y)⟩
  have nd : (Oo ++ [p] ++ os).Nodup := by
    have h1 := r.own.1
    obtain ⟨n1, n2, n3⟩ := List.nodup_append.mp h1
    rw [List.append_assoc]
    refine List.nodup_append.mpr ⟨n1, List.nodup_append.mpr ⟨by simp, n2, fun a m b m' => ?_⟩, fun a m b m' => ?_⟩
    · have : a = p := by simpa using m
      subst this
      rintro rfl
      exact np (List.mem_append_right _ m')
    · rcases List.mem_append.mp m' with z | z
      · have : b = p := by simpa using z
        subst this
        rintro rfl
        exact np (List.mem_append_left _ m)
      · exact n3 a m b z
  refine ⟨⟨r.g.mono (os0 := os) (fun a o q _ => sm a o q) gu fun a m => m, ⟨nd, fun a m => ?_⟩, fun a m => ?_, r1.un⟩, ?_, ⟨fun a o e _ => sm a o e, fun a m => ?_, fun a o e => ⟨o, sm a o e⟩⟩⟩
  · rw [List.append_assoc] at m
    rcases List.mem_append.mp m with z | z
    · exact r1.own.2 a (List.mem_append_left _ z)
    · rcases List.mem_append.mp z with y | y
      · have : a = p := by simpa using y
        subst this
        exact ⟨_, upd_same, trivial⟩
      · exact r1.own.2 a (List.mem_append_right _ y)
  · rw [List.append_assoc] at m
    rcases List.mem_append.mp m with z | z
    · exact r.u0 a (List.mem_append_left _ z)
    · rcases List.mem_append.mp z with y | y
      · have : a = p := by simpa using y
        subst this
        exact r.un _ hn
      · exact r.u0 a (List.mem_append_right _ y)
  · exact .lstO (os := []) upd_same ((h.mono (S' := ug U0 ((Oo ++ [p]) ++ os)) (fun a o q _ => sm a o q) gu).rp fun a z => z)
  · rcases List.mem_append.mp m with z | z
    · have : a = p := by simpa using z
      subst this
      exact .inr hn
    · exact .inl z
end

/-! ### what may change the slots and what they own -/
abbrev WE := Env → (D → Env → Prop) → (Nat → Env → Prop) → Prop
abbrev WB := Env → (Bool → Env → Prop) → (Nat → Env → Prop) → Prop
abbrev WL := Env → (List D → Env → Prop) → (Nat → Env → Prop) → Prop
structure En where
  nx : Env → Prop
  rt : D → Env → Prop
  bk : Env → Prop
  ct : Env → Prop
  ex : Nat → Env → Prop
abbrev WS := En → Env → Prop
def Pn (pn : List Nat) (σ σ' : L2.St) : Prop := ∀ i ∈ pn, σ'[i]? = σ[i]?
theorem Pn.refl (pn : List Nat) (σ : L2.St) : Pn pn σ σ := fun _ _ => rfl
theorem Pn.trans {pn : List Nat} {σ σ1 σ2 : L2.St} (a : Pn pn σ σ1) (b : Pn pn σ1 σ2) : Pn pn σ σ2 := fun i m => (b i m).trans (a i m)
theorem Pn.set {pn : List Nat} {σ : L2.St} {i : Nat} {x : Option V} (h : i ∉ pn) : Pn pn σ (σ.set i x) := fun j m => by
  rw [List.getElem?_set_ne]
  rintro rfl
  exact h m
section
variable (K : PySem.W.Frag) (U0 : Addr → Prop) (Oo : List Addr)
/-- what follows an expression -/
def OkE (σ : L2.St) (H : Hp) (os : List Addr) (P : D → Env → Prop) (Q : VK) : Prop := ∀ d G v H' o2 os1, P d G → Stp H H' os (o2 ++ os1) → Rep K U0 G σ H' (Oo ++ o2) os1 → Rp K H' (ug U0 ((Oo ++ o2) ++ os1)) d v o2 → Q v H'
def OkB (σ : L2.St) (H : Hp) (os : List Addr) (P : Bool → Env → Prop) (Q : Bool → Hp → Prop) : Prop := ∀ b G H' os1, P b G → Stp H H' os os1 → Rep K U0 G σ H' Oo os1 → Q b H'
def OkL (σ : L2.St) (H : Hp) (os : List Addr) (P : List D → Env → Prop) (Q : List V → Hp → Prop) : Prop := ∀ ds G vs H' o2 os1, P ds G → Stp H H' os (o2 ++ os1) → Rep K U0 G σ H' (Oo ++ o2) os1 → RpL K H' (ug U0 ((Oo ++ o2) ++ os1)) ds vs o2 → Q vs H'
def OkX (σ : L2.St) (H : Hp) (os : List Addr) (P : Nat → Env → Prop) (W : WX) : Prop := ∀ c G H' os1, P c G → Stp H H' os os1 → Rep K U0 G σ H' Oo os1 → W (.ref c) none σ H'
/-- what follows a statement -/
def OkN (pn : List Nat) (σ : L2.St) (H : Hp) (os : List Addr) (P : Env → Prop) (Q : L2.St → Hp → Prop) : Prop := ∀ G σ' H' os1, P G → Stp H H' os os1 → Rep K U0 G σ' H' Oo os1 → Pn pn σ σ' → Q σ' H'
def OkR (pn : List Nat) (σ : L2.St) (H : Hp) (os : List Addr) (P : D → Env → Prop) (Q : VK) : Prop := ∀ d G v σ' H' o2 os1, P d G → Stp H H' os (o2 ++ os1) → Rep K U0 G σ' H' (Oo ++ o2) os1 → Rp K H' (ug U0 ((Oo ++ o2) ++ os1)) d v o2 → Pn pn σ σ' → Q v H'
def OkXS (pn : List Nat) (σ : L2.St) (H : Hp) (os : List Addr) (P : Nat → Env → Prop) (W : WX) : Prop := ∀ c G σ' H' os1, P c G → Stp H H' os os1 → Rep K U0 G σ' H' Oo os1 → Pn pn σ σ' → W (.ref c) none σ' H'
structure OkS (pn : List Nat) (W : WX) (σ : L2.St) (H : Hp) (os : List Addr) (E : En) (D : Ends) : Prop where
  nx : OkN K U0 Oo pn σ H os E.nx D.nx
  rt : OkR K U0 Oo pn σ H os E.rt D.rt
  bk : OkN K U0 Oo pn σ H os E.bk D.bk
  ct : OkN K U0 Oo pn σ H os E.ct D.ct
  ex : OkXS K U0 Oo pn σ H os E.ex W
end
section
variable {K : PySem.W.Frag} {U0 : Addr → Prop} {Oo : List Addr} {pn : List Nat} {σ σ1 : L2.St} {H H1 : Hp} {os os1 : List Addr} {W : WX}
theorem OkE.step {P : D → Env → Prop} {Q : VK} (h : OkE K U0 Oo σ H os P Q) (s : Stp H H1 os os1) : OkE K U0 Oo σ H1 os1 P Q := fun d G v H' o2 os2 p s' => h d G v H' o2 os2 p (s.trans s')
theorem OkB.step {P : Bool → Env → Prop} {Q : Bool → Hp → Prop} (h : OkB K U0 Oo σ H os P Q) (s : Stp H H1 os os1) : OkB K U0 Oo σ H1 os1 P Q := fun b G H' os2 p s' => h b G H' os2 p (s.trans s')
theorem OkX.step {P : Nat → Env → Prop} (h : OkX K U0 Oo σ H os P W) (s : Stp H H1 os os1) : OkX K U0 Oo σ H1 os1 P W := fun c G H' os2 p s' => h c G H' os2 p (s.trans s')
theorem OkN.step {P : Env → Prop} {Q : L2.St → Hp → Prop} (h : OkN K U0 Oo pn σ H os P Q) (s : Stp H H1 os os1) (n : Pn pn σ σ1) : OkN K U0 Oo pn σ1 H1 os1 P Q := fun G σ' H' os2 p s' r m => h G σ' H' os2 p (s.trans s') r (n.trans m)
theorem OkR.step {P : D → Env → Prop} {Q : VK} (h : OkR K U0 Oo pn σ H os P Q) (s : Stp H H1 os os1) (n : Pn pn σ σ1) : OkR K U0 Oo pn σ1 H1 os1 P Q := fun d G v σ' H' o2 os2 p s' r x m => h d G v σ' H' o2 os2 p (s.trans s') r x (n.trans m)
theorem OkXS.step {P : Nat → Env → Prop} (h : OkXS K U0 Oo pn σ H os P W) (s : Stp H H1 os os1) (n : Pn pn σ σ1) : OkXS K U0 Oo pn σ1 H1 os1 P W := fun c G σ' H' os2 p s' r m => h c G σ' H' os2 p (s.trans s') r (n.trans m)
theorem OkXS.here {P : Nat → Env → Prop} (h : OkXS K U0 Oo pn σ H os P W) : OkX K U0 Oo σ H os P W := fun c G H' os2 p s' r => h c G σ H' os2 p s' r (Pn.refl _ _)
theorem OkS.step {E : En} {D : Ends} (h : OkS K U0 Oo pn W σ H os E D) (s : Stp H H1 os os1) (n : Pn pn σ σ1) : OkS K U0 Oo pn W σ1 H1 os1 E D :=
  ⟨h.nx.step s n, h.rt.step s n, h.bk.step s n, h.ct.step s n, h.ex.step s n⟩
/-- an exception beside what is kept aside -/
theorem OkX.more {o1 : List Addr} {P : Nat → Env → Prop} (h : OkX K U0 Oo σ H os P W) (s : Stp H H1 os (o1 ++ os1)) : OkX K U0 (Oo ++ o1) σ H1 os1 P W := fun c G H' os2 p s' r =>
  h c G H' os2 p ((s.trans (s'.wide (o1 := o1))).sub fun a m => List.mem_append_right _ m) r.less
end
section
variable {ι : Type} (X : ι → Cx) (K : PySem.W.Frag) (W : WX)
def SndE (e : Expr) (w : WE) : Prop := ∃ t : TE, (∀ i, PE (X i) e t) ∧ ∀ (U0 : Addr → Prop) (G : Env) (σ : L2.St) (H : Hp) (Oo os : List Addr) (P : D → Env → Prop) (PX : Nat → Env → Prop) (Q : VK),
  Rep K U0 G σ H Oo os → w G P PX → OkE K U0 Oo σ H os P Q → OkX K U0 Oo σ H os PX W → t σ H Q
def SndB (e : Expr) (w : WB) : Prop := ∃ t : TT, (∀ i, PT (X i) e t) ∧ ∀ (U0 : Addr → Prop) (G : Env) (σ : L2.St) (H : Hp) (Oo os : List Addr) (P : Bool → Env → Prop) (PX : Nat → Env → Prop) (Q : Bool → Hp → Prop),
  Rep K U0 G σ H Oo os → w G P PX → OkB K U0 Oo σ H os P Q → OkX K U0 Oo σ H os PX W → t σ H Q
def SndBW (e : Expr) (w : WB) : Prop := ∃ t : TT, (∀ i, PW (X i) e t) ∧ ∀ (U0 : Addr → Prop) (G : Env) (σ : L2.St) (H : Hp) (Oo os : List Addr) (P : Bool → Env → Prop) (PX : Nat → Env → Prop) (Q : Bool → Hp → Prop),
  Rep K U0 G σ H Oo os → w G P PX → OkB K U0 Oo σ H os P Q → OkX K U0 Oo σ H os PX W → t σ H Q
def SndL (es : List Expr) (w : WL) : Prop := ∃ t : TA, (∀ i, PA (X i) es t) ∧ ∀ (U0 : Addr → Prop) (G : Env) (σ : L2.St) (H : Hp) (Oo os : List Addr) (P : List D → Env → Prop) (PX : Nat → Env → Prop) (Q : List V → Hp → Prop),
  Rep K U0 G σ H Oo os → w G P PX → OkL K U0 Oo σ H os P Q → OkX K U0 Oo σ H os PX W → t σ H Q
def SndS (pn : List Nat) (st : Stmt) (w : WS) : Prop := ∃ t : TS, (∀ i, PS (X i) st t) ∧ ∀ (U0 : Addr → Prop) (G : Env) (σ : L2.St) (H : Hp) (Oo os : List Addr) (E : En) (D : Ends),
  Rep K U0 G σ H Oo os → w E G → OkS K U0 Oo pn W σ H os E D → t D σ H
def SndSs (pn : List Nat) (sts : List Stmt) (w : WS) : Prop := ∃ t : TS, (∀ i, PSs (X i) sts t) ∧ ∀ (U0 : Addr → Prop) (G : Env) (σ : L2.St) (H : Hp) (Oo os : List Addr) (E : En) (D : Ends),
  Rep K U0 G σ H Oo os → w E G → OkS K U0 Oo pn W σ H os E D → t D σ H
end
section
variable {ι : Type} {X : ι → Cx} {K : PySem.W.Frag} {W : WX} {pn : List Nat}
/-! ### from what is read -/
@[simp] def eR (r : WR) : WE := fun G P _ => r G fun d => flat d = true ∧ P d G
@[simp] def eZ (js : List Nat) (r : WR) : WE := fun G P _ => r (keepAt js 0 G) fun d => P (frz d) (frzAt js 0 G)
@[simp] def eF (t : WA) : WE := fun G P _ => t G fun ds => flatL ds = true ∧ P (.lst true ds) G
@[simp] def eFZ (js : List Nat) (t : WA) : WE := fun G P _ => t (keepAt js 0 G) fun ds => P (.lst true (frzL ds)) (frzAt js 0 G)
@[simp] def eMov (i : Nat) : WE := fun G P _ => match G[i]? with | some (some d) => P d (G.set i none) | _ => False
theorem e_r {e : Expr} {r : WR} (h : SndR X K e r) : SndE X K W e (eR r) := by
  obtain ⟨t, h1, h2⟩ := h
  refine ⟨t, h1, fun U0 G σ H Oo os P PX Q rep w ok _ => ?_⟩
  refine h2 G σ H _ _ _ rep.vw w fun d v H' p s hv => ?_
  have r1 := rep.same s
  refine ok d G v H' [] os p.2 (Stp.of_same s os) (by rw [List.append_nil]; exact r1) ?_
  have z := (hv.flat (S' := ug U0 (Oo ++ [] ++ os)) p.1).rp (U := ug U0 (Oo ++ [] ++ os)) fun a q => q
  rw [frz_flat d p.1] at z
  exact z
theorem e_z (js : List Nat) {e : Expr} {r : WR} (h : SndR X K e r) : SndE X K W e (eZ js r) := by
  obtain ⟨t, h1, h2⟩ := h
  refine ⟨t, h1, fun U0 G σ H Oo os P PX Q rep w ok _ => ?_⟩
  obtain ⟨os', rep', sub, g⟩ := rep.freeze js
  refine h2 (keepAt js 0 G) σ H _ _ _ g w fun d v H' p s hv => ?_
  refine ok (frz d) _ v H' [] os' p ((Stp.of_same s os).sub sub) (by rw [List.append_nil]; exact rep'.same s) (hv.rp fun a q => ?_)
  rw [List.append_nil]
  rcases q with q | q
  · exact q
  · exact ⟨rep'.un a q, rep'.own.none q⟩
theorem e_f {e : Expr} {t : WA} (h : SndF X K e t) : SndE X K W e (eF t) := by
  obtain ⟨t, h1, h2⟩ := h
  refine ⟨t, h1, fun U0 G σ H Oo os P PX Q rep w ok _ => ?_⟩
  refine h2 G σ H _ _ _ rep.vw w fun ds vs p H' hp s hn hv => ?_
  obtain ⟨r1, r2, r3⟩ := (rep.same s).fresh hn (hv.flat (S' := ug U0 (Oo ++ os)) hp.1)
  rw [frzL_flat ds hp.1] at r2
  exact ok _ G _ _ [p] os hp.2 ((Stp.of_same s os).trans r3) r1 r2
theorem e_fz (js : List Nat) {e : Expr} {t : WA} (h : SndF X K e t) : SndE X K W e (eFZ js t) := by
  obtain ⟨t, h1, h2⟩ := h
  refine ⟨t, h1, fun U0 G σ H Oo os P PX Q rep w ok _ => ?_⟩
  obtain ⟨os', rep', sub, g⟩ := rep.freeze js
  refine h2 (keepAt js 0 G) σ H _ _ _ g w fun ds vs p H' hp s hn hv => ?_
  obtain ⟨r1, r2, r3⟩ := (rep'.same s).fresh hn (hv.mono (S' := ug U0 (Oo ++ os')) (fun a o q _ => q) fun a q ⟨o, e⟩ => by
    rcases q with q | q
    · exact q
    · exact ⟨rep'.un a q, rep'.own.none q⟩)
  exact ok _ _ _ _ [p] os' hp (((Stp.of_same s os).sub sub).trans r3) r1 r2
theorem e_mov (i : Nat) {x : Str} {pos : Pos} (hN : ∀ j, (X j).N[i]? = some x) (hv : ∀ j, Vis (X j).env.scope x) (hd : (x == ("__debug__" : Str)) = false := by decide) (hcd : (x == ("__classdict__" : Str)) = false := by decide) :
    SndE X K W (.Name x pos) (eMov i) := by
  refine ⟨tVar i, fun j => pe_var (hN j) (hv j) hd hcd, fun U0 G σ H Oo os P PX Q rep w ok _ => ?_⟩
  unfold eMov at w
  split at w
  · rename_i d e
    obtain ⟨v, o1, o2, h1, r1, r2, pm⟩ := rep.take e
    exact ⟨v, h1, ok d _ v H o1 o2 w ((Stp.refl H os).sub fun a m => pm.mem_iff.mpr m) r1 r2⟩
  · exact w.elim
/-! ### statements -/
theorem ss_nil : SndSs X K W pn [] (fun E G => E.nx G) := ⟨tNext, fun _ => pss_nil, fun U0 G σ H Oo os E D rep w ok => ok.nx G σ H os w (Stp.refl _ _) rep (Pn.refl _ _)⟩
@[simp] def sSeq (a b : WS) : WS := fun E G => a { E with nx := b E } G
theorem ss_cons {st : Stmt} {sts : List Stmt} {a b : WS} (h : SndS X K W pn st a) (h' : SndSs X K W pn sts b) : SndSs X K W pn (st :: sts) (sSeq a b) := by
  obtain ⟨t, h1, h2⟩ := h
  obtain ⟨u, h3, h4⟩ := h'
  refine ⟨tSeq t u, fun j => pss_cons (h1 j) (h3 j), fun U0 G σ H Oo os E D rep w ok => ?_⟩
  refine h2 U0 G σ H Oo os _ _ rep w ⟨fun G' σ' H' os1 p s r n => ?_, ok.rt, ok.bk, ok.ct, ok.ex⟩
  exact h4 U0 G' σ' H' Oo os1 E D r p (ok.step s n)
theorem ss_one {st : Stmt} {a : WS} (h : SndS X K W pn st a) : SndSs X K W pn [st] a := by
  obtain ⟨t, h1, h2⟩ := h
  exact ⟨t, fun j => pss_one (h1 j), h2⟩
theorem s_pass {pos : Pos} : SndS X K W pn (.Pass pos) (fun E G => E.nx G) := ⟨tNext, fun _ => ps_pass, fun U0 G σ H Oo os E D rep w ok => ok.nx G σ H os w (Stp.refl _ _) rep (Pn.refl _ _)⟩
theorem s_break {pos : Pos} : SndS X K W pn (.Break pos) (fun E G => E.bk G) := ⟨tBreak, fun _ => ps_break, fun U0 G σ H Oo os E D rep w ok => ok.bk G σ H os w (Stp.refl _ _) rep (Pn.refl _ _)⟩
theorem s_continue {pos : Pos} : SndS X K W pn (.Continue pos) (fun E G => E.ct G) := ⟨tCont, fun _ => ps_continue, fun U0 G σ H Oo os E D rep w ok => ok.ct G σ H os w (Stp.refl _ _) rep (Pn.refl _ _)⟩
@[simp] def sExpr (w : WE) : WS := fun E G => w G (fun _ G' => E.nx G') E.ex
theorem s_expr {e : Expr} {w : WE} {pos : Pos} (h : SndE X K W e w) (hs : ∀ j, swapsWith e none pos.line (X j).env = pure false := by intro _; rfl) : SndS X K W pn (.Expr e pos) (sExpr w) := by
  obtain ⟨t, h1, h2⟩ := h
  refine ⟨tDrop t, fun j => ps_expr (h1 j) (hs j), fun U0 G σ H Oo os E D rep w ok => ?_⟩
  exact h2 U0 G σ H Oo os _ _ _ rep w (fun d G' v H' o2 os1 p s r x => ok.nx G' σ H' os1 p (s.sub fun a m => List.mem_append_right _ m) r.less (Pn.refl _ _)) ok.ex.here
@[simp] def sRet (w : WE) : WS := fun E G => w G (fun d G' => E.rt d G') E.ex
theorem s_ret {e : Expr} {w : WE} {pos : Pos} (h : SndE X K W e w) : SndS X K W pn (.Return (some e) pos) (sRet w) := by
  obtain ⟨t, h1, h2⟩ := h
  refine ⟨tRet t, fun j => ps_ret (h1 j), fun U0 G σ H Oo os E D rep w ok => ?_⟩
  exact h2 U0 G σ H Oo os _ _ _ rep w (fun d G' v H' o2 os1 p s r x => ok.rt d G' v σ H' o2 os1 p s r x (Pn.refl _ _)) ok.ex.here
@[simp] def sSet (i : Nat) (w : WE) : WS := fun E G => w G (fun d G' => E.nx (G'.set i (some d))) E.ex
theorem s_asg {tg e : Expr} {i : Nat} {w : WE} {st : Stmt} (hi : i ∉ pn) (h : SndE X K W e w) (hp : ∀ t, (∀ j, PE (X j) e t) → ∀ j, PS (X j) st (tAsg t (gName i))) : SndS X K W pn st (sSet i w) := by
  obtain ⟨t, h1, h2⟩ := h
  refine ⟨tAsg t (gName i), hp t h1, fun U0 G σ H Oo os E D rep w ok => ?_⟩
  refine h2 U0 G σ H Oo os _ _ _ rep w (fun d G' v H' o2 os1 p s r x => ?_) ok.ex.here
  obtain ⟨os', r', sub⟩ := r.set i x
  exact ok.nx _ _ H' os' p (s.sub sub) r' (Pn.set hi)
theorem s_set (i : Nat) {x : Str} {e : Expr} {w : WE} {pos pos' : Pos} (h : SndE X K W e w) (hi : i ∉ pn := by decide) (hN : ∀ j, (X j).N.Nodup) (hn : ∀ j, (X j).N[i]? = some x := by intro _; rfl) (hx : ∀ j, Loc (X j).env.scope x)
    (hs : ∀ j, swapsWith e (some (.Name x pos')) pos.line (X j).env = pure false := by intro _; rfl) (hf : ∀ j, (X j).fn x = true ∨ (X j).env.scope.names.lookup x = some .local) : SndS X K W pn (.Assign [.Name x pos'] e pos) (sSet i w) := by
  refine s_asg (tg := .Name x pos') hi h fun t h1 j => ?_
  exact ps_set (hN j) (hn j) (hx j) (h1 j) (hs j) (hf j)
/-! tests -/
@[simp] def bT (t : WT) : WB := fun G P _ => t G fun b => P b G
@[simp] def bE (w : WE) : WB := fun G P PX => w G (fun d G' => match d with | .bl b => P b G' | _ => False) PX
theorem b_t {e : Expr} {t : WT} (h : SndT X K e t) : SndB X K W e (bT t) := by
  obtain ⟨u, h1, h2⟩ := h
  refine ⟨u, h1, fun U0 G σ H Oo os P PX Q rep w ok _ => ?_⟩
  exact h2 G σ H _ _ _ rep.vw w fun b H' p s => ok b G H' os p (Stp.of_same s os) (rep.same s)
theorem rp_bl {U : Addr → Prop} {H : Hp} {b : Bool} {v : V} {o : List Addr} (h : Rp K H U (.bl b) v o) : v = .bl b ∧ o = [] := by
  cases h
  exact ⟨rfl, rfl⟩
theorem b_e {e : Expr} {w : WE} (h : SndE X K W e w) (he : ∀ j whole, isTrue e (X j).env whole = (do let v ← whole; standAt e.pos; holding [v] (truthy v)) := by intro _ _; rfl) : SndB X K W e (bE w) := by
  obtain ⟨t, h1, h2⟩ := h
  refine ⟨tB t, fun j => pt_val (h1 j) (he j), fun U0 G σ H Oo os P PX Q rep w ok okx => ?_⟩
  refine h2 U0 G σ H Oo os _ _ _ rep w (fun d G' v H' o2 os1 p s r x => ?_) okx
  cases d with
  | bl b =>
    obtain ⟨rfl, rfl⟩ := rp_bl x
    exact ⟨b, rfl, ok b G' H' os1 p s r.less⟩
  | _ => exact p.elim
@[simp] def bNot (w : WB) : WB := fun G P PX => w G (fun b G' => P (!b) G') PX
@[simp] def bAnd (a b : WB) : WB := fun G P PX => a G (fun c G' => if c = true then b G' P PX else P false G') PX
@[simp] def bOr (a b : WB) : WB := fun G P PX => a G (fun c G' => if c = true then P true G' else b G' P PX) PX
theorem b_not {e : Expr} {w : WB} {pos : Pos} (h : SndB X K W e w) : SndB X K W (.UnaryOp .Not e pos) (bNot w) := by
  obtain ⟨t, h1, h2⟩ := h
  exact ⟨tNot t, fun j => pt_not (h1 j), fun U0 G σ H Oo os P PX Q rep w ok okx => h2 U0 G σ H Oo os _ _ _ rep w (fun b G' H' os1 p s r => ok (!b) G' H' os1 p s r) okx⟩
theorem b_w {e : Expr} {w : WB} (h : SndBW X K W e w) : SndB X K W e w := by
  obtain ⟨t, h1, h2⟩ := h
  exact ⟨t, fun j => (h1 j).pt, h2⟩
theorem bw_and1 {e : Expr} {w : WB} {pos : Pos} (h : SndB X K W e w) : SndBW X K W (.BoolOp .And [e] pos) w := by
  obtain ⟨t, h1, h2⟩ := h
  exact ⟨t, fun j => pw_and1 (h1 j), h2⟩
theorem bw_or1 {e : Expr} {w : WB} {pos : Pos} (h : SndB X K W e w) : SndBW X K W (.BoolOp .Or [e] pos) w := by
  obtain ⟨t, h1, h2⟩ := h
  exact ⟨t, fun j => pw_or1 (h1 j), h2⟩
theorem bw_and {a b : Expr} {rest : List Expr} {t u : WB} {pos : Pos} (h : SndB X K W a t) (h' : SndBW X K W (.BoolOp .And (b :: rest) pos) u) : SndBW X K W (.BoolOp .And (a :: b :: rest) pos) (bAnd t u) := by
  obtain ⟨ta, a1, a2⟩ := h
  obtain ⟨tb, b1, b2⟩ := h'
  refine ⟨tAnd ta tb, fun j => pw_and (a1 j) (b1 j), fun U0 G σ H Oo os P PX Q rep w ok okx => ?_⟩
  refine a2 U0 G σ H Oo os _ _ _ rep w (fun c G' H' os1 p s r => ?_) okx
  cases c with
  | true => exact b2 U0 G' σ H' Oo os1 _ _ _ r p (ok.step s) (okx.step s)
  | false => exact ok false G' H' os1 p s r
theorem bw_or {a b : Expr} {rest : List Expr} {t u : WB} {pos : Pos} (h : SndB X K W a t) (h' : SndBW X K W (.BoolOp .Or (b :: rest) pos) u) : SndBW X K W (.BoolOp .Or (a :: b :: rest) pos) (bOr t u) := by
  obtain ⟨ta, a1, a2⟩ := h
  obtain ⟨tb, b1, b2⟩ := h'
  refine ⟨tOr ta tb, fun j => pw_or (a1 j) (b1 j), fun U0 G σ H Oo os P PX Q rep w ok okx => ?_⟩
  refine a2 U0 G σ H Oo os _ _ _ rep w (fun c G' H' os1 p s r => ?_) okx
  cases c with
  | true => exact ok true G' H' os1 p s r
  | false => exact b2 U0 G' σ H' Oo os1 _ _ _ r p (ok.step s) (okx.step s)
@[simp] def sIf (c : WB) (a b : WS) : WS := fun E G => c G (fun k G' => if k = true then a E G' else b E G') E.ex
theorem s_if {c : Expr} {a b : List Stmt} {wc : WB} {wa wb : WS} {pos : Pos} (hc : SndB X K W c wc) (ha : SndSs X K W pn a wa) (hb : SndSs X K W pn b wb) : SndS X K W pn (.If c a b pos) (sIf wc wa wb) := by
  obtain ⟨tc, c1, c2⟩ := hc
  obtain ⟨ta, a1, a2⟩ := ha
  obtain ⟨tb, b1, b2⟩ := hb
  refine ⟨tIfS tc ta tb, fun j => ps_if (c1 j) (a1 j) (b1 j), fun U0 G σ H Oo os E D rep w ok => ?_⟩
  refine c2 U0 G σ H Oo os _ _ _ rep w (fun k G' H' os1 p s r => ?_) ok.ex.here
  cases k with
  | true => exact a2 U0 G' σ H' Oo os1 E D r p (ok.step s (Pn.refl _ _))
  | false => exact b2 U0 G' σ H' Oo os1 E D r p (ok.step s (Pn.refl _ _))
/-! ### argument lists, displays -/
@[simp] def lNil : WL := fun G P _ => P [] G
@[simp] def lCons (w : WE) (t : WL) : WL := fun G P PX => w G (fun d G' => t G' (fun ds G'' => P (d :: ds) G'') PX) PX
theorem l_nil : SndL X K W [] lNil := ⟨tNil, fun _ => pa_nil, fun U0 G σ H Oo os P PX Q rep w ok _ => ok [] G [] H [] os w (Stp.refl _ _) (by rw [List.append_nil]; exact rep) .nil⟩
theorem l_cons {e : Expr} {es : List Expr} {w : WE} {t : WL} (h : SndE X K W e w) (h' : SndL X K W es t) (hs : ∀ j, starEach (e :: es) (X j).env = (false, eval e (X j).env) :: starEach es (X j).env := by intro _; rfl) : SndL X K W (e :: es) (lCons w t) := by
  obtain ⟨ta, a1, a2⟩ := h
  obtain ⟨tb, b1, b2⟩ := h'
  refine ⟨tCons ta tb, fun j => pa_cons (a1 j) (b1 j) (hs j), fun U0 G σ H Oo os P PX Q rep w ok okx => ?_⟩
  refine a2 U0 G σ H Oo os _ _ _ rep w (fun d G1 v H1 o1 os1 p s r x => ?_) okx
  refine b2 U0 G1 σ H1 (Oo ++ o1) os1 _ _ _ r p (fun ds G2 vs H2 o2 os2 p2 s2 r2 x2 => ?_) (okx.more s)
  have st : Stp H H2 os ((o1 ++ o2) ++ os2) := by
    rw [List.append_assoc]
    exact s.trans s2.wide
  have x1 := aside s2 r.own x
  have e1 : Oo ++ o1 ++ (o2 ++ os2) = (Oo ++ (o1 ++ o2)) ++ os2 := by simp [List.append_assoc]
  have e2 : Oo ++ o1 ++ o2 = Oo ++ (o1 ++ o2) := by simp [List.append_assoc]
  rw [e1] at x1
  rw [e2] at r2 x2
  exact ok (d :: ds) G2 (v :: vs) H2 (o1 ++ o2) os2 p2 st r2 (.cons x1 x2)
end
end T
namespace T
open PySem PySem.Spec PyProof.Rows L2
/-! ### displays and operations over what may change the slots -/
section
variable {ι : Type} {X : ι → Cx} {K : PySem.W.Frag} {W : WX} {pn : List Nat}
@[simp] def eTup (t : WL) : WE := fun G P PX => t G (fun ds G' => ds.length ≤ 100000 ∧ P (.tup ds) G') PX
@[simp] def eLst (t : WL) : WE := fun G P PX => t G (fun ds G' => ds.length ≤ 100000 ∧ P (.lst true ds) G') PX
theorem stp_new {H : Hp} {p : Addr} {o : HO} {os : List Addr} (hn : H p = none) : Stp H (upd H p o) os os := Stp.of_same (same_new hn) os
theorem e_tup {es : List Expr} {t : WL} {x1} {pos : Pos} (h : SndL X K W es t) : SndE X K W (.Tuple es x1 pos) (eTup t) := by
  obtain ⟨ta, a1, a2⟩ := h
  refine ⟨tTup ta, fun j => pe_tup (a1 j), fun U0 G σ H Oo os P PX Q rep w ok okx => ?_⟩
  refine a2 U0 G σ H Oo os _ _ _ rep w (fun ds G1 vs H1 o1 os1 p s r x => ?_) okx
  refine ⟨by rw [← x.length]; exact small_line p.1, fun a ha => ?_⟩
  refine ok _ G1 _ _ o1 os1 p.2 (s.trans (stp_new ha)) (r.same (same_new ha)) (.tup (.inl (.inl upd_same)) ?_)
  exact x.mono (os0 := o1) (fun b o q _ => same_new ha b o q) (fun _ u _ => u) fun _ m => m
theorem e_lst {es : List Expr} {t : WL} {pos : Pos} (h : SndL X K W es t) : SndE X K W (.List es pos) (eLst t) := by
  obtain ⟨ta, a1, a2⟩ := h
  refine ⟨tLst ta, fun j => pe_lst (a1 j), fun U0 G σ H Oo os P PX Q rep w ok okx => ?_⟩
  refine a2 U0 G σ H Oo os _ _ _ rep w (fun ds G1 vs H1 o1 os1 p s r x => ?_) okx
  refine ⟨by rw [← x.length]; exact small_line p.1, fun a ha => ?_⟩
  have sm : Same H1 (upd H1 a (.lst vs)) := same_new ha
  have na : a ∉ (Oo ++ o1) ++ os1 := r.own.none ha
  have r1 := r.same sm
  have pm : (a :: ((Oo ++ o1) ++ os1)).Perm ((Oo ++ (a :: o1)) ++ os1) := by
    rw [List.append_assoc, List.append_assoc, List.cons_append]
    exact List.perm_middle.symm
  have gu : ∀ b, ug U0 ((Oo ++ o1) ++ os1) b → (∃ o, H1 b = some o) → ug U0 ((Oo ++ (a :: o1)) ++ os1) b := fun b u ⟨o, e⟩ => ⟨u.1, fun m => by
    rcases List.mem_cons.mp (pm.mem_iff.mpr m) with z | z
    · subst z
      rw [ha] at e; cases e
    · exact u.2 z⟩
  have ow : Own (upd H1 a (.lst vs)) (a :: ((Oo ++ o1) ++ os1)) := ⟨List.nodup_cons.mpr ⟨na, r.own.1⟩, fun b m => by
    rcases List.mem_cons.mp m with z | z
    · subst z
      exact ⟨_, upd_same, trivial⟩
    · exact r1.own.2 b z⟩
  refine ok _ G1 _ _ (a :: o1) os1 p.2 ⟨fun b o e n => sm b o (s.keep b o e n), fun b m => ?_, fun b o e => ?_⟩ ⟨?_, ow.perm pm, fun b m => ?_, r1.un⟩ (.lstO upd_same ?_)
  · rcases List.mem_cons.mp m with z | z
    · subst z
      exact .inr (s.free ha)
    · exact s.new b z
  · obtain ⟨o', q⟩ := s.dom b o e
    exact ⟨o', sm b o' q⟩
  · exact r.g.mono (os0 := os1) (fun b o q _ => sm b o q) gu fun _ m => m
  · rcases List.mem_cons.mp (pm.mem_iff.mpr m) with z | z
    · subst z
      exact r.un _ ha
    · exact r.u0 b z
  · exact x.mono (os0 := o1) (fun b o q _ => sm b o q) gu fun _ m => m
/-- what is kept aside is let go: its data leans on what others may lean on -/
theorem letgo {U0 : Addr → Prop} {G : T.Env} {σ : L2.St} {H : Hp} {Oo os o2 : List Addr} {ds : List D} {vs : List V} (r : Rep K U0 G σ H (Oo ++ o2) os) (h : RpL K H (ug U0 ((Oo ++ o2) ++ os)) ds vs o2) : VwL K H (ug U0 (Oo ++ os)) ds vs := by
  have hs : ∀ a ∈ Oo ++ os, a ∈ (Oo ++ o2) ++ os := fun a m => by
    rcases List.mem_append.mp m with z | z
    · exact List.mem_append_left _ (List.mem_append_left _ z)
    · exact List.mem_append_right _ z
  refine h.vw (S := ug U0 (Oo ++ os)) (fun a m => ⟨r.u0 a (List.mem_append_left _ (List.mem_append_right _ m)), fun q => ?_⟩) (ug_sub hs)
  have nd := r.own.1
  rw [List.append_assoc] at nd
  obtain ⟨_, h2, h3⟩ := List.nodup_append.mp nd
  rcases List.mem_append.mp q with z | z
  · exact h3 a z a (List.mem_append_left _ m) rfl
  · exact (List.nodup_append.mp h2).2.2 a m a z rfl
theorem Rep.grow {U0 : Addr → Prop} {G : T.Env} {σ : L2.St} {H H' : Hp} {Oo os : List Addr} (r : Rep K U0 G σ H Oo os) {a : Addr} (h : gr (ug U0 (Oo ++ os)) H a) : ug U0 (Oo ++ os) a := by
  rcases h with h | h
  · exact h
  · exact ⟨r.un a h, r.own.none h⟩
/-- a value that leans on what others may lean on -/
theorem OkE.view {U0 : Addr → Prop} {G : T.Env} {σ : L2.St} {H H' : Hp} {Oo os : List Addr} {P : D → T.Env → Prop} {Q : VK} {d : D} {v : V} (ok : OkE K U0 Oo σ H os P Q) (r : Rep K U0 G σ H Oo os) (s : Same H H') (h : Vw K H' (gr (ug U0 (Oo ++ os)) H) d v) (p : P (frz d) G) : Q v H' := by
  have r1 := r.same s
  refine ok (frz d) G v H' [] os p (Stp.of_same s os) (by rw [List.append_nil]; exact r1) ?_
  rw [List.append_nil]
  exact h.rp fun a z => r.grow (H' := H') z
/-- a new list that leans on what others may lean on -/
theorem OkE.viewF {U0 : Addr → Prop} {G : T.Env} {σ : L2.St} {H H' : Hp} {Oo os : List Addr} {P : D → T.Env → Prop} {Q : VK} {ds : List D} {vs : List V} {p : Addr} (ok : OkE K U0 Oo σ H os P Q) (r : Rep K U0 G σ H Oo os) (s : Same H H') (hn : H' p = none) (h : VwL K H' (gr (ug U0 (Oo ++ os)) H) ds vs)
    (pp : P (.lst true (frzL ds)) G) : Q (.ref p) (upd H' p (.lst vs)) := by
  obtain ⟨r1, r2, r3⟩ := (r.same s).fresh hn (h.mono (S' := ug U0 (Oo ++ os)) (fun a o q _ => q) fun a z _ => r.grow (H' := H') z)
  exact ok _ _ _ _ [p] os pp ((Stp.of_same s os).trans r3) r1 r2
section
variable {a b e : Expr} {wa wb : WE} {r : R2} {f : D → D → (D → Prop) → Prop} {ff : D → D → (List D → Prop) → Prop} {pos : Pos}
@[simp] def eOp (f : D → D → (D → Prop) → Prop) (wa wb : WE) : WE := fun G P PX => wa G (fun x G1 => wb G1 (fun y G2 => f (frz x) (frz y) fun d => P (frz d) G2) PX) PX
theorem e_two {e' : Expr} (he : ∀ ta tb, (∀ j, PE (X j) a ta) → (∀ j, PE (X j) b tb) → ∀ j, PE (X j) e' (tOp r ta tb)) (ok : OpOk K r f) (ha : SndE X K W a wa) (hb : SndE X K W b wb) : SndE X K W e' (eOp f wa wb) := by
  obtain ⟨ta, a1, a2⟩ := ha
  obtain ⟨tb, b1, b2⟩ := hb
  refine ⟨tOp r ta tb, he ta tb a1 b1, fun U0 G σ H Oo os P PX Q rep w ok2 okx => ?_⟩
  refine a2 U0 G σ H Oo os _ _ _ rep w (fun x G1 v H1 o1 os1 p1 s1 r1 x1 => ?_) okx
  refine b2 U0 G1 σ H1 (Oo ++ o1) os1 _ _ _ r1 p1 (fun y G2 u H2 o2 os2 p2 s2 r2 x2 => ?_) (okx.more s1)
  have z1 := aside s2 r1.own x1
  have e1 : Oo ++ o1 ++ (o2 ++ os2) = (Oo ++ (o1 ++ o2)) ++ os2 := by simp [List.append_assoc]
  have e2 : Oo ++ o1 ++ o2 = Oo ++ (o1 ++ o2) := by simp [List.append_assoc]
  rw [e1] at z1
  rw [e2] at r2 x2
  have pr : RpL K H2 (ug U0 ((Oo ++ (o1 ++ o2)) ++ os2)) [x, y] [v, u] (o1 ++ o2) := by
    have q := RpL.cons z1 (RpL.cons x2 .nil)
    simpa using q
  have vw := letgo r2 pr
  cases vw with
  | cons w1 w2 =>
    cases w2 with
    | cons w2 _ =>
      have st : Stp H H2 os os2 := (s1.trans s2.wide).sub fun c m => List.mem_append_right _ (List.mem_append_right _ m)
      exact ok H2 (ug U0 (Oo ++ os2)) _ _ v u _ Q w1.frz w2.frz p2 fun d z H3 hp s3 hz => (ok2.step st).view r2.less s3 hz hp
theorem e_bin {op : Operator} (ho : ∀ j, OpR (X j) (binaryOp op) r) (ok : OpOk K r f) (ha : SndE X K W a wa) (hb : SndE X K W b wb) : SndE X K W (.BinOp a op b pos) (eOp f wa wb) :=
  e_two (fun ta tb h1 h2 j => pe_op (ho j) (h1 j) (h2 j)) ok ha hb
theorem e_cmp {op : CmpOp} (ho : ∀ j, OpR (X j) (compareOp op) r) (ok : OpOk K r f) (ha : SndE X K W a wa) (hb : SndE X K W b wb) (hm : behindInMarks op b = false) : SndE X K W (.Compare a [op] [b] pos) (eOp f wa wb) :=
  e_two (fun ta tb h1 h2 j => pe_cmpR (ho j) (h1 j) (h2 j) hm) ok ha hb
theorem e_ix (hr : ∀ j, IxR (X j) r) (ok : OpOk K r f) (ha : SndE X K W a wa) (hb : SndE X K W b wb) (hs : PlainIx b) : SndE X K W (.Subscript a b pos) (eOp f wa wb) :=
  e_two (fun ta tb h1 h2 j => pe_ix (hr j) (h1 j) (h2 j) hs) ok ha hb
@[simp] def bOp (f : D → D → (D → Prop) → Prop) (wa wb : WE) : WB := fun G P PX => wa G (fun x G1 => wb G1 (fun y G2 => f (frz x) (frz y) fun d => match d with | .bl b => P b G2 | _ => False) PX) PX
theorem b_cmp {op : CmpOp} (ho : ∀ j, OpR (X j) (compareOp op) r) (ok : OpOk K r f) (ha : SndE X K W a wa) (hb : SndE X K W b wb) (hm : behindInMarks op b = false) : SndB X K W (.Compare a [op] [b] pos) (bOp f wa wb) := by
  obtain ⟨ta, a1, a2⟩ := ha
  obtain ⟨tb, b1, b2⟩ := hb
  refine ⟨tTest (tOp r ta tb), fun j => pt_cmpR (ho j) (a1 j) (b1 j) hm, fun U0 G σ H Oo os P PX Q rep w ok2 okx => ?_⟩
  refine a2 U0 G σ H Oo os _ _ _ rep w (fun x G1 v H1 o1 os1 p1 s1 r1 x1 => ?_) okx
  refine b2 U0 G1 σ H1 (Oo ++ o1) os1 _ _ _ r1 p1 (fun y G2 u H2 o2 os2 p2 s2 r2 x2 => ?_) (okx.more s1)
  have z1 := aside s2 r1.own x1
  have e1 : Oo ++ o1 ++ (o2 ++ os2) = (Oo ++ (o1 ++ o2)) ++ os2 := by simp [List.append_assoc]
  have e2 : Oo ++ o1 ++ o2 = Oo ++ (o1 ++ o2) := by simp [List.append_assoc]
  rw [e1] at z1
  rw [e2] at r2 x2
  have pr : RpL K H2 (ug U0 ((Oo ++ (o1 ++ o2)) ++ os2)) [x, y] [v, u] (o1 ++ o2) := by
    have q := RpL.cons z1 (RpL.cons x2 .nil)
    simpa using q
  have vw := letgo r2 pr
  cases vw with
  | cons w1 w2 =>
    cases w2 with
    | cons w2 _ =>
      have st : Stp H H2 os os2 := (s1.trans s2.wide).sub fun c m => List.mem_append_right _ (List.mem_append_right _ m)
      refine ok H2 (ug U0 (Oo ++ os2)) _ _ v u _ _ w1.frz w2.frz p2 fun d z H3 hp s3 hz => ?_
      cases d with
      | bl b =>
        cases vw_bl hz
        exact ⟨b, rfl, ok2 b G2 H3 os2 hp (st.trans (Stp.of_same s3 os2)) (r2.less.same s3)⟩
      | _ => exact hp.elim
end
@[simp] def eCB (f : List D → (D → Prop) → Prop) (t : WL) : WE := fun G P PX => t G (fun ds G' => f (frzL ds) fun d => P (frz d) G') PX
@[simp] def eCBF (f : List D → (List D → Prop) → Prop) (t : WL) : WE := fun G P PX => t G (fun ds G' => f (frzL ds) fun d => P (.lst true (frzL d)) G') PX
section
variable {e : Expr} {es : List Expr} {x : Str} {p pos : Pos} {Ty id : String} {r : List V → Hp → VK → Prop} {f : List D → (D → Prop) → Prop} {ff : List D → (List D → Prop) → Prop} {t : WL}
theorem ecb_core {e' : Expr} (he : ∀ ta, (∀ j, PA (X j) (e :: es) ta) → ∀ j, PE (X j) e' (tCB r ta)) (ok : CallOk K r f) (h : SndL X K W (e :: es) t) : SndE X K W e' (eCB f t) := by
  obtain ⟨ta, a1, a2⟩ := h
  refine ⟨tCB r ta, he ta a1, fun U0 G σ H Oo os P PX Q rep w ok2 okx => ?_⟩
  refine a2 U0 G σ H Oo os _ _ _ rep w (fun ds G1 vs H1 o1 os1 p1 s1 r1 x1 => ?_) okx
  exact ok H1 _ _ vs _ Q (letgo r1 x1).frz p1 fun d z H3 hp s3 hz => (ok2.step (s1.sub fun c m => List.mem_append_right _ m)).view r1.less s3 hz hp
theorem ecb_coreF {e' : Expr} (he : ∀ ta, (∀ j, PA (X j) (e :: es) ta) → ∀ j, PE (X j) e' (tCB r ta)) (ok : CallOkF K r ff) (h : SndL X K W (e :: es) t) : SndE X K W e' (eCBF ff t) := by
  obtain ⟨ta, a1, a2⟩ := h
  refine ⟨tCB r ta, he ta a1, fun U0 G σ H Oo os P PX Q rep w ok2 okx => ?_⟩
  refine a2 U0 G σ H Oo os _ _ _ rep w (fun ds G1 vs H1 o1 os1 p1 s1 r1 x1 => ?_) okx
  exact ok H1 _ _ vs _ Q (letgo r1 x1).frz p1 fun ds z q H3 hp s3 hn hz => (ok2.step (s1.sub fun c m => List.mem_append_right _ m)).viewF r1.less s3 hn hz hp
theorem e_callB (hc : ∀ j, CallR (X j) (.builtin id) r) (ok : CallOk K r f) (hg : ∀ j, Gl (X j) x) (hm : ∀ j, (X j).mg x = none) (hv : bootBuiltins x = some (.builtin id)) (h : SndL X K W (e :: es) t) (hn : x ≠ "__name__" := by decide) (hdb : (x == ("__debug__" : Str)) = false := by decide)
    (hs : ∀ j, starEach (e :: es) (X j).env = (false, eval e (X j).env) :: starEach es (X j).env := by intro _; rfl) (hpl : ∀ j, (backTo pos (starEach es (X j).env)).any (·.1) = false := by intro _; rfl) : SndE X K W (.Call (.Name x p) (e :: es) [] pos) (eCB f t) :=
  ecb_core (fun ta h j => pe_callB (hc j) (hg j) (hm j) hv (h j) hn hdb (hs j) (hpl j)) ok h
theorem e_callTy (hc : ∀ j, CallR (X j) (.type Ty) r) (ok : CallOk K r f) (hg : ∀ j, Gl (X j) x) (hm : ∀ j, (X j).mg x = none) (hv : bootBuiltins x = some (.type Ty)) (h : SndL X K W (e :: es) t) (hn : x ≠ "__name__" := by decide) (hdb : (x == ("__debug__" : Str)) = false := by decide)
    (hs : ∀ j, starEach (e :: es) (X j).env = (false, eval e (X j).env) :: starEach es (X j).env := by intro _; rfl) (hpl : ∀ j, (backTo pos (starEach es (X j).env)).any (·.1) = false := by intro _; rfl) : SndE X K W (.Call (.Name x p) (e :: es) [] pos) (eCB f t) :=
  ecb_core (fun ta h j => pe_callTy (hc j) (hg j) (hm j) hv (h j) hn hdb (hs j) (hpl j)) ok h
theorem e_callBF (hc : ∀ j, CallR (X j) (.builtin id) r) (ok : CallOkF K r ff) (hg : ∀ j, Gl (X j) x) (hm : ∀ j, (X j).mg x = none) (hv : bootBuiltins x = some (.builtin id)) (h : SndL X K W (e :: es) t) (hn : x ≠ "__name__" := by decide) (hdb : (x == ("__debug__" : Str)) = false := by decide)
    (hs : ∀ j, starEach (e :: es) (X j).env = (false, eval e (X j).env) :: starEach es (X j).env := by intro _; rfl) (hpl : ∀ j, (backTo pos (starEach es (X j).env)).any (·.1) = false := by intro _; rfl) : SndE X K W (.Call (.Name x p) (e :: es) [] pos) (eCBF ff t) :=
  ecb_coreF (fun ta h j => pe_callB (hc j) (hg j) (hm j) hv (h j) hn hdb (hs j) (hpl j)) ok h
theorem e_callTyF (hc : ∀ j, CallR (X j) (.type Ty) r) (ok : CallOkF K r ff) (hg : ∀ j, Gl (X j) x) (hm : ∀ j, (X j).mg x = none) (hv : bootBuiltins x = some (.type Ty)) (h : SndL X K W (e :: es) t) (hn : x ≠ "__name__" := by decide) (hdb : (x == ("__debug__" : Str)) = false := by decide)
    (hs : ∀ j, starEach (e :: es) (X j).env = (false, eval e (X j).env) :: starEach es (X j).env := by intro _; rfl) (hpl : ∀ j, (backTo pos (starEach es (X j).env)).any (·.1) = false := by intro _; rfl) : SndE X K W (.Call (.Name x p) (e :: es) [] pos) (eCBF ff t) :=
  ecb_coreF (fun ta h j => pe_callTy (hc j) (hg j) (hm j) hv (h j) hn hdb (hs j) (hpl j)) ok h
end
end
end T
namespace T
open PySem PySem.Spec PyProof.Rows L2
/-- what a def does: its arguments; what follows its answer and the arguments that it may change, as they are then; what follows an exception (its class) -/
abbrev FSp := List D → (D → List D → Prop) → (Nat → List D → Prop) → Prop
section
variable (K : PySem.W.Frag) (H : Hp) (S : Addr → Prop)
/-- the arguments: m tells which ones may be changed -/
inductive ArgR : List Bool → List D → List V → List Addr → Prop
  | nil : ArgR [] [] [] []
  | bor {m : List Bool} {d : D} {v : V} {ds : List D} {vs : List V} {os : List Addr} : Vw K H S d v → frz d = d → ArgR m ds vs os → ArgR (false :: m) (d :: ds) (v :: vs) os
  | mut {m : List Bool} {d : D} {v : V} {ds : List D} {vs : List V} {o1 os : List Addr} : Rp K H S d v o1 → ArgR m ds vs os → ArgR (true :: m) (d :: ds) (v :: vs) (o1 ++ os)
inductive MutR : List Bool → List V → List D → List Addr → Prop
  | nil : MutR [] [] [] []
  | bor {m : List Bool} {v : V} {ds : List D} {vs : List V} {os : List Addr} : MutR m vs ds os → MutR (false :: m) (v :: vs) ds os
  | mut {m : List Bool} {d : D} {v : V} {ds : List D} {vs : List V} {o1 os : List Addr} : Rp K H S d v o1 → MutR m vs ds os → MutR (true :: m) (v :: vs) (d :: ds) (o1 ++ os)
end
/-- the promise -/
def conc (K : PySem.W.Frag) (m : List Bool) (A : FSp) : Sp := fun vs H Q E => ∃ (S : Addr → Prop) (ds : List D) (os : List Addr) (P : D → List D → Prop) (PX : Nat → List D → Prop), (∀ a, S a → a ∉ os) ∧ ArgR K H S m ds vs os ∧ Own H os ∧ A ds P PX ∧
  (∀ d ds', P d ds' → ∀ v H' o2 o1, Stp H H' os (o2 ++ o1) → Own H' (o2 ++ o1) → MutR K H' (ug (fun a => S a ∨ a ∈ os ∨ H a = none) (o2 ++ o1)) m vs ds' o1 → Rp K H' (ug (fun a => S a ∨ a ∈ os ∨ H a = none) (o2 ++ o1)) d v o2 → Q v H') ∧
  (∀ c ds', PX c ds' → ∀ H' o1, Stp H H' os o1 → Own H' o1 → MutR K H' (ug (fun a => S a ∨ a ∈ os ∨ H a = none) o1) m vs ds' o1 → E (.ref c) none H')
/-- the changed arguments, from the slots -/
@[simp] def mutsOf : List Bool → T.Env → Option (List D)
  | [], _ => some []
  | false :: m, _ :: G => mutsOf m G
  | true :: m, some d :: G => (mutsOf m G).map (d :: ·)
  | _, _ => none
def mutIx : List Bool → Nat → List Nat
  | [], _ => []
  | false :: m, k => mutIx m (k + 1)
  | true :: m, k => k :: mutIx m (k + 1)
@[simp] def enOf (m : List Bool) (P : D → List D → Prop) (PX : Nat → List D → Prop) : En where
  nx := fun G => match mutsOf m G with | some ds => P .non ds | none => False
  rt := fun d G => match mutsOf m G with | some ds => P d ds | none => False
  bk := fun _ => False
  ct := fun _ => False
  ex := fun c G => match mutsOf m G with | some ds => PX c ds | none => False
@[simp] def env0 (ds : List D) (n : Nat) : T.Env := ds.map some ++ List.replicate (n - ds.length) none
section
variable {K : PySem.W.Frag} {H : Hp} {S U : Addr → Prop}
theorem ArgR.lens : ∀ {m : List Bool} {ds : List D} {vs : List V} {os : List Addr}, ArgR K H S m ds vs os → vs.length = m.length ∧ ds.length = m.length
  | _, _, _, _, .nil => ⟨rfl, rfl⟩
  | _, _, _, _, .bor _ _ t => by
    have h := ArgR.lens t
    exact ⟨by simp [h.1], by simp [h.2]⟩
  | _, _, _, _, .mut _ t => by
    have h := ArgR.lens t
    exact ⟨by simp [h.1], by simp [h.2]⟩
theorem rpG_none : ∀ n : Nat, RpG K H U (List.replicate n none) (List.replicate n none) []
  | 0 => .nil
  | n + 1 => .skip _ (rpG_none n)
theorem ArgR.g (hu : ∀ a, S a → U a) (n : Nat) : ∀ {m : List Bool} {ds : List D} {vs : List V} {os : List Addr}, ArgR K H S m ds vs os → RpG K H U (ds.map some ++ List.replicate n none) (vs.map some ++ List.replicate n none) os
  | _, _, _, _, .nil => rpG_none n
  | _, _, _, _, .bor h e t => by
    have r := h.rp hu
    rw [e] at r
    exact .cons (o1 := []) r (ArgR.g hu n t)
  | _, _, _, _, .mut h t => .cons (h.mono (os0 := _) (fun a o q _ => q) (fun a s _ => hu a s) fun a m => m) (ArgR.g hu n t)
theorem mut_of {H' : Hp} : ∀ {m : List Bool} {G : T.Env} {σ : L2.St} {os : List Addr} {vs : List V} {ds : List D}, RpG K H' U G σ os → mutsOf m G = some ds → vs.length = m.length → (∀ k : Nat, m[k]? = some true → σ[k]? = (vs[k]?).map some) →
    ∃ o1, MutR K H' U m vs ds o1 ∧ o1.Sublist os
  | [], _, _, _, vs, _, _, e, hl, _ => by
    have : vs = [] := List.length_eq_zero_iff.mp (by simpa using hl)
    subst this
    simp [mutsOf] at e
    subst e
    exact ⟨[], .nil, List.nil_sublist _⟩
  | b :: m, _, _, _, [], _, _, _, hl, _ => by simp at hl
  | false :: m, [], _, _, _, _, _, e, _, _ => by simp [mutsOf] at e
  | true :: m, [], _, _, _, _, _, e, _, _ => by simp [mutsOf] at e
  | false :: m, none :: G, _, _, v :: vs, ds, .skip x t, e, hl, hs => by
    obtain ⟨o1, h1, h2⟩ := mut_of t (by simpa [mutsOf] using e) (by simpa using hl) fun k hk => by simpa using hs (k + 1) (by simpa using hk)
    exact ⟨o1, .bor h1, h2⟩
  | false :: m, some d :: G, _, _, v :: vs, ds, .cons h t, e, hl, hs => by
    obtain ⟨o1, h1, h2⟩ := mut_of t (by simpa [mutsOf] using e) (by simpa using hl) fun k hk => by simpa using hs (k + 1) (by simpa using hk)
    exact ⟨o1, .bor h1, h2.trans (List.sublist_append_right _ _)⟩
  | true :: m, none :: G, _, _, _, _, _, e, _, _ => by simp [mutsOf] at e
  | true :: m, some d :: G, _, _, v :: vs, ds, .cons (v := v') (o1 := p1) h t, e, hl, hs => by
    simp only [mutsOf, Option.map_eq_some_iff] at e
    obtain ⟨ds', e1, e2⟩ := e
    obtain ⟨o1, h1, h2⟩ := mut_of t e1 (by simpa using hl) fun k hk => by simpa using hs (k + 1) (by simpa using hk)
    have ev : v' = v := by
      have z := hs 0 (by simp)
      simpa using z
    subst ev e2
    exact ⟨p1 ++ o1, .mut h h1, List.Sublist.append (List.Sublist.refl _) h2⟩
theorem mem_mutIx : ∀ {m : List Bool} {k j : Nat}, m[k]? = some true → k + j ∈ mutIx m j
  | [], k, j, h => by simp at h
  | false :: m, 0, j, h => by simp at h
  | true :: m, 0, j, h => by simp [mutIx]
  | false :: m, k + 1, j, h => by
    have z := mem_mutIx (m := m) (k := k) (j := j + 1) (by simpa using h)
    simp only [mutIx]
    have e : k + 1 + j = k + (j + 1) := by omega
    rw [e]; exact z
  | true :: m, k + 1, j, h => by
    have z := mem_mutIx (m := m) (k := k) (j := j + 1) (by simpa using h)
    simp only [mutIx]
    have e : k + 1 + j = k + (j + 1) := by omega
    rw [e]; exact List.mem_cons_of_mem _ z
end
/-- the context of a def's body -/
abbrev bx (P : Program) (w : World) (K : PySem.W.Frag) (mg : Str → Option Value) (base : Heap) (N : List Str) (qual : Str) (st : Stmt) (f : Addr) (cdv : Value) (A : Around) (outer : List PySem.Env) (s : Shared) (H : Hp) (E : XK) : Unit → Cx :=
  fun _ => cxOf (L2.CX P w) P w K mg base N qual (defScope st) f cdv A outer s H E
/-- what leaves a def -/
abbrev wx (E : XK) : WX := fun cls d _ H => E cls d H
/-- THE RULE for a def -/
theorem fn_ok {P : Program} {w : World} {K : PySem.W.Frag} {mg : Str → Option Value} {base : Heap} {x qual : Str} {st : Stmt} {f : Addr} {fd : FuncData} {N ps : List Str} {k : Nat} {m : List Bool} {A : FSp} {b : WS} (F : L2.Fun K x qual st f fd) (Sc : FnScope N ps (defScope st)) (hm : m.length = ps.length) (hN : ps.length ≤ N.length)
    (hb : ∀ (cdv : Value) (Ar : Around) (outer : List PySem.Env) (s : Shared) (H : Hp) (E : XK), Room k (Ar.deeper (envOfC qual (defScope st) s.heap.objs.size f cdv)) → SndSs (bx P w K mg base N qual st f cdv Ar outer s H E) K (wx E) (mutIx m 0) (defBody st) b)
    (hA : ∀ ds P PX, A ds P PX → ds.length = ps.length → b (enOf m P PX) (env0 ds N.length)) : FnOk P w K mg base (L2.CX P w) (k + 1) f fd ps (conc K m A) := by
  refine F.okX Sc (fun vs H Q E h => ?_) (fun cdv Ar outer s H vs Q E hr h => ?_)
  · obtain ⟨S, ds, os, P, PX, _, ar, _⟩ := h
    rw [ar.lens.1, hm]
  · obtain ⟨S, ds, os, P, PX, hS, ar, ow, hq, hrt, hex⟩ := h
    obtain ⟨t, h1, h2⟩ := hb cdv Ar outer s H E hr
    have l1 := ar.lens.1
    have l2 := ar.lens.2
    have hb2 := hA ds _ _ hq (by rw [l2, hm])
    have ev : env0 ds N.length = ds.map some ++ List.replicate (N.length - vs.length) none := by
      unfold env0
      rw [l2, l1]
    rw [ev] at hb2
    refine ⟨t, h1 (), h2 (fun a => S a ∨ a ∈ os ∨ H a = none) _ (L2.start N vs) H [] os _ _ ⟨?_, by simpa using ow, fun a m => .inr (.inl (by simpa using m)), fun a z => .inr (.inr z)⟩ hb2 ?_⟩
    · exact ar.g (fun a s => ⟨.inl s, by simpa using hS a s⟩) _
    · -- the ends
      have pin : ∀ {σ' : L2.St}, Pn (mutIx m 0) (L2.start N vs) σ' → ∀ k : Nat, m[k]? = some true → σ'[k]? = (vs[k]?).map some := fun {σ'} pnn k hk => by
        have z := mem_mutIx (j := 0) hk
        rw [pnn k (by simpa using z)]
        unfold L2.start
        have hlt : k < (vs.map some).length := by
          rw [List.length_map, l1]
          exact (List.getElem?_eq_some_iff.mp hk).1
        rw [List.getElem?_append_left hlt, List.getElem?_map]
      refine ⟨fun G σ' H' os1 hp sp r pnn => ?_, fun d G v σ' H' o2 os1 hp sp r x pnn => ?_, fun _ _ _ _ z => z.elim, fun _ _ _ _ z => z.elim, fun c G σ' H' os1 hp sp r pnn => ?_⟩
      · simp only [enOf] at hp
        split at hp
        · rename_i ds' e
          obtain ⟨o1, q1, q2⟩ := mut_of r.g e l1 (pin pnn)
          have sb : ∀ a ∈ [] ++ o1, a ∈ os1 := fun a z => q2.subset (by simpa using z)
          refine hrt _ _ hp .non H' [] o1 (sp.sub sb) ⟨by simpa using r.own.right.1.sublist q2, fun a z => r.own.2 a (by simpa using sb a z)⟩ ?_ .non
          have gu : ∀ a, ug (fun a => S a ∨ a ∈ os ∨ H a = none) ([] ++ os1) a → ug (fun a => S a ∨ a ∈ os ∨ H a = none) ([] ++ o1) a := ug_sub fun a z => by simpa using sb a z
          exact mutR_mono gu q1
        · exact hp.elim
      · simp only [enOf] at hp
        split at hp
        · rename_i ds' e
          obtain ⟨o1, q1, q2⟩ := mut_of r.g e l1 (pin pnn)
          have sb : ∀ a ∈ o2 ++ o1, a ∈ ([] ++ o2) ++ os1 := fun a z => by
            rcases List.mem_append.mp z with y | y
            · exact List.mem_append_left _ (by simpa using y)
            · exact List.mem_append_right _ (q2.subset y)
          have gu : ∀ a, ug (fun a => S a ∨ a ∈ os ∨ H a = none) (([] ++ o2) ++ os1) a → ug (fun a => S a ∨ a ∈ os ∨ H a = none) (o2 ++ o1) a := ug_sub sb
          refine hrt _ _ hp v H' o2 o1 (sp.sub fun a z => by simpa using sb a z) ⟨?_, fun a z => r.own.2 a (sb a z)⟩ (mutR_mono gu q1) (x.mono (os0 := o2) (fun a o q _ => q) (fun a u _ => gu a u) fun a z => z)
          have nd : (o2 ++ os1).Nodup := by simpa using r.own.1
          exact nd.sublist (List.Sublist.append (List.Sublist.refl _) q2)
        · exact hp.elim
      · simp only [enOf] at hp
        split at hp
        · rename_i ds' e
          obtain ⟨o1, q1, q2⟩ := mut_of r.g e l1 (pin pnn)
          have gu : ∀ a, ug (fun a => S a ∨ a ∈ os ∨ H a = none) ([] ++ os1) a → ug (fun a => S a ∨ a ∈ os ∨ H a = none) o1 a := ug_sub fun a z => by simpa using q2.subset z
          exact hex _ _ hp H' o1 (sp.sub fun a z => q2.subset z) ⟨by simpa using r.own.right.1.sublist q2, fun a z => r.own.2 a (by simpa using q2.subset z)⟩ (mutR_mono gu q1)
        · exact hp.elim
where
  mutR_mono {K : PySem.W.Frag} {H : Hp} {U U' : Addr → Prop} (hu : ∀ a, U a → U' a) : ∀ {m : List Bool} {vs : List V} {ds : List D} {os : List Addr}, MutR K H U m vs ds os → MutR K H U' m vs ds os
  | _, _, _, _, .nil => .nil
  | _, _, _, _, .bor t => .bor (mutR_mono hu t)
  | _, _, _, _, .mut h t => .mut (h.mono (os0 := _) (fun a o q _ => q) (fun a s _ => hu a s) fun a m => m) (mutR_mono hu t)
/-! ### calls -/
section
variable {ι : Type} {X : ι → Cx} {K : PySem.W.Frag} {W : WX} {pn : List Nat}
/-- a def that stands in the module -/
structure Df (X : ι → Cx) (K : PySem.W.Frag) (x : Str) (m : List Bool) (A : FSp) : Prop where
  fn : ∃ (f : Addr) (fd : FuncData) (ps : List Str) (k : Nat), ps.length = m.length ∧ (∀ j, FnOk (X j).prog (X j).w (X j).K (X j).mg (X j).base (L2.CX (X j).prog (X j).w) k f fd ps (conc K m A) ∧ Room k (X j).A ∧ (X j).mg x = some (.ref f) ∧ PySem.W.keepIn (X j).K (.ref f) = true ∧ Binds (X j).K fd ps [])
def allF (n : Nat) : List Bool := List.replicate n false
theorem argR_views {H : Hp} {S : Addr → Prop} : ∀ {ds : List D} {vs : List V}, VwL K H S ds vs → ArgR K H S (allF ds.length) (frzL ds) vs []
  | _, _, .nil => .nil
  | _, _, .cons h t => .bor h.frz (frz_frz _) (argR_views t)
theorem mutR_none {H : Hp} {S : Addr → Prop} : ∀ {n : Nat} {vs : List V} {ds : List D} {os : List Addr}, MutR K H S (allF n) vs ds os → ds = [] ∧ os = []
  | 0, _, _, _, .nil => ⟨rfl, rfl⟩
  | n + 1, _, _, _, .bor t => mutR_none (n := n) t
variable {x : Str} {e : Expr} {es : List Expr} {p pos : Pos} {A : FSp} {n : Nat}
/-- read alone -/
@[simp] def rCall (A : FSp) (n : Nat) (t : WA) : WR := fun G P => t G fun ds => ds.length = n ∧ A (frzL ds) (fun d _ => P (frz d)) (fun _ _ => False)
theorem r_call (F : Df X K x (allF n) A) (hg : ∀ j, Gl (X j) x) {t : WA} (h : SndA X K (e :: es) t) (hdb : (x == ("__debug__" : Str)) = false := by decide)
    (hs : ∀ j, starEach (e :: es) (X j).env = (false, eval e (X j).env) :: starEach es (X j).env := by intro _; rfl) (hpl : ∀ j, (backTo pos (starEach es (X j).env)).any (·.1) = false := by intro _; rfl) : SndR X K (.Call (.Name x p) (e :: es) [] pos) (rCall A n t) := by
  obtain ⟨f, fd, ps, k, hl, hF⟩ := F.fn
  obtain ⟨ta, a1, a2⟩ := h
  refine ⟨tCall (conc K (allF n) A) [] E0 ta, fun j => pe_call (hF j).1 (hF j).2.1 (hg j) (hF j).2.2.1 (hF j).2.2.2.1 (hF j).2.2.2.2 .nil passL (a1 j) hdb (hs j) (hpl j), fun G σ H S P Q g r q => ?_⟩
  refine a2 G σ H S _ _ g r fun ds vs H1 hp s hv => ?_
  obtain ⟨hn, hp⟩ := hp
  subst hn
  refine ⟨gr S H, frzL ds, [], _, _, fun a _ m => absurd m (by simp), ?_, Own.nil, hp, fun d ds' pd v H' o2 o1 st ow mu rp => ?_, fun _ _ z => z.elim⟩
  · rw [List.append_nil]
    exact argR_views hv
  · refine q (frz d) v H' pd (s.trans st.same) (rp.vw (S := gr S H) (fun a m => ?_) (fun a u => ?_)).frz
    · rcases st.new a (List.mem_append_left _ m) with z | z
      · exact absurd z (by simp)
      · exact .inr (s.free z)
    · rcases u.1 with z | z | z
      · exact z
      · exact absurd z (by simp)
      · exact .inr (s.free z)
end
end T
namespace T
open PySem PySem.Spec PyProof.Rows L2
section
variable {ι : Type} {X : ι → Cx} {K : PySem.W.Frag} {W : WX} {pn : List Nat}
/-- newly owned addresses are kept aside -/
theorem Rep.add {U0 : Addr → Prop} {G : T.Env} {σ : L2.St} {H H' : Hp} {Oo os o2 : List Addr} (r : Rep K U0 G σ H Oo os) (s : Same H H') (hf : ∀ a ∈ o2, H a = none) (ow : Own H' o2) : Rep K U0 G σ H' (Oo ++ o2) os := by
  have r1 := r.same s
  have gu : ∀ a, ug U0 (Oo ++ os) a → (∃ o, H a = some o) → ug U0 ((Oo ++ o2) ++ os) a := fun a u ⟨o, e⟩ => ⟨u.1, fun m => by
    rw [List.append_assoc] at m
    rcases List.mem_append.mp m with z | z
    · exact u.2 (List.mem_append_left _ z)
    · rcases List.mem_append.mp z with y | y
      · rw [hf a y] at e; cases e
      · exact u.2 (List.mem_append_right _ y)⟩
  obtain ⟨n1, n2, n3⟩ := List.nodup_append.mp r.own.1
  refine ⟨r.g.mono (os0 := os) (fun a o q _ => s a o q) gu fun a m => m, ⟨?_, fun a m => ?_⟩, fun a m => ?_, r1.un⟩
  · rw [List.append_assoc]
    refine List.nodup_append.mpr ⟨n1, List.nodup_append.mpr ⟨ow.1, n2, fun a m b m' e => ?_⟩, fun a m b m' e => ?_⟩
    · subst e
      exact r.own.none (hf a m) (List.mem_append_right _ m')
    · subst e
      rcases List.mem_append.mp m' with z | z
      · exact r.own.none (hf a z) (List.mem_append_left _ m)
      · exact n3 a m a z rfl
  · rw [List.append_assoc] at m
    rcases List.mem_append.mp m with z | z
    · exact r1.own.2 a (List.mem_append_left _ z)
    · rcases List.mem_append.mp z with y | y
      · exact ow.2 a y
      · exact r1.own.2 a (List.mem_append_right _ y)
  · rw [List.append_assoc] at m
    rcases List.mem_append.mp m with z | z
    · exact r.u0 a (List.mem_append_left _ z)
    · rcases List.mem_append.mp z with y | y
      · exact r.un a (hf a y)
      · exact r.u0 a (List.mem_append_right _ y)
section
variable {x : Str} {e : Expr} {es : List Expr} {p pos : Pos} {A : FSp} {n : Nat}
/-- the arguments are let go -/
@[simp] def eCallL (A : FSp) (n : Nat) (t : WL) : WE := fun G P PX => t G (fun ds G' => ds.length = n ∧ A (frzL ds) (fun d _ => P d G') (fun c _ => PX c G')) PX
theorem e_callL (tk : ∀ j, Takes (X j) W) (F : Df X K x (allF n) A) (hg : ∀ j, Gl (X j) x) {t : WL} (h : SndL X K W (e :: es) t) (hdb : (x == ("__debug__" : Str)) = false := by decide)
    (hs : ∀ j, starEach (e :: es) (X j).env = (false, eval e (X j).env) :: starEach es (X j).env := by intro _; rfl) (hpl : ∀ j, (backTo pos (starEach es (X j).env)).any (·.1) = false := by intro _; rfl) : SndE X K W (.Call (.Name x p) (e :: es) [] pos) (eCallL A n t) := by
  obtain ⟨f, fd, ps, k, hl, hF⟩ := F.fn
  obtain ⟨ta, a1, a2⟩ := h
  refine ⟨tCallS (conc K (allF n) A) (L2.WE W) ta, fun j => pe_callS (hF j).1 (hF j).2.1 (hg j) (hF j).2.2.1 (hF j).2.2.2.1 (hF j).2.2.2.2 (fun σ => passAt (tk j) σ) (a1 j) hdb (hs j) (hpl j), fun U0 G σ H Oo os P PX Q rep w ok okx => ?_⟩
  refine a2 U0 G σ H Oo os _ _ _ rep w (fun ds G1 vs H1 o1 os1 hp s r y => ?_) okx
  obtain ⟨hn, hp⟩ := hp
  subst hn
  have r1 := r.less
  have st1 : Stp H H1 os os1 := s.sub fun a m => List.mem_append_right _ m
  refine ⟨ug U0 (Oo ++ os1), frzL ds, [], _, _, fun a _ m => absurd m (by simp), argR_views (letgo r y), Own.nil, hp, fun d ds' pd v H' o2 o1' st ow mu rp => ?_, fun c ds' pd H' o1' st ow mu => ?_⟩
  · obtain ⟨_, rfl⟩ := mutR_none mu
    rw [List.append_nil] at st ow rp
    have hf : ∀ a ∈ o2, H1 a = none := fun a m => (st.new a m).elim (fun z => absurd z (by simp)) id
    have r2 := r1.add st.same hf ow
    refine ok d G1 v H' o2 os1 pd ⟨fun a o q n => st.same a o (st1.keep a o q n), fun a m => ?_, fun a o q => ?_⟩ r2 (rp.mono (os0 := o2) (fun a o q _ => q) (fun a u _ => ?_) fun a m => m)
    · rcases List.mem_append.mp m with z | z
      · exact .inr (st1.free (hf a z))
      · exact st1.new a z
    · obtain ⟨o', q'⟩ := st1.dom a o q
      exact ⟨o', st.same a o' q'⟩
    · have g : ug U0 (Oo ++ os1) a := r1.grow (H' := H') (u.1.elim .inl fun z => z.elim (fun y => absurd y (by simp)) .inr)
      refine ⟨g.1, fun m => ?_⟩
      rw [List.append_assoc] at m
      rcases List.mem_append.mp m with z | z
      · exact g.2 (List.mem_append_left _ z)
      · rcases List.mem_append.mp z with y | y
        · exact u.2 y
        · exact g.2 (List.mem_append_right _ y)
  · obtain ⟨_, rfl⟩ := mutR_none mu
    exact okx c G1 H' os1 pd (st1.trans (Stp.of_same st.same os1)) (r1.same st.same)
/-- the arguments are lent -/
@[simp] def eCallR (A : FSp) (n : Nat) (t : WA) : WE := fun G P PX => t G fun ds => ds.length = n ∧ A (frzL ds) (fun d _ => ownd d = true ∧ P d G) (fun c _ => PX c G)
theorem e_callR (tk : ∀ j, Takes (X j) W) (F : Df X K x (allF n) A) (hg : ∀ j, Gl (X j) x) {t : WA} (h : SndA X K (e :: es) t) (hdb : (x == ("__debug__" : Str)) = false := by decide)
    (hs : ∀ j, starEach (e :: es) (X j).env = (false, eval e (X j).env) :: starEach es (X j).env := by intro _; rfl) (hpl : ∀ j, (backTo pos (starEach es (X j).env)).any (·.1) = false := by intro _; rfl) : SndE X K W (.Call (.Name x p) (e :: es) [] pos) (eCallR A n t) := by
  obtain ⟨f, fd, ps, k, hl, hF⟩ := F.fn
  obtain ⟨ta, a1, a2⟩ := h
  refine ⟨tCallS (conc K (allF n) A) (L2.WE W) ta, fun j => pe_callS (hF j).1 (hF j).2.1 (hg j) (hF j).2.2.1 (hF j).2.2.2.1 (hF j).2.2.2.2 (fun σ => passAt (tk j) σ) (a1 j) hdb (hs j) (hpl j), fun U0 G σ H Oo os P PX Q rep w ok okx => ?_⟩
  refine a2 G σ H _ _ _ rep.vw w fun ds vs H1 hp s hv => ?_
  obtain ⟨hn, hp⟩ := hp
  subst hn
  have r1 := rep.same s
  refine ⟨_, frzL ds, [], _, _, fun a _ m => absurd m (by simp), argR_views hv, Own.nil, hp, fun d ds' pd v H' o2 o1' st ow mu rp => ?_, fun c ds' pd H' o1' st ow mu => ?_⟩
  · obtain ⟨_, rfl⟩ := mutR_none mu
    rw [List.append_nil] at st ow rp
    have hf : ∀ a ∈ o2, H1 a = none := fun a m => (st.new a m).elim (fun z => absurd z (by simp)) id
    have r2 := r1.add st.same hf ow
    refine ok d G v H' o2 os pd.2 ⟨fun a o q n => st.same a o (s a o q), fun a m => ?_, fun a o q => ⟨o, st.same a o (s a o q)⟩⟩ r2 (rp.anyU pd.1)
    rcases List.mem_append.mp m with z | z
    · exact .inr (s.free (hf a z))
    · exact .inl z
  · obtain ⟨_, rfl⟩ := mutR_none mu
    exact okx c G H' os pd (Stp.of_same (s.trans st.same) os) (r1.same st.same)
end
/-! ### calls that may change what they are handed -/
section
variable (K) (H : Hp) (U : Addr → Prop) (σ : L2.St)
inductive MixR : List (Option Nat) → List D → List V → List Addr → Prop
  | nil : MixR [] [] [] []
  | val {js : List (Option Nat)} {d : D} {v : V} {ds : List D} {vs : List V} {o1 os : List Addr} : Rp K H U d v o1 → MixR js ds vs os → MixR (none :: js) (d :: ds) (v :: vs) (o1 ++ os)
  | mut {js : List (Option Nat)} {i : Nat} {v : V} {ds : List D} {vs : List V} {os : List Addr} : σ[i]? = some (some v) → MixR js ds vs os → MixR (some i :: js) ds (v :: vs) os
inductive MixV : List (Option Nat) → List D → List V → Prop
  | nil : MixV [] [] []
  | val {js : List (Option Nat)} {d : D} {v : V} {ds : List D} {vs : List V} : Vw K H U d v → MixV js ds vs → MixV (none :: js) (d :: ds) (v :: vs)
  | mut {js : List (Option Nat)} {i : Nat} {v : V} {ds : List D} {vs : List V} : σ[i]? = some (some v) → MixV js ds vs → MixV (some i :: js) ds (v :: vs)
end
theorem MixR.mono {H H' : Hp} {U U' : Addr → Prop} {σ : L2.St} {os0 : List Addr} (hk : ∀ a o, H a = some o → (U a ∨ a ∈ os0 ∨ ¬ Mut (some o)) → H' a = some o) (hs : ∀ a, U a → (∃ o, H a = some o) → U' a) : ∀ {js : List (Option Nat)} {ds : List D} {vs : List V} {os : List Addr}, (∀ a ∈ os, a ∈ os0) → MixR K H U σ js ds vs os → MixR K H' U' σ js ds vs os
  | _, _, _, _, _, .nil => .nil
  | _, _, _, _, q, .val h t => .val (h.mono hk hs fun a m => q a (List.mem_append_left _ m)) (MixR.mono hk hs (fun a m => q a (List.mem_append_right _ m)) t)
  | _, _, _, _, q, .mut e t => .mut e (MixR.mono hk hs q t)
theorem MixR.vw {H : Hp} {U S : Addr → Prop} {σ : L2.St} : ∀ {js : List (Option Nat)} {ds : List D} {vs : List V} {os : List Addr}, (∀ a ∈ os, S a) → (∀ a, U a → S a) → MixR K H U σ js ds vs os → MixV K H S σ js ds vs
  | _, _, _, _, _, _, .nil => .nil
  | _, _, _, _, q, u, .val h t => .val (h.vw (fun a m => q a (List.mem_append_left _ m)) u) (MixR.vw (fun a m => q a (List.mem_append_right _ m)) u t)
  | _, _, _, _, q, u, .mut e t => .mut e (MixR.vw q u t)
def OkM (K : PySem.W.Frag) (U0 : Addr → Prop) (Oo : List Addr) (σ : L2.St) (H : Hp) (os : List Addr) (js : List (Option Nat)) (P : List D → T.Env → Prop) (Q : List V → Hp → Prop) : Prop := ∀ ds G vs H' o2 os1, P ds G → Stp H H' os (o2 ++ os1) → Rep K U0 G σ H' (Oo ++ o2) os1 → MixR K H' (ug U0 ((Oo ++ o2) ++ os1)) σ js ds vs o2 → Q vs H'
def SndM (X : ι → Cx) (K : PySem.W.Frag) (W : WX) (js : List (Option Nat)) (es : List Expr) (w : WL) : Prop := ∃ t : TA, (∀ i, PA (X i) es t) ∧ ∀ (U0 : Addr → Prop) (G : T.Env) (σ : L2.St) (H : Hp) (Oo os : List Addr) (P : List D → T.Env → Prop) (PX : Nat → T.Env → Prop) (Q : List V → Hp → Prop),
  Rep K U0 G σ H Oo os → w G P PX → OkM K U0 Oo σ H os js P Q → OkX K U0 Oo σ H os PX W → t σ H Q
theorem m_nil : SndM X K W [] [] lNil := ⟨tNil, fun _ => pa_nil, fun U0 G σ H Oo os P PX Q rep w ok _ => ok [] G [] H [] os w (Stp.refl _ _) (by rw [List.append_nil]; exact rep) .nil⟩
theorem m_val {js : List (Option Nat)} {e : Expr} {es : List Expr} {w : WE} {t : WL} (h : SndE X K W e w) (h' : SndM X K W js es t) (hs : ∀ j, starEach (e :: es) (X j).env = (false, eval e (X j).env) :: starEach es (X j).env := by intro _; rfl) : SndM X K W (none :: js) (e :: es) (lCons w t) := by
  obtain ⟨ta, a1, a2⟩ := h
  obtain ⟨tb, b1, b2⟩ := h'
  refine ⟨tCons ta tb, fun j => pa_cons (a1 j) (b1 j) (hs j), fun U0 G σ H Oo os P PX Q rep w ok okx => ?_⟩
  refine a2 U0 G σ H Oo os _ _ _ rep w (fun d G1 v H1 o1 os1 p s r x => ?_) okx
  refine b2 U0 G1 σ H1 (Oo ++ o1) os1 _ _ _ r p (fun ds G2 vs H2 o2 os2 p2 s2 r2 x2 => ?_) (okx.more s)
  have st : Stp H H2 os ((o1 ++ o2) ++ os2) := by
    rw [List.append_assoc]
    exact s.trans s2.wide
  have x1 := aside s2 r.own x
  have e1 : Oo ++ o1 ++ (o2 ++ os2) = (Oo ++ (o1 ++ o2)) ++ os2 := by simp [List.append_assoc]
  have e2 : Oo ++ o1 ++ o2 = Oo ++ (o1 ++ o2) := by simp [List.append_assoc]
  rw [e1] at x1
  rw [e2] at r2 x2
  exact ok (d :: ds) G2 (v :: vs) H2 (o1 ++ o2) os2 p2 st r2 (.val x1 x2)
def lMut (i : Nat) (t : WL) : WL := fun G P PX => match G[i]? with | some (some _) => t G P PX | _ => False
theorem m_mut (i : Nat) {js : List (Option Nat)} {x : Str} {pos : Pos} {es : List Expr} {t : WL} (h' : SndM X K W js es t) (hN : ∀ j, (X j).N[i]? = some x) (hv : ∀ j, Vis (X j).env.scope x) (hd : (x == ("__debug__" : Str)) = false := by decide) (hcd : (x == ("__classdict__" : Str)) = false := by decide)
    (hs : ∀ j, starEach (.Name x pos :: es) (X j).env = (false, eval (.Name x pos) (X j).env) :: starEach es (X j).env := by intro _; rfl) : SndM X K W (some i :: js) (.Name x pos :: es) (lMut i t) := by
  obtain ⟨tb, b1, b2⟩ := h'
  refine ⟨tCons (tVar i) tb, fun j => pa_cons (pe_var (hN j) (hv j) hd hcd) (b1 j) (hs j), fun U0 G σ H Oo os P PX Q rep w ok okx => ?_⟩
  unfold lMut at w
  split at w
  · rename_i d e
    obtain ⟨v, h1, _⟩ := rep.vw.at' i d e
    refine ⟨v, h1, ?_⟩
    refine b2 U0 G σ H Oo os _ _ _ rep w (fun ds G2 vs H2 o2 os2 p2 s2 r2 x2 => ?_) okx
    exact ok ds G2 (v :: vs) H2 o2 os2 p2 s2 r2 (.mut h1 x2)
  · exact w.elim
/-- the whole arguments, and the slots without what is handed over -/
@[simp] def fillA : List (Option Nat) → T.Env → List D → Option (List D × T.Env)
  | [], G, [] => some ([], G)
  | none :: js, G, d :: ds => (fillA js G ds).map fun q => (d :: q.1, q.2)
  | some i :: js, G, ds => match G[i]? with
    | some (some d) => (fillA js (G.set i none) ds).map fun q => (d :: q.1, q.2)
    | _ => none
  | _, _, _ => none
/-- what is handed back -/
@[simp] def putA : List (Option Nat) → T.Env → List D → T.Env
  | some i :: js, G, d :: ds => (putA js G ds).set i (some d)
  | none :: js, G, ds => putA js G ds
  | _, G, _ => G
def msk (js : List (Option Nat)) : List Bool := js.map Option.isSome
theorem take_all {H : Hp} {U : Addr → Prop} {σ : L2.St} : ∀ {js : List (Option Nat)} {G G' : T.Env} {ds full : List D} {vs : List V} {os : List Addr}, RpG K H U G σ os → MixV K H U σ js ds vs → fillA js G (frzL ds) = some (full, G') →
    ∃ om orest, ArgR K H U (msk js) full vs om ∧ RpG K H U G' σ orest ∧ os.Perm (om ++ orest) ∧ (∀ i : Nat, some i ∈ js → G'[i]? = some none) ∧ (∀ i : Nat, G[i]? = some none → G'[i]? = some none)
  | [], G, G', _, full, _, os, g, .nil, e => by
    simp [fillA, frzL] at e
    obtain ⟨rfl, rfl⟩ := e
    exact ⟨[], os, .nil, g, List.Perm.refl _, fun i m => absurd m (by simp), fun i h => h⟩
  | none :: js, G, G', d :: ds, full, v :: vs, os, g, .val h t, e => by
    simp only [frzL, fillA, Option.map_eq_some_iff] at e
    obtain ⟨⟨f2, G2⟩, e1, e2⟩ := e
    cases e2
    obtain ⟨om, orest, h1, h2, h3, h4, h5⟩ := take_all g t e1
    exact ⟨om, orest, .bor h.frz (frz_frz d) h1, h2, h3, fun i m => h4 i (by simpa using m), h5⟩
  | some i :: js, G, G', ds, full, v :: vs, os, g, .mut hv t, e => by
    simp only [fillA] at e
    split at e
    · rename_i d ed
      simp only [Option.map_eq_some_iff] at e
      obtain ⟨⟨f2, G2⟩, e1, e2⟩ := e
      cases e2
      obtain ⟨v', o1, o2, q1, q2, q3, q4⟩ := g.take ed
      rw [hv] at q1
      cases q1
      obtain ⟨om, orest, h1, h2, h3, h4, h5⟩ := take_all q3 t e1
      have hi : i < G.length := (List.getElem?_eq_some_iff.mp ed).1
      refine ⟨o1 ++ om, orest, .mut q2 h1, h2, ?_, fun k m => ?_, fun k hk => h5 k ?_⟩
      · rw [List.append_assoc]
        exact q4.trans (List.Perm.append_left o1 h3)
      · rcases List.mem_cons.mp m with z | z
        · cases z
          exact h5 _ (by simp [hi])
        · exact h4 k z
      · by_cases hki : i = k
        · subst hki
          simp [hi]
        · rw [List.getElem?_set_ne hki]
          exact hk
    · cases e
theorem put_all {H : Hp} {U : Addr → Prop} {σ : L2.St} : ∀ {js : List (Option Nat)} {G : T.Env} {ds ds' : List D} {vs : List V} {o1 orest : List Addr} {S : Addr → Prop} {H0 : Hp}, RpG K H U G σ orest → MixV K H0 S σ js ds vs → MutR K H U (msk js) vs ds' o1 → (js.filterMap id).Nodup → (∀ i : Nat, some i ∈ js → G[i]? = some none) →
    ∃ os, RpG K H U (putA js G ds') σ os ∧ os.Perm (o1 ++ orest)
  | [], G, _, _, _, _, orest, _, _, g, .nil, m, _, _ => by
    cases m
    exact ⟨orest, g, List.Perm.refl _⟩
  | none :: js, G, _, ds', _, o1, orest, _, _, g, .val h t, m, nd, hn => by
    cases m with
    | bor m => 
      simp only [putA]
      exact put_all g t m (by simpa using nd) fun i q => hn i (List.mem_cons_of_mem _ q)
  | some i :: js, G, _, ds', v :: vs, o1, orest, _, _, g, .mut hv t, m, nd, hn => by
    cases m with
    | @«mut» _ d _ ds2 _ p1 p2 h m =>
      have nd' : i ∉ js.filterMap id ∧ (js.filterMap id).Nodup := by simpa using nd
      obtain ⟨os, h1, h2⟩ := put_all g t m nd'.2 fun k q => hn k (List.mem_cons_of_mem _ q)
      have hput : ∀ {js : List (Option Nat)} {G : T.Env} {ds : List D}, i ∉ js.filterMap id → (putA js G ds)[i]? = G[i]? := by
        intro js
        induction js with
        | nil => intro G ds _; rfl
        | cons a js ih =>
          intro G ds hq
          cases a with
          | none => 
            simp only [putA]
            exact ih (by simpa using hq)
          | some k =>
            have hk : ¬ i = k ∧ i ∉ js.filterMap id := by simpa using hq
            cases ds with
            | nil => rfl
            | cons d ds =>
              simp only [putA]
              rw [List.getElem?_set_ne (fun z => hk.1 z.symm)]
              exact ih hk.2
      obtain ⟨o2, h3, h4⟩ := h1.put (v := v) (by rw [hput nd'.1]; exact hn i List.mem_cons_self) h
      have es : σ.set i (some v) = σ := by
        apply List.ext_getElem?
        intro k
        by_cases hk : i = k
        · subst hk
          rw [hv]
          obtain ⟨hlt, _⟩ := List.getElem?_eq_some_iff.mp hv
          rw [List.getElem?_set_self hlt]
        · rw [List.getElem?_set_ne hk]
      rw [es] at h3
      refine ⟨o2, h3, h4.trans ?_⟩
      rw [List.append_assoc]
      exact List.Perm.append_left p1 h2
section
variable {x : Str} {e : Expr} {es : List Expr} {p pos : Pos} {A : FSp} {js : List (Option Nat)}
@[simp] def eCallM (A : FSp) (js : List (Option Nat)) (t : WL) : WE := fun G P PX => t G (fun ds G' => match fillA js G' (frzL ds) with
  | some q => A q.1 (fun d ds' => P d (putA js q.2 ds')) (fun c ds' => PX c (putA js q.2 ds'))
  | none => False) PX
theorem e_callM (tk : ∀ j, Takes (X j) W) (F : Df X K x (msk js) A) (hg : ∀ j, Gl (X j) x) {t : WL} (h : SndM X K W js (e :: es) t) (nd : (js.filterMap id).Nodup := by decide) (hdb : (x == ("__debug__" : Str)) = false := by decide)
    (hs : ∀ j, starEach (e :: es) (X j).env = (false, eval e (X j).env) :: starEach es (X j).env := by intro _; rfl) (hpl : ∀ j, (backTo pos (starEach es (X j).env)).any (·.1) = false := by intro _; rfl) : SndE X K W (.Call (.Name x p) (e :: es) [] pos) (eCallM A js t) := by
  obtain ⟨f, fd, ps, k, hl, hF⟩ := F.fn
  obtain ⟨ta, a1, a2⟩ := h
  refine ⟨tCallS (conc K (msk js) A) (L2.WE W) ta, fun j => pe_callS (hF j).1 (hF j).2.1 (hg j) (hF j).2.2.1 (hF j).2.2.2.1 (hF j).2.2.2.2 (fun σ => passAt (tk j) σ) (a1 j) hdb (hs j) (hpl j), fun U0 G σ H Oo os P PX Q rep w ok okx => ?_⟩
  refine a2 U0 G σ H Oo os _ _ _ rep w (fun ds G1 vs H1 o1 os1 hp s r y => ?_) okx
  split at hp
  case h_2 => exact hp.elim
  rename_i q hq
  obtain ⟨full, G2⟩ := q
  -- the values are let go
  have r1 := r.less
  have st1 : Stp H H1 os os1 := s.sub fun a m => List.mem_append_right _ m
  have hsub : ∀ a ∈ Oo ++ os1, a ∈ (Oo ++ o1) ++ os1 := fun a m => by
    rcases List.mem_append.mp m with z | z
    · exact List.mem_append_left _ (List.mem_append_left _ z)
    · exact List.mem_append_right _ z
  have mv : MixV K H1 (ug U0 (Oo ++ os1)) σ js ds vs := by
    refine y.vw (fun a m => ⟨r.u0 a (List.mem_append_left _ (List.mem_append_right _ m)), fun q => ?_⟩) (ug_sub hsub)
    have nd := r.own.1
    rw [List.append_assoc] at nd
    obtain ⟨_, h2, h3⟩ := List.nodup_append.mp nd
    rcases List.mem_append.mp q with z | z
    · exact h3 a z a (List.mem_append_left _ m) rfl
    · exact (List.nodup_append.mp h2).2.2 a m a z rfl
  obtain ⟨om, orest, ar, g2, pm, hn, _⟩ := take_all r1.g mv hq
  have mo : ∀ a ∈ om, a ∈ os1 := fun a m => pm.mem_iff.mpr (List.mem_append_left _ m)
  have mr : ∀ a ∈ orest, a ∈ os1 := fun a m => pm.mem_iff.mpr (List.mem_append_right _ m)
  obtain ⟨n1, n2, n3⟩ := List.nodup_append.mp r1.own.1
  obtain ⟨n4, n5, n6⟩ := List.nodup_append.mp (pm.nodup_iff.mp n2)
  -- what holds behind the call
  have back : ∀ {H' : Hp} {o2 o1' : List Addr} {ds' : List D}, Stp H1 H' om (o2 ++ o1') → Own H' (o2 ++ o1') → MutR K H' (ug (fun a => ug U0 (Oo ++ os1) a ∨ a ∈ om ∨ H1 a = none) (o2 ++ o1')) (msk js) vs ds' o1' →
      ∃ os', Rep K U0 (putA js G2 ds') σ H' (Oo ++ o2) os' ∧ Stp H H' os (o2 ++ os') ∧ (∀ a, ug (fun a => ug U0 (Oo ++ os1) a ∨ a ∈ om ∨ H1 a = none) (o2 ++ o1') a → ug U0 ((Oo ++ o2) ++ os') a) := by
    intro H' o2 o1' ds' st ow mu
    have fr : ∀ a, a ∈ o2 ++ o1' → a ∉ Oo ∧ a ∉ orest := fun a m => by
      rcases st.new a m with z | z
      · exact ⟨fun y => n3 a y a (mo a z) rfl, fun y => n6 a z a y rfl⟩
      · exact ⟨fun y => r1.own.none z (List.mem_append_left _ y), fun y => r1.own.none z (List.mem_append_right _ (mr a y))⟩
    have base : ∀ a, ug (fun a => ug U0 (Oo ++ os1) a ∨ a ∈ om ∨ H1 a = none) (o2 ++ o1') a → U0 a ∧ a ∉ Oo ∧ a ∉ orest := fun a u => by
      rcases u.1 with z | z | z
      · exact ⟨z.1, fun y => z.2 (List.mem_append_left _ y), fun y => z.2 (List.mem_append_right _ (mr a y))⟩
      · exact ⟨r1.u0 a (List.mem_append_right _ (mo a z)), fun y => n3 a y a (mo a z) rfl, fun y => n6 a z a y rfl⟩
      · exact ⟨r1.un a z, fun y => r1.own.none z (List.mem_append_left _ y), fun y => r1.own.none z (List.mem_append_right _ (mr a y))⟩
    -- everything at one U
    have mem3 : ∀ a, a ∈ (Oo ++ o2) ++ (o1' ++ orest) → a ∈ Oo ∨ a ∈ o2 ++ o1' ∨ a ∈ orest := fun a m => by
      rcases List.mem_append.mp m with z | z
      · rcases List.mem_append.mp z with y | y
        · exact .inl y
        · exact .inr (.inl (List.mem_append_left _ y))
      · rcases List.mem_append.mp z with y | y
        · exact .inr (.inl (List.mem_append_right _ y))
        · exact .inr (.inr y)
    have gu : ∀ a, ug (fun a => ug U0 (Oo ++ os1) a ∨ a ∈ om ∨ H1 a = none) (o2 ++ o1') a → ug U0 ((Oo ++ o2) ++ (o1' ++ orest)) a := fun a u => by
      obtain ⟨b1, b2, b3⟩ := base a u
      refine ⟨b1, fun m => ?_⟩
      rcases mem3 a m with z | z | z
      · exact b2 z
      · exact u.2 z
      · exact b3 z
    have g3 : RpG K H' (ug U0 ((Oo ++ o2) ++ (o1' ++ orest))) G2 σ orest := by
      refine g2.mono (os0 := orest) (fun a o e h => ?_) (fun a u ⟨o, e⟩ => ⟨u.1, fun m => ?_⟩) fun a m => m
      · refine st.keep a o e fun m => ?_
        rcases h with h | h | h
        · exact h.2 (List.mem_append_right _ (mo a m))
        · exact n6 a m a h rfl
        · obtain ⟨o', q, mu'⟩ := r1.own.2 a (List.mem_append_right _ (mo a m))
          rw [e] at q; cases q
          exact h mu'
      · rcases mem3 a m with z | z | z
        · exact u.2 (List.mem_append_left _ z)
        · rcases st.new a z with w | w
          · exact u.2 (List.mem_append_right _ (mo a w))
          · rw [e] at w; cases w
        · exact u.2 (List.mem_append_right _ (mr a z))
    obtain ⟨os', g4, pm4⟩ := put_all g3 mv (fn_ok.mutR_mono gu mu) nd hn
    have pm5 : ((Oo ++ o2) ++ (o1' ++ orest)).Perm ((Oo ++ o2) ++ os') := List.Perm.append_left _ pm4.symm
    have hs5 : ∀ a ∈ (Oo ++ o2) ++ os', a ∈ (Oo ++ o2) ++ (o1' ++ orest) := fun a m => pm5.mem_iff.mpr m
    have keepO : ∀ a, a ∈ Oo ∨ a ∈ orest → ∃ o, H' a = some o ∧ Mut (some o) := fun a m => by
      have hin : a ∈ Oo ++ os1 := m.elim (fun z => List.mem_append_left _ z) fun z => List.mem_append_right _ (mr a z)
      obtain ⟨o, q, mu'⟩ := r1.own.2 a hin
      refine ⟨o, st.keep a o q fun z => ?_, mu'⟩
      rcases m with m | m
      · exact n3 a m a (mo a z) rfl
      · exact n6 a z a m rfl
    have ow5 : Own H' ((Oo ++ o2) ++ (o1' ++ orest)) := by
      refine ⟨?_, fun a m => ?_⟩
      · have e5 : (Oo ++ o2) ++ (o1' ++ orest) = Oo ++ ((o2 ++ o1') ++ orest) := by simp [List.append_assoc]
        rw [e5]
        refine List.nodup_append.mpr ⟨n1, List.nodup_append.mpr ⟨ow.1, n5, fun a m b m' e => ?_⟩, fun a m b m' e => ?_⟩
        · subst e
          exact (fr a m).2 m'
        · subst e
          rcases List.mem_append.mp m' with z | z
          · exact (fr a z).1 m
          · exact n3 a m a (mr a z) rfl
      · rcases mem3 a m with z | z | z
        · exact keepO a (.inl z)
        · exact ow.2 a z
        · exact keepO a (.inr z)
    refine ⟨os', ⟨g4.mono (os0 := os') (fun a o q _ => q) (fun a u _ => ug_sub hs5 a u) fun a m => m, ow5.perm pm5, fun a m => ?_, fun a h => r1.un a (st.free h)⟩, ⟨fun a o e n => ?_, fun a m => ?_, fun a o e => ?_⟩, fun a u => ug_sub hs5 a (gu a u)⟩
    · rcases mem3 a (hs5 a m) with z | z | z
      · exact r1.u0 a (List.mem_append_left _ z)
      · rcases st.new a z with w | w
        · exact r1.u0 a (List.mem_append_right _ (mo a w))
        · exact r1.un a w
      · exact r1.u0 a (List.mem_append_right _ (mr a z))
    · refine st.keep a o (st1.keep a o e n) fun z => ?_
      rcases st1.new a (mo a z) with w | w
      · exact n w
      · rw [e] at w; cases w
    · have z : a ∈ o2 ++ o1' ∨ a ∈ orest := by
        rcases List.mem_append.mp m with z | z
        · exact .inl (List.mem_append_left _ z)
        · rcases List.mem_append.mp (pm4.mem_iff.mp z) with w | w
          · exact .inl (List.mem_append_right _ w)
          · exact .inr w
      rcases z with z | z
      · rcases st.new a z with w | w
        · exact st1.new a (mo a w)
        · exact .inr (st1.free w)
      · exact st1.new a (mr a z)
    · obtain ⟨o', q⟩ := st1.dom a o e
      exact st.dom a o' q
  refine ⟨ug U0 (Oo ++ os1), full, om, _, _, fun a u m => u.2 (List.mem_append_right _ (mo a m)), ar, ⟨n4, fun a m => r1.own.2 a (List.mem_append_right _ (mo a m))⟩, hp, fun d ds' pd v H' o2 o1' st ow mu rp => ?_, fun c ds' pd H' o1' st ow mu => ?_⟩
  · obtain ⟨os', rr, ss, gu⟩ := back st ow mu
    exact ok d _ v H' o2 os' pd ss rr (rp.mono (os0 := o2) (fun a o q _ => q) (fun a u _ => gu a u) fun a m => m)
  · obtain ⟨os', rr, ss, _⟩ := back (o2 := []) st ow mu
    exact okx c _ H' os' pd ss (by rw [List.append_nil] at rr; exact rr)
end
end
end T
namespace T
open PySem PySem.Spec PyProof.Rows L2
section
variable {ι : Type} {X : ι → Cx} {K : PySem.W.Frag} {W : WX} {pn : List Nat}
/-! ### targets: what is handed to them is frozen -/
abbrev WG := D → T.Env → (T.Env → Prop) → Prop
abbrev WGs := List D → T.Env → (T.Env → Prop) → Prop
def Out (sl : List Nat) (σ σ' : L2.St) : Prop := σ'.length = σ.length ∧ ∀ i, i ∉ sl → σ'[i]? = σ[i]?
theorem Out.refl (sl : List Nat) (σ : L2.St) : Out sl σ σ := ⟨rfl, fun _ _ => rfl⟩
theorem Out.trans {s1 s2 : List Nat} {a b c : L2.St} (h : Out s1 a b) (h' : Out s2 b c) : Out (s1 ++ s2) a c := ⟨h'.1.trans h.1, fun i m => (h'.2 i fun z => m (List.mem_append_right _ z)).trans (h.2 i fun z => m (List.mem_append_left _ z))⟩
theorem out_pn {sl : List Nat} {σ σ' : L2.St} (h : Out sl σ σ') (d : ∀ i ∈ pn, i ∉ sl) : Pn pn σ σ' := fun i m => h.2 i (d i m)
theorem wipe_get (σ : L2.St) : ∀ (vs : List Nat) (i : Nat), (wipe σ vs)[i]? = if i ∈ vs then (σ[i]?).map (fun _ => none) else σ[i]?
  | [], i => by simp [wipe]
  | v :: vs, i => by
    unfold wipe
    by_cases h : v = i
    · subst h
      by_cases hl : v < (wipe σ vs).length
      · rw [List.getElem?_set_self hl]
        have : v < σ.length := by rw [wipe_length] at hl; exact hl
        simp [this]
      · rw [List.getElem?_eq_none (by simpa using hl)]
        have : σ.length ≤ v := by rw [wipe_length] at hl; omega
        simp [List.getElem?_eq_none this]
    · rw [List.getElem?_set_ne h, wipe_get σ vs i]
      simp [Ne.symm h]
theorem Out.wipe {sl vs : List Nat} {σ σ' : L2.St} (h : Out sl σ σ') (hs : ∀ i ∈ sl, i ∈ vs) : L2.wipe σ' vs = L2.wipe σ vs := by
  apply List.ext_getElem?
  intro i
  rw [wipe_get, wipe_get]
  by_cases m : i ∈ vs
  · rw [if_pos m, if_pos m]
    by_cases hl : i < σ.length
    · have h2 : i < σ'.length := by rw [h.1]; exact hl
      simp [hl, h2]
    · have h1 : σ.length ≤ i := by omega
      have h2 : σ'.length ≤ i := by rw [h.1]; exact h1
      simp [List.getElem?_eq_none h1, List.getElem?_eq_none h2]
  · rw [if_neg m, if_neg m]
    exact h.2 i fun z => m (hs i z)
def SndG (X : ι → Cx) (K : PySem.W.Frag) (sl : List Nat) (tg : Expr) (g : WG) : Prop := ∃ t : L2.TG, (∀ j, PG (X j) tg t) ∧
  (∀ (U0 : Addr → Prop) (G : T.Env) (σ : L2.St) (H : Hp) (Oo os : List Addr) (d : D) (v : V) (k : T.Env → Prop) (Q : L2.St → Hp → Prop), Rep K U0 G σ H Oo os → Vw K H (ug U0 (Oo ++ os)) d v → g d G k →
    (∀ G' σ' os', k G' → Rep K U0 G' σ' H Oo os' → (∀ a ∈ os', a ∈ os) → Out sl σ σ' → Q σ' H) → t v σ H Q) ∧
  (∀ (G : T.Env) (σ : L2.St) (H : Hp) (S : Addr → Prop) (d : D) (v : V) (k : T.Env → Prop) (Q : L2.St → Hp → Prop), VwG K H S G σ → Vw K H S d v → g d G k →
    (∀ G' σ', k G' → VwG K H S G' σ' → Out sl σ σ' → Q σ' H) → t v σ H Q)
def SndGs (X : ι → Cx) (K : PySem.W.Frag) (sl : List Nat) (tgs : List Expr) (g : WGs) : Prop := ∃ t : L2.TGs, (∀ j, PGs (X j) tgs t) ∧
  (∀ (U0 : Addr → Prop) (G : T.Env) (σ : L2.St) (H : Hp) (Oo os : List Addr) (ds : List D) (vs : List V) (k : T.Env → Prop) (Q : L2.St → Hp → Prop), Rep K U0 G σ H Oo os → VwL K H (ug U0 (Oo ++ os)) ds vs → g ds G k →
    (∀ G' σ' os', k G' → Rep K U0 G' σ' H Oo os' → (∀ a ∈ os', a ∈ os) → Out sl σ σ' → Q σ' H) → t vs σ H Q) ∧
  (∀ (G : T.Env) (σ : L2.St) (H : Hp) (S : Addr → Prop) (ds : List D) (vs : List V) (k : T.Env → Prop) (Q : L2.St → Hp → Prop), VwG K H S G σ → VwL K H S ds vs → g ds G k →
    (∀ G' σ', k G' → VwG K H S G' σ' → Out sl σ σ' → Q σ' H) → t vs σ H Q)
@[simp] def gNm (i : Nat) : WG := fun d G k => k (G.set i (some (frz d)))
theorem out_set {σ : L2.St} {i : Nat} {x : Option V} : Out [i] σ (σ.set i x) := ⟨by simp, fun j m => by rw [List.getElem?_set_ne]; rintro rfl; exact m (by simp)⟩
theorem ug_less {U0 : Addr → Prop} {l l' : List Addr} (h : ∀ a ∈ l', a ∈ l) : ∀ a, ug U0 l a → ug U0 l' a := ug_sub h
theorem g_name (i : Nat) {x : Str} {pos : Pos} (hN : ∀ j, (X j).N.Nodup) (hi : ∀ j, (X j).N[i]? = some x) (hx : ∀ j, Loc (X j).env.scope x) (hf : ∀ j, (X j).fn x = true ∨ (X j).env.scope.names.lookup x = some .local) : SndG X K [i] (.Name x pos) (gNm i) := by
  refine ⟨gName i, fun j => pg_name (hN j) (hi j) (hx j) (hf j), fun U0 G σ H Oo os d v k Q rep hv hk q => ?_, fun G σ H S d v k Q g hv hk q => ?_⟩
  · have r1 : Rp K H (ug U0 ((Oo ++ []) ++ os)) (frz d) v [] := by
      rw [List.append_nil]
      exact hv.rp fun a z => z
    have rep' : Rep K U0 G σ H (Oo ++ []) os := by rw [List.append_nil]; exact rep
    obtain ⟨os', r2, sub⟩ := rep'.set i r1
    exact q _ _ os' hk r2 (fun a m => by simpa using sub a m) out_set
  · have hl := g.len
    refine q _ _ hk ⟨by simpa using hl, fun j d' e => ?_⟩ out_set
    by_cases hji : i = j
    · subst hji
      by_cases hlt : i < G.length
      · rw [List.getElem?_set_self hlt] at e
        cases e
        refine ⟨v, ?_, hv.frz⟩
        rw [List.getElem?_set_self (by rw [← hl]; exact hlt)]
      · rw [List.getElem?_eq_none (by simpa using hlt)] at e
        cases e
    · rw [List.getElem?_set_ne hji] at e
      obtain ⟨u, h1, h2⟩ := g.at' j d' e
      exact ⟨u, by rw [List.getElem?_set_ne hji]; exact h1, h2⟩
@[simp] def gsNil : WGs := fun ds G k => ds = [] ∧ k G
@[simp] def gsCons (g : WG) (gs : WGs) : WGs := fun ds G k => match ds with | d :: r => g d G fun G' => gs r G' k | [] => False
theorem gs_nil : SndGs X K [] [] gsNil := by
  refine ⟨gNil, fun j => pgs_nil, fun U0 G σ H Oo os ds vs k Q rep hv hk q => ?_, fun G σ H S ds vs k Q g hv hk q => ?_⟩
  · obtain ⟨rfl, hk⟩ := hk
    cases hv
    exact ⟨rfl, q G σ os hk rep (fun a m => m) (Out.refl _ _)⟩
  · obtain ⟨rfl, hk⟩ := hk
    cases hv
    exact ⟨rfl, q G σ hk g (Out.refl _ _)⟩
theorem gs_cons {e : Expr} {es : List Expr} {s1 s2 : List Nat} {g : WG} {gs : WGs} (h : SndG X K s1 e g) (h' : SndGs X K s2 es gs) (mk : ∀ (t : L2.TG) (u : L2.TGs), (∀ j, PG (X j) e t) → (∀ j, PGs (X j) es u) → ∀ j, PGs (X j) (e :: es) (gCons t u)) : SndGs X K (s1 ++ s2) (e :: es) (gsCons g gs) := by
  obtain ⟨t, a1, a2, a3⟩ := h
  obtain ⟨u, b1, b2, b3⟩ := h'
  refine ⟨gCons t u, mk t u a1 b1, fun U0 G σ H Oo os ds vs k Q rep hv hk q => ?_, fun G σ H S ds vs k Q g hv hk q => ?_⟩
  · cases hv with
    | nil => exact hk.elim
    | @cons d v ds vs h1 h2 =>
      refine ⟨v, vs, rfl, ?_⟩
      refine a2 U0 G σ H Oo os d v _ _ rep h1 hk fun G' σ' os' hk' r' sub o1 => ?_
      have hsub : ∀ a ∈ Oo ++ os', a ∈ Oo ++ os := fun a m => (List.mem_append.mp m).elim (List.mem_append_left _) fun z => List.mem_append_right _ (sub a z)
      refine b2 U0 G' σ' H Oo os' ds vs _ _ r' (h2.same (Same.refl H) (ug_less hsub)) hk' fun G2 σ2 os2 hk2 r2 sub2 o2 => ?_
      exact q G2 σ2 os2 hk2 r2 (fun a m => sub a (sub2 a m)) (o1.trans o2)
  · cases hv with
    | nil => exact hk.elim
    | @cons d v ds vs h1 h2 =>
      refine ⟨v, vs, rfl, ?_⟩
      refine a3 G σ H S d v _ _ g h1 hk fun G' σ' hk' g' o1 => ?_
      refine b3 G' σ' H S ds vs _ _ g' h2 hk' fun G2 σ2 hk2 g2 o2 => ?_
      exact q G2 σ2 hk2 g2 (o1.trans o2)
@[simp] def gTp (n : Nat) (gs : WGs) : WG := fun d G k => match d with | .tup ds => ds.length = n ∧ gs ds G k | _ => False
theorem g_tup {es : List Expr} {kk : Nat} {sl : List Nat} {n : Nat} {gs : WGs} {pos : Pos} (hK : ∀ j, (X j).K = K) (h : SndGs X K sl es gs) (mk : ∀ (u : L2.TGs), (∀ j, PGs (X j) es u) → ∀ j, PG (X j) (.Tuple es kk pos) (gTup (X j).K n u)) : SndG X K sl (.Tuple es kk pos) (gTp n gs) := by
  obtain ⟨u, b1, b2, b3⟩ := h
  refine ⟨gTup K n u, fun j => by have z := mk u b1 j; rw [hK j] at z; exact z, fun U0 G σ H Oo os d v k Q rep hv hk q => ?_, fun G σ H S d v k Q g hv hk q => ?_⟩
  · cases hv with
    | tup sq hl => exact ⟨_, _, rfl, sq, by rw [← hl.length]; exact hk.1, b2 U0 G σ H Oo os _ _ _ _ rep hl hk.2 q⟩
    | _ => exact hk.elim
  · cases hv with
    | tup sq hl' => exact ⟨_, _, rfl, sq, by rw [← hl'.length]; exact hk.1, b3 G σ H S _ _ _ _ g hl' hk.2 q⟩
    | _ => exact hk.elim
/-- a, b = e -/
@[simp] def sUnp (g : WG) (w : WE) : WS := fun E G => w G (fun d G' => g d G' E.nx) E.ex
theorem s_unp {tg e : Expr} {sl : List Nat} {g : WG} {w : WE} {pos : Pos} (h : SndE X K W e w) (hg : SndG X K sl tg g) (mk : ∀ (t : TE) (u : L2.TG), (∀ j, PE (X j) e t) → (∀ j, PG (X j) tg u) → ∀ j, PS (X j) (.Assign [tg] e pos) (tAsg t u)) (hp : ∀ i ∈ pn, i ∉ sl := by decide) : SndS X K W pn (.Assign [tg] e pos) (sUnp g w) := by
  obtain ⟨t, h1, h2⟩ := h
  obtain ⟨u, g1, g2, _⟩ := hg
  refine ⟨tAsg t u, mk t u h1 g1, fun U0 G σ H Oo os E D rep w ok => ?_⟩
  refine h2 U0 G σ H Oo os _ _ _ rep w (fun d G' v H' o2 os1 p s r x => ?_) ok.ex.here
  have z := frozen r x
  have vz : Vw K H' (ug U0 (Oo ++ os1)) d v := by
    refine x.vw (fun a m => ⟨r.u0 a (List.mem_append_left _ (List.mem_append_right _ m)), fun q => ?_⟩) (ug_sub fun a m => (List.mem_append.mp m).elim (fun z => List.mem_append_left _ (List.mem_append_left _ z)) (List.mem_append_right _))
    have nd := r.own.1
    rw [List.append_assoc] at nd
    obtain ⟨_, h2, h3⟩ := List.nodup_append.mp nd
    rcases List.mem_append.mp q with z | z
    · exact h3 a z a (List.mem_append_left _ m) rfl
    · exact (List.nodup_append.mp h2).2.2 a m a z rfl
  refine g2 U0 G' σ H' Oo os1 d v _ _ r.less vz p fun G2 σ2 os2 hk r2 sub out => ?_
  exact ok.nx G2 σ2 H' os2 hk (s.sub fun a m => List.mem_append_right _ (sub a m)) r2 (out_pn out hp)
/-! ### what is walked -/
def Kp (S : Addr → Prop) (H0 H : Hp) : Prop := ∀ a o, H0 a = some o → (S a ∨ ¬ Mut (some o)) → H a = some o
def th (S : Addr → Prop) (H0 : Hp) : Addr → Prop := fun a => S a ∧ ∃ o, H0 a = some o
/-- the walk J gives the items xs as long as what stands stays -/
structure ItD (K : PySem.W.Frag) (S : Addr → Prop) (H0 : Hp) (J : It) (xs : List D) : Prop where
  go : ∀ (i : Nat) (H : Hp), Kp S H0 H → i < xs.length → J.go i H
  stop : ∀ (i : Nat) (H : Hp), Kp S H0 H → xs.length ≤ i → J.stop i H
  yld : ∀ (i : Nat) (H : Hp) (v : V) (H' : Hp) (d : D), Kp S H0 H → J.yld i H v H' → xs[i]? = some d → Same H H' ∧ Vw K H' (th S H0) d v
theorem vw_kp {S : Addr → Prop} {H0 H : Hp} (k : Kp S H0 H) {d : D} {v : V} (h : Vw K H0 S d v) : Vw K H (th S H0) d v := h.mono (fun a o e q => k a o e q) fun a s e => ⟨s, e⟩
theorem vwl_kp {S : Addr → Prop} {H0 H : Hp} (k : Kp S H0 H) {d : List D} {v : List V} (h : VwL K H0 S d v) : VwL K H (th S H0) d v := h.mono (fun a o e q => k a o e q) fun a s e => ⟨s, e⟩
theorem rd_fun {H : Hp} {a : Addr} {xs ys : List V} (h : Rd H a (.lst xs)) (h' : Rd H a (.lst ys)) : xs = ys := by
  rcases h with h | ⟨o, h⟩ <;> rcases h' with h' | ⟨o', h'⟩
  · rw [h] at h'
    cases h'
    rfl
  · rw [h] at h'
    cases h'
  · rw [h] at h'
    cases h'
  · rw [h] at h'
    cases h'
    rfl
theorem itD_list {S : Addr → Prop} {H0 : Hp} {a : Addr} {ds : List D} {vs : List V} (r : Rd H0 a (.lst vs)) (sa : S a) (h : VwL K H0 S ds vs) : ItD K S H0 (Itl K a) ds := by
  have at_ : ∀ {H : Hp}, Kp S H0 H → SqL K H a vs := fun k => .inl (rd_keep (fun o e => k a o e (.inl sa)) r)
  refine ⟨fun i H k hi => ?_, fun i H k hi => ⟨vs, at_ k, by rw [← h.length]; exact hi⟩, fun i H v H' d k y e => ?_⟩
  · have hl : i < vs.length := by rw [← h.length]; exact hi
    exact ⟨vs, vs[i], at_ k, List.getElem?_eq_getElem hl⟩
  · obtain ⟨rfl, y⟩ := y
    obtain ⟨u, h1, h2⟩ := h.get e
    have z := y vs (at_ k)
    rw [h1] at z
    cases z
    exact ⟨Same.refl _, vw_kp k h2⟩
theorem itD_tup {S : Addr → Prop} {H0 : Hp} {a : Addr} {ds : List D} {vs : List V} (r : SqT K H0 a vs) (h : VwL K H0 S ds vs) : ItD K S H0 (Itt K a) ds := by
  have at_ : ∀ {H : Hp}, Kp S H0 H → SqT K H a vs := fun k => sqt_keep (fun o e m => k a o e (.inr m)) r
  refine ⟨fun i H k hi => ?_, fun i H k hi => ⟨vs, at_ k, by rw [← h.length]; exact hi⟩, fun i H v H' d k y e => ?_⟩
  · have hl : i < vs.length := by rw [← h.length]; exact hi
    exact ⟨vs, vs[i], at_ k, List.getElem?_eq_getElem hl⟩
  · obtain ⟨rfl, y⟩ := y
    obtain ⟨u, h1, h2⟩ := h.get e
    have z := y vs (at_ k)
    rw [h1] at z
    cases z
    exact ⟨Same.refl _, vw_kp k h2⟩
def rangeD (lo : Int) (n : Nat) : List D := (List.range n).map fun (i : Nat) => .int (lo + i)
theorem rangeD_len (lo : Int) (n : Nat) : (rangeD lo n).length = n := by simp [rangeD]
theorem itD_range {S : Addr → Prop} {H0 : Hp} {lo : Int} {n : Nat} : ItD K S H0 (Itr lo n) (rangeD lo n) := by
  refine ⟨fun i H k hi => by rw [rangeD_len] at hi; exact hi, fun i H k hi => by rw [rangeD_len] at hi; exact hi, fun i H v H' d k y e => ?_⟩
  obtain ⟨rfl, rfl⟩ := y
  unfold rangeD at e
  rw [List.getElem?_map] at e
  have hi : i < n := by
    cases q : (List.range n)[i]? with
    | none => rw [q] at e; cases e
    | some z =>
      have := (List.getElem?_eq_some_iff.mp q).1
      simpa using this
  rw [List.getElem?_range hi] at e
  cases e
  exact ⟨Same.refl _, .int _⟩
def enumD (xs : List D) : List D := xs.mapIdx fun (i : Nat) d => .tup [.int i, d]
theorem enumD_get (xs : List D) (i : Nat) : (enumD xs)[i]? = (xs[i]?).map fun d => .tup [.int i, d] := by simp [enumD]
theorem itD_enum {S : Addr → Prop} {H0 : Hp} {a : Addr} {ds : List D} {vs : List V} (r : Rd H0 a (.lst vs)) (sa : S a) (h : VwL K H0 S ds vs) : ItD K S H0 (Ite K a) (enumD ds) := by
  have at_ : ∀ {H : Hp}, Kp S H0 H → SqL K H a vs := fun k => .inl (rd_keep (fun o e => k a o e (.inl sa)) r)
  refine ⟨fun i H k hi => ?_, fun i H k hi => ⟨vs, at_ k, by rw [← h.length]; simpa [enumD] using hi⟩, fun i H v H' d k y e => ?_⟩
  · have hl : i < vs.length := by rw [← h.length]; simpa [enumD] using hi
    exact ⟨vs, vs[i], at_ k, List.getElem?_eq_getElem hl⟩
  · obtain ⟨t, x, rfl, hn, rfl, y⟩ := y
    rw [enumD_get] at e
    cases q : ds[i]? with
    | none => rw [q] at e; cases e
    | some d0 =>
      rw [q] at e
      cases e
      obtain ⟨u, h1, h2⟩ := h.get q
      have z := y vs (at_ k)
      rw [h1] at z
      cases z
      exact ⟨same_new hn, .tup (.inl (.inl upd_same)) (.cons (.int _) (.cons ((vw_kp k h2).same (same_new hn) fun _ s => s) .nil))⟩
def zipD (xs ys : List D) : List D := (xs.zip ys).map fun p => .tup [p.1, p.2]
theorem itD_zip {S : Addr → Prop} {H0 : Hp} {a b : Addr} {ds es : List D} {vs us : List V} (r : Rd H0 a (.lst vs)) (sa : S a) (h : VwL K H0 S ds vs) (r' : Rd H0 b (.lst us)) (sb : S b) (h' : VwL K H0 S es us) : ItD K S H0 (Itz K a b) (zipD ds es) := by
  have at1 : ∀ {H : Hp}, Kp S H0 H → SqL K H a vs := fun k => .inl (rd_keep (fun o e => k a o e (.inl sa)) r)
  have at2 : ∀ {H : Hp}, Kp S H0 H → SqL K H b us := fun k => .inl (rd_keep (fun o e => k b o e (.inl sb)) r')
  have len : (zipD ds es).length = min vs.length us.length := by simp [zipD, h.length, h'.length]
  refine ⟨fun i H k hi => ?_, fun i H k hi => ?_, fun i H v H' d k y e => ?_⟩
  · rw [len] at hi
    have h1 : i < vs.length := by omega
    have h2 : i < us.length := by omega
    exact ⟨vs, us, vs[i], us[i], at1 k, at2 k, List.getElem?_eq_getElem h1, List.getElem?_eq_getElem h2⟩
  · rw [len] at hi
    refine ⟨vs, us, at1 k, at2 k, ?_⟩
    rcases Nat.le_total vs.length us.length with z | z
    · left; omega
    · right; omega
  · obtain ⟨t, x, y', rfl, hn, rfl, y1, y2⟩ := y
    unfold zipD at e
    rw [List.getElem?_map] at e
    cases q : (ds.zip es)[i]? with
    | none => rw [q] at e; cases e
    | some d0 =>
      rw [q] at e
      cases e
      obtain ⟨q1, q2⟩ := List.getElem?_zip_eq_some.mp q
      obtain ⟨u, h1, h2⟩ := h.get q1
      obtain ⟨u', h3, h4⟩ := h'.get q2
      have z := y1 vs (at1 k)
      have z' := y2 us (at2 k)
      rw [h1] at z
      rw [h3] at z'
      cases z
      cases z'
      exact ⟨same_new hn, .tup (.inl (.inl upd_same)) (.cons ((vw_kp k h2).same (same_new hn) fun _ s => s) (.cons ((vw_kp k h4).same (same_new hn) fun _ s => s) .nil))⟩
/-- a source, read alone -/
def SndI (X : ι → Cx) (K : PySem.W.Frag) (tg e : Expr) (r : WA) : Prop := ∃ t : TI, (∀ j, PI (X j) tg e t) ∧ ∀ (G : T.Env) (σ : L2.St) (H : Hp) (S : Addr → Prop) (P : List D → Prop) (R : It → Hp → Prop),
  VwG K H S G σ → r G P → (∀ xs J H', P xs → Same H H' → ItD K (gr S H) H' J xs → R J H') → t σ H R
/-- a source -/
def SndIE (X : ι → Cx) (K : PySem.W.Frag) (W : WX) (tg e : Expr) (w : WL) : Prop := ∃ t : TI, (∀ j, PI (X j) tg e t) ∧ ∀ (U0 : Addr → Prop) (G : T.Env) (σ : L2.St) (H : Hp) (Oo os : List Addr) (P : List D → T.Env → Prop) (PX : Nat → T.Env → Prop) (R : It → Hp → Prop),
  Rep K U0 G σ H Oo os → w G P PX → (∀ xs G' J H' os1, P xs G' → Stp H H' os os1 → Rep K U0 G' σ H' Oo os1 → ItD K (ug U0 (Oo ++ os1)) H' J xs → R J H') → OkX K U0 Oo σ H os PX W → t σ H R
@[simp] def lZ (js : List Nat) (r : WA) : WL := fun G P _ => r (keepAt js 0 G) fun xs => P xs (frzAt js 0 G)
theorem ItD.imp {S S' : Addr → Prop} {H0 : Hp} {J : It} {xs : List D} (h : ItD K S H0 J xs) (hs : ∀ a, S a → S' a) : ItD K S' H0 J xs := by
  have kp : ∀ {H : Hp}, Kp S' H0 H → Kp S H0 H := fun k a o e q => k a o e (q.imp (hs a) id)
  exact ⟨fun i H k => h.go i H (kp k), fun i H k => h.stop i H (kp k), fun i H v H' d k y e => let ⟨a, b⟩ := h.yld i H v H' d (kp k) y e; ⟨a, b.same (Same.refl _) fun c z => ⟨hs c z.1, z.2⟩⟩⟩
theorem ie_z (js : List Nat) {tg e : Expr} {r : WA} (h : SndI X K tg e r) : SndIE X K W tg e (lZ js r) := by
  obtain ⟨t, h1, h2⟩ := h
  refine ⟨t, h1, fun U0 G σ H Oo os P PX R rep w ok _ => ?_⟩
  obtain ⟨os', rep', sub, g⟩ := rep.freeze js
  refine h2 (keepAt js 0 G) σ H _ _ _ g w fun xs J H' p s it => ?_
  exact ok xs _ J H' os' p ((Stp.of_same s os).sub sub) (rep'.same s) (it.imp fun a z => rep'.grow (H' := H') z)
@[simp] def asLst (r : WR) : WA := fun G P => r G fun d => match d with | .lst _ xs => P xs | _ => False
@[simp] def asTup (r : WR) : WA := fun G P => r G fun d => match d with | .tup xs => P xs | _ => False
theorem i_list {tg e : Expr} {r : WR} (hK : ∀ j, (X j).K = K) (h : SndR X K e r) : SndI X K tg e (asLst r) := by
  obtain ⟨t, h1, h2⟩ := h
  refine ⟨iList K t, fun j => hK j ▸ pi_list (h1 j), fun G σ H S P R g w q => ?_⟩
  refine h2 G σ H S _ _ g w fun d v H' p s hv => ?_
  cases hv with
  | lst rd sa hl => exact ⟨_, rfl, ⟨_, .inl rd⟩, q _ _ H' p s (itD_list rd sa hl)⟩
  | _ => exact p.elim
theorem i_tup {tg e : Expr} {r : WR} (hK : ∀ j, (X j).K = K) (h : SndR X K e r) : SndI X K tg e (asTup r) := by
  obtain ⟨t, h1, h2⟩ := h
  refine ⟨iTup K t, fun j => hK j ▸ pi_tup (h1 j), fun G σ H S P R g w q => ?_⟩
  refine h2 G σ H S _ _ g w fun d v H' p s hv => ?_
  cases hv with
  | tup sq hl => exact ⟨_, rfl, ⟨_, sq⟩, q _ _ H' p s (itD_tup sq hl)⟩
  | _ => exact p.elim
/-- a list made on the way -/
@[simp] def lLst (w : WE) : WL := fun G P PX => w G (fun d G' => match d with | .lst _ xs => P (frzL xs) G' | _ => False) PX
theorem letgo1 {U0 : Addr → Prop} {G : T.Env} {σ : L2.St} {H : Hp} {Oo os o2 : List Addr} {d : D} {v : V} (r : Rep K U0 G σ H (Oo ++ o2) os) (h : Rp K H (ug U0 ((Oo ++ o2) ++ os)) d v o2) : Vw K H (ug U0 (Oo ++ os)) d v := by
  have z := letgo r (by simpa using RpL.cons h .nil : RpL K H (ug U0 ((Oo ++ o2) ++ os)) [d] [v] o2)
  cases z with
  | cons h _ => exact h
theorem ie_list {tg e : Expr} {w : WE} (hK : ∀ j, (X j).K = K) (h : SndE X K W e w) : SndIE X K W tg e (lLst w) := by
  obtain ⟨t, h1, h2⟩ := h
  refine ⟨iList K t, fun j => hK j ▸ pi_list (h1 j), fun U0 G σ H Oo os P PX R rep w ok okx => ?_⟩
  refine h2 U0 G σ H Oo os _ _ _ rep w (fun d G' v H' o2 os1 p s r x => ?_) okx
  have z := letgo1 r x
  cases z with
  | lst rd sa hl => exact ⟨_, rfl, ⟨_, .inl rd⟩, ok _ G' _ H' os1 p (s.sub fun a m => List.mem_append_right _ m) r.less (itD_list rd sa hl.frz)⟩
  | _ => exact p.elim
@[simp] def aRng1 (t : WA) : WA := fun G P => t G fun ds => match ds with | [.int j] => (-(2 ^ 62) ≤ j ∧ j < 2 ^ 62) ∧ P (rangeD 0 j.toNat) | _ => False
@[simp] def aRng2 (t : WA) : WA := fun G P => t G fun ds => match ds with | [.int i, .int j] => (-(2 ^ 62) ≤ i ∧ i < 2 ^ 62 ∧ -(2 ^ 62) ≤ j ∧ j < 2 ^ 62) ∧ P (rangeD i (j - i).toNat) | _ => False
theorem i_rng1 {tg a : Expr} {t : WA} {p pos : Pos} (hg : ∀ j, Gl (X j) "range") (hm : ∀ j, (X j).mg "range" = none) (h : SndA X K [a] t) (hs : ∀ j, starEach [a] (X j).env = [(false, eval a (X j).env)] := by intro _; rfl) : SndI X K tg (.Call (.Name "range" p) [a] [] pos) (aRng1 t) := by
  obtain ⟨u, h1, h2⟩ := h
  refine ⟨iRng1 u, fun j => pi_range1 (hg j) (hm j) (h1 j) (hs j), fun G σ H S P R g w q => ?_⟩
  refine h2 G σ H S _ _ g w fun ds vs H' p s hv => ?_
  split at p
  · cases hv with
    | cons h t =>
      cases t
      cases h
      exact ⟨_, rfl, p.1.1, p.1.2, q _ _ H' p.2 s itD_range⟩
  · exact p.elim
theorem i_rng2 {tg a b : Expr} {t : WA} {p pos : Pos} (hg : ∀ j, Gl (X j) "range") (hm : ∀ j, (X j).mg "range" = none) (h : SndA X K [a, b] t) (hs : ∀ j, starEach [a, b] (X j).env = [(false, eval a (X j).env), (false, eval b (X j).env)] := by intro _; rfl)
    (hs2 : ∀ j, starEach [b] (X j).env = [(false, eval b (X j).env)] := by intro _; rfl) (mk : ∀ u, (∀ j, PA (X j) [a, b] u) → ∀ j, PI (X j) tg (.Call (.Name "range" p) [a, b] [] pos) (iRng2 u)) : SndI X K tg (.Call (.Name "range" p) [a, b] [] pos) (aRng2 t) := by
  obtain ⟨u, h1, h2⟩ := h
  refine ⟨iRng2 u, mk u h1, fun G σ H S P R g w q => ?_⟩
  refine h2 G σ H S _ _ g w fun ds vs H' p s hv => ?_
  split at p
  · cases hv with
    | cons h t =>
      cases t with
      | cons h' t =>
        cases t
        cases h
        cases h'
        exact ⟨_, _, rfl, p.1, q _ _ H' p.2 s itD_range⟩
  · exact p.elim
/-- a range: nothing of it leans on the slots -/
@[simp] def lNo (r : WA) : WL := fun G P _ => r G fun xs => P xs G
theorem ie_rng {tg a : Expr} {t : WA} {p pos : Pos} (hg : ∀ j, Gl (X j) "range") (hm : ∀ j, (X j).mg "range" = none) (h : SndA X K [a] t) (hs : ∀ j, starEach [a] (X j).env = [(false, eval a (X j).env)] := by intro _; rfl) : SndIE X K W tg (.Call (.Name "range" p) [a] [] pos) (lNo (aRng1 t)) := by
  obtain ⟨u, h1, h2⟩ := h
  refine ⟨iRng1 u, fun j => pi_range1 (hg j) (hm j) (h1 j) (hs j), fun U0 G σ H Oo os P PX R rep w q _ => ?_⟩
  refine h2 G σ H _ _ _ rep.vw w fun ds vs H' p s hv => ?_
  split at p
  · cases hv with
    | cons h t =>
      cases t
      cases h
      exact ⟨_, rfl, p.1.1, p.1.2, q _ G _ H' os p.2 (Stp.of_same s os) (rep.same s) itD_range⟩
  · exact p.elim
theorem ie_rng2 {tg a b : Expr} {t : WA} {p pos : Pos} (h : SndA X K [a, b] t) (mk : ∀ u, (∀ j, PA (X j) [a, b] u) → ∀ j, PI (X j) tg (.Call (.Name "range" p) [a, b] [] pos) (iRng2 u)) : SndIE X K W tg (.Call (.Name "range" p) [a, b] [] pos) (lNo (aRng2 t)) := by
  obtain ⟨u, h1, h2⟩ := h
  refine ⟨iRng2 u, mk u h1, fun U0 G σ H Oo os P PX R rep w q _ => ?_⟩
  refine h2 G σ H _ _ _ rep.vw w fun ds vs H' p s hv => ?_
  split at p
  · cases hv with
    | cons h t =>
      cases t with
      | cons h' t =>
        cases t
        cases h
        cases h'
        exact ⟨_, _, rfl, p.1, q _ G _ H' os p.2 (Stp.of_same s os) (rep.same s) itD_range⟩
  · exact p.elim
/-- range of a number that is reckoned on the way -/
@[simp] def lRng1 (t : WL) : WL := fun G P PX => t G (fun ds G' => match ds with | [.int j] => (-(2 ^ 62) ≤ j ∧ j < 2 ^ 62) ∧ P (rangeD 0 j.toNat) G' | _ => False) PX
theorem ie_rngE {tg a : Expr} {t : WL} {p pos : Pos} (hg : ∀ j, Gl (X j) "range") (hm : ∀ j, (X j).mg "range" = none) (h : SndL X K W [a] t) (hs : ∀ j, starEach [a] (X j).env = [(false, eval a (X j).env)] := by intro _; rfl) : SndIE X K W tg (.Call (.Name "range" p) [a] [] pos) (lRng1 t) := by
  obtain ⟨u, h1, h2⟩ := h
  refine ⟨iRng1 u, fun j => pi_range1 (hg j) (hm j) (h1 j) (hs j), fun U0 G σ H Oo os P PX R rep w q okx => ?_⟩
  refine h2 U0 G σ H Oo os _ _ _ rep w (fun ds G' vs H' o2 os1 p s r x => ?_) okx
  have z := letgo r x
  split at p
  · cases z with
    | cons h t =>
      cases t
      cases h
      exact ⟨_, rfl, p.1.1, p.1.2, q _ G' _ H' os1 p.2 (s.sub fun a m => List.mem_append_right _ m) r.less itD_range⟩
  · exact p.elim
@[simp] def aEnum (t : WA) : WA := fun G P => t G fun ds => match ds with | [.lst _ xs] => P (enumD xs) | _ => False
theorem i_enum {elts : List Expr} {kk : Nat} {tpos : Pos} {a : Expr} {t : WA} {p pos : Pos} (hK : ∀ j, (X j).K = K) (hg : ∀ j, Gl (X j) "enumerate") (hm : ∀ j, (X j).mg "enumerate" = none) (h : SndA X K [a] t) (hs : ∀ j, starEach [a] (X j).env = [(false, eval a (X j).env)] := by intro _; rfl) :
    SndI X K (.Tuple elts kk tpos) (.Call (.Name "enumerate" p) [a] [] pos) (aEnum t) := by
  obtain ⟨u, h1, h2⟩ := h
  refine ⟨iEnum K u, fun j => hK j ▸ pi_enum (hg j) (hm j) (h1 j) (hs j), fun G σ H S P R g w q => ?_⟩
  refine h2 G σ H S _ _ g w fun ds vs H' p s hv => ?_
  split at p
  · cases hv with
    | cons h t =>
      cases t
      cases h with
      | lst rd sa hl => exact ⟨_, _, rfl, .inl rd, q _ _ H' p s (itD_enum rd sa hl)⟩
  · exact p.elim
@[simp] def lEnum (t : WL) : WL := fun G P PX => t G (fun ds G' => match ds with | [.lst _ xs] => P (enumD (frzL xs)) G' | _ => False) PX
theorem ie_enum {elts : List Expr} {kk : Nat} {tpos : Pos} {a : Expr} {t : WL} {p pos : Pos} (hK : ∀ j, (X j).K = K) (hg : ∀ j, Gl (X j) "enumerate") (hm : ∀ j, (X j).mg "enumerate" = none) (h : SndL X K W [a] t) (hs : ∀ j, starEach [a] (X j).env = [(false, eval a (X j).env)] := by intro _; rfl) :
    SndIE X K W (.Tuple elts kk tpos) (.Call (.Name "enumerate" p) [a] [] pos) (lEnum t) := by
  obtain ⟨u, h1, h2⟩ := h
  refine ⟨iEnum K u, fun j => hK j ▸ pi_enum (hg j) (hm j) (h1 j) (hs j), fun U0 G σ H Oo os P PX R rep w q okx => ?_⟩
  refine h2 U0 G σ H Oo os _ _ _ rep w (fun ds G' vs H' o2 os1 p s r x => ?_) okx
  have z := letgo r x
  split at p
  · cases z with
    | cons h t =>
      cases t
      cases h with
      | lst rd sa hl => exact ⟨_, _, rfl, .inl rd, q _ G' _ H' os1 p (s.sub fun a m => List.mem_append_right _ m) r.less (itD_enum rd sa hl.frz)⟩
  · exact p.elim
@[simp] def aZip (t : WA) : WA := fun G P => t G fun ds => match ds with | [.lst _ xs, .lst _ ys] => P (zipD xs ys) | _ => False
theorem i_zip {elts : List Expr} {kk : Nat} {tpos : Pos} {a b : Expr} {t : WA} {p pos : Pos} (hK : ∀ j, (X j).K = K) (hg : ∀ j, Gl (X j) "zip") (hm : ∀ j, (X j).mg "zip" = none) (h : SndA X K [a, b] t) (hs : ∀ j, starEach [a, b] (X j).env = (false, eval a (X j).env) :: starEach [b] (X j).env := by intro _; rfl)
    (hpl : ∀ j, (backTo pos (starEach [b] (X j).env)).any (·.1) = false := by intro _; rfl) : SndI X K (.Tuple elts kk tpos) (.Call (.Name "zip" p) [a, b] [] pos) (aZip t) := by
  obtain ⟨u, h1, h2⟩ := h
  refine ⟨iZip K u, fun j => hK j ▸ pi_zip (hg j) (hm j) (h1 j) (hs j) (hpl j), fun G σ H S P R g w q => ?_⟩
  refine h2 G σ H S _ _ g w fun ds vs H' p s hv => ?_
  split at p
  · cases hv with
    | cons h t =>
      cases t with
      | cons h' t =>
        cases t
        cases h with
        | lst rd sa hl =>
          cases h' with
          | lst rd' sa' hl' => exact ⟨_, _, _, _, rfl, .inl rd, .inl rd', q _ _ H' p s (itD_zip rd sa hl rd' sa' hl')⟩
  · exact p.elim
/-! ### loops -/
@[simp] def sLoop (g : WG) (b : WS) (E : En) : List D → T.Env → Prop
  | [], G => E.nx G
  | x :: xs, G => g x G fun G' => b { E with nx := sLoop g b E xs, ct := sLoop g b E xs, bk := E.nx } G'
@[simp] def sFor (src : WL) (g : WG) (b : WS) : WS := fun E G => src G (fun xs G' => sLoop g b E xs G') E.ex
theorem s_for {tg it : Expr} {body : List Stmt} {src : WL} {sl : List Nat} {g : WG} {b : WS} {pos : Pos} (hp : ∀ j, PassesOwn (model (X j).prog (X j).w) (X j).A (X j).env (X j).xe) (hc : ∀ j, (X j).calm = true) (hi : SndIE X K W tg it src) (hg : SndG X K sl tg g) (hb : SndSs X K W pn body b)
    (hpn : ∀ i ∈ pn, i ∉ sl := by decide) (hs : ∀ j x, foldedSetIterable it (X j).env x = pure x := by intro _ _; rfl) : SndS X K W pn (.For tg it body [] pos) (sFor src g b) := by
  obtain ⟨ti, i1, i2⟩ := hi
  obtain ⟨tg', g1, g2, _⟩ := hg
  obtain ⟨tb, b1, b2⟩ := hb
  refine ⟨tFor ti tg' tb, fun j => ps_for (hp j) (hc j) (i1 j) (g1 j) (b1 j) (hs j), fun U0 G σ H Oo os E D rep w ok => ?_⟩
  refine i2 U0 G σ H Oo os _ _ _ rep w (fun xs G1 J H1 os1 p s1 r1 it => ?_) ok.ex.here
  have kp : ∀ {H' : Hp} {os' : List Addr}, Stp H1 H' os1 os' → Kp (ug U0 (Oo ++ os1)) H1 H' := fun {H' os'} st a o e q => st.keep a o e fun m => by
    rcases q with q | q
    · exact q.2 (List.mem_append_right _ m)
    · obtain ⟨o', e', mu⟩ := r1.own.2 a (List.mem_append_right _ m)
      rw [e] at e'; cases e'
      exact q mu
  refine ⟨fun i m σ' H' => m = xs.length - i ∧ i ≤ xs.length ∧ ∃ G' os', Rep K U0 G' σ' H' Oo os' ∧ Stp H1 H' os1 os' ∧ Pn pn σ σ' ∧ sLoop g b E (xs.drop i) G', ⟨xs.length, by simp, Nat.zero_le _, G1, os1, r1, Stp.refl _ _, Pn.refl _ _, by simpa using p⟩, ?_⟩
  rintro i m σ' H' ⟨rfl, hi, G', os', r', st', pn', lp⟩
  by_cases hlt : i < xs.length
  · right
    have ed : xs.drop i = xs[i] :: xs.drop (i + 1) := List.drop_eq_getElem_cons hlt
    rw [ed] at lp
    simp only [sLoop] at lp
    refine ⟨it.go i H' (kp st') hlt, fun σ2 H2 => ∃ G2 os2, Rep K U0 G2 σ2 H2 Oo os2 ∧ Stp H1 H2 os1 os2 ∧ Pn pn σ σ2 ∧ sLoop g b E (xs.drop (i + 1)) G2, fun σ2 H2 ⟨G2, os2, a1, a2, a3, a4⟩ => ⟨xs.length - (i + 1), by omega, rfl, hlt, G2, os2, a1, a2, a3, a4⟩, fun v H2 y => ?_⟩
    obtain ⟨sm, hv⟩ := it.yld i H' v H2 xs[i] (kp st') y (List.getElem?_eq_getElem hlt)
    have r2 := r'.same sm
    have st2 : Stp H1 H2 os1 os' := st'.trans (Stp.of_same sm os')
    have hv2 : Vw K H2 (ug U0 (Oo ++ os')) xs[i] v := by
      refine hv.mono (fun a o e _ => e) fun a u _ => ⟨u.1.1, fun m => ?_⟩
      rcases List.mem_append.mp m with z | z
      · exact u.1.2 (List.mem_append_left _ z)
      · rcases st'.new a z with y' | y'
        · exact u.1.2 (List.mem_append_right _ y')
        · obtain ⟨o2, e2⟩ := u.2
          rw [y'] at e2
          cases e2
    refine g2 U0 G' σ' H2 Oo os' xs[i] v _ _ r2 hv2 lp fun G3 σ3 os3 lp3 r3 sub3 out3 => ?_
    have st3 : Stp H1 H2 os1 os3 := st2.sub sub3
    have pn3 : Pn pn σ σ3 := pn'.trans (out_pn out3 hpn)
    have okb := ok.step (s1.trans st3) pn3
    refine b2 U0 G3 σ3 H2 Oo os3 _ _ r3 lp3 ⟨fun G4 σ4 H4 os4 p4 s4 r4 n4 => ?_, okb.rt, ?_, fun G4 σ4 H4 os4 p4 s4 r4 n4 => ?_, okb.ex⟩
    · exact ⟨G4, os4, r4, st3.trans s4, pn3.trans n4, p4⟩
    · exact okb.nx
    · exact ⟨G4, os4, r4, st3.trans s4, pn3.trans n4, p4⟩
  · left
    have e : i = xs.length := by omega
    subst e
    rw [List.drop_length] at lp
    exact ⟨it.stop _ H' (kp st') (Nat.le_refl _), ok.nx G' σ' H' os' lp (s1.trans st') r' pn'⟩
end
end T
namespace T
open PySem PySem.Spec PyProof.Rows L2
/-- the blocks of a comprehension -/
structure BI (ι : Type) where
  j : ι
  s : Shared
  H : Hp
  C : Addr
  cl : List (Str × Addr)
  fp : List Addr
abbrev bkx {ι : Type} (X : ι → Cx) (scope : Scope) : BI ι → Cx := fun q => (X q.j).blk q.s q.H scope (compEnvC scope q.cl q.C (X q.j).env) q.fp
@[simp] def wipeE : T.Env → List Nat → T.Env
  | G, [] => G
  | G, v :: vs => (wipeE G vs).set v none
theorem wipeE_len (G : T.Env) : ∀ vs : List Nat, (wipeE G vs).length = G.length
  | [] => rfl
  | v :: vs => by unfold wipeE; rw [List.length_set, wipeE_len G vs]
theorem wipeE_get (G : T.Env) : ∀ (vs : List Nat) (i : Nat), (wipeE G vs)[i]? = if i ∈ vs then (G[i]?).map (fun _ => none) else G[i]?
  | [], i => by simp [wipeE]
  | v :: vs, i => by
    unfold wipeE
    by_cases h : v = i
    · subst h
      by_cases hl : v < (wipeE G vs).length
      · rw [List.getElem?_set_self hl]
        have : v < G.length := by rw [wipeE_len] at hl; exact hl
        simp [this]
      · rw [List.getElem?_eq_none (by simpa using hl)]
        have : G.length ≤ v := by rw [wipeE_len] at hl; omega
        simp [List.getElem?_eq_none this]
    · rw [List.getElem?_set_ne h, wipeE_get G vs i]
      simp [Ne.symm h]
section
variable {ι : Type} {X : ι → Cx} {K : PySem.W.Frag} {W : WX} {pn : List Nat}
theorem VwG.wipe {H : Hp} {S : Addr → Prop} {G : T.Env} {σ : L2.St} (g : VwG K H S G σ) (vs : List Nat) : VwG K H S (wipeE G vs) (wipe σ vs) := by
  refine ⟨by rw [wipeE_len, wipe_length]; exact g.len, fun i d e => ?_⟩
  rw [wipeE_get] at e
  by_cases m : i ∈ vs
  · rw [if_pos m] at e
    cases q : G[i]? with
    | none => rw [q] at e; cases e
    | some z => rw [q] at e; cases e
  · rw [if_neg m] at e
    obtain ⟨v, h1, h2⟩ := g.at' i d e
    exact ⟨v, by rw [wipe_get, if_neg m]; exact h1, h2⟩
/-! ### conditions of a comprehension -/
def SndTs (X : ι → Cx) (K : PySem.W.Frag) (ifs : List Expr) (r : WT) : Prop := ∃ t : TT, (∀ i, PTs (X i) ifs t) ∧ ∀ (G : T.Env) (σ : L2.St) (H : Hp) (S : Addr → Prop) (P : Bool → Prop) (Q : Bool → Hp → Prop),
  VwG K H S G σ → r G P → (∀ b H', P b → Same H H' → Q b H') → t σ H Q
@[simp] def tT : WT := fun _ P => P true
theorem ts_nil : SndTs X K [] tT := ⟨tYes, fun _ => pts_nil, fun G σ H S P Q g r q => q true H r (Same.refl H)⟩
theorem ts_one {e : Expr} {r : WT} (h : SndT X K e r) : SndTs X K [e] r := by
  obtain ⟨t, h1, h2⟩ := h
  exact ⟨t, fun j => pts_one (h1 j), h2⟩
def SndBs (X : ι → Cx) (K : PySem.W.Frag) (W : WX) (ifs : List Expr) (w : WB) : Prop := ∃ t : TT, (∀ i, PTs (X i) ifs t) ∧ ∀ (U0 : Addr → Prop) (G : T.Env) (σ : L2.St) (H : Hp) (Oo os : List Addr) (P : Bool → T.Env → Prop) (PX : Nat → T.Env → Prop) (Q : Bool → Hp → Prop),
  Rep K U0 G σ H Oo os → w G P PX → OkB K U0 Oo σ H os P Q → OkX K U0 Oo σ H os PX W → t σ H Q
@[simp] def bYes : WB := fun G P _ => P true G
theorem bs_nil : SndBs X K W [] bYes := ⟨tYes, fun _ => pts_nil, fun U0 G σ H Oo os P PX Q rep w ok _ => ok true G H os w (Stp.refl _ _) rep⟩
theorem bs_one {e : Expr} {w : WB} (h : SndB X K W e w) : SndBs X K W [e] w := by
  obtain ⟨t, h1, h2⟩ := h
  exact ⟨t, fun j => pts_one (h1 j), h2⟩
/-- the readings alone -/
def SemF (K : PySem.W.Frag) (t : TE) (r : WA) : Prop := ∀ (G : T.Env) (σ : L2.St) (H : Hp) (S : Addr → Prop) (P : List D → Prop) (Q : VK),
  VwG K H S G σ → r G P → (∀ ds vs p H', P ds → Same H H' → H' p = none → VwL K H' (gr S H) ds vs → Q (.ref p) (upd H' p (.lst vs))) → t σ H Q
def SemE (K : PySem.W.Frag) (W : WX) (t : TE) (w : WE) : Prop := ∀ (U0 : Addr → Prop) (G : T.Env) (σ : L2.St) (H : Hp) (Oo os : List Addr) (P : D → T.Env → Prop) (PX : Nat → T.Env → Prop) (Q : VK),
  Rep K U0 G σ H Oo os → w G P PX → OkE K U0 Oo σ H os P Q → OkX K U0 Oo σ H os PX W → t σ H Q
theorem semE_f {t : TE} {r : WA} (h2 : SemF K t r) : SemE K W t (eF r) := fun U0 G σ H Oo os P PX Q rep w ok _ => by
  refine h2 G σ H _ _ _ rep.vw w fun ds vs p H' hp s hn hv => ?_
  obtain ⟨r1, r2, r3⟩ := (rep.same s).fresh hn (hv.flat (S' := ug U0 (Oo ++ os)) hp.1)
  rw [frzL_flat ds hp.1] at r2
  exact ok _ G _ _ [p] os hp.2 ((Stp.of_same s os).trans r3) r1 r2
theorem semE_fz (js : List Nat) {t : TE} {r : WA} (h2 : SemF K t r) : SemE K W t (eFZ js r) := fun U0 G σ H Oo os P PX Q rep w ok _ => by
  obtain ⟨os', rep', sub, g⟩ := rep.freeze js
  refine h2 (keepAt js 0 G) σ H _ _ _ g w fun ds vs p H' hp s hn hv => ?_
  obtain ⟨r1, r2, r3⟩ := (rep'.same s).fresh hn (hv.mono (S' := ug U0 (Oo ++ os')) (fun a o q _ => q) fun a q ⟨o, e⟩ => by
    rcases q with q | q
    · exact q
    · exact ⟨rep'.un a q, rep'.own.none q⟩)
  exact ok _ _ _ _ [p] os' hp (((Stp.of_same s os).sub sub).trans r3) r1 r2
/-- the parts of a comprehension -/
def CompP (X : ι → Cx) (tg it elt : Expr) (ifs : List Expr) (scope : Scope) (vs : List Nat) (Sem : TE → Prop) : Prop := ∃ (ti : TI) (tg' : L2.TG) (tt : TT) (te : TE), (∀ j, PI (X j) tg it ti) ∧ (∀ q, PG (bkx X scope q) tg tg') ∧ (∀ q, PTs (bkx X scope q) ifs tt) ∧ (∀ q, PE (bkx X scope q) elt te) ∧ Sem (tLc ti tg' tt te vs)
theorem CompP.imp {tg it elt : Expr} {ifs : List Expr} {scope : Scope} {vs : List Nat} {A B : TE → Prop} (h : CompP X tg it elt ifs scope vs A) (f : ∀ t, A t → B t) : CompP X tg it elt ifs scope vs B := by
  obtain ⟨a, b, c, d, h1, h2, h3, h4, h5⟩ := h
  exact ⟨a, b, c, d, h1, h2, h3, h4, f _ h5⟩
theorem CompP.pe {own : List (Str × Nat)} {tg it elt : Expr} {ifs : List Expr} {scope : Scope} {pos : Pos} {A : TE → Prop} (h : CompP X tg it elt ifs scope (own.map (·.2)) A) (hc : ∀ j, (X j).calm = true) (hN : ∀ j, (X j).N.Nodup) (ok : ∀ j, BlkOk (X j).N (X j).env.scope scope own)
    (hs : ∀ j x, foldedSetIterable it (X j).env x = pure x) : ∃ t, (∀ j, PE (X j) (.ListComp elt [⟨tg, it, ifs, 0⟩] scope pos) t) ∧ A t := by
  obtain ⟨a, b, c, d, h1, h2, h3, h4, h5⟩ := h
  exact ⟨_, fun j => pe_lc (hc j) (hN j) (h1 j) (ok j) (fun s H C cl fp => h2 ⟨j, s, H, C, cl, fp⟩) (fun s H C cl fp => h3 ⟨j, s, H, C, cl, fp⟩) (fun s H C cl fp => h4 ⟨j, s, H, C, cl, fp⟩) (hs j), h5⟩
/-- y = [..], y a local -/
theorem s_setLc (i : Nat) {y : Str} {py spos pos : Pos} {own : List (Str × Nat)} {tg it elt : Expr} {ifs : List Expr} {scope : Scope} {w : WE} (h : CompP X tg it elt ifs scope (own.map (·.2)) (fun t => SemE K W t w)) (hc : ∀ j, (X j).calm = true) (hN : ∀ j, (X j).N.Nodup) (ok : ∀ j, BlkOk (X j).N (X j).env.scope scope own)
    (hy : ∀ j, (X j).N[i]? = some y) (hyl : ∀ j, (X j).env.scope.names.lookup y = some .local) (hsw : ∀ j, swapsWith (.ListComp elt [⟨tg, it, ifs, 0⟩] scope pos) (some (.Name y py)) spos.line (X j).env = pure true) (hi : i ∉ pn := by decide) (hs : ∀ j x, foldedSetIterable it (X j).env x = pure x := by intro _ _; rfl) :
    SndS X K W pn (.Assign [.Name y py] (.ListComp elt [⟨tg, it, ifs, 0⟩] scope pos) spos) (sSet i w) := by
  obtain ⟨a, b, c, d, h1, h2, h3, h4, h5⟩ := h
  refine ⟨_, fun j => ps_setLc (hc j) (hN j) (hy j) (hyl j) (hsw j) (h1 j) (ok j) (fun s H C cl fp => h2 ⟨j, s, H, C, cl, fp⟩) (fun s H C cl fp => h3 ⟨j, s, H, C, cl, fp⟩) (fun s H C cl fp => h4 ⟨j, s, H, C, cl, fp⟩) (hs j), fun U0 G σ H Oo os E De rep wv okq => ?_⟩
  refine h5 U0 G σ H Oo os _ _ _ rep wv (fun d G' v H' o2 os1 p s r x => ?_) okq.ex.here
  obtain ⟨os', r', sub⟩ := r.set i x
  exact okq.nx _ _ H' os' p (s.sub sub) r' (Pn.set hi)
/-! ### a comprehension, read alone -/
@[simp] def compR (g : WG) (c : WT) (r : WR) (G : T.Env) : List D → (List D → Prop) → Prop
  | [], P => P []
  | x :: xs, P => g x G fun G1 => c G1 fun b => if b = true then r G1 fun d => compR g c r G xs (fun ds => P (d :: ds)) else compR g c r G xs P
@[simp] def aComp (src : WA) (g : WG) (c : WT) (r : WR) (vs : List Nat) : WA := fun G P => src G fun xs => xs.length ≤ 100000 ∧ compR g c r (wipeE G vs) xs P
theorem comp_read {own : List (Str × Nat)} {tg it elt : Expr} {ifs : List Expr} {scope : Scope} {src : WA} {sl : List Nat} {g : WG} {c : WT} {r : WR} (hi : SndI X K tg it src)
    (hg : SndG (bkx X scope) K sl tg g) (ht : SndTs (bkx X scope) K ifs c) (he : SndR (bkx X scope) K elt r) (hsl : ∀ i ∈ sl, i ∈ own.map (·.2) := by decide) :
    CompP X tg it elt ifs scope (own.map (·.2)) (fun t => SemF K t (aComp src g c r (own.map (·.2)))) := by
  obtain ⟨ti, i1, i2⟩ := hi
  obtain ⟨tg', g1, _, g3⟩ := hg
  obtain ⟨tt, t1, t2⟩ := ht
  obtain ⟨te, e1, e2⟩ := he
  refine ⟨ti, tg', tt, te, i1, g1, t1, e1, fun G0 σ H S P Q vg0 w q => ?_⟩
  refine i2 G0 σ H S _ _ vg0 w fun xs J H1 p s1 it => ?_
  obtain ⟨hl, p⟩ := p
  intro D hD
  have hD0 : H D = none := s1.free hD
  have hE : ∀ a, gr S H a ∧ a ≠ D → gr S H a := fun a z => z.1
  -- slots of both of one length
  obtain ⟨G, vg, p⟩ : ∃ G : T.Env, VwG K H S G (wipe σ (own.map (·.2))) ∧ compR g c r G xs P := ⟨_, vg0.wipe _, p⟩
  have vgA : ∀ {Hc : Hp}, Same H1 Hc → VwG K Hc (fun a => gr S H a ∧ a ≠ D) G (wipe σ (own.map (·.2))) := fun {Hc} sm => ⟨vg.len, fun i d e => by
    obtain ⟨v, h1, h2⟩ := vg.at' i d e
    exact ⟨v, h1, h2.mono (fun a o e _ => sm a o (s1 a o e)) fun a z ⟨o, e⟩ => ⟨.inl z, ne_of_none e hD0⟩⟩⟩
  have sm0 : Same H1 (upd H1 D (.lst [])) := same_new hD
  refine ⟨fun i m Hc => m = xs.length - i ∧ i ≤ xs.length ∧ ∃ acc accD, Same H1 Hc ∧ Hc D = some (.lst acc) ∧ acc.length ≤ i ∧ VwL K Hc (fun a => gr S H a ∧ a ≠ D) accD acc ∧ compR g c r G (xs.drop i) (fun ds => P (accD ++ ds)), ⟨xs.length, by simp, Nat.zero_le _, [], [], sm0, upd_same, Nat.le_refl _, .nil, by simpa using p⟩, ?_⟩
  rintro i m Hc ⟨rfl, hi, acc, accD, sm, hDc, hal, hv, cp⟩
  have kp : ∀ {Hc : Hp}, Same H1 Hc → Kp (gr S H) H1 Hc := fun sm a o e _ => sm a o e
  by_cases hlt : i < xs.length
  · right
    have ed : xs.drop i = xs[i] :: xs.drop (i + 1) := List.drop_eq_getElem_cons hlt
    rw [ed] at cp
    simp only [compR] at cp
    refine ⟨it.go i Hc (kp sm) hlt, fun Hc' => ∃ acc accD, Same H1 Hc' ∧ Hc' D = some (.lst acc) ∧ acc.length ≤ i + 1 ∧ VwL K Hc' (fun a => gr S H a ∧ a ≠ D) accD acc ∧ compR g c r G (xs.drop (i + 1)) (fun ds => P (accD ++ ds)), fun Hc' h => ⟨xs.length - (i + 1), by omega, rfl, hlt, h⟩, fun v H2 y => ?_⟩
    obtain ⟨sm2, hx⟩ := it.yld i Hc v H2 xs[i] (kp sm) y (List.getElem?_eq_getElem hlt)
    have hx' : Vw K H2 (fun a => gr S H a ∧ a ≠ D) xs[i] v := hx.same (Same.refl _) fun a z => ⟨z.1, fun e => by
      obtain ⟨o, q⟩ := z.2
      rw [e, hD] at q
      cases q⟩
    refine g3 G _ H2 _ _ v _ _ (vgA (sm.trans sm2)) hx' cp fun G1 σ1 cp1 vg1 out => ⟨out.wipe hsl |>.trans ?_, ?_⟩
    · -- wiped twice
      apply List.ext_getElem?
      intro k
      rw [wipe_get, wipe_get]
      by_cases m : k ∈ own.map (·.2)
      · rw [if_pos m, if_pos m]
        cases σ[k]? <;> rfl
      · rw [if_neg m, if_neg m]
    · refine t2 G1 σ1 H2 _ _ _ vg1 cp1 fun b H3 cp3 sm3 => ?_
      have s13 : Same H1 H3 := (sm.trans sm2).trans sm3
      cases b with
      | false =>
        show ∃ acc accD, _
        rw [if_neg Bool.false_ne_true] at cp3
        exact ⟨acc, accD, s13, sm3 _ _ (sm2 _ _ hDc), by omega, hv.same (sm2.trans sm3) fun _ z => z, cp3⟩
      | true =>
        rw [if_pos rfl]
        rw [if_pos rfl] at cp3
        refine e2 G1 σ1 H3 _ _ _ (vg1.same sm3 fun _ z => z) cp3 fun d y H4 cp4 sm4 hd => ?_
        have hD4 : H4 D = some (.lst acc) := sm4 _ _ (sm3 _ _ (sm2 _ _ hDc))
        have S4 : ∀ a, gr (fun a => gr S H a ∧ a ≠ D) H3 a → gr S H a ∧ a ≠ D := fun a z => by
          rcases z with z | z
          · exact z
          · refine ⟨.inr (s1.free (s13.free z)), fun e => ?_⟩
            rw [e, sm3 _ _ (sm2 _ _ hDc)] at z
            cases z
        have up : ∀ a o, H4 a = some o → ((gr S H a ∧ a ≠ D) ∨ ¬ Mut (some o)) → (upd H4 D (.lst (acc ++ [y]))) a = some o := fun a o e h => by
          have ne : a ≠ D := by
            rcases h with h | h
            · exact h.2
            · rintro rfl
              rw [hD4] at e
              cases e
              exact h trivial
          rw [upd_ne ne]
          exact e
        refine ⟨acc, hD4, small_lt (by omega), acc ++ [y], accD ++ [d], fun a o e => ?_, upd_same, by simp; omega, ?_, ?_⟩
        · rw [upd_ne (ne_of_none e hD)]
          exact sm4 a o (s13 a o e)
        · exact VwL.append ((hv.same ((sm2.trans sm3).trans sm4) fun _ z => z).mono up fun a z _ => z) (.cons ((hd.same (Same.refl _) S4).mono up fun a z _ => z) .nil)
        · have e : (fun ds => P (accD ++ (d :: ds))) = fun ds => P (accD ++ [d] ++ ds) := by
            funext ds
            simp
          rw [← e]
          exact cp4
  · left
    have e : i = xs.length := by omega
    subst e
    rw [List.drop_length] at cp
    simp only [compR, List.append_nil] at cp
    refine ⟨it.stop _ Hc (kp sm) (Nat.le_refl _), ?_⟩
    -- the new list taken off
    have eH : upd (fun b => if b = D then none else Hc b) D (.lst acc) = Hc := by
      funext b
      unfold upd
      by_cases hb : b = D
      · subst hb
        rw [if_pos rfl]
        exact hDc.symm
      · rw [if_neg hb]
        show (if b = D then none else Hc b) = Hc b
        rw [if_neg hb]
    rw [← eH]
    refine q accD acc D _ cp (fun a o e => ?_) (if_pos rfl) (hv.mono (fun a o e h => ?_) fun a z _ => z.1)
    · have ne : a ≠ D := ne_of_none e hD0
      show (if a = D then none else Hc a) = _
      rw [if_neg ne]
      exact sm a o (s1 a o e)
    · have ne : a ≠ D := by
        rcases h with h | h
        · exact h.2
        · rintro rfl
          rw [hDc] at e
          cases e
          exact h trivial
      show (if a = D then none else Hc a) = _
      rw [if_neg ne]
      exact e
theorem f_comp {own : List (Str × Nat)} {tg it elt : Expr} {ifs : List Expr} {scope : Scope} {pos : Pos} {r : WA} (h : CompP X tg it elt ifs scope (own.map (·.2)) (fun t => SemF K t r)) (hc : ∀ j, (X j).calm = true) (hN : ∀ j, (X j).N.Nodup) (ok : ∀ j, BlkOk (X j).N (X j).env.scope scope own)
    (hs : ∀ j x, foldedSetIterable it (X j).env x = pure x := by intro _ _; rfl) : SndF X K (.ListComp elt [⟨tg, it, ifs, 0⟩] scope pos) r := h.pe hc hN ok hs
theorem e_compP {own : List (Str × Nat)} {tg it elt : Expr} {ifs : List Expr} {scope : Scope} {pos : Pos} {w : WE} (h : CompP X tg it elt ifs scope (own.map (·.2)) (fun t => SemE K W t w)) (hc : ∀ j, (X j).calm = true) (hN : ∀ j, (X j).N.Nodup) (ok : ∀ j, BlkOk (X j).N (X j).env.scope scope own)
    (hs : ∀ j x, foldedSetIterable it (X j).env x = pure x := by intro _ _; rfl) : SndE X K W (.ListComp elt [⟨tg, it, ifs, 0⟩] scope pos) w := h.pe hc hN ok hs
end
end T
namespace T
open PySem PySem.Spec PyProof.Rows L2
section
variable {ι : Type} {X : ι → Cx} {K : PySem.W.Frag} {W : WX} {pn : List Nat}
/-! ### a comprehension whose items may change the slots -/
theorem RpG.set_none {H : Hp} {U : Addr → Prop} {G : T.Env} {σ : L2.St} {os : List Addr} (g : RpG K H U G σ os) (i : Nat) (x : Option V) (h : G[i]? = some none ∨ G[i]? = none) : RpG K H U G (σ.set i x) os := by
  induction g generalizing i with
  | nil => exact .nil
  | skip y t ih =>
    cases i with
    | zero => exact .skip x t
    | succ i => exact .skip y (ih i (by simpa using h))
  | cons r t ih =>
    cases i with
    | zero => simp at h
    | succ i => exact .cons r (ih i (by simpa using h))
theorem RpG.wipe {H : Hp} {U : Addr → Prop} {G : T.Env} {σ : L2.St} : ∀ (vs : List Nat) {os : List Addr}, RpG K H U G σ os → ∃ o1 o2, RpG K H U (wipeE G vs) (wipe σ vs) o2 ∧ os.Perm (o1 ++ o2)
  | [], os, g => ⟨[], os, g, List.Perm.refl _⟩
  | v :: vs, os, g => by
    obtain ⟨o1, o2, h1, h2⟩ := RpG.wipe vs g
    obtain ⟨p1, p2, h3, h4⟩ := h1.drop v
    refine ⟨o1 ++ p1, p2, h3.set_none v none ?_, ?_⟩
    · by_cases hl : v < (wipeE G vs).length
      · left
        exact RpG.none_at hl
      · right
        exact List.getElem?_eq_none (by simpa using hl)
    · rw [List.append_assoc]
      exact h2.trans (List.Perm.append_left o1 h4)
theorem RpG.unwipe {H : Hp} {U : Addr → Prop} {G : T.Env} {σ τ : L2.St} {os : List Addr} (g : RpG K H U G τ os) (hl : σ.length = τ.length) (h : ∀ i : Nat, (∃ d, G[i]? = some (some d)) → σ[i]? = τ[i]?) : RpG K H U G σ os := by
  induction g generalizing σ with
  | nil =>
    cases σ with
    | nil => exact .nil
    | cons _ _ => simp at hl
  | skip y t ih =>
    cases σ with
    | nil => simp at hl
    | cons x σ => exact .skip x (ih (by simpa using hl) fun i q => by simpa using h (i + 1) (by simpa using q))
  | cons r t ih =>
    cases σ with
    | nil => simp at hl
    | cons x σ =>
      have e := h 0 ⟨_, rfl⟩
      simp only [List.getElem?_cons_zero, Option.some.injEq] at e
      subst e
      exact .cons r (ih (by simpa using hl) fun i q => by simpa using h (i + 1) (by simpa using q))
theorem Rep.part {U0 : Addr → Prop} {G G' : T.Env} {σ σ' : L2.St} {H : Hp} {Oo os o1 o2 : List Addr} (r : Rep K U0 G σ H Oo os) (g : ∀ U, RpG K H U G σ os → RpG K H U G' σ' o2) (pm : os.Perm (o1 ++ o2)) : Rep K U0 G' σ' H Oo o2 := by
  have hs : ∀ a ∈ Oo ++ o2, a ∈ Oo ++ os := fun a m => by
    rcases List.mem_append.mp m with z | z
    · exact List.mem_append_left _ z
    · exact List.mem_append_right _ (pm.mem_iff.mpr (List.mem_append_right _ z))
  obtain ⟨n1, n2, n3⟩ := List.nodup_append.mp r.own.1
  obtain ⟨_, m2, _⟩ := List.nodup_append.mp (pm.nodup_iff.mp n2)
  exact ⟨(g _ r.g).mono (os0 := o2) (fun a o e _ => e) (fun a u _ => ug_sub hs a u) fun a m => m, ⟨List.nodup_append.mpr ⟨n1, m2, fun a m b m' => n3 a m b (pm.mem_iff.mpr (List.mem_append_right _ m'))⟩, fun a m => r.own.2 a (hs a m)⟩, fun a m => r.u0 a (hs a m), r.un⟩
theorem Rep.wipe (vs : List Nat) {U0 : Addr → Prop} {G : T.Env} {σ : L2.St} {H : Hp} {Oo os : List Addr} (r : Rep K U0 G σ H Oo os) : ∃ os', Rep K U0 (wipeE G vs) (L2.wipe σ vs) H Oo os' ∧ ∀ a ∈ os', a ∈ os := by
  obtain ⟨o1, o2, h1, pm⟩ := r.g.wipe vs
  have hs : ∀ a ∈ Oo ++ o2, a ∈ Oo ++ os := fun a m => by
    rcases List.mem_append.mp m with z | z
    · exact List.mem_append_left _ z
    · exact List.mem_append_right _ (pm.mem_iff.mpr (List.mem_append_right _ z))
  obtain ⟨n1, n2, n3⟩ := List.nodup_append.mp r.own.1
  obtain ⟨_, m2, _⟩ := List.nodup_append.mp (pm.nodup_iff.mp n2)
  exact ⟨o2, ⟨h1.mono (os0 := o2) (fun a o e _ => e) (fun a u _ => ug_sub hs a u) fun a m => m, ⟨List.nodup_append.mpr ⟨n1, m2, fun a m b m' => n3 a m b (pm.mem_iff.mpr (List.mem_append_right _ m'))⟩, fun a m => r.own.2 a (hs a m)⟩, fun a m => r.u0 a (hs a m), r.un⟩, fun a m => pm.mem_iff.mpr (List.mem_append_right _ m)⟩
theorem Rep.unwipe {vs : List Nat} {U0 : Addr → Prop} {G : T.Env} {σ τ : L2.St} {H : Hp} {Oo os : List Addr} (r : Rep K U0 (wipeE G vs) τ H Oo os) (hw : L2.wipe σ vs = L2.wipe τ vs) (hl : σ.length = τ.length) : Rep K U0 (wipeE G vs) σ H Oo os := by
  refine ⟨r.g.unwipe hl fun i ⟨d, e⟩ => ?_, r.own, r.u0, r.un⟩
  rw [wipeE_get] at e
  by_cases m : i ∈ vs
  · rw [if_pos m] at e
    cases q : G[i]? with
    | none => rw [q] at e; cases e
    | some z => rw [q] at e; cases e
  · have z := congrArg (fun (l : L2.St) => l[i]?) hw
    simp only [wipe_get, if_neg m] at z
    exact z
def compE (g : WG) (c : WB) (w : WE) (vs : List Nat) : List D → T.Env → (List D → T.Env → Prop) → Prop
  | [], G, P => P [] G
  | x :: xs, G, P => g x G fun G1 => c G1 (fun b G2 => if b = true then w G2 (fun d G3 => compE g c w vs xs (wipeE G3 vs) fun ds G4 => P (d :: ds) G4) (fun _ _ => False) else compE g c w vs xs (wipeE G2 vs) P) (fun _ _ => False)
@[simp] def eComp (src : WL) (g : WG) (c : WB) (w : WE) (vs : List Nat) : WE := fun G P PX => src G (fun xs G1 => xs.length ≤ 100000 ∧ compE g c w vs xs (wipeE G1 vs) fun ds G2 => P (.lst true ds) G2) PX
abbrev never : WX := fun _ _ _ _ => False
theorem app_own {H : Hp} {D : Addr} {acc : List V} {y : V} : Stp H (upd H D (.lst (acc ++ [y]))) [D] [D] :=
  ⟨fun a o e n => by rw [upd_ne (by simpa using n)]; exact e, fun a m => .inl m, fun a o e => by
    by_cases h : a = D
    · subst h; exact ⟨_, upd_same⟩
    · exact ⟨o, by rw [upd_ne h]; exact e⟩⟩
theorem comp_eff {own : List (Str × Nat)} {tg it elt : Expr} {ifs : List Expr} {scope : Scope} {src : WL} {sl : List Nat} {g : WG} {c : WB} {w : WE} (hi : SndIE X K W tg it src)
    (hg : SndG (bkx X scope) K sl tg g) (ht : SndBs (bkx X scope) K never ifs c) (he : SndE (bkx X scope) K never elt w) (hsl : ∀ i ∈ sl, i ∈ own.map (·.2) := by decide) :
    CompP X tg it elt ifs scope (own.map (·.2)) (fun t => SemE K W t (eComp src g c w (own.map (·.2)))) := by
  obtain ⟨ti, i1, i2⟩ := hi
  obtain ⟨tg', g1, g2, _⟩ := hg
  obtain ⟨tt, t1, t2⟩ := ht
  obtain ⟨te, e1, e2⟩ := he
  refine ⟨ti, tg', tt, te, i1, g1, t1, e1, fun U0 G σ H Oo os P PX Q rep wv okq okx => ?_⟩
  refine i2 U0 G σ H Oo os _ _ _ rep wv (fun xs G1 J H1 os1 p s1 r1 it => ?_) okx
  obtain ⟨hl, p⟩ := p
  intro D hD
  obtain ⟨os2, r2, sub2⟩ := r1.wipe (own.map (·.2))
  obtain ⟨r3, x3, s3⟩ := r2.fresh (ds := []) (vs := []) hD .nil
  have s13 : Stp H1 (upd H1 D (.lst [])) os1 ([D] ++ os1) := by
    refine ⟨fun a o e _ => by rw [upd_ne (ne_of_none e hD)]; exact e, fun a m => ?_, fun a o e => ⟨o, by rw [upd_ne (ne_of_none e hD)]; exact e⟩⟩
    rcases List.mem_append.mp m with z | z
    · right
      have q : a = D := by simpa using z
      rw [q]
      exact hD
    · exact .inl z
  have kp : ∀ {Hc : Hp} {l : List Addr}, Stp H1 Hc os1 l → Kp (ug U0 (Oo ++ os1)) H1 Hc := fun {Hc l} st a o e q => st.keep a o e fun m => by
    rcases q with q | q
    · exact q.2 (List.mem_append_right _ m)
    · obtain ⟨o', e', mu⟩ := r1.own.2 a (List.mem_append_right _ m)
      rw [e] at e'; cases e'
      exact q mu
  have wl : (wipe σ (own.map (·.2))).length = σ.length := wipe_length _ _
  refine ⟨fun i m Hc => m = xs.length - i ∧ i ≤ xs.length ∧ ∃ acc accD oa Gc osc, Stp H1 Hc os1 ((D :: oa) ++ osc) ∧ Rep K U0 (wipeE Gc (own.map (·.2))) (wipe σ (own.map (·.2))) Hc (Oo ++ (D :: oa)) osc ∧ Hc D = some (.lst acc) ∧ acc.length ≤ i ∧ RpL K Hc (ug U0 ((Oo ++ (D :: oa)) ++ osc)) accD acc oa ∧ compE g c w (own.map (·.2)) (xs.drop i) (wipeE Gc (own.map (·.2))) (fun ds G' => P (.lst true (accD ++ ds)) G'),
    ⟨xs.length, by simp, Nat.zero_le _, [], [], [], G1, os2, (s13.sub fun a m => ?_), r3, upd_same, Nat.le_refl _, .nil, by simpa using p⟩, ?_⟩
  · rcases List.mem_append.mp m with z | z
    · exact List.mem_append_left _ z
    · exact List.mem_append_right _ (sub2 a z)
  rintro i m Hc ⟨rfl, hi, acc, accD, oa, Gc, osc, st, r, hDc, hal, ra, cp⟩
  by_cases hlt : i < xs.length
  · right
    have ed : xs.drop i = xs[i] :: xs.drop (i + 1) := List.drop_eq_getElem_cons hlt
    rw [ed] at cp
    simp only [compE] at cp
    refine ⟨it.go i Hc (kp st) hlt, fun Hc => ∃ acc accD oa Gc osc, Stp H1 Hc os1 ((D :: oa) ++ osc) ∧ Rep K U0 (wipeE Gc (own.map (·.2))) (wipe σ (own.map (·.2))) Hc (Oo ++ (D :: oa)) osc ∧ Hc D = some (.lst acc) ∧ acc.length ≤ i + 1 ∧ RpL K Hc (ug U0 ((Oo ++ (D :: oa)) ++ osc)) accD acc oa ∧ compE g c w (own.map (·.2)) (xs.drop (i + 1)) (wipeE Gc (own.map (·.2))) (fun ds G' => P (.lst true (accD ++ ds)) G'),
      fun Hc' h => ⟨xs.length - (i + 1), by omega, rfl, hlt, h⟩, fun v H2 y => ?_⟩
    obtain ⟨sm2, hx⟩ := it.yld i Hc v H2 xs[i] (kp st) y (List.getElem?_eq_getElem hlt)
    have rr2 := r.same sm2
    have st2 : Stp H1 H2 os1 ((D :: oa) ++ osc) := st.trans (Stp.of_same sm2 _)
    have hx' : Vw K H2 (ug U0 ((Oo ++ (D :: oa)) ++ osc)) xs[i] v := hx.same (Same.refl _) fun a z => ⟨z.1.1, fun m => by
      rw [List.append_assoc] at m
      rcases List.mem_append.mp m with y' | y'
      · exact z.1.2 (List.mem_append_left _ y')
      · rcases st.new a y' with w' | w'
        · exact z.1.2 (List.mem_append_right _ w')
        · obtain ⟨o, q⟩ := z.2
          rw [w'] at q
          cases q⟩
    refine g2 U0 _ _ H2 _ _ _ v _ _ rr2 hx' cp fun G3 σ3 os3 cp3 r3' sub3 out3 => ⟨(out3.wipe hsl).trans ?_, ?_⟩
    · apply List.ext_getElem?
      intro k
      rw [wipe_get, wipe_get]
      by_cases m : k ∈ own.map (·.2)
      · rw [if_pos m, if_pos m]
        cases σ[k]? <;> rfl
      · rw [if_neg m, if_neg m]
    · -- the slots at the turn's end
      have wip : ∀ {Gx : T.Env} {Hx : Hp} {Ox ox : List Addr}, Rep K U0 Gx σ3 Hx Ox ox → ∃ oy, Rep K U0 (wipeE Gx (own.map (·.2))) (wipe σ (own.map (·.2))) Hx Ox oy ∧ ∀ a ∈ oy, a ∈ ox := fun {Gx Hx Ox ox} rx => by
        obtain ⟨oy, h1, h2⟩ := rx.wipe (own.map (·.2))
        have e : L2.wipe σ3 (own.map (·.2)) = L2.wipe σ (own.map (·.2)) := by
          rw [out3.wipe hsl]
          apply List.ext_getElem?
          intro k
          rw [wipe_get, wipe_get]
          by_cases m : k ∈ own.map (·.2)
          · rw [if_pos m, if_pos m]
            cases σ[k]? <;> rfl
          · rw [if_neg m, if_neg m]
        rw [e] at h1
        exact ⟨oy, h1, h2⟩
      have ra2 : RpL K H2 (ug U0 ((Oo ++ (D :: oa)) ++ os3)) accD acc oa := ra.mono (os0 := oa) (fun a o e _ => sm2 a o e) (fun a u _ => ug_sub (fun b m => (List.mem_append.mp m).elim (List.mem_append_left _) fun z => List.mem_append_right _ (sub3 b z)) a u) fun a m => m
      have st3 : Stp H1 H2 os1 ((D :: oa) ++ os3) := st2.sub fun a m => (List.mem_append.mp m).elim (List.mem_append_left _) fun z => List.mem_append_right _ (sub3 a z)
      -- the list's items stand aside
      have keepA : ∀ {Hx : Hp} {ox : List Addr}, Stp H2 Hx os3 ox → RpL K Hx (ug U0 ((Oo ++ (D :: oa)) ++ ox)) accD acc oa ∧ Hx D = some (.lst acc) := fun {Hx ox} sx => by
        have hDo : D ∉ os3 := fun m => r3'.own.dis (List.mem_append_right _ List.mem_cons_self) m
        refine ⟨ra2.mono (os0 := oa) (fun a o e h => sx.keep a o e fun m => ?_) (fun a u ⟨o, e⟩ => ⟨u.1, fun m => ?_⟩) fun a m => m, sx.keep D _ (sm2 _ _ hDc) hDo⟩
        · rcases h with h | h | h
          · exact h.2 (List.mem_append_right _ m)
          · exact r3'.own.dis (List.mem_append_right _ (List.mem_cons_of_mem _ h)) m
          · obtain ⟨o', q, mu⟩ := r3'.own.2 a (List.mem_append_right _ m)
            rw [e] at q; cases q
            exact h mu
        · rcases List.mem_append.mp m with z | z
          · exact u.2 (List.mem_append_left _ z)
          · rcases sx.new a z with w' | w'
            · exact u.2 (List.mem_append_right _ w')
            · rw [e] at w'; cases w'
      refine t2 U0 G3 σ3 H2 _ _ _ _ _ r3' cp3 (fun b G4 H4 os4 cp4 s4 r4 => ?_) (fun _ _ _ _ z => z.elim)
      have st4 : Stp H1 H4 os1 ((D :: oa) ++ os4) := st3.trans s4.wide
      cases b with
      | false =>
        rw [if_neg Bool.false_ne_true] at cp4 ⊢
        obtain ⟨oy, ry, suby⟩ := wip r4
        obtain ⟨ra4, hD4⟩ := keepA s4
        exact ⟨acc, accD, oa, G4, oy, st4.sub fun a m => (List.mem_append.mp m).elim (List.mem_append_left _) fun z => List.mem_append_right _ (suby a z), ry, hD4, by omega, ra4.mono (os0 := oa) (fun a o e _ => e) (fun a u _ => ug_sub (fun b m => (List.mem_append.mp m).elim (List.mem_append_left _) fun z => List.mem_append_right _ (suby b z)) a u) fun a m => m, cp4⟩
      | true =>
        rw [if_pos rfl] at cp4 ⊢
        refine e2 U0 G4 σ3 H4 _ _ _ _ _ r4 cp4 (fun d G5 y H5 o5 os5 cp5 s5 r5 x5 => ?_) (fun _ _ _ _ z => z.elim)
        have s45 : Stp H2 H5 os3 (o5 ++ os5) := s4.trans s5
        obtain ⟨ra5, hD5⟩ := keepA s45
        have st5 : Stp H1 H5 os1 ((D :: oa) ++ (o5 ++ os5)) := st4.trans s5.wide
        obtain ⟨oy, ry, suby⟩ := wip r5
        have eo : (Oo ++ (D :: oa)) ++ o5 = Oo ++ (D :: (oa ++ o5)) := by simp
        rw [eo] at ry
        have sb : ∀ a ∈ (Oo ++ (D :: (oa ++ o5))) ++ oy, a ∈ (Oo ++ (D :: oa)) ++ (o5 ++ os5) := fun a m => by
          rcases List.mem_append.mp m with z | z
          · rw [← eo] at z
            rcases List.mem_append.mp z with w' | w'
            · exact List.mem_append_left _ w'
            · exact List.mem_append_right _ (List.mem_append_left _ w')
          · exact List.mem_append_right _ (List.mem_append_right _ (suby a z))
        -- append
        have hup : ∀ a o, H5 a = some o → a ≠ D → (upd H5 D (.lst (acc ++ [y]))) a = some o := fun a o e n => by rw [upd_ne n]; exact e
        have hDn : D ∉ oy := fun m => ry.own.dis (List.mem_append_right _ List.mem_cons_self) m
        have hDa : D ∉ oa ++ o5 := fun m => by
          have nd := ry.own.left.1
          obtain ⟨_, h2, _⟩ := List.nodup_append.mp nd
          exact (List.nodup_cons.mp h2).1 m
        have tupne : ∀ {a : Addr} {o : HO}, H5 a = some o → ¬ Mut (some o) → a ≠ D := fun {a o} e m z => by
          rw [z, hD5] at e
          cases e
          exact m trivial
        have r6 : Rep K U0 (wipeE G5 (own.map (·.2))) (wipe σ (own.map (·.2))) (upd H5 D (.lst (acc ++ [y]))) (Oo ++ (D :: (oa ++ o5))) oy := by
          refine ⟨ry.g.mono (os0 := oy) (fun a o e h => hup a o e ?_) (fun a u _ => u) fun a m => m, ⟨ry.own.1, fun a m => ?_⟩, ry.u0, fun a h => ry.un a ?_⟩
          · rcases h with h | h | h
            · rintro rfl
              exact h.2 (List.mem_append_left _ (List.mem_append_right _ List.mem_cons_self))
            · rintro rfl
              exact hDn h
            · exact tupne e h
          · by_cases ha : a = D
            · subst ha
              exact ⟨_, upd_same, trivial⟩
            · obtain ⟨o, e, mu⟩ := ry.own.2 a m
              exact ⟨o, hup a o e ha, mu⟩
          · by_cases ha : a = D
            · subst ha
              rw [upd_same] at h
              cases h
            · rw [upd_ne ha] at h
              exact h
        refine ⟨acc, hD5, small_lt (by omega), acc ++ [y], accD ++ [d], oa ++ o5, G5, oy, ⟨fun a o e n => ?_, fun a m => ?_, fun a o e => ?_⟩, r6, upd_same, by simp; omega, ?_, ?_⟩
        · rw [upd_ne (ne_of_none e hD)]
          exact st5.keep a o e n
        · refine st5.new a ?_
          rcases List.mem_append.mp m with z | z
          · rcases List.mem_cons.mp z with w' | w'
            · rw [w']; exact List.mem_append_left _ List.mem_cons_self
            · rcases List.mem_append.mp w' with w'' | w''
              · exact List.mem_append_left _ (List.mem_cons_of_mem _ w'')
              · exact List.mem_append_right _ (List.mem_append_left _ w'')
          · exact List.mem_append_right _ (List.mem_append_right _ (suby a z))
        · obtain ⟨o', e'⟩ := st5.dom a o e
          exact ⟨o', by rw [upd_ne (ne_of_none e hD)]; exact e'⟩
        · have a1 : RpL K H5 (ug U0 ((Oo ++ (D :: (oa ++ o5))) ++ oy)) accD acc oa := ra5.mono (os0 := oa) (fun a o e _ => e) (fun a u _ => ug_sub sb a u) fun a m => m
          have a2 : Rp K H5 (ug U0 ((Oo ++ (D :: (oa ++ o5))) ++ oy)) d y o5 := x5.mono (os0 := o5) (fun a o e _ => e) (fun a u _ => ug_sub (fun b m => by
            have z := sb b m
            rw [← List.append_assoc] at z
            exact z) a u) fun a m => m
          have a3 := a1.append (RpL.cons a2 .nil)
          rw [List.append_nil] at a3
          exact a3.mono (os0 := oa ++ o5) (fun a o e h => hup a o e (by
            rcases h with h | h | h
            · rintro rfl
              exact h.2 (List.mem_append_left _ (List.mem_append_right _ List.mem_cons_self))
            · rintro rfl
              exact hDa h
            · exact tupne e h)) (fun a u _ => u) fun a m => m
        · have e : (fun ds G' => P (.lst true (accD ++ (d :: ds))) G') = fun ds G' => P (.lst true (accD ++ [d] ++ ds)) G' := by
            funext ds G'
            simp
          rw [← e]
          exact cp5
  · left
    have e : i = xs.length := by omega
    subst e
    rw [List.drop_length] at cp
    simp only [compE, List.append_nil] at cp
    refine ⟨it.stop _ Hc (kp st) (Nat.le_refl _), ?_⟩
    have rf : Rep K U0 (wipeE Gc (own.map (·.2))) σ Hc (Oo ++ (D :: oa)) osc := r.unwipe (by
      apply List.ext_getElem?
      intro k
      rw [wipe_get, wipe_get, wipe_get]
      by_cases m : k ∈ own.map (·.2)
      · simp only [if_pos m]
        cases σ[k]? <;> rfl
      · simp only [if_neg m]) wl.symm
    exact okq _ _ (.ref D) Hc (D :: oa) osc cp (s1.trans st) rf (.lstO hDc ra)
end
end T
namespace T
open PySem PySem.Spec PyProof.Rows L2
section
variable {ι : Type} {X : ι → Cx} {K : PySem.W.Frag} {W : WX} {pn : List Nat}
theorem nodup3 {a b c : List Addr} (h : (a ++ (b ++ c)).Nodup) : a.Nodup ∧ b.Nodup ∧ c.Nodup ∧ (∀ x ∈ a, x ∉ b) ∧ (∀ x ∈ a, x ∉ c) ∧ (∀ x ∈ b, x ∉ c) := by
  obtain ⟨h1, h2, h3⟩ := List.nodup_append.mp h
  obtain ⟨h4, h5, h6⟩ := List.nodup_append.mp h2
  exact ⟨h1, h4, h5, fun x m m' => h3 x m x (List.mem_append_left _ m') rfl, fun x m m' => h3 x m x (List.mem_append_right _ m') rfl, fun x m m' => h6 x m x m' rfl⟩
/-- an owned list of a slot is written; o3 is kept aside -/
theorem Rep.write {i : Nat} {U0 : Addr → Prop} {G : T.Env} {σ : L2.St} {H : Hp} {Oo os o2 : List Addr} {xs : List D} (r : Rep K U0 G σ H (Oo ++ o2) os) (e : G[i]? = some (some (.lst true xs))) :
    ∃ p vs ox, σ[i]? = some (some (.ref p)) ∧ H p = some (.lst vs) ∧ RpL K H (ug U0 ((Oo ++ o2) ++ os)) xs vs ox ∧ (ox ++ o2).Nodup ∧
      ∀ xs' vs' ox' o3, RpL K H (ug U0 ((Oo ++ o2) ++ os)) xs' vs' ox' → (ox' ++ o3).Nodup → (∀ a ∈ ox' ++ o3, a ∈ ox ++ o2) →
        ∃ os', Rep K U0 (G.set i (some (.lst true xs'))) σ (upd H p (.lst vs')) (Oo ++ o3) os' ∧ Stp H (upd H p (.lst vs')) (o2 ++ os) (o3 ++ os') ∧
          ∀ d v, Rp K H (ug U0 ((Oo ++ o2) ++ os)) d v o3 → Rp K (upd H p (.lst vs')) (ug U0 ((Oo ++ o3) ++ os')) d v o3 := by
  obtain ⟨v, o1, orest, hv, r1, x1, pm⟩ := r.take e
  cases x1 with
  | @lstO p vs _ ox hp hx =>
    have nd0 := r1.own.1
    -- everything in one row
    have row : ((Oo ++ o2) ++ (p :: ox)) ++ orest = Oo ++ ((o2 ++ (p :: ox)) ++ orest) := by simp [List.append_assoc]
    rw [row] at nd0
    obtain ⟨n1, n2, n3, n4, n5, n6⟩ := nodup3 nd0
    have n2' : ((p :: ox) ++ o2).Nodup := (List.perm_append_comm.nodup_iff).mp n2
    obtain ⟨n7, n8⟩ := List.nodup_cons.mp (show (p :: (ox ++ o2)).Nodup from n2')
    have hall : ∀ a ∈ ((Oo ++ o2) ++ (p :: ox)) ++ orest, a ∈ (Oo ++ o2) ++ os := fun a m => by
      rcases List.mem_append.mp m with z | z
      · rcases List.mem_append.mp z with y | y
        · exact List.mem_append_left _ y
        · exact List.mem_append_right _ (pm.mem_iff.mpr (List.mem_append_left _ y))
      · exact List.mem_append_right _ (pm.mem_iff.mpr (List.mem_append_right _ z))
    have hinv : ∀ a ∈ (Oo ++ o2) ++ os, a ∈ ((Oo ++ o2) ++ (p :: ox)) ++ orest := fun a m => by
      rcases List.mem_append.mp m with z | z
      · exact List.mem_append_left _ (List.mem_append_left _ z)
      · rcases List.mem_append.mp (pm.mem_iff.mp z) with y | y
        · exact List.mem_append_left _ (List.mem_append_right _ y)
        · exact List.mem_append_right _ y
    have hx0 : RpL K H (ug U0 ((Oo ++ o2) ++ os)) xs vs ox := hx.mono (os0 := ox) (fun a o q _ => q) (fun a u _ => ug_sub hinv a u) fun a m => m
    refine ⟨p, vs, ox, hv, hp, hx0, n8, fun xs' vs' ox' o3 h' nd' sub' => ?_⟩
    have pin : p ∈ (Oo ++ o2) ++ os := hall p (List.mem_append_left _ (List.mem_append_right _ List.mem_cons_self))
    have np : p ∉ ox' ++ o3 := fun m => n7 (sub' p m)
    have hnew : ∀ a ∈ (Oo ++ o3) ++ ((p :: ox') ++ orest), a ∈ (Oo ++ o2) ++ os := fun a m => by
      have z4 : a ∈ Oo ∨ a ∈ ox' ++ o3 ∨ a = p ∨ a ∈ orest := by
        rcases List.mem_append.mp m with z | z
        · rcases List.mem_append.mp z with y | y
          · exact .inl y
          · exact .inr (.inl (List.mem_append_right _ y))
        · rcases List.mem_append.mp z with y | y
          · rcases List.mem_cons.mp y with w | w
            · exact .inr (.inr (.inl w))
            · exact .inr (.inl (List.mem_append_left _ w))
          · exact .inr (.inr (.inr y))
      rcases z4 with z | z | z | z
      · exact List.mem_append_left _ (List.mem_append_left _ z)
      · rcases List.mem_append.mp (sub' a z) with y | y
        · exact hall a (List.mem_append_left _ (List.mem_append_right _ (List.mem_cons_of_mem _ y)))
        · exact List.mem_append_left _ (List.mem_append_right _ y)
      · rw [z]; exact pin
      · exact hall a (List.mem_append_right _ z)
    have hkeep : ∀ a o, H a = some o → (ug U0 ((Oo ++ o2) ++ os) a ∨ (a ∈ orest ∨ a ∈ ox' ++ o3) ∨ ¬ Mut (some o)) → (upd H p (.lst vs')) a = some o := fun a o q h => by
      have ne : a ≠ p := by
        rintro rfl
        rcases h with h | (h | h) | h
        · exact h.2 pin
        · exact n6 _ (List.mem_append_right _ List.mem_cons_self) h
        · exact np h
        · rw [hp] at q
          cases q
          exact h trivial
      rw [upd_ne ne]
      exact q
    have gu : ∀ a, ug U0 ((Oo ++ o2) ++ os) a → ug U0 ((Oo ++ o3) ++ ((p :: ox') ++ orest)) a := ug_sub hnew
    have rest1 : RpG K (upd H p (.lst vs')) (ug U0 ((Oo ++ o3) ++ ((p :: ox') ++ orest))) (G.set i none) σ orest := by
      refine r1.g.mono (os0 := orest) (fun a o q h => hkeep a o q ?_) (fun a u _ => gu a (ug_sub hinv a u)) fun a m => m
      rcases h with h | h | h
      · exact .inl (ug_sub hinv a h)
      · exact .inr (.inl (.inl h))
      · exact .inr (.inr h)
    have new1 : Rp K (upd H p (.lst vs')) (ug U0 ((Oo ++ o3) ++ ((p :: ox') ++ orest))) (.lst true xs') (.ref p) (p :: ox') := by
      refine .lstO upd_same (h'.mono (os0 := ox') (fun a o q h => hkeep a o q ?_) (fun a u _ => gu a u) fun a m => m)
      rcases h with h | h | h
      · exact .inl h
      · exact .inr (.inl (.inr (List.mem_append_left _ h)))
      · exact .inr (.inr h)
    have hil : i < G.length := (List.getElem?_eq_some_iff.mp e).1
    obtain ⟨os', g2, pm2⟩ := rest1.put (v := .ref p) (RpG.none_at hil) new1
    rw [set_none_set] at g2
    have es : σ.set i (some (.ref p)) = σ := by
      apply List.ext_getElem?
      intro k
      by_cases hk : i = k
      · subst hk
        obtain ⟨hlt, _⟩ := List.getElem?_eq_some_iff.mp hv
        rw [List.getElem?_set_self hlt, hv]
      · rw [List.getElem?_set_ne hk]
    rw [es] at g2
    have hs5 : ∀ a ∈ (Oo ++ o3) ++ os', a ∈ (Oo ++ o3) ++ ((p :: ox') ++ orest) := fun a m => (List.mem_append.mp m).elim (List.mem_append_left _) fun z => List.mem_append_right _ (pm2.mem_iff.mp z)
    have ndn : ((Oo ++ o3) ++ ((p :: ox') ++ orest)).Nodup := by
      have e5 : (Oo ++ o3) ++ ((p :: ox') ++ orest) = Oo ++ ((o3 ++ (p :: ox')) ++ orest) := by simp [List.append_assoc]
      rw [e5]
      have q1 : (o3 ++ (p :: ox')).Nodup := by
        refine (List.perm_append_comm (l₁ := p :: ox') (l₂ := o3)).nodup_iff.mp ?_
        exact List.nodup_cons.mpr ⟨np, nd'⟩
      have q2 : ∀ a ∈ o3 ++ (p :: ox'), a ∈ o2 ++ (p :: ox) := fun a m => by
        rcases List.mem_append.mp m with z | z
        · rcases List.mem_append.mp (sub' a (List.mem_append_right _ z)) with y | y
          · exact List.mem_append_right _ (List.mem_cons_of_mem _ y)
          · exact List.mem_append_left _ y
        · rcases List.mem_cons.mp z with y | y
          · rw [y]; exact List.mem_append_right _ List.mem_cons_self
          · rcases List.mem_append.mp (sub' a (List.mem_append_left _ y)) with w | w
            · exact List.mem_append_right _ (List.mem_cons_of_mem _ w)
            · exact List.mem_append_left _ w
      refine List.nodup_append.mpr ⟨n1, List.nodup_append.mpr ⟨q1, n3, fun a m b m' q => ?_⟩, fun a m b m' q => ?_⟩
      · subst q
        exact n6 a (q2 a m) m'
      · subst q
        rcases List.mem_append.mp m' with z | z
        · exact n4 a m (q2 a z)
        · exact n5 a m z
    have ow : Own (upd H p (.lst vs')) ((Oo ++ o3) ++ os') := by
      refine ⟨?_, fun a m => ?_⟩
      · exact (List.Perm.append_left (Oo ++ o3) pm2).nodup_iff.mpr ndn
      · by_cases ha : a = p
        · subst ha
          exact ⟨_, upd_same, trivial⟩
        · obtain ⟨o, q, mu⟩ := r.own.2 a (hnew a (hs5 a m))
          exact ⟨o, by rw [upd_ne ha]; exact q, mu⟩
    refine ⟨os', ⟨g2.mono (os0 := os') (fun a o q _ => q) (fun a u _ => ug_sub hs5 a u) fun a m => m, ow, fun a m => r.u0 a (hnew a (hs5 a m)), fun a h => ?_⟩, ⟨fun a o q n => ?_, fun a m => ?_, fun a o q => ?_⟩, fun d v h => ?_⟩
    · by_cases ha : a = p
      · subst ha
        rw [upd_same] at h
        cases h
      · rw [upd_ne ha] at h
        exact r.un a h
    · rw [upd_ne]
      · exact q
      · rintro rfl
        refine n (List.mem_append_right _ (pm.mem_iff.mpr (List.mem_append_left _ List.mem_cons_self)))
    · left
      have z3 : a ∈ ox' ++ o3 ∨ a = p ∨ a ∈ orest := by
        rcases List.mem_append.mp m with z | z
        · exact .inl (List.mem_append_right _ z)
        · rcases List.mem_append.mp (pm2.mem_iff.mp z) with y | y
          · rcases List.mem_cons.mp y with w | w
            · exact .inr (.inl w)
            · exact .inl (List.mem_append_left _ w)
          · exact .inr (.inr y)
      rcases z3 with z | z | z
      · rcases List.mem_append.mp (sub' a z) with y | y
        · exact List.mem_append_right _ (pm.mem_iff.mpr (List.mem_append_left _ (List.mem_cons_of_mem _ y)))
        · exact List.mem_append_left _ y
      · rw [z]
        exact List.mem_append_right _ (pm.mem_iff.mpr (List.mem_append_left _ List.mem_cons_self))
      · exact List.mem_append_right _ (pm.mem_iff.mpr (List.mem_append_right _ z))
    · by_cases ha : a = p
      · subst ha
        exact ⟨_, upd_same⟩
      · exact ⟨o, by rw [upd_ne ha]; exact q⟩
    · refine h.mono (os0 := o3) (fun a o q h => hkeep a o q ?_) (fun a u _ => ug_sub hs5 a (gu a u)) fun a m => m
      rcases h with h | h | h
      · exact .inl h
      · exact .inr (.inl (.inr (List.mem_append_right _ h)))
      · exact .inr (.inr h)
/-! ### items of lists -/
theorem RpL.pick {H : Hp} {U : Addr → Prop} : ∀ {xs : List D} {vs : List V} {ox : List Addr} {k : Nat} {d : D}, RpL K H U xs vs ox → xs[k]? = some d → ∃ v o1 o2, vs[k]? = some v ∧ Rp K H U d v o1 ∧ RpL K H U (xs.eraseIdx k) (vs.eraseIdx k) o2 ∧ ox.Perm (o1 ++ o2)
  | _, _, _, _, _, .nil, e => by simp at e
  | _, _, _, 0, _, .cons h t, e => by
    simp at e
    subst e
    exact ⟨_, _, _, rfl, h, t, List.Perm.refl _⟩
  | _, _, _, k + 1, d, .cons (o1 := p1) h t, e => by
    obtain ⟨v, o1, o2, h1, h2, h3, h4⟩ := RpL.pick (k := k) (d := d) t (by simpa using e)
    refine ⟨v, o1, p1 ++ o2, by simpa using h1, h2, .cons h h3, ?_⟩
    refine (List.Perm.append_left p1 h4).trans ?_
    rw [← List.append_assoc, ← List.append_assoc]
    exact List.Perm.append_right o2 List.perm_append_comm
theorem RpL.set {H : Hp} {U : Addr → Prop} {d : D} {v : V} {o : List Addr} (r : Rp K H U d v o) : ∀ {xs : List D} {vs : List V} {ox : List Addr} (k : Nat), RpL K H U xs vs ox → k < xs.length → ∃ p1 o2, RpL K H U (xs.set k d) (vs.set k v) o2 ∧ (p1 ++ o2).Perm (o ++ ox)
  | _, _, _, _, .nil, hk => absurd hk (by simp)
  | _, _, _, 0, .cons (o1 := p1) (o2 := p2) h t, _ => ⟨p1, _, .cons r t, by
    rw [← List.append_assoc, ← List.append_assoc]
    exact List.Perm.append_right p2 List.perm_append_comm⟩
  | _, _, _, k + 1, .cons (o1 := q1) (o2 := q2) h t, hk => by
    obtain ⟨p1, o2, h1, h2⟩ := RpL.set r k t (by simpa using hk)
    refine ⟨p1, q1 ++ o2, .cons h h1, ?_⟩
    have a1 : (p1 ++ (q1 ++ o2)).Perm (q1 ++ (p1 ++ o2)) := by
      rw [← List.append_assoc, ← List.append_assoc]
      exact List.Perm.append_right o2 List.perm_append_comm
    have a2 : (o ++ (q1 ++ q2)).Perm (q1 ++ (o ++ q2)) := by
      rw [← List.append_assoc, ← List.append_assoc]
      exact List.Perm.append_right q2 List.perm_append_comm
    exact a1.trans ((List.Perm.append_left q1 h2).trans a2.symm)
theorem RpL.reverse {H : Hp} {U : Addr → Prop} : ∀ {xs : List D} {vs : List V} {ox : List Addr}, RpL K H U xs vs ox → ∃ o2, RpL K H U xs.reverse vs.reverse o2 ∧ o2.Perm ox
  | _, _, _, .nil => ⟨[], .nil, List.Perm.refl _⟩
  | _, _, _, .cons (o1 := p1) (o2 := p2) h t => by
    obtain ⟨o2, h1, h2⟩ := RpL.reverse t
    refine ⟨o2 ++ p1, ?_, ?_⟩
    · rw [List.reverse_cons, List.reverse_cons]
      have z := h1.append (RpL.cons h .nil)
      rw [List.append_nil] at z
      exact z
    · exact List.perm_append_comm.trans (List.Perm.append_left p1 h2)
/-! ### methods of lists that change them -/
def MutOk (K : PySem.W.Frag) (r : V → List V → Hp → VK → Prop) (f : List D → List D → (List D → D → Prop) → Prop) : Prop := ∀ (H : Hp) (U : Addr → Prop) (xs as : List D) (vs us : List V) (ox oa : List Addr) (p : Addr) (F : List D → D → Prop) (Q : VK), H p = some (.lst vs) → RpL K H U xs vs ox → RpL K H U as us oa → (ox ++ oa).Nodup → f xs as F →
  (∀ xs' d vs' z ox' o3, F xs' d → RpL K H U xs' vs' ox' → Rp K H U d z o3 → (ox' ++ o3).Nodup → (∀ a ∈ ox' ++ o3, a ∈ ox ++ oa) → Q z (upd H p (.lst vs'))) → r (.ref p) us H Q
@[simp] def lstAt (G : T.Env) (i : Nat) (P : List D → Prop) : Prop := match G[i]? with | some (some (.lst true xs)) => P xs | _ => False
theorem lstAt_get {G : T.Env} {i : Nat} {P : List D → Prop} (h : lstAt G i P) : ∃ xs, G[i]? = some (some (.lst true xs)) ∧ P xs := by
  unfold lstAt at h
  split at h
  · rename_i xs e
    exact ⟨xs, e, h⟩
  · exact h.elim
@[simp] def eMeth (i : Nat) (f : List D → List D → (List D → D → Prop) → Prop) (t : WL) : WE := fun G P PX => lstAt G i fun _ => t G (fun as G' => lstAt G' i fun xs => f xs as fun xs' d => P d (G'.set i (some (.lst true xs')))) PX
theorem e_meth (i : Nat) {e' : Expr} {es : List Expr} {r : V → List V → Hp → VK → Prop} {f : List D → List D → (List D → D → Prop) → Prop} {t : WL} (ok : MutOk K r f) (h : SndL X K W es t) (mk : ∀ ta, (∀ j, PA (X j) es ta) → ∀ j, PE (X j) e' (fun σ H Q => tVar i σ H fun x H1 => tyV K "list" x H1 ∧ ta σ H1 fun xs H2 => r x xs H2 Q)) : SndE X K W e' (eMeth i f t) := by
  obtain ⟨ta, a1, a2⟩ := h
  refine ⟨_, mk ta a1, fun U0 G σ H Oo os P PX Q rep w okq okx => ?_⟩
  obtain ⟨xs0, e0, w⟩ := lstAt_get w
  have rep0 : Rep K U0 G σ H (Oo ++ []) os := by rw [List.append_nil]; exact rep
  obtain ⟨p0, vs0, _, hv0, hp0, _⟩ := rep0.write e0
  refine ⟨.ref p0, hv0, .inl ⟨rfl, vs0, .inl (.inl hp0)⟩, ?_⟩
  refine a2 U0 G σ H Oo os _ _ _ rep w (fun as G1 us H1 oa os1 q s1 r1 x1 => ?_) okx
  obtain ⟨xs, e1, q⟩ := lstAt_get q
  obtain ⟨p, vs, ox, hv, hp, hx, nd, put⟩ := r1.write e1
  rw [hv0] at hv
  cases hv
  refine ok H1 _ xs as vs us ox oa p0 _ Q hp hx x1 nd q fun xs' d vs' z ox' o3 hF hx' hd nd' sub => ?_
  obtain ⟨os', r2, s2, back⟩ := put xs' vs' ox' o3 hx' nd' sub
  exact okq d _ z _ o3 os' hF (s1.trans s2) r2 (back d z hd)
@[simp] def mApp : List D → List D → (List D → D → Prop) → Prop := fun xs as F => match as with | [d] => xs.length < 100000 ∧ F (xs ++ [d]) .non | _ => False
theorem ok_app : MutOk K rAppend mApp := by
  intro H U xs as vs us ox oa p F Q hp hx ha nd w q
  cases ha with
  | nil => exact w.elim
  | @cons d u _ _ o1 o2 h t =>
    cases t with
    | nil =>
      refine ⟨p, vs, u, rfl, rfl, hp, small_lt (by rw [← hx.length]; exact Nat.le_of_lt w.1), ?_⟩
      refine q _ _ _ .non (ox ++ o1) [] w.2 (by simpa using hx.append (RpL.cons h .nil)) .non (by simpa using nd) (fun a m => by simpa using m)
    | cons _ _ => exact w.elim
@[simp] def mExt : List D → List D → (List D → D → Prop) → Prop := fun xs as F => match as with | [.lst _ zs] => xs.length + zs.length < 100000 ∧ F (xs ++ zs) .non | _ => False
/-- extend by a list that may be known -/
def rExt (K : PySem.W.Frag) : V → List V → Hp → VK → Prop := fun x vs H Q => ∃ l b xs zs, x = .ref l ∧ vs = [.ref b] ∧ H l = some (.lst xs) ∧ Rd H b (.lst zs) ∧ xs.length + zs.length ≤ sizeLine ∧ Q .non (upd H l (.lst (xs ++ zs)))
theorem mt_ext {Y : Cx} : MtM Y "list.extend" (rExt K) := by
  intro pins s σ H x vs v us Q I rx rv h
  obtain ⟨l, b, xs, zs, rfl, rfl, hH, hB, hz, q⟩ := h
  cases rx
  obtain ⟨u, rfl, ru⟩ := rv.one
  cases ru
  obtain ⟨_, its, n, r, hl, e⟩ := I.lstM hH
  obtain ⟨_, its2, n2, r2, e2⟩ := hB.ok I.hok
  have hl2 := r2.length
  have h2 : its.toArray.size + its2.toArray.size ≤ sizeLine := by simpa [← hl, ← hl2] using hz
  refine call_meets F.slot_list_extend ⟨_, e, rfl⟩ F.entry_list_extend (F.args_list_extend_2 _ _)
    (AutoSeq1.list_extend_list_list_0 l its.toArray n b its2.toArray n2 (by rw [notLongL h2, Bool.and_false]; exact Bool.false_ne_true) (by rw [List.size_toArray]; omega) (by omega)) ⟨e, e2, .non, _, I.lset (its' := its ++ its2) hH e (by simp) (r.append r2) (by rw [List.length_append]; exact hz), rfl, q⟩
theorem ok_ext : MutOk K (rExt K) mExt := by
  intro H U xs as vs us ox oa p F Q hp hx ha nd w q
  cases ha with
  | nil => exact w.elim
  | @cons d u _ _ o1 o2 h t =>
    cases t with
    | nil =>
      rw [List.append_nil] at nd
      cases h with
      | @lstO b zs ds oz hb hz =>
        refine ⟨p, b, vs, zs, rfl, rfl, hp, .inl hb, small_line (by rw [← hx.length, ← hz.length]; exact Nat.le_of_lt w.1), ?_⟩
        have nd2 : (ox ++ oz).Nodup := nd.sublist (List.Sublist.append (List.Sublist.refl _) (List.sublist_cons_self _ _))
        exact q _ _ _ .non (ox ++ oz) [] w.2 (hx.append hz) .non (by simpa using nd2) (fun a m => by
          rcases List.mem_append.mp (by simpa using m : a ∈ ox ++ oz) with z | z
          · exact List.mem_append_left _ z
          · exact List.mem_append_right _ (by simp [z]))
      | @lstN b zs ds oz hb hu hz ez =>
        subst ez
        refine ⟨p, b, vs, zs, rfl, rfl, hp, hb, small_line (by rw [← hx.length, ← hz.length]; exact Nat.le_of_lt w.1), ?_⟩
        exact q _ _ _ .non ox [] w.2 (by simpa using hx.append hz) .non (by simpa using nd) (fun a m => by simpa using m)
      | _ => exact w.elim
    | cons _ _ => exact absurd w (by simp [mExt])
theorem ixN_lt {n : Nat} {i : Int} {k : Nat} (h : ixN n i = some k) : k < n := (ixN_seq h).2.1
@[simp] def mPop : List D → List D → (List D → D → Prop) → Prop := fun xs as F => match as with
  | [.int i] => (-(2 ^ 63) ≤ i ∧ i < 2 ^ 63) ∧ (match ixN xs.length i with | some k => (match xs[k]? with | some d => F (xs.eraseIdx k) d | none => False) | none => False)
  | _ => False
theorem ok_pop : MutOk K rPopAt mPop := by
  intro H U xs as vs us ox oa p F Q hp hx ha nd w q
  cases ha with
  | nil => exact w.elim
  | @cons d u _ _ o1 o2 h t =>
    cases t with
    | nil =>
      cases h with
      | int i =>
        obtain ⟨hb, w⟩ := w
        split at w
        · rename_i k hk
          split at w
          · rename_i d hd
            obtain ⟨v, p1, p2, h1, h2, h3, h4⟩ := hx.pick hd
            have hl := hx.length
            refine ⟨p, vs, i, k, v, rfl, rfl, hp, hb.1, hb.2, by rw [← hl]; exact (ixN_seq hk).1, h1, ?_⟩
            refine q _ _ _ v p2 p1 w h3 h2 ?_ fun a m => ?_
            · have z := h4.nodup_iff.mp (by simpa using nd : ox.Nodup)
              exact List.perm_append_comm.nodup_iff.mp z
            · exact List.mem_append_left _ (h4.mem_iff.mpr (List.perm_append_comm.mem_iff.mp m))
          · exact w.elim
        · exact w.elim
      | _ => exact w.elim
    | cons _ _ => cases d <;> exact w.elim
@[simp] def mPop0 : List D → List D → (List D → D → Prop) → Prop := fun xs as F => match as with
  | [] => (match xs[xs.length - 1]? with | some d => F (xs.eraseIdx (xs.length - 1)) d | none => False)
  | _ => False
theorem ok_pop0 : MutOk K rPop mPop0 := by
  intro H U xs as vs us ox oa p F Q hp hx ha nd w q
  cases ha with
  | nil =>
    simp only [mPop0] at w
    split at w
    · rename_i d hd
      obtain ⟨v, p1, p2, h1, h2, h3, h4⟩ := hx.pick hd
      have hl := hx.length
      refine ⟨p, vs, v, rfl, rfl, hp, by rw [← hl]; exact h1, ?_⟩
      have e : vs.dropLast = vs.eraseIdx (xs.length - 1) := by
        rw [hl, List.dropLast_eq_take, List.eraseIdx_eq_take_drop_succ]
        have : vs.length - 1 + 1 = vs.length ∨ vs.length = 0 := by omega
        rcases this with z | z
        · rw [z]; simp
        · simp [List.length_eq_zero_iff.mp z]
      rw [e]
      refine q _ _ _ v p2 p1 w h3 h2 ?_ fun a m => ?_
      · have z := h4.nodup_iff.mp (by simpa using nd : ox.Nodup)
        exact List.perm_append_comm.nodup_iff.mp z
      · exact List.mem_append_left _ (h4.mem_iff.mpr (List.perm_append_comm.mem_iff.mp m))
    · exact w.elim
  | cons h t => exact w.elim
@[simp] def mClear : List D → List D → (List D → D → Prop) → Prop := fun _ as F => match as with | [] => F [] .non | _ => False
theorem ok_clear : MutOk K rClear mClear := by
  intro H U xs as vs us ox oa p F Q hp hx ha nd w q
  cases ha with
  | nil => exact ⟨p, vs, rfl, rfl, hp, q _ _ _ .non [] [] w .nil .non (by simp) (by simp)⟩
  | cons h t => exact w.elim
@[simp] def mRev : List D → List D → (List D → D → Prop) → Prop := fun xs as F => match as with | [] => F xs.reverse .non | _ => False
theorem ok_rev : MutOk K rReverse mRev := by
  intro H U xs as vs us ox oa p F Q hp hx ha nd w q
  cases ha with
  | nil =>
    obtain ⟨o2, h1, h2⟩ := hx.reverse
    have nd' : ox.Nodup := by simpa using nd
    exact ⟨p, vs, rfl, rfl, hp, q _ _ _ .non o2 [] w h1 .non (by simpa using h2.nodup_iff.mpr nd') (fun a m => by simpa using h2.mem_iff.mp (by simpa using m))⟩
  | cons h t => exact w.elim
/-! ### x[i] = e, x[i] += e -/
@[simp] def sSetIx (i : Nat) (ri : WR) (w : WE) : WS := fun E G => w G (fun d G1 => lstAt G1 i fun xs => ri G1 fun k => match k with
  | .int n => (match ixN xs.length n with | some j => E.nx (G1.set i (some (.lst true (xs.set j d)))) | none => False)
  | _ => False) E.ex
theorem rp_int {U : Addr → Prop} {H : Hp} {b : Int} {v : V} {o : List Addr} (h : Rp K H U (.int b) v o) : v = .int b ∧ o = [] := by
  cases h
  exact ⟨rfl, rfl⟩
theorem vw_int {S : Addr → Prop} {H : Hp} {b : Int} {v : V} (h : Vw K H S (.int b) v) : v = .int b := by
  cases h
  rfl
theorem s_setix (i : Nat) {st : Stmt} {e ie : Expr} {ri : WR} {w : WE} (h : SndE X K W e w) (hi : SndR X K ie ri) (mk : ∀ t ti, (∀ j, PE (X j) e t) → (∀ j, PE (X j) ie ti) → ∀ j, PS (X j) st (tAsg t (gSub (tVar i) ti rSetL))) : SndS X K W pn st (sSetIx i ri w) := by
  obtain ⟨t, h1, h2⟩ := h
  obtain ⟨ti, b1, b2⟩ := hi
  refine ⟨_, mk t ti h1 b1, fun U0 G σ H Oo os E De rep w ok => ?_⟩
  refine h2 U0 G σ H Oo os _ _ _ rep w (fun d G1 v H1 o2 os1 q s r x => ?_) ok.ex.here
  obtain ⟨xs, e1, q⟩ := lstAt_get q
  obtain ⟨p0, _, _, hv0, _⟩ := r.write e1
  refine ⟨.ref p0, hv0, ?_⟩
  refine b2 G1 σ H1 _ _ _ r.vw q fun k vk H2 q s2 hk => ?_
  split at q
  · rename_i n
    cases vw_int hk
    split at q
    · rename_i j hj
      have r2 := r.same s2
      obtain ⟨p, vs, ox, hv, hp, hx, nd, put⟩ := r2.write e1
      rw [hv0] at hv
      cases hv
      have x2 : Rp K H2 (ug U0 ((Oo ++ o2) ++ os1)) d v o2 := x.mono (os0 := o2) (fun a o e _ => s2 a o e) (fun a u _ => u) fun a m => m
      obtain ⟨p1, o3, h3, h4⟩ := RpL.set x2 j hx (ixN_lt hj)
      have nd2 : (p1 ++ o3).Nodup := h4.nodup_iff.mpr (List.perm_append_comm.nodup_iff.mp nd)
      obtain ⟨os', r3, s3, _⟩ := put _ _ o3 [] h3 (by simpa using (List.nodup_append.mp nd2).2.1) (fun a m => by
        have z := h4.mem_iff.mp (List.mem_append_right p1 (by simpa using m : a ∈ o3))
        exact List.perm_append_comm.mem_iff.mp z)
      refine ⟨p0, vs, n, j, rfl, rfl, hp, by rw [← hx.length]; exact hj, ?_⟩
      rw [List.append_nil] at r3
      exact ok.nx _ σ _ os' q ((s.trans (Stp.of_same s2 _)).trans (by simpa using s3)) r3 (Pn.refl _ _)
    · exact q.elim
  · exact q.elim
/-- o[i] of a list -/
theorem get_list {Y : Cx} (hK : Y.K = K) : PGet Y (rIxL K) := by
  intro pins s σ H o i ov iv Q I r1 r2 h
  subst hK
  obtain ⟨p, xs, k, z, rfl, rfl, hq, he, q⟩ := h
  cases r1
  obtain ⟨t, rfl⟩ := r2
  obtain ⟨its, rv, pl, hz⟩ := I.list hq
  obtain ⟨j, h1, h2, h3, h4, h5⟩ := atI_get he
  obtain ⟨u, eu, ru⟩ := rv.get h2
  have hl := rv.length
  have hn := line63
  have fin : EP Y pins σ Q u s := ⟨z, H, I, ru, q⟩
  by_cases h0 : 0 ≤ k
  · have hj : k.toNat = j := by
      rw [seqIndex_of h0 h5] at h1
      exact Option.some.inj h1
    exact wpAny_getItem_list pl.isList h0 (by omega) (by rw [hj]; simpa using eu) fin
  · have hj : (k + (its.toArray.size : Int)).toNat = j := by
      rw [seqIndex_neg (by omega) h4] at h1
      rw [List.size_toArray, ← hl]
      exact Option.some.inj h1
    exact wpAny_getItem_list_neg pl.isList (by omega) (by rw [List.size_toArray] <;> omega) (by omega) (by rw [hj]; simpa using eu) fin
@[simp] def sAugIx (i : Nat) (f : Int → Int → Int) (ri re : WR) : WS := fun E G => lstAt G i fun xs => ri G fun k => match k with
  | .int n => (match ixN xs.length n with
    | some j => (match xs[j]? with
      | some (.int a) => re G fun y => (match y with | .int b => E.nx (G.set i (some (.lst true (xs.set j (.int (f a b)))))) | _ => False)
      | _ => False)
    | none => False)
  | _ => False
theorem s_augix (i : Nat) {st : Stmt} {e ie : Expr} {f : Int → Int → Int} {ri re : WR} (h : SndR X K e re) (hi : SndR X K ie ri) (mk : ∀ t ti, (∀ j, PE (X j) e t) → (∀ j, PE (X j) ie ti) → ∀ j, PS (X j) st (tAugS (tVar i) ti t (rIxL K) (ipI f) rSetL)) : SndS X K W pn st (sAugIx i f ri re) := by
  obtain ⟨t, h1, h2⟩ := h
  obtain ⟨ti, b1, b2⟩ := hi
  refine ⟨_, mk t ti h1 b1, fun U0 G σ H Oo os E De rep w ok => ?_⟩
  obtain ⟨xs, e1, w⟩ := lstAt_get w
  have rep0 : Rep K U0 G σ H (Oo ++ []) os := by rw [List.append_nil]; exact rep
  obtain ⟨p0, vs0, _, hv0, hp0, hx0, _⟩ := rep0.write e1
  refine ⟨.ref p0, hv0, ?_⟩
  refine b2 G σ H _ _ _ rep.vw w fun k vk H2 q s2 hk => ?_
  split at q
  case h_2 => exact q.elim
  rename_i n
  cases vw_int hk
  split at q
  case h_2 => exact q.elim
  rename_i j hj
  split at q
  case h_2 => exact q.elim
  rename_i a ha
  obtain ⟨va, pa, pb, g1, g2, _⟩ := hx0.pick ha
  obtain ⟨rfl, rfl⟩ := rp_int g2
  have hat : atI vs0 n = some (.int a) := by
    unfold atI
    rw [← hx0.length, hj]
    exact g1
  refine ⟨p0, vs0, n, .int a, rfl, rfl, .inl (.inl (s2 _ _ hp0)), hat, ?_⟩
  refine h2 G σ H2 _ _ _ (rep.vw.same s2 fun _ z => z) q fun y vy H3 q s3 hy => ?_
  split at q
  case h_2 => exact q.elim
  rename_i b
  cases vw_int hy
  refine ⟨a, b, rfl, rfl, ?_⟩
  have r3 := rep0.same (s2.trans s3)
  obtain ⟨p, vs, ox, hv, hp, hx, nd, put⟩ := r3.write e1
  rw [hv0] at hv
  cases hv
  obtain ⟨p1, o3, h3, h4⟩ := RpL.set (.int (f a b)) j hx (ixN_lt hj)
  have h4' : (p1 ++ o3).Perm ox := by simpa using h4
  have nd2 : (p1 ++ o3).Nodup := h4'.nodup_iff.mpr (by simpa using nd)
  obtain ⟨os', r4, s4, _⟩ := put _ _ o3 [] h3 (by simpa using (List.nodup_append.mp nd2).2.1) (fun a m => by
    have z := h4'.mem_iff.mp (List.mem_append_right p1 (by simpa using m : a ∈ o3))
    simpa using z)
  refine ⟨p0, vs, n, j, rfl, rfl, hp, by rw [← hx.length]; exact hj, ?_⟩
  rw [List.append_nil] at r4
  exact ok.nx _ σ _ os' q ((Stp.of_same (s2.trans s3) os).trans (by simpa using s4)) r4 (Pn.refl _ _)
/-- x += e of whole numbers -/
@[simp] def sAug (i : Nat) (f : Int → Int → Int) (w : WE) : WS := fun E G => match G[i]? with
  | some (some (.int a)) => w G (fun d G1 => match d with | .int b => E.nx (G1.set i (some (.int (f a b)))) | _ => False) E.ex
  | _ => False
theorem s_aug (i : Nat) {st : Stmt} {e : Expr} {f : Int → Int → Int} {w : WE} (h : SndE X K W e w) (mk : ∀ t, (∀ j, PE (X j) e t) → ∀ j, PS (X j) st (tAug i t (ipI f))) (hi : i ∉ pn := by decide) : SndS X K W pn st (sAug i f w) := by
  obtain ⟨t, h1, h2⟩ := h
  refine ⟨_, mk t h1, fun U0 G σ H Oo os E De rep w ok => ?_⟩
  unfold sAug at w
  split at w
  case h_2 => exact w.elim
  rename_i a e1
  obtain ⟨v, hv, hd⟩ := rep.vw.at' i _ e1
  cases vw_int hd
  refine ⟨_, hv, ?_⟩
  refine h2 U0 G σ H Oo os _ _ _ rep w (fun d G1 v H1 o2 os1 q s r x => ?_) ok.ex.here
  split at q
  case h_2 => exact q.elim
  rename_i b
  obtain ⟨rfl, rfl⟩ := rp_int x
  refine ⟨a, b, rfl, rfl, ?_⟩
  obtain ⟨os', r', sub⟩ := r.set (o2 := []) (v := .int (f a b)) i (.int (f a b))
  exact ok.nx _ _ H1 os' q ((by simpa using s : Stp H H1 os os1).sub fun a m => by simpa using sub a m) r' (Pn.set hi)
/-! ### while -/
def whl (c : WB) (b : WS) (E : En) : Nat → T.Env → Prop
  | 0, _ => False
  | n + 1, G => c G (fun k G' => if k = true then b { E with nx := whl c b E n, ct := whl c b E n, bk := E.nx } G' else E.nx G') E.ex
@[simp] def sWhile (c : WB) (b : WS) : WS := fun E G => ∃ n, whl c b E n G
theorem s_while {c : Expr} {body : List Stmt} {wc : WB} {b : WS} {pos : Pos} (hp : ∀ j, PassesOwn (model (X j).prog (X j).w) (X j).A (X j).env (X j).xe) (hc : SndB X K W c wc) (hb : SndSs X K W pn body b) : SndS X K W pn (.While c body [] pos) (sWhile wc b) := by
  obtain ⟨tc, c1, c2⟩ := hc
  obtain ⟨tb, b1, b2⟩ := hb
  refine ⟨tWhile tc tb, fun j => ps_while (hp j) (c1 j) (b1 j), fun U0 G σ H Oo os E De rep w ok => ?_⟩
  obtain ⟨n, w⟩ := w
  refine ⟨fun m σ' H' => ∃ G' os', Rep K U0 G' σ' H' Oo os' ∧ Stp H H' os os' ∧ Pn pn σ σ' ∧ whl wc b E m G', ⟨n, G, os, rep, Stp.refl _ _, Pn.refl _ _, w⟩, ?_⟩
  rintro m σ' H' ⟨G', os', r', st, pn', w'⟩
  cases m with
  | zero => exact w'.elim
  | succ m =>
    have ok' := ok.step st pn'
    refine c2 U0 G' σ' H' Oo os' _ _ _ r' w' (fun k G2 H2 os2 p s r2 => ?_) ok'.ex.here
    cases k with
    | true =>
      rw [if_pos rfl] at p ⊢
      refine ⟨fun σ3 H3 => ∃ G3 os3, Rep K U0 G3 σ3 H3 Oo os3 ∧ Stp H H3 os os3 ∧ Pn pn σ σ3 ∧ whl wc b E m G3, fun σ3 H3 h => ⟨m, Nat.lt_succ_self m, h⟩, ?_⟩
      have okb := ok'.step s (Pn.refl pn σ')
      refine b2 U0 G2 σ' H2 Oo os2 _ _ r2 p ⟨fun G4 σ4 H4 os4 p4 s4 r4 n4 => ?_, okb.rt, okb.nx, fun G4 σ4 H4 os4 p4 s4 r4 n4 => ?_, okb.ex⟩
      · exact ⟨G4, os4, r4, (st.trans s).trans s4, pn'.trans n4, p4⟩
      · exact ⟨G4, os4, r4, (st.trans s).trans s4, pn'.trans n4, p4⟩
    | false =>
      rw [if_neg Bool.false_ne_true] at p ⊢
      exact ok'.nx G2 σ' H2 os2 p s r2 (Pn.refl _ _)
end
end T
namespace T
open PySem PySem.Spec PyProof.Rows L2
section
variable {ι : Type} {X : ι → Cx} {K : PySem.W.Frag} {W : WX} {pn : List Nat}
/-! ### numbers -/
theorem ok_rI {C : Int → Int → Prop} {g : Int → Int → V} {f : D → D → (D → Prop) → Prop} {gd : Int → Int → D} (hg : ∀ i j H S, Vw K H S (gd i j) (g i j)) (hf : ∀ x y P, f x y P → ∃ i j, x = .int i ∧ y = .int j ∧ C i j ∧ P (gd i j)) : OpOk K (rI C g) f := by
  intro H S x y v u P Q hx hy h q
  obtain ⟨i, j, rfl, rfl, hc, hp⟩ := hf x y P h
  cases vw_int hx
  cases vw_int hy
  exact ⟨i, j, rfl, rfl, hc, q _ _ H hp (Same.refl H) (hg i j H _)⟩
theorem ok_rI0 {g : Int → Int → V} {f : D → D → (D → Prop) → Prop} {gd : Int → Int → D} (hg : ∀ i j H S, Vw K H S (gd i j) (g i j)) (hf : ∀ x y P, f x y P → ∃ i j, x = .int i ∧ y = .int j ∧ P (gd i j)) : OpOk K (rI0 g) f := by
  intro H S x y v u P Q hx hy h q
  obtain ⟨i, j, rfl, rfl, hp⟩ := hf x y P h
  cases vw_int hx
  cases vw_int hy
  exact ⟨i, j, rfl, rfl, q _ _ H hp (Same.refl H) (hg i j H _)⟩
/-- two whole numbers -/
@[simp] def onI (C : Int → Int → Prop) (g : Int → Int → D) : D → D → (D → Prop) → Prop := fun x y P => match x, y with | .int i, .int j => C i j ∧ P (g i j) | _, _ => False
@[simp] def onI0 (g : Int → Int → D) : D → D → (D → Prop) → Prop := fun x y P => match x, y with | .int i, .int j => P (g i j) | _, _ => False
theorem onI_of {C : Int → Int → Prop} {g : Int → Int → D} : ∀ x y P, onI C g x y P → ∃ i j, x = .int i ∧ y = .int j ∧ C i j ∧ P (g i j) := fun x y P h => by
  cases x <;> cases y <;> first | exact ⟨_, _, rfl, rfl, h.1, h.2⟩ | exact h.elim
theorem onI0_of {g : Int → Int → D} : ∀ x y P, onI0 g x y P → ∃ i j, x = .int i ∧ y = .int j ∧ P (g i j) := fun x y P h => by
  cases x <;> cases y <;> first | exact ⟨_, _, rfl, rfl, h⟩ | exact h.elim
@[simp] def subD := onI0 fun i j => .int (i - j)
@[simp] def mulD := onI CMul fun i j => .int (i * j)
@[simp] def fdivD := onI CDiv fun i j => .int (i / j)
@[simp] def modD := onI (fun _ j => 0 < j) fun i j => .int (i % j)
@[simp] def powD := onI CPow fun i j => .int (i ^ j.toNat)
@[simp] def shlD := onI CPow fun i j => .int (i * 2 ^ j.toNat)
@[simp] def shrD := onI (fun _ j => 0 ≤ j) fun i j => .int (i / 2 ^ j.toNat)
@[simp] def bandD := onI0 fun i j => .int (Builtin.bitAnd i j)
theorem ok_sub : OpOk K (rI0 fun i j => .int (i - j)) subD := ok_rI0 (gd := fun i j => .int (i - j)) (fun _ _ _ _ => .int _) onI0_of
theorem ok_mul : OpOk K (rI CMul fun i j => .int (i * j)) mulD := ok_rI (gd := fun i j => .int (i * j)) (fun _ _ _ _ => .int _) onI_of
theorem ok_fdiv : OpOk K (rI CDiv fun i j => .int (i / j)) fdivD := ok_rI (gd := fun i j => .int (i / j)) (fun _ _ _ _ => .int _) onI_of
theorem ok_mod : OpOk K (rI (fun _ j => 0 < j) fun i j => .int (i % j)) modD := ok_rI (gd := fun i j => .int (i % j)) (fun _ _ _ _ => .int _) onI_of
theorem ok_pow : OpOk K (rI CPow fun i j => .int (i ^ j.toNat)) powD := ok_rI (gd := fun i j => .int (i ^ j.toNat)) (fun _ _ _ _ => .int _) onI_of
theorem ok_shl : OpOk K (rI CPow fun i j => .int (i * 2 ^ j.toNat)) shlD := ok_rI (gd := fun i j => .int (i * 2 ^ j.toNat)) (fun _ _ _ _ => .int _) onI_of
theorem ok_shr : OpOk K (rI (fun _ j => 0 ≤ j) fun i j => .int (i / 2 ^ j.toNat)) shrD := ok_rI (gd := fun i j => .int (i / 2 ^ j.toNat)) (fun _ _ _ _ => .int _) onI_of
theorem ok_band : OpOk K (rI0 fun i j => .int (Builtin.bitAnd i j)) bandD := ok_rI0 (gd := fun i j => .int (Builtin.bitAnd i j)) (fun _ _ _ _ => .int _) onI0_of
/-! one operand -/
@[simp] def rNeg (r : WR) : WR := fun G P => r G fun d => match d with | .int i => P (.int (-i)) | _ => False
theorem r_neg {e : Expr} {r : WR} {pos : Pos} (h : SndR X K e r) : SndR X K (.UnaryOp .USub e pos) (rNeg r) := by
  obtain ⟨t, h1, h2⟩ := h
  refine ⟨tUn (rU fun i => .int (-i)) t, fun j => pe_un un_neg (h1 j), fun G σ H S P Q g w q => ?_⟩
  refine h2 G σ H S _ _ g w fun d v H' p s hv => ?_
  cases d with
  | int i =>
    cases vw_int hv
    exact ⟨i, rfl, q _ _ H' p s (.int _)⟩
  | _ => exact p.elim
/-! ### + of whole numbers, texts, lists, tuples -/
def rCatL : R2 := fun x y H Q => ∃ l b xs zs, x = .ref l ∧ y = .ref b ∧ Rd H l (.lst xs) ∧ Rd H b (.lst zs) ∧ xs.length + zs.length ≤ sizeLine ∧ ∀ p, H p = none → Q (.ref p) (upd H p (.lst (xs ++ zs)))
theorem op_catL {Y : Cx} : OpR Y (binaryOp .Add) rCatL := by
  intro pins s σ H x y v u Q I rx ry h
  obtain ⟨l, b, xs, zs, rfl, rfl, hH, hB, hz, q⟩ := h
  cases rx
  cases ry
  obtain ⟨_, its, n, r, e⟩ := hH.ok I.hok
  obtain ⟨_, its2, n2, r2, e2⟩ := hB.ok I.hok
  have hl := r.length
  have hl2 := r2.length
  refine PySem.P.add_list e e2 ?_ (by rw [List.size_toArray, List.size_toArray]; omega)
  have ea : its.toArray ++ its2.toArray = (its ++ its2).toArray := by simp
  rw [ea]
  exact ⟨.ref _, _, I.lnew (t' := s.toks) (r.append r2) (by rw [List.length_append]; exact hz), rfl, q _ I.fresh⟩
def rAddA (K : PySem.W.Frag) : R2 := fun x y H Q => (rI0 (fun i j => .int (i + j)) x y H Q ∨ (∃ i j, x = .str i ∧ y = .str j ∧ i.length + j.length ≤ sizeLine ∧ Q (.str (i ++ j)) H)) ∨ (rCatL x y H Q ∨ rCatA K x y H Q)
theorem op_addA {Y : Cx} (hK : Y.K = K) : OpR Y (binaryOp .Add) (rAddA K) := by
  subst hK
  exact (op_add.or op_add_str).or (op_catL.or op_catA)
@[simp] def addD : D → D → (D → Prop) → Prop := fun x y P => match x, y with
  | .int i, .int j => P (.int (i + j))
  | .str a, .str b => a.length + b.length ≤ 100000 ∧ P (.str (a ++ b))
  | .lst _ xs, .lst _ ys => xs.length + ys.length ≤ 100000 ∧ P (.lst false (xs ++ ys))
  | .tup xs, .tup ys => xs.length + ys.length ≤ 100000 ∧ P (.tup (xs ++ ys))
  | _, _ => False
theorem ok_add : OpOk K (rAddA K) addD := by
  intro H S x y v u P Q hx hy h q
  cases hx with
  | int i =>
    cases hy with
    | int j => exact .inl (.inl ⟨i, j, rfl, rfl, q _ _ H h (Same.refl H) (.int _)⟩)
    | _ => exact h.elim
  | str i =>
    cases hy with
    | str j => exact .inl (.inr ⟨i, j, rfl, rfl, small_line h.1, q _ _ H h.2 (Same.refl H) (.str _)⟩)
    | _ => exact h.elim
  | lst rd sa hl =>
    cases hy with
    | lst rd' sa' hl' =>
      refine .inr (.inl ⟨_, _, _, _, rfl, rfl, rd, rd', by rw [← hl.length, ← hl'.length]; exact small_line h.1, fun p hp => ?_⟩)
      exact q _ _ _ h.2 (same_new hp) (.lst (.inl upd_same) (.inr hp) ((hl.append hl').same (same_new hp) gr_of))
    | _ => exact h.elim
  | tup sq hl =>
    cases hy with
    | tup sq' hl' =>
      refine .inr (.inr ⟨_, _, _, _, rfl, rfl, sq, sq', by rw [← hl.length, ← hl'.length]; exact small_line h.1, fun e => ?_, fun _ e => ?_, fun _ _ p hp => ?_⟩)
      · subst e
        cases hl
        exact q _ _ H h.2 (Same.refl H) (.tup sq' (hl'.same (Same.refl H) gr_of))
      · subst e
        cases hl'
        refine q _ _ H h.2 (Same.refl H) (.tup sq ?_)
        rw [List.append_nil]
        exact hl.same (Same.refl H) gr_of
      · exact q _ _ _ h.2 (same_new hp) (.tup (.inl (.inl upd_same)) ((hl.append hl').same (same_new hp) gr_of))
    | _ => exact h.elim
  | _ => cases y <;> exact h.elim
/-- a + b, two lists: a new list -/
@[simp] def fCat (ra rb : WR) : WA := fun G P => ra G fun x => rb G fun y => match x, y with | .lst _ xs, .lst _ ys => xs.length + ys.length ≤ 100000 ∧ P (xs ++ ys) | _, _ => False
theorem f_cat {a b : Expr} {ra rb : WR} {pos : Pos} (ha : SndR X K a ra) (hb : SndR X K b rb) : SndF X K (.BinOp a .Add b pos) (fCat ra rb) := by
  obtain ⟨ta, a1, a2⟩ := ha
  obtain ⟨tb, b1, b2⟩ := hb
  refine ⟨tOp rCatL ta tb, fun j => pe_op op_catL (a1 j) (b1 j), fun G σ H S P Q g h q => ?_⟩
  refine a2 G σ H S _ _ g h fun x v H1 h1 s1 v1 => ?_
  refine b2 G σ H1 (gr S H) _ _ (g.same s1 gr_of) h1 fun y u H2 h2 s2 v2 => ?_
  have w1 := v1.same s2 fun _ z => z
  have w2 := v2.same (Same.refl _) (gr_gr s1)
  cases w1 with
  | lst rd sa hl =>
    cases w2 with
    | lst rd' sa' hl' =>
      exact ⟨_, _, _, _, rfl, rfl, rd, rd', by rw [← hl.length, ← hl'.length]; exact small_line h2.1, fun p hp => q _ _ p H2 h2.2 (s1.trans s2) hp (hl.append hl')⟩
    | _ => exact h2.elim
  | _ => cases y <;> exact h2.elim
/-- the same, of what may change the slots -/
@[simp] def eCat (wa wb : WE) : WE := fun G P PX => wa G (fun x G1 => wb G1 (fun y G2 => match x, y with | .lst _ xs, .lst _ ys => xs.length + ys.length ≤ 100000 ∧ P (.lst true (frzL (xs ++ ys))) G2 | _, _ => False) PX) PX
theorem e_cat {a b : Expr} {wa wb : WE} {pos : Pos} (ha : SndE X K W a wa) (hb : SndE X K W b wb) : SndE X K W (.BinOp a .Add b pos) (eCat wa wb) := by
  obtain ⟨ta, a1, a2⟩ := ha
  obtain ⟨tb, b1, b2⟩ := hb
  refine ⟨tOp rCatL ta tb, fun j => pe_op op_catL (a1 j) (b1 j), fun U0 G σ H Oo os P PX Q rep w ok2 okx => ?_⟩
  refine a2 U0 G σ H Oo os _ _ _ rep w (fun x G1 v H1 o1 os1 p1 s1 r1 x1 => ?_) okx
  refine b2 U0 G1 σ H1 (Oo ++ o1) os1 _ _ _ r1 p1 (fun y G2 u H2 o2 os2 p2 s2 r2 x2 => ?_) (okx.more s1)
  have z1 := aside s2 r1.own x1
  have e1 : Oo ++ o1 ++ (o2 ++ os2) = (Oo ++ (o1 ++ o2)) ++ os2 := by simp [List.append_assoc]
  have e2 : Oo ++ o1 ++ o2 = Oo ++ (o1 ++ o2) := by simp [List.append_assoc]
  rw [e1] at z1
  rw [e2] at r2 x2
  have pr : RpL K H2 (ug U0 ((Oo ++ (o1 ++ o2)) ++ os2)) [x, y] [v, u] (o1 ++ o2) := by
    have q := RpL.cons z1 (RpL.cons x2 .nil)
    simpa using q
  have vw := letgo r2 pr
  cases vw with
  | cons w1 w2 =>
    cases w2 with
    | cons w2 _ =>
      have st : Stp H H2 os os2 := (s1.trans s2.wide).sub fun c m => List.mem_append_right _ (List.mem_append_right _ m)
      cases w1 with
      | lst rd sa hl =>
        cases w2 with
        | lst rd' sa' hl' =>
          refine ⟨_, _, _, _, rfl, rfl, rd, rd', by rw [← hl.length, ← hl'.length]; exact small_line p2.1, fun p hp => ?_⟩
          exact (ok2.step st).viewF r2.less (Same.refl _) hp ((hl.append hl').same (Same.refl _) gr_of) p2.2
        | _ => exact p2.elim
      | _ => cases y <;> exact p2.elim
/-! ### * of a list by a whole number -/
theorem vals_rep_flat {xs : List D} {vs : List V} {H : Hp} {S : Addr → Prop} (h : VwL K H S xs vs) : ∀ k : Nat, VwL K H S (List.replicate k xs).flatten (List.replicate k vs).flatten
  | 0 => .nil
  | k + 1 => by
    rw [List.replicate_succ, List.replicate_succ, List.flatten_cons, List.flatten_cons]
    exact h.append (vals_rep_flat h k)
/-- [..] * n, the list made on the way -/
@[simp] def fRep (t : WA) (rb : WR) : WA := fun G P => t G fun xs => xs.length ≤ 1000 ∧ rb G fun y => match y with | .int k => (k ≤ 1000 ∧ -(2 ^ 63) ≤ k) ∧ P (List.replicate k.toNat xs).flatten | _ => False
theorem f_rep {es : List Expr} {b : Expr} {t : WA} {rb : WR} {pos p2 : Pos} (ha : SndA X K es t) (hb : SndR X K b rb) : SndF X K (.BinOp (.List es p2) .Mult b pos) (fRep t rb) := by
  obtain ⟨ta, a1, a2⟩ := ha
  obtain ⟨tb, b1, b2⟩ := hb
  refine ⟨tOp rRep (tLst ta) tb, fun j => pe_op op_rep (pe_lst (a1 j)) (b1 j), fun G σ H S P Q g h q => ?_⟩
  refine a2 G σ H S _ _ g h fun xs vs H1 h1 s1 v1 => ?_
  have hl := v1.length
  refine ⟨small_line (by rw [← hl]; exact Nat.le_trans h1.1 (by decide)), fun p hp => ?_⟩
  have sp : Same H1 (upd H1 p (.lst vs)) := same_new hp
  refine b2 G σ _ (gr S H) _ _ (g.same (s1.trans sp) gr_of) h1.2 fun y u H2 h2 s2 v2 => ?_
  cases y with
  | int k =>
    cases vw_int v2
    refine ⟨p, k, vs, rfl, rfl, s2 _ _ upd_same, h2.1.2, by have := h2.1.1; omega, ?_, fun p' hp' => ?_⟩
    · have hk : k.toNat ≤ 1000 := by have := h2.1.1; omega
      have : vs.length * k.toNat ≤ 1000 * 1000 := Nat.mul_le_mul (by rw [← hl]; exact h1.1) hk
      rw [sizeLine_eq]
      omega
    · exact q _ _ p' H2 h2.2 ((s1.trans sp).trans s2) hp' (vals_rep_flat (v1.same (sp.trans s2) fun _ z => z) _)
  | _ => exact h2.elim
/-- (..) * n -/
@[simp] def rRepT' (t : WR) (rb : WR) : WR := fun G P => t G fun x => rb G fun y => match x, y with | .tup xs, .int k => (xs ≠ [] ∧ 2 ≤ k ∧ k ≤ 1000 ∧ xs.length ≤ 1000) ∧ P (.tup (List.replicate k.toNat xs).flatten) | _, _ => False
theorem r_repT {a b : Expr} {ra rb : WR} {pos : Pos} (hK : ∀ j, (X j).K = K) (ha : SndR X K a ra) (hb : SndR X K b rb) : SndR X K (.BinOp a .Mult b pos) (rRepT' ra rb) := by
  obtain ⟨ta, a1, a2⟩ := ha
  obtain ⟨tb, b1, b2⟩ := hb
  refine ⟨tOp (rRepT K) ta tb, fun j => pe_op (hK j ▸ op_repT) (a1 j) (b1 j), fun G σ H S P Q g h q => ?_⟩
  refine a2 G σ H S _ _ g h fun x v H1 h1 s1 v1 => ?_
  refine b2 G σ H1 (gr S H) _ _ (g.same s1 gr_of) h1 fun y u H2 h2 s2 v2 => ?_
  have w1 := v1.same s2 fun _ z => z
  cases w1 with
  | tup sq hl =>
    cases y with
    | int k =>
      cases vw_int v2
      refine ⟨_, k, _, rfl, rfl, sq, ?_, h2.1.2.1, h2.1.2.2.1, by rw [← hl.length]; exact h2.1.2.2.2, fun p hp => ?_⟩
      · intro e
        subst e
        cases hl
        exact h2.1.1 rfl
      · exact q _ _ _ h2.2 ((s1.trans s2).trans (same_new hp)) (.tup (.inl (.inl upd_same)) ((vals_rep_flat hl _).same (same_new hp) fun _ z => z))
    | _ => exact h2.elim
  | _ => cases y <;> exact h2.elim
/-! ### == of data -/
mutual
def py : D → PyData
  | .non => .none
  | .bl b => .bool b
  | .int i => .int i
  | .str x => .str x
  | .scr _ => .dict []
  | .tup xs => .tuple (pyL xs)
  | .lst _ xs => .list (pyL xs)
  | .dic _ _ _ => .dict []
  | .obj _ _ _ _ => .dict []
def pyL : List D → List PyData
  | [] => []
  | x :: xs => py x :: pyL xs
end
theorem pyL_map : ∀ xs : List D, pyL xs = xs.map py
  | [] => rfl
  | x :: xs => by simp only [pyL, pyL_map xs, List.map_cons]
mutual
theorem vw_dp : ∀ {H : Hp} {S : Addr → Prop} {d : D} {v : V}, Vw K H S d v → (py d).canLay0 = true → Dp K H v (py d)
  | _, _, _, _, .non, _ => .non
  | _, _, _, _, .bl b, _ => .bl b
  | _, _, _, _, .int b, _ => .int b
  | _, _, _, _, .str b, _ => .str b
  | _, _, _, _, .scr t, h => by simp [py, PyData.canLay0] at h
  | _, _, _, _, .tup t l, h => .tup t (vwl_dp l (by simpa [py, PyData.canLay0] using h))
  | _, _, _, _, .lst r s l, h => .lst (.inl r) (vwl_dp l (by simpa [py, PyData.canLay0] using h))
  | _, _, _, _, .dic r s t l, h => by simp [py, PyData.canLay0] at h
  | _, _, _, _, .obj r s l, h => by simp [py, PyData.canLay0] at h
theorem vwl_dp : ∀ {H : Hp} {S : Addr → Prop} {d : List D} {v : List V}, VwL K H S d v → PyData.canLayAll0 (pyL d) = true → DpAll K H v (pyL d)
  | _, _, _, _, .nil, _ => .nil
  | _, _, _, _, .cons h t, q => by
    simp only [pyL, PyData.canLayAll0, Bool.and_eq_true] at q
    exact .cons (vw_dp h q.1) (vwl_dp t q.2)
end
/-- data that may be compared -/
def shp (d : D) : Bool := SeqAt.shaped (py d)
def deq (x y : D) : Bool := PyData.eqv (py x) (py y)
@[simp] def eqD : D → D → (D → Prop) → Prop := fun x y P => shp x = true ∧ shp y = true ∧ P (.bl (deq x y))
@[simp] def neD : D → D → (D → Prop) → Prop := fun x y P => shp x = true ∧ shp y = true ∧ P (.bl (!deq x y))
theorem shp_lay {d : D} (h : shp d = true) : (py d).canLay0 = true := by
  unfold shp SeqAt.shaped at h
  simp only [Bool.and_eq_true] at h
  exact h.1
theorem ok_eq : OpOk K (rEqD K) eqD := fun H S x y v u P Q hx hy h q => ⟨py x, py y, vw_dp hx (shp_lay h.1), vw_dp hy (shp_lay h.2.1), h.1, h.2.1, q _ _ H h.2.2 (Same.refl H) (.bl _)⟩
theorem ok_ne : OpOk K (rNeD K) neD := fun H S x y v u P Q hx hy h q => ⟨py x, py y, vw_dp hx (shp_lay h.1), vw_dp hy (shp_lay h.2.1), h.1, h.2.1, q _ _ H h.2.2 (Same.refl H) (.bl _)⟩
/-- texts, whatever they are -/
@[simp] def seqD : D → D → (D → Prop) → Prop := fun x y P => match x, y with | .str a, .str b => P (.bl (decide (a = b))) | _, _ => False
/-! in -/
def mem (x : D) (xs : List D) : Bool := (pyL xs).any fun z => PyData.eqv z (py x)
def rInA (K : PySem.W.Frag) : R2 := fun x y H Q => rInD K x y H Q ∨ rIn K false x y H Q
def rNotInA (K : PySem.W.Frag) : R2 := fun x y H Q => rNotInD K x y H Q ∨ rIn K true x y H Q
@[simp] def flt (d : D) : Bool := match d with | .non | .bl _ | .int _ | .str _ => true | _ => false
@[simp] def inD : D → D → (D → Prop) → Prop := fun x y P => match y with
  | .lst _ xs => shp x = true ∧ shp y = true ∧ P (.bl (mem x xs))
  | .tup xs => flt x = true ∧ xs.all flt = true ∧ P (.bl (mem x xs))
  | _ => False
@[simp] def notInD : D → D → (D → Prop) → Prop := fun x y P => match y with
  | .lst _ xs => shp x = true ∧ shp y = true ∧ P (.bl (!mem x xs))
  | .tup xs => flt x = true ∧ xs.all flt = true ∧ P (.bl (!mem x xs))
  | _ => False
theorem flt_eqv : ∀ {H : Hp} {S : Addr → Prop} {x y : D} {v u : V}, Vw K H S x v → Vw K H S y u → flt x = true → flt y = true → flatV v = true ∧ flatV u = true ∧ eqV u v = PyData.eqv (py y) (py x) := by
  intro H S x y v u hx hy fx fy
  cases hx <;> first | (simp [flt] at fx; done) | skip
  all_goals cases hy <;> first | (simp [flt] at fy; done) | skip
  all_goals refine ⟨rfl, rfl, ?_⟩
  all_goals simp [eqV, py, PyData.eqv]
theorem flt_mem : ∀ {H : Hp} {S : Addr → Prop} {x : D} {v : V} {ys : List D} {us : List V}, Vw K H S x v → flt x = true → VwL K H S ys us → ys.all flt = true → us.all flatV = true ∧ inV v us = mem x ys
  | _, _, _, _, _, _, _, _, .nil, _ => ⟨rfl, rfl⟩
  | _, _, x, v, _, _, hx, fx, .cons h t, q => by
    simp only [List.all_cons, Bool.and_eq_true] at q
    obtain ⟨h1, h2⟩ := flt_mem hx fx t q.2
    obtain ⟨f1, f2, f3⟩ := flt_eqv hx h fx q.1
    refine ⟨by simp [f2, h1], ?_⟩
    unfold inV mem at h2 ⊢
    simp only [List.any_cons, pyL, f3, h2]
theorem ok_in : OpOk K (rInA K) inD := by
  intro H S x y v u P Q hx hy h q
  cases hy with
  | lst rd sa hl =>
    have hy' : Vw K H S (.lst _ _) (.ref _) := .lst (o := false) rd sa hl
    exact .inl ⟨_, _, vw_dp hx (shp_lay h.1), vw_dp hy' (shp_lay h.2.1), h.1, h.2.1, q _ _ H h.2.2 (Same.refl H) (.bl _)⟩
  | tup sq hl =>
    obtain ⟨h1, h2⟩ := flt_mem hx h.1 hl h.2.1
    refine .inr ⟨_, _, rfl, .inr sq, ?_, h1, ?_⟩
    · cases hx <;> first | rfl | (simp [inD, flt] at h)
    · rw [if_neg Bool.false_ne_true, h2]
      exact q _ _ H h.2.2 (Same.refl H) (.bl _)
  | _ => exact h.elim
theorem ok_notIn : OpOk K (rNotInA K) notInD := by
  intro H S x y v u P Q hx hy h q
  cases hy with
  | lst rd sa hl =>
    have hy' : Vw K H S (.lst _ _) (.ref _) := .lst (o := false) rd sa hl
    exact .inl ⟨_, _, vw_dp hx (shp_lay h.1), vw_dp hy' (shp_lay h.2.1), h.1, h.2.1, q _ _ H h.2.2 (Same.refl H) (.bl _)⟩
  | tup sq hl =>
    obtain ⟨h1, h2⟩ := flt_mem hx h.1 hl h.2.1
    refine .inr ⟨_, _, rfl, .inr sq, ?_, h1, ?_⟩
    · cases hx <;> first | rfl | (simp [notInD, flt] at h)
    · rw [if_pos rfl, h2]
      exact q _ _ H h.2.2 (Same.refl H) (.bl _)
  | _ => exact h.elim
theorem op_inA {Y : Cx} (hK : Y.K = K) (hu : Y.A.units + 65 < cLine) : OpR Y (compareOp .In) (rInA K) := by
  subst hK
  exact (op_inD hu).or op_in_seq
theorem op_notInA {Y : Cx} (hK : Y.K = K) (hu : Y.A.units + 65 < cLine) : OpR Y (compareOp .NotIn) (rNotInA K) := by
  subst hK
  exact (op_notInD hu).or op_notIn_seq
/-! is -/
@[simp] def isND : D → D → (D → Prop) → Prop := fun x y P => match y with | .non => P (.bl (match x with | .non => true | _ => false)) | .bl b => (match x with | .bl a => P (.bl (decide (a = b))) | _ => False) | _ => False
@[simp] def notND : D → D → (D → Prop) → Prop := fun x y P => match y with | .non => P (.bl (match x with | .non => false | _ => true)) | .bl b => (match x with | .bl a => P (.bl (!decide (a = b))) | _ => False) | _ => False
def rIsA : R2 := fun x y H Q => (y = .non ∧ Q (.bl (decide (x = .non))) H) ∨ ∃ a b, x = .bl a ∧ y = .bl b ∧ Q (.bl (decide (a = b))) H
def rIsNotA : R2 := fun x y H Q => (y = .non ∧ Q (.bl (!decide (x = .non))) H) ∨ ∃ a b, x = .bl a ∧ y = .bl b ∧ Q (.bl (!decide (a = b))) H
theorem op_isA {Y : Cx} : OpR Y (compareOp .Is) rIsA := op_isN.or op_is_bl
theorem op_isNotA {Y : Cx} : OpR Y (compareOp .IsNot) rIsNotA := op_notN.or op_isnot_bl
theorem ok_is : OpOk K rIsA isND := by
  intro H S x y v u P Q hx hy h q
  cases hy with
  | non => exact .inl ⟨rfl, by cases hx <;> exact q _ _ H h (Same.refl H) (.bl _)⟩
  | bl b =>
    cases hx with
    | bl a => exact .inr ⟨a, b, rfl, rfl, q _ _ H h (Same.refl H) (.bl _)⟩
    | _ => exact h.elim
  | _ => exact h.elim
theorem ok_isNot : OpOk K rIsNotA notND := by
  intro H S x y v u P Q hx hy h q
  cases hy with
  | non => exact .inl ⟨rfl, by cases hx <;> exact q _ _ H h (Same.refl H) (.bl _)⟩
  | bl b =>
    cases hx with
    | bl a => exact .inr ⟨a, b, rfl, rfl, q _ _ H h (Same.refl H) (.bl _)⟩
    | _ => exact h.elim
  | _ => exact h.elim
/-! subscripts -/
@[simp] def ixD : D → D → (D → Prop) → Prop := fun x y P => match y with
  | .int i => (match x with
    | .lst _ xs => (match atI xs i with | some d => P d | none => False)
    | .scr ns => (match atI ns i with | some d => P (.int d) | none => False)
    | .tup xs => (match atI xs i with | some d => P d | none => False)
    | .str z => z.length ≤ 100000 ∧ (match atI z.cps.toList i with | some c => P (.str ⟨#[c]⟩) | none => False)
    | _ => False)
  | _ => False
theorem atI_vw {H : Hp} {S : Addr → Prop} {ds : List D} {vs : List V} {i : Int} {d : D} (h : VwL K H S ds vs) (e : atI ds i = some d) : ∃ v, atI vs i = some v ∧ Vw K H S d v := by
  unfold atI at e ⊢
  rw [← h.length]
  cases q : ixN ds.length i with
  | none => rw [q] at e; cases e
  | some j =>
    rw [q] at e
    obtain ⟨v, h1, h2⟩ := h.get (i := j) (x := d) e
    exact ⟨v, h1, h2⟩
theorem ok_ix : OpOk K (rIx K) ixD := by
  intro H S x y v u P Q hx hy h q
  cases hy with
  | int i =>
    cases hx with
    | lst rd sa hl =>
      simp only [ixD] at h
      split at h
      · rename_i d e
        obtain ⟨z, h1, h2⟩ := atI_vw hl e
        exact .inl ⟨_, _, i, z, rfl, rfl, .inl rd, h1, q _ _ H h (Same.refl H) (h2.same (Same.refl H) gr_of)⟩
      · exact h.elim
    | @scr a ns t =>
      simp only [ixD] at h
      split at h
      · rename_i d e
        have e2 : atI (ns.map V.int) i = some (.int d) := by
          unfold atI at e ⊢
          rw [List.length_map]
          cases q : ixN ns.length i with
          | none => rw [q] at e; cases e
          | some j =>
            rw [q] at e
            have e' : ns[j]? = some d := e
            show (ns.map V.int)[j]? = _
            rw [List.getElem?_map, e']
            rfl
        exact .inl ⟨_, _, i, _, rfl, rfl, t.sq, e2, q _ _ H h (Same.refl H) (.int _)⟩
      · exact h.elim
    | tup sq hl =>
      simp only [ixD] at h
      split at h
      · rename_i d e
        obtain ⟨z, h1, h2⟩ := atI_vw hl e
        exact .inr (.inl ⟨_, _, i, z, rfl, rfl, sq, h1, q _ _ H h (Same.refl H) (h2.same (Same.refl H) gr_of)⟩)
      · exact h.elim
    | str z =>
      simp only [ixD] at h
      obtain ⟨hz, h⟩ := h
      split at h
      · rename_i c e
        exact .inr (.inr ⟨z, i, c, rfl, rfl, small_line hz, e, q _ _ H h (Same.refl H) (.str _)⟩)
      · exact h.elim
    | _ => exact h.elim
  | _ => exact h.elim
/-! order: whole numbers, tuples of them -/
@[simp] def asInts : List D → Option (List Int)
  | [] => some []
  | .int i :: xs => (asInts xs).map (i :: ·)
  | _ => none
theorem asInts_vw {H : Hp} {S : Addr → Prop} : ∀ {ds : List D} {vs : List V} {ns : List Int}, VwL K H S ds vs → asInts ds = some ns → vs = ns.map V.int
  | _, _, ns, .nil, e => by simp [asInts] at e; subst e; rfl
  | _, _, ns, .cons (d := d) h t, e => by
    cases d with
    | int i =>
      simp only [asInts, Option.map_eq_some_iff] at e
      obtain ⟨ms, e1, e2⟩ := e
      subst e2
      cases vw_int h
      rw [asInts_vw t e1]
      rfl
    | _ => simp [asInts] at e
/-- e: what equal ones go on with at the end; r: what unlike ones give -/
@[simp] def lexI (r : Int → Int → Bool) (z : Nat → Nat → Bool) : List Int → List Int → Bool
  | x :: xs, y :: ys => if x = y then lexI r z xs ys else r x y
  | xs, ys => z xs.length ys.length
theorem lexAt_lexI (r : Int → Int → Bool) (z : Nat → Nat → Bool) (hz : ∀ a b, z (a + 1) (b + 1) = z a b) : ∀ (ns ms : List Int) (i : Nat) (as bs : List Int), as.length = i → bs.length = i →
    Ob.lexAt (fun j => decide ((as ++ ns).getD j 0 = (bs ++ ms).getD j 0)) (fun j => r ((as ++ ns).getD j 0) ((bs ++ ms).getD j 0)) (z ns.length ms.length) i (min ns.length ms.length) = lexI r z ns ms
  | [], ms, i, as, bs, ha, hb => by simp [Ob.lexAt, lexI]
  | n :: ns, [], i, as, bs, ha, hb => by simp [Ob.lexAt, lexI]
  | n :: ns, m :: ms, i, as, bs, ha, hb => by
    have ih := lexAt_lexI r z hz ns ms (i + 1) (as ++ [n]) (bs ++ [m]) (by simp [ha]) (by simp [hb])
    simp only [List.append_assoc, List.singleton_append] at ih
    have hmin : min (n :: ns).length (m :: ms).length = min ns.length ms.length + 1 := by simp only [List.length_cons]; omega
    rw [hmin, Ob.lexAt_succ]
    have g1 : (as ++ n :: ns).getD i 0 = n := by simp [List.getD, ← ha]
    have g2 : (bs ++ m :: ms).getD i 0 = m := by simp [List.getD, ← hb]
    rw [g1, g2]
    have hz' : z (n :: ns).length (m :: ms).length = z ns.length ms.length := by
      simp only [List.length_cons]
      exact hz _ _
    rw [hz', ih]
    simp only [lexI]
    by_cases e : n = m
    · simp [e]
    · simp [e]
/-- the operators' rule for tuples of whole numbers -/
def rTupI (K : PySem.W.Frag) (r : Int → Int → Bool) (z : Nat → Nat → Bool) : R2 := fun x y H Q => ∃ (a b : Addr) (ns ms : List Int), x = .ref a ∧ y = .ref b ∧ SqT K H a (ns.map V.int) ∧ SqT K H b (ms.map V.int) ∧ Q (.bl (lexI r z ns ms)) H
theorem op_tupI {Y : Cx} {op : CmpOp} {r : Int → Int → Bool} {z : Nat → Nat → Bool} (hz : ∀ a b, z (a + 1) (b + 1) = z a b) (hi : ∀ (A : Around) (s : Shared) (a b : Int) (t u : Tok), Ob.RcOp op A s (.int a t) (.int b u) (r a b))
    (ht : ∀ (A : Around) (s : Shared) (l b : Addr) (items items2 : Array Value) (e q : Nat → Bool), s.heap.IsTuple l items → s.heap.IsTuple b items2 → A.units < cLine → (∀ j (h1 : j < items.size) (h2 : j < items2.size), SeqAt.EqAt A.in1 s items[j] items2[j] (e j)) →
      (∀ j (h1 : j < items.size) (h2 : j < items2.size), e j = false → Ob.RcOp op A.in1 s items[j] items2[j] (q j)) → Ob.RcOp op A s (.ref l) (.ref b) (Ob.lexAt e q (z items.size items2.size) 0 (min items.size items2.size)))
    (hc : ∀ (A : Around) (E : Value → Shared → Prop) (s : Shared) (v u : Value) (Q : Value → Shared → Prop), wpAny (model Y.prog Y.w) A (richCompare op v u) Q E s → wpAny (model Y.prog Y.w) A (compareOp op v u) Q E s) (hu : Y.A.units < cLine) : OpR Y (compareOp op) (rTupI Y.K r z) := by
  intro pins s σ H x y v u Q I rx ry h
  obtain ⟨a, b, ns, ms, rfl, rfl, ha, hb, q⟩ := h
  cases rx
  cases ry
  obtain ⟨its, r1, p1, _⟩ := I.tuple ha
  obtain ⟨its2, r2, p2, _⟩ := I.tuple hb
  have i1 : IntsAre its ns := Vals.ints r1
  have i2 : IntsAre its2 ms := Vals.ints r2
  have e1 : its.toArray.size = ns.length := by rw [List.size_toArray]; exact i1.length
  have e2 : its2.toArray.size = ms.length := by rw [List.size_toArray]; exact i2.length
  have at1 : ∀ j (h1 : j < its.toArray.size), ∃ t, its.toArray[j] = .int (ns.getD j 0) t := fun j h1 => PyProof.Rows.IntsAre.int_at i1 _ _ (by simp at h1; simp [h1])
  have at2 : ∀ j (h1 : j < its2.toArray.size), ∃ t, its2.toArray[j] = .int (ms.getD j 0) t := fun j h1 => PyProof.Rows.IntsAre.int_at i2 _ _ (by simp at h1; simp [h1])
  have R := ht Y.A s a b its.toArray its2.toArray (fun j => decide (ns.getD j 0 = ms.getD j 0)) (fun j => r (ns.getD j 0) (ms.getD j 0)) p1 p2 hu (fun j h1 h2 => by
    obtain ⟨t, et⟩ := at1 j h1
    obtain ⟨t', et'⟩ := at2 j h2
    rw [et, et']
    have zz : (ns.getD j 0 == ms.getD j 0) = decide (ns.getD j 0 = ms.getD j 0) := Bool.beq_eq_decide_eq _ _
    rw [← zz]
    exact SeqAt.EqAt.int_int _ _ _ _) (fun j h1 h2 _ => by
    obtain ⟨t, et⟩ := at1 j h1
    obtain ⟨t', et'⟩ := at2 j h2
    rw [et, et']
    exact hi _ _ _ _ _ _)
  rw [e1, e2] at R
  have el := lexAt_lexI r z hz ns ms 0 [] [] rfl rfl
  simp only [List.nil_append] at el
  rw [el] at R
  exact hc _ _ _ _ _ _ (R Y.prog Y.w Y.xe (EP Y pins σ Q) ⟨.bl _, H, I, rfl, q⟩)
@[simp] def ordD (f : Int → Int → Bool) (r : Int → Int → Bool) (z : Nat → Nat → Bool) : D → D → (D → Prop) → Prop := fun x y P => match x, y with
  | .int i, .int j => P (.bl (f i j))
  | .tup xs, .tup ys => (match asInts xs, asInts ys with | some ns, some ms => P (.bl (lexI r z ns ms)) | _, _ => False)
  | _, _ => False
theorem ok_ord {f r : Int → Int → Bool} {z : Nat → Nat → Bool} : OpOk K (fun x y H Q => rI0 (fun i j => .bl (f i j)) x y H Q ∨ rTupI K r z x y H Q) (ordD f r z) := by
  intro H S x y v u P Q hx hy h q
  cases hx with
  | int i =>
    cases hy with
    | int j => exact .inl ⟨i, j, rfl, rfl, q _ _ H h (Same.refl H) (.bl _)⟩
    | _ => exact h.elim
  | tup sq hl =>
    cases hy with
    | tup sq' hl' =>
      simp only [ordD] at h
      split at h
      · rename_i ns ms e1 e2
        have z1 := asInts_vw hl e1
        have z2 := asInts_vw hl' e2
        subst z1 z2
        exact .inr ⟨_, _, ns, ms, rfl, rfl, sq, sq', q _ _ H h (Same.refl H) (.bl _)⟩
      · exact h.elim
    | _ => exact h.elim
  | _ => cases y <;> exact h.elim
@[simp] def ltD := ordD (fun i j => decide (i < j)) (fun i j => decide (i < j)) (fun a b => decide (a < b))
@[simp] def leD := ordD (fun i j => decide (i ≤ j)) (fun i j => decide (i ≤ j)) (fun a b => decide (a ≤ b))
@[simp] def gtD := ordD (fun i j => decide (j < i)) (fun i j => decide (j < i)) (fun a b => decide (a > b))
@[simp] def geD := ordD (fun i j => decide (j ≤ i)) (fun i j => decide (j ≤ i)) (fun a b => decide (a ≥ b))
theorem op_ltA {Y : Cx} (hK : Y.K = K) (hu : Y.A.units < cLine) : OpR Y (compareOp .Lt) (fun x y H Q => rI0 (fun i j => .bl (decide (i < j))) x y H Q ∨ rTupI K (fun i j => decide (i < j)) (fun a b => decide (a < b)) x y H Q) := by
  subst hK
  exact op_lt.or (op_tupI (fun a b => by simp) (fun A s a b t u => Ob.RcOp.lt_int a b t u) (fun A s l b i i2 e q h1 h2 h3 h4 h5 => Ob.RcOp.tuples_lt h1 h2 h3 h4 h5) (fun A E s v u Q h => h) hu)
theorem op_leA {Y : Cx} (hK : Y.K = K) (hu : Y.A.units < cLine) : OpR Y (compareOp .LtE) (fun x y H Q => rI0 (fun i j => .bl (decide (i ≤ j))) x y H Q ∨ rTupI K (fun i j => decide (i ≤ j)) (fun a b => decide (a ≤ b)) x y H Q) := by
  subst hK
  exact op_le.or (op_tupI (fun a b => by simp) (fun A s a b t u => Ob.RcOp.le_int a b t u) (fun A s l b i i2 e q h1 h2 h3 h4 h5 => Ob.RcOp.tuples_le h1 h2 h3 h4 h5) (fun A E s v u Q h => h) hu)
theorem op_gtA {Y : Cx} (hK : Y.K = K) (hu : Y.A.units < cLine) : OpR Y (compareOp .Gt) (fun x y H Q => rI0 (fun i j => .bl (decide (j < i))) x y H Q ∨ rTupI K (fun i j => decide (j < i)) (fun a b => decide (a > b)) x y H Q) := by
  subst hK
  exact op_gt.or (op_tupI (fun a b => by simp) (fun A s a b t u => Ob.RcOp.gt_int a b t u) (fun A s l b i i2 e q h1 h2 h3 h4 h5 => Ob.RcOp.tuples_gt h1 h2 h3 h4 h5) (fun A E s v u Q h => h) hu)
theorem op_geA {Y : Cx} (hK : Y.K = K) (hu : Y.A.units < cLine) : OpR Y (compareOp .GtE) (fun x y H Q => rI0 (fun i j => .bl (decide (j ≤ i))) x y H Q ∨ rTupI K (fun i j => decide (j ≤ i)) (fun a b => decide (a ≥ b)) x y H Q) := by
  subst hK
  exact op_ge.or (op_tupI (fun a b => by simp) (fun A s a b t u => Ob.RcOp.ge_int a b t u) (fun A s l b i i2 e q h1 h2 h3 h4 h5 => Ob.RcOp.tuples_ge h1 h2 h3 h4 h5) (fun A E s v u Q h => h) hu)
/-! a < b < c -/
@[simp] def rChain (f f' : D → D → (D → Prop) → Prop) (ra rb rc : WR) : WR := fun G P => ra G fun x => rb G fun y => f x y fun d => match d with | .bl k => (if k = true then rc G fun z => f' y z P else P (.bl false)) | _ => False
theorem chain_core {r r' : R2} {f f' : D → D → (D → Prop) → Prop} {ra rb rc : WR} {ta tb tc : TE} (ok : OpOk K r f) (ok' : OpOk K r' f')
    (a2 : ∀ (G : T.Env) (σ : L2.St) (H : Hp) (S : Addr → Prop) (P : D → Prop) (Q : VK), VwG K H S G σ → ra G P → (∀ d v H', P d → Same H H' → Vw K H' (gr S H) d v → Q v H') → ta σ H Q)
    (b2 : ∀ (G : T.Env) (σ : L2.St) (H : Hp) (S : Addr → Prop) (P : D → Prop) (Q : VK), VwG K H S G σ → rb G P → (∀ d v H', P d → Same H H' → Vw K H' (gr S H) d v → Q v H') → tb σ H Q)
    (c2 : ∀ (G : T.Env) (σ : L2.St) (H : Hp) (S : Addr → Prop) (P : D → Prop) (Q : VK), VwG K H S G σ → rc G P → (∀ d v H', P d → Same H H' → Vw K H' (gr S H) d v → Q v H') → tc σ H Q)
    (G : T.Env) (σ : L2.St) (H : Hp) (S : Addr → Prop) (P : D → Prop) (Q : VK) (g : VwG K H S G σ) (h : rChain f f' ra rb rc G P) (q : ∀ d v H', P d → Same H H' → Vw K H' (gr S H) d v → Q v H') : tChain r r' ta tb tc σ H Q := by
  refine a2 G σ H S _ _ g h fun x v H1 h1 s1 v1 => ?_
  refine b2 G σ H1 (gr S H) _ _ (g.same s1 gr_of) h1 fun y u H2 h2 s2 v2 => ?_
  have w2 := v2.same (Same.refl _) (gr_gr s1)
  refine ok H2 (gr S H) x y v u _ _ (v1.same s2 fun _ z => z) w2 h2 fun d z H3 hp s3 hz => ?_
  have s13 : Same H H3 := (s1.trans s2).trans s3
  cases d with
  | bl k =>
    cases vw_bl hz
    refine ⟨k, rfl, ?_⟩
    cases k with
    | true =>
      dsimp only at hp
      rw [if_pos rfl] at hp ⊢
      refine c2 G σ H3 (gr S H) _ _ (g.same s13 gr_of) hp fun z w H4 h4 s4 v4 => ?_
      refine ok' H4 (gr S H) y z u w P Q (w2.same (s3.trans s4) fun _ z => z) (v4.same (Same.refl _) (gr_gr s13)) h4 fun d2 z2 H5 hp2 s5 hz2 => ?_
      exact q d2 z2 H5 hp2 ((s13.trans s4).trans s5) (hz2.same (Same.refl _) (gr_gr (s13.trans s4)))
    | false =>
      dsimp only at hp
      rw [if_neg Bool.false_ne_true] at hp ⊢
      exact q _ _ H3 hp s13 (.bl _)
  | _ => exact hp.elim
theorem r_chain {a b c : Expr} {op op' : CmpOp} {r r' : R2} {f f' : D → D → (D → Prop) → Prop} {ra rb rc : WR} {pos : Pos} (ho : ∀ j, OpR (X j) (compareOp op) r) (ho' : ∀ j, OpR (X j) (compareOp op') r') (ok : OpOk K r f) (ok' : OpOk K r' f') (ha : SndR X K a ra) (hb : SndR X K b rb) (hc : SndR X K c rc)
    (hm : lastMarks [op, op'] [b, c] = false := by with_unfolding_all rfl) : SndR X K (.Compare a [op, op'] [b, c] pos) (rChain f f' ra rb rc) := by
  obtain ⟨ta, a1, a2⟩ := ha
  obtain ⟨tb, b1, b2⟩ := hb
  obtain ⟨tc, c1, c2⟩ := hc
  exact ⟨tChain r r' ta tb tc, fun j => pe_chain (ho j) (ho' j) (a1 j) (b1 j) (c1 j) hm, fun G σ H S P Q g h q => chain_core ok ok' a2 b2 c2 G σ H S P Q g h q⟩
theorem t_chain {a b c : Expr} {op op' : CmpOp} {r r' : R2} {f f' : D → D → (D → Prop) → Prop} {ra rb rc : WR} {pos : Pos} (ho : ∀ j, OpR (X j) (compareOp op) r) (ho' : ∀ j, OpR (X j) (compareOp op') r') (ok : OpOk K r f) (ok' : OpOk K r' f') (ha : SndR X K a ra) (hb : SndR X K b rb) (hc : SndR X K c rc)
    (hm : lastMarks [op, op'] [b, c] = false := by with_unfolding_all rfl) : SndT X K (.Compare a [op, op'] [b, c] pos) (asB (rChain f f' ra rb rc)) := by
  obtain ⟨ta, a1, a2⟩ := ha
  obtain ⟨tb, b1, b2⟩ := hb
  obtain ⟨tc, c1, c2⟩ := hc
  refine ⟨tTest (tChain r r' ta tb tc), fun j => pt_chain (ho j) (ho' j) (a1 j) (b1 j) (c1 j) hm, fun G σ H S P Q g h q => ?_⟩
  refine chain_core ok ok' a2 b2 c2 G σ H S _ _ g h fun d v H' hp s hv => ?_
  cases d with
  | bl k =>
    cases vw_bl hv
    exact ⟨k, rfl, q k H' hp s⟩
  | _ => exact hp.elim
end
end T
namespace T
open PySem PySem.Spec PyProof.Rows L2
section
variable {ι : Type} {X : ι → Cx} {K : PySem.W.Frag} {W : WX} {pn : List Nat}
/-! ### len, int, abs, max, min, sum -/
theorem vwl1 {H : Hp} {S : Addr → Prop} {d : D} {vs : List V} (h : VwL K H S [d] vs) : ∃ v, vs = [v] ∧ Vw K H S d v := by
  cases h with
  | cons h t =>
    cases t
    exact ⟨_, rfl, h⟩
theorem vwl2 {H : Hp} {S : Addr → Prop} {d e : D} {vs : List V} (h : VwL K H S [d, e] vs) : ∃ v u, vs = [v, u] ∧ Vw K H S d v ∧ Vw K H S e u := by
  cases h with
  | cons h t =>
    obtain ⟨u, rfl, h'⟩ := vwl1 t
    exact ⟨_, _, rfl, h, h'⟩
@[simp] def lenD : List D → (D → Prop) → Prop := fun ds P => match ds with
  | [.lst _ xs] => P (.int xs.length)
  | [.scr xs] => P (.int xs.length)
  | [.tup xs] => P (.int xs.length)
  | [.str z] => z.length ≤ 100000 ∧ P (.int z.length)
  | _ => False
def rLenA (K : PySem.W.Frag) : List V → Hp → VK → Prop := fun xs H Q => (∃ p ys, xs = [.ref p] ∧ (SqL K H p ys ∨ SqT K H p ys) ∧ Q (.int ys.length) H) ∨ ∃ z, xs = [.str z] ∧ z.length ≤ sizeLine ∧ Q (.int z.length) H
theorem c_len {Y : Cx} (hK : Y.K = K) : CallR Y (.builtin "len") (rLenA K) := by
  subst hK
  exact call_len_seq.or call_len_str
theorem ok_len : CallOk K (rLenA K) lenD := by
  intro H S xs vs P Q hv h q
  unfold lenD at h
  split at h
  · obtain ⟨v, rfl, h1⟩ := vwl1 hv
    cases h1 with
    | lst rd sa hl => exact .inl ⟨_, _, rfl, .inl (.inl rd), q _ _ H h (Same.refl H) (by rw [← hl.length]; exact .int _)⟩
  · obtain ⟨v, rfl, h1⟩ := vwl1 hv
    cases h1 with
    | scr t => exact .inl ⟨_, _, rfl, .inl t.sq, by rw [List.length_map]; exact q _ _ H h (Same.refl H) (.int _)⟩
  · obtain ⟨v, rfl, h1⟩ := vwl1 hv
    cases h1 with
    | tup sq hl => exact .inl ⟨_, _, rfl, .inr sq, q _ _ H h (Same.refl H) (by rw [← hl.length]; exact .int _)⟩
  · obtain ⟨v, rfl, h1⟩ := vwl1 hv
    cases h1
    exact .inr ⟨_, rfl, small_line h.1, q _ _ H h.2 (Same.refl H) (.int _)⟩
  · exact h.elim
@[simp] def intD : List D → (D → Prop) → Prop := fun ds P => match ds with
  | [.int i] => P (.int i)
  | [.bl b] => P (.int (if b then 1 else 0))
  | _ => False
theorem ok_int : CallOk K (fun xs H Q => (∃ i, xs = [.int i] ∧ Q (.int i) H) ∨ ∃ k, xs = [.bl k] ∧ Q (.int (if k then 1 else 0)) H) intD := by
  intro H S xs vs P Q hv h q
  unfold intD at h
  split at h
  · obtain ⟨v, rfl, h1⟩ := vwl1 hv
    cases h1
    exact .inl ⟨_, rfl, q _ _ H h (Same.refl H) (.int _)⟩
  · obtain ⟨v, rfl, h1⟩ := vwl1 hv
    cases h1
    exact .inr ⟨_, rfl, q _ _ H h (Same.refl H) (.int _)⟩
  · exact h.elim
@[simp] def absD : List D → (D → Prop) → Prop := fun ds P => match ds with
  | [.int i] => P (.int (if i < 0 then -i else i))
  | _ => False
theorem ok_abs : CallOk K (fun xs H Q => ∃ i, xs = [.int i] ∧ Q (.int (if i < 0 then -i else i)) H) absD := by
  intro H S xs vs P Q hv h q
  unfold absD at h
  split at h
  · obtain ⟨v, rfl, h1⟩ := vwl1 hv
    cases h1
    exact ⟨_, rfl, q _ _ H h (Same.refl H) (.int _)⟩
  · exact h.elim
@[simp] def max2D : List D → (D → Prop) → Prop := fun ds P => match ds with
  | [.int i, .int j] => P (.int (if j > i then j else i))
  | _ => False
@[simp] def min2D : List D → (D → Prop) → Prop := fun ds P => match ds with
  | [.int i, .int j] => P (.int (if j < i then j else i))
  | _ => False
theorem ok_max2 : CallOk K (fun xs H Q => ∃ i j, xs = [.int i, .int j] ∧ Q (.int (if j > i then j else i)) H) max2D := by
  intro H S xs vs P Q hv h q
  unfold max2D at h
  split at h
  · obtain ⟨v, u, rfl, h1, h2⟩ := vwl2 hv
    cases h1
    cases h2
    exact ⟨_, _, rfl, q _ _ H h (Same.refl H) (.int _)⟩
  · exact h.elim
theorem ok_min2 : CallOk K (fun xs H Q => ∃ i j, xs = [.int i, .int j] ∧ Q (.int (if j < i then j else i)) H) min2D := by
  intro H S xs vs P Q hv h q
  unfold min2D at h
  split at h
  · obtain ⟨v, u, rfl, h1, h2⟩ := vwl2 hv
    cases h1
    cases h2
    exact ⟨_, _, rfl, q _ _ H h (Same.refl H) (.int _)⟩
  · exact h.elim
@[simp] def sumD : List D → (D → Prop) → Prop := fun ds P => match ds with
  | [.lst _ xs] => (match asInts xs with | some ns => P (.int ns.sum) | none => False)
  | _ => False
theorem ok_sum : CallOk K (rSum K) sumD := by
  intro H S xs vs P Q hv h q
  unfold sumD at h
  split at h
  · split at h
    · rename_i ns e
      obtain ⟨v, rfl, h1⟩ := vwl1 hv
      cases h1 with
      | lst rd sa hl =>
        have z := asInts_vw hl e
        subst z
        exact ⟨_, ns, rfl, .inl rd, q _ _ H h (Same.refl H) (.int _)⟩
    · exact h.elim
  · exact h.elim
/-- the least, the greatest of a list of whole numbers -/
def minLD : List D → (D → Prop) → Prop := fun ds P => match ds with
  | [.lst _ xs] => (match asInts xs with | some ns => 0 < ns.length ∧ ∀ m, m ∈ ns → (∀ y, y ∈ ns → m ≤ y) → P (.int m) | none => False)
  | _ => False
def maxLD : List D → (D → Prop) → Prop := fun ds P => match ds with
  | [.lst _ xs] => (match asInts xs with | some ns => 0 < ns.length ∧ ∀ m, m ∈ ns → (∀ y, y ∈ ns → y ≤ m) → P (.int m) | none => False)
  | _ => False
theorem ok_minL : CallOk K (rMin K) minLD := by
  intro H S xs vs P Q hv h q
  unfold minLD at h
  split at h
  · split at h
    · rename_i ns e
      obtain ⟨v, rfl, h1⟩ := vwl1 hv
      cases h1 with
      | lst rd sa hl =>
        have z := asInts_vw hl e
        subst z
        exact ⟨_, ns, rfl, .inl rd, h.1, fun m h1 h2 => q _ _ H (h.2 m h1 h2) (Same.refl H) (.int _)⟩
    · exact h.elim
  · exact h.elim
theorem ok_maxL : CallOk K (rMax K) maxLD := by
  intro H S xs vs P Q hv h q
  unfold maxLD at h
  split at h
  · split at h
    · rename_i ns e
      obtain ⟨v, rfl, h1⟩ := vwl1 hv
      cases h1 with
      | lst rd sa hl =>
        have z := asInts_vw hl e
        subst z
        exact ⟨_, ns, rfl, .inl rd, h.1, fun m h1 h2 => q _ _ H (h.2 m h1 h2) (Same.refl H) (.int _)⟩
    · exact h.elim
  · exact h.elim
/-! list(..), tuple(..) -/
def rListA (K : PySem.W.Frag) : List V → Hp → VK → Prop := fun xs H Q => ∃ p ys, xs = [.ref p] ∧ (SqL K H p ys ∨ SqT K H p ys) ∧ ∀ l, H l = none → Q (.ref l) (upd H l (.lst ys))
theorem c_list {Y : Cx} (hK : Y.K = K) : CallR Y (.type "list") (rListA K) := by
  subst hK
  exact call_list_of
@[simp] def listD : List D → (List D → Prop) → Prop := fun ds P => match ds with | [.lst _ xs] => P xs | [.tup xs] => P xs | _ => False
theorem ok_list : CallOkF K (rListA K) listD := by
  intro H S xs vs P Q hv h q
  unfold listD at h
  split at h
  · obtain ⟨v, rfl, h1⟩ := vwl1 hv
    cases h1 with
    | lst rd sa hl => exact ⟨_, _, rfl, .inl (.inl rd), fun l hl' => q _ _ l H h (Same.refl H) hl' (hl.same (Same.refl H) gr_of)⟩
  · obtain ⟨v, rfl, h1⟩ := vwl1 hv
    cases h1 with
    | tup sq hl => exact ⟨_, _, rfl, .inr sq, fun l hl' => q _ _ l H h (Same.refl H) hl' (hl.same (Same.refl H) gr_of)⟩
  · exact h.elim
def rTupleA (K : PySem.W.Frag) : List V → Hp → VK → Prop := fun xs H Q => ∃ p ys, xs = [.ref p] ∧ ((SqL K H p ys ∧ ∀ l, H l = none → Q (.ref l) (upd H l (.tup ys))) ∨ (SqT K H p ys ∧ Q (.ref p) H))
theorem c_tuple {Y : Cx} (hK : Y.K = K) : CallR Y (.type "tuple") (rTupleA K) := by
  subst hK
  exact call_tuple_of
@[simp] def tupleD : List D → (D → Prop) → Prop := fun ds P => match ds with | [.lst _ xs] => P (.tup xs) | [.tup xs] => P (.tup xs) | _ => False
theorem ok_tuple : CallOk K (rTupleA K) tupleD := by
  intro H S xs vs P Q hv h q
  unfold tupleD at h
  split at h
  · obtain ⟨v, rfl, h1⟩ := vwl1 hv
    cases h1 with
    | lst rd sa hl => exact ⟨_, _, rfl, .inl ⟨.inl rd, fun l hl' => q _ _ _ h (same_new hl') (.tup (.inl (.inl upd_same)) (hl.same (same_new hl') gr_of))⟩⟩
  · obtain ⟨v, rfl, h1⟩ := vwl1 hv
    cases h1 with
    | tup sq hl => exact ⟨_, _, rfl, .inr ⟨sq, q _ _ H h (Same.refl H) (.tup sq (hl.same (Same.refl H) gr_of))⟩⟩
  · exact h.elim
/-! ### sorted of alike data -/
def sortD (xs : List D) : List D := xs.mergeSort (PySem.W.dataLe false py)
/-- what can be sorted -/
def Srtb (xs : List D) : Prop := PySem.W.AllAlike (xs.map py) ∧ PySem.W.Sortable (xs.map py) ∧ (∀ x ∈ xs, (py x).canLay0 = true ∧ (py x).depth ≤ 64) ∧ xs.length ≤ 100000
@[simp] def sortedD : List D → (List D → Prop) → Prop := fun ds P => match ds with | [.lst _ xs] => Srtb xs ∧ P (sortD xs) | _ => False
def rSortA (K : PySem.W.Frag) : List V → Hp → VK → Prop := fun vs H Q => ∃ (a : Addr) (xs : List V) (ds : List D), vs = [V.ref a] ∧ SqL K H a xs ∧ DpAll K H xs (pyL ds) ∧ Srtb ds ∧ xs.length = ds.length ∧
  ∀ (p : Addr), H p = none → Q (.ref p) (upd H p (.lst (((ds.zip xs).mergeSort (PySem.W.dataLe false (fun b => py b.1))).map (·.2))))
theorem each_of {h : Heap} : ∀ {its : List Value} {xs : List V} {ds : List D} {as : List Addr}, Vals xs its → ReadsAll h its (pyL ds) as → xs.length = ds.length →
    PySem.W.EachIs (fun (v : Value) (b : D × V) => RelV b.2 v) its (ds.zip xs) ∧ PySem.W.EachIs (fun (v : Value) (b : D × V) => ∃ as, Reads h v (py b.1) as) its (ds.zip xs)
  | [], [], [], _, _, _, _ => ⟨.nil, .nil⟩
  | [], [], _ :: _, _, _, _, hl => by simp at hl
  | u :: us, x :: xs, [], _, _, _, hl => by simp at hl
  | u :: us, x :: xs, d :: ds, as, .cons r t, ra, hl => by
    have ra' : ReadsAll h (u :: us) (py d :: pyL ds) as := ra
    cases ra' with
    | cons h1 h2 =>
      obtain ⟨a1, a2⟩ := each_of t h2 (by simpa using hl)
      exact ⟨.cons r a1, .cons ⟨_, h1⟩ a2⟩
theorem vals_each : ∀ {out : List Value} {bs : List (D × V)}, PySem.W.EachIs (fun (v : Value) (b : D × V) => RelV b.2 v) out bs → Vals (bs.map (·.2)) out
  | _, _, .nil => .nil
  | _, _, .cons h t => .cons h (vals_each t)
theorem c_sorted {Y : Cx} (hK : Y.K = K) (hu : Y.A.units + 80 < cLine) : CallR Y (.builtin "sorted") (rSortA K) := by
  subst hK
  intro pins s σ H vs us Q I r h
  obtain ⟨a, xs, ds, rfl, hs, hd, ⟨s1, s2, s3, s4⟩, hlen, q⟩ := h
  obtain ⟨its, rv, hl, _⟩ := I.list hs
  rw [Vals.ref1 r]
  obtain ⟨as, ra⟩ := Dp.readsAll I (pyL ds) xs its hd rv
  obtain ⟨e1, e2⟩ := each_of (h := s.heap) rv ra hlen
  have em : (ds.zip xs).map (fun b => py b.1) = ds.map py := by
    have : (ds.zip xs).map (fun b => py b.1) = ((ds.zip xs).map (·.1)).map py := by simp [List.map_map]
    rw [this, List.map_fst_zip (by omega)]
  have zl : (ds.zip xs).length = ds.length := by simp [hlen]
  refine PySem.W.sorted_data (enc := fun (b : D × V) => py b.1) (bs := ds.zip xs) hl.isList e1 e2 (by rw [em]; exact s1) (by rw [em]; exact s2) (by rw [zl]; exact small_line s4) (fun b hb => ?_) fun out hlo hout => ?_
  · have hm : b.1 ∈ ds := (List.of_mem_zip (show (b.1, b.2) ∈ ds.zip xs from hb)).1
    have := (s3 b.1 hm).2
    show Y.A.units + 2 + (py b.1).depth < cLine
    omega
  · obtain ⟨ep, he'⟩ := PyProof.Rows.sortedAll_at s.heap its (List.toArray out)
    have hv := vals_each hout
    have hlen2 : (((ds.zip xs).mergeSort (PySem.W.dataLe false (fun b => py b.1))).map (·.2)).length ≤ sizeLine := by
      rw [List.length_map, List.length_mergeSort, zl]
      exact small_line s4
    refine ⟨.ref (s.heap.objs.size + 1), upd H (s.heap.objs.size + 1) (.lst (((ds.zip xs).mergeSort (PySem.W.dataLe false (fun b => py b.1))).map (·.2))), I.laid (t' := s.toks) (fun _ _ => PyProof.Rows.sortedAll_old) (Nat.le_succ _) ?_, rfl, q _ (I.hok.fresh (Nat.le_succ _))⟩
    exact ⟨hlen2, out, ep, hv, by simpa using he'⟩
theorem vwl_zip {H : Hp} {S : Addr → Prop} : ∀ {ds : List D} {vs : List V}, VwL K H S ds vs → ∀ b ∈ ds.zip vs, Vw K H S b.1 b.2
  | _, _, .nil, b, m => by simp at m
  | _, _, .cons h t, b, m => by
    rcases List.mem_cons.mp (by simpa using m) with z | z
    · subst z; exact h
    · exact vwl_zip t b z
theorem vwl_of_mem {H : Hp} {S : Addr → Prop} : ∀ {bs : List (D × V)}, (∀ b ∈ bs, Vw K H S b.1 b.2) → VwL K H S (bs.map (·.1)) (bs.map (·.2))
  | [], _ => .nil
  | b :: bs, h => .cons (h b List.mem_cons_self) (vwl_of_mem fun c m => h c (List.mem_cons_of_mem _ m))
theorem sort_fst (ds : List D) (vs : List V) (hl : ds.length = vs.length) : ((ds.zip vs).mergeSort (PySem.W.dataLe false (fun b => py b.1))).map (·.1) = sortD ds := by
  unfold sortD
  have e := List.map_mergeSort (r := PySem.W.dataLe false (fun (b : D × V) => py b.1)) (s := PySem.W.dataLe false py) (f := fun (b : D × V) => b.1) (l := ds.zip vs) (fun a _ b _ => rfl)
  rw [e, List.map_fst_zip (by omega)]
theorem ok_sorted : CallOkF K (rSortA K) sortedD := by
  intro H S xs vs P Q hv h q
  unfold sortedD at h
  split at h
  · obtain ⟨v, rfl, h1⟩ := vwl1 hv
    obtain ⟨hs, h⟩ := h
    cases h1 with
    | lst rd sa hl =>
      refine ⟨_, _, _, rfl, .inl rd, vwl_dp hl ?_, hs, hl.length.symm, fun p hp => ?_⟩
      · have : ∀ (ys : List D), (∀ x ∈ ys, (py x).canLay0 = true ∧ (py x).depth ≤ 64) → PyData.canLayAll0 (pyL ys) = true := by
          intro ys
          induction ys with
          | nil => intro _; rfl
          | cons y ys ih =>
            intro hy
            simp only [pyL, PyData.canLayAll0, Bool.and_eq_true]
            exact ⟨(hy y List.mem_cons_self).1, ih fun x m => hy x (List.mem_cons_of_mem _ m)⟩
        exact this _ hs.2.2.1
      · rw [← sort_fst _ _ hl.length] at h
        refine q _ _ p H h (Same.refl H) hp (vwl_of_mem fun b m => ?_)
        have hm := (List.mergeSort_perm (_ : List (D × V)) _).mem_iff.mp m
        exact (vwl_zip hl b hm).same (Same.refl H) gr_of
  · exact h.elim
/-! ### isinstance with a built-in class -/
@[simp] def tyD : D → String
  | .non => "NoneType"
  | .bl _ => "bool"
  | .int _ => "int"
  | .str _ => "str"
  | .scr _ => "list"
  | .tup _ => "tuple"
  | .lst _ _ => "list"
  | .dic _ _ _ => "dict"
  | .obj _ _ _ _ => ""
@[simp] def isiD (c : String) (d : D) : Bool := tyD d == c || (tyD d == "bool" && c == "int")
theorem isi_kit : ∀ c ∈ ["tuple", "list", "int", "bool", "str", "dict"], ∀ t ∈ ["NoneType", "bool", "int", "str", "tuple", "list", "dict"], kitB t c = some (t == c || (t == "bool" && c == "int")) := by decide +kernel
def rIsiA (K : PySem.W.Frag) : List V → Hp → VK → Prop := fun xs H Q => rIsi K xs H Q ∨ ∃ (a : Addr) (o : Obj) (kvs : List (List Key × V)) (c : String) (b : Bool), xs = [.ref a, .ty c] ∧ H a = some (.frz o (.dT kvs)) ∧ kitB "dict" c = some b ∧ Q (.bl b) H
theorem c_isi {Y : Cx} (hK : Y.K = K) : CallR Y (.builtin "isinstance") (rIsiA K) := by
  subst hK
  intro pins s σ H xs us Q I r h
  rcases h with h | ⟨a, o, kvs, c, b, rfl, e, hb, q⟩
  · exact call_isi pins s σ H xs us Q I r h
  · obtain ⟨u1, u2, rfl, r1, r2⟩ := vals2 r
    cases (show u1 = Value.ref a from r1)
    cases (show u2 = Value.type c from r2)
    obtain ⟨_, _, _, xs, _, o', es, ep, h1, h2, _⟩ := (show ObjOk Y.prog Y.w H s.heap a (.frz o (.dT kvs)) from I.hok a _ e)
    exact PySem.W.kia_one PySem.W.kitx_dict I.kIn ⟨o', h1, h2.1⟩ (kit_ty hb) (fun z => nomatch z) fun tk => ⟨.bl b, H, I.tok tk, rfl, q⟩
theorem vw_ty {H : Hp} {S : Addr → Prop} {d : D} {v : V} (h : Vw K H S d v) (hn : tyD d ≠ "") : (TyX K H v (.type (tyD d)) ∨ ∃ a o kvs, v = .ref a ∧ H a = some (.frz o (.dT kvs)) ∧ tyD d = "dict") ∧ tyD d ∈ ["NoneType", "bool", "int", "str", "tuple", "list", "dict"] := by
  cases h with
  | non => exact ⟨.inl (.base .non), by simp [tyD]⟩
  | bl b => exact ⟨.inl (.base (.bl b)), by simp [tyD]⟩
  | int i => exact ⟨.inl (.base (.int i)), by simp [tyD]⟩
  | str x => exact ⟨.inl (.base (.str x)), by simp [tyD]⟩
  | scr t =>
    refine ⟨.inl ?_, by simp [tyD]⟩
    rcases t with ⟨o, t⟩ | ⟨o, its, n, hk, hc, _⟩
    · exact .base (.frz t)
    · exact .kList hk hc
  | tup sq hl =>
    refine ⟨.inl ?_, by simp [tyD]⟩
    rcases sq with (sq | ⟨o, sq⟩) | ⟨o, its, n, hk, hc, _⟩
    · exact .base (.tup sq)
    · exact .fTuple sq
    · exact .kTuple hk hc
  | lst rd sa hl =>
    refine ⟨.inl ?_, by simp [tyD]⟩
    rcases rd with rd | ⟨o, rd⟩
    · exact .base (.lst rd)
    · exact .base (.frz rd)
  | dic rd sa t hl =>
    refine ⟨?_, by simp [tyD]⟩
    rcases t with ⟨kvs, rfl, _⟩ | ⟨kvs, rfl, _⟩
    · rcases rd with rd | ⟨o, rd⟩
      · exact .inl (.base (.dK rd))
      · exact .inl (.fDict rd)
    · rcases rd with rd | ⟨o, rd⟩
      · exact .inl (.base (.dT rd))
      · exact .inr ⟨_, o, kvs, rfl, rd, rfl⟩
  | obj r s l => exact absurd rfl hn
@[simp] def rIsi' (c : String) (r : WR) : WR := fun G P => r G fun d => tyD d ≠ "" ∧ P (.bl (isiD c d))
theorem r_isi {e : Expr} {r : WR} {c x : Str} {Ty : String} {p p2 pos : Pos} (hK : ∀ j, (X j).K = K) (h : SndR X K e r) (hx : x = "isinstance") (hg : ∀ j, Gl (X j) x) (hm : ∀ j, (X j).mg x = none) (hv : bootBuiltins x = some (.builtin "isinstance")) (hg2 : ∀ j, Gl (X j) c) (hm2 : ∀ j, (X j).mg c = none) (hv2 : bootBuiltins c = some (.type Ty)) (hT : Ty ∈ ["tuple", "list", "int", "bool", "str", "dict"])
    (hn : x ≠ "__name__" := by decide) (hdb : (x == ("__debug__" : Str)) = false := by decide) (hn2 : c ≠ "__name__" := by decide) (hdb2 : (c == ("__debug__" : Str)) = false := by decide)
    (hs : ∀ j, starEach [e, .Name c p2] (X j).env = (false, eval e (X j).env) :: starEach [.Name c p2] (X j).env := by intro _; rfl) (hs2 : ∀ j, starEach [.Name c p2] (X j).env = (false, eval (.Name c p2) (X j).env) :: starEach [] (X j).env := by intro _; rfl) (hpl : ∀ j, (backTo pos (starEach [.Name c p2] (X j).env)).any (·.1) = false := by intro _; rfl) :
    SndR X K (.Call (.Name x p) [e, .Name c p2] [] pos) (rIsi' Ty r) := by
  obtain ⟨t, h1, h2⟩ := h
  refine ⟨tCB (rIsiA K) (tCons t (tCons (tC (.ty Ty)) tNil)), fun j => pe_callB (c_isi (hK j)) (hg j) (hm j) hv (pa_cons (h1 j) (pa_cons (pe_bltn (hg2 j) (hm2 j) hv2 rfl hn2 hdb2) pa_nil (hs2 j)) (hs j)) hn hdb (hs j) (hpl j), fun G σ H S P Q g w q => ?_⟩
  refine h2 G σ H S _ _ g w fun d v H1 p s hv => ?_
  obtain ⟨hd, p⟩ := p
  obtain ⟨z, m⟩ := vw_ty hv hd
  have kb := isi_kit Ty hT (tyD d) m
  rcases z with z | ⟨a, o, kvs, rfl, e, ed⟩
  · exact .inl ⟨v, .ty Ty, _, _, isiD Ty d, rfl, .ty Ty, z, kit_ty kb, q _ _ H1 p s (.bl _)⟩
  · rw [ed] at kb
    refine .inr ⟨a, o, kvs, Ty, isiD Ty d, rfl, e, ?_, q _ _ H1 p s (.bl _)⟩
    rw [kb]
    unfold isiD
    rw [ed]
end
end T
namespace T
open PySem PySem.Spec PyProof.Rows L2
/-! ### what a def's derivation needs -/
theorem _root_.L2.Room.u65 {k : Nat} {A : Around} (r : Room k A) : A.units + 65 < cLine := by have := r.un; omega
theorem _root_.L2.Room.u80 {k : Nat} {A : Around} (r : Room k A) : A.units + 80 < cLine := by have := r.un; omega
theorem _root_.L2.Room.u64 {k : Nat} {A : Around} (r : Room k A) : A.units + 64 < cLine := by have := r.un; omega
section
variable {P : Program} {w : World} {K : PySem.W.Frag} {mg : Str → Option Value} {base : Heap} {N : List Str} {qual : Str} {st : Stmt} {f : Addr} {cdv : Value} {A : Around} {outer : List PySem.Env} {s : Shared} {H : Hp} {E : XK}
theorem bx_takes : ∀ j, Takes (bx P w K mg base N qual st f cdv A outer s H E j) (wx E) := fun _ => takes_of rfl rfl rfl rfl
theorem bx_passes : ∀ j, PassesOwn (model (bx P w K mg base N qual st f cdv A outer s H E j).prog (bx P w K mg base N qual st f cdv A outer s H E j).w) (bx P w K mg base N qual st f cdv A outer s H E j).A (bx P w K mg base N qual st f cdv A outer s H E j).env (bx P w K mg base N qual st f cdv A outer s H E j).xe :=
  fun _ => passes_of (K := fun e s'' => L2.CX P w outer H s E e s'') rfl
end
theorem bk_takes {ι : Type} {X : ι → Cx} {scope : Scope} : ∀ j, Takes (bkx X scope j) never := fun _ => takes0
/-- a def that stands in the module -/
structure Dk (P : Program) (w : World) (K : PySem.W.Frag) (mg : Str → Option Value) (base : Heap) (k : Nat) (x : Str) (m : List Bool) (A : FSp) : Prop where
  fn : ∃ (f : Addr) (fd : FuncData) (ps : List Str), ps.length = m.length ∧ FnOk P w K mg base (L2.CX P w) k f fd ps (conc K m A) ∧ mg x = some (.ref f) ∧ PySem.W.keepIn K (.ref f) = true ∧ Binds K fd ps []
theorem Dk.df {P : Program} {w : World} {K : PySem.W.Frag} {mg : Str → Option Value} {base : Heap} {k k' : Nat} {x : Str} {m : List Bool} {A : FSp} {N : List Str} {qual : Str} {st : Stmt} {f : Addr} {cdv : Value} {Ar : Around} {outer : List PySem.Env} {s : Shared} {H : Hp} {E : XK}
    (D : Dk P w K mg base k x m A) (hr : Room k' (Ar.deeper (envOfC qual (defScope st) s.heap.objs.size f cdv))) (h : k ≤ k' := by decide) : Df (bx P w K mg base N qual st f cdv Ar outer s H E) K x m A := by
  obtain ⟨f, fd, ps, h1, h2, h3, h4, h5⟩ := D.fn
  exact ⟨f, fd, ps, k, h1, fun j => ⟨h2, hr.mono h, h3, h4, h5⟩⟩
theorem Df.bk {ι : Type} {X : ι → Cx} {K : PySem.W.Frag} {x : Str} {m : List Bool} {A : FSp} {scope : Scope} (D : Df X K x m A) : Df (bkx X scope) K x m A := by
  obtain ⟨f, fd, ps, k, h1, h2⟩ := D.fn
  exact ⟨f, fd, ps, k, h1, fun j => h2 j.j⟩
/-- a def's promise -/
theorem dk_mk {P : Program} {w : World} {K : PySem.W.Frag} {mg : Str → Option Value} {base : Heap} {x qual : Str} {st : Stmt} {f : Addr} {fd : FuncData} {N ps : List Str} {k : Nat} {m : List Bool} {A : FSp} {b : WS} (F : L2.Fun K x qual st f fd) (hmg : mg x = some (.ref f)) (hb : Binds K fd ps []) (Sc : FnScope N ps (defScope st)) (hm : m.length = ps.length) (hN : ps.length ≤ N.length)
    (sd : ∀ (cdv : Value) (Ar : Around) (outer : List PySem.Env) (s : Shared) (H : Hp) (E : XK), Room k (Ar.deeper (envOfC qual (defScope st) s.heap.objs.size f cdv)) → SndSs (bx P w K mg base N qual st f cdv Ar outer s H E) K (wx E) (mutIx m 0) (defBody st) b)
    (hA : ∀ ds P PX, A ds P PX → ds.length = ps.length → b (enOf m P PX) (env0 ds N.length)) : Dk P w K mg base (k + 1) x m A :=
  ⟨f, fd, ps, hm.symm, fn_ok F Sc hm hN sd hA, hmg, F.kp, hb⟩
/-- a weaker promise -/
theorem Dk.imp {P : Program} {w : World} {K : PySem.W.Frag} {mg : Str → Option Value} {base : Heap} {k : Nat} {x : Str} {m : List Bool} {A B : FSp} (D : Dk P w K mg base k x m A) (h : ∀ ds P PX, B ds P PX → A ds P PX) : Dk P w K mg base k x m B := by
  obtain ⟨f, fd, ps, h1, h2, h3⟩ := D.fn
  exact ⟨f, fd, ps, h1, h2.imp fun vs H Q E ⟨S, ds, os, p, px, a, b, c, d, e⟩ => ⟨S, ds, os, p, px, a, b, c, h _ _ _ d, e⟩, h3⟩
/-! ### rules with their answers -/
section
variable {ι : Type} {X : ι → Cx} {K : PySem.W.Frag} {W : WX} {pn : List Nat}
theorem xv (i : Nat) {x : Str} {pos : Pos} (hN : ∀ j, (X j).N[i]? = some x := by intro _; rfl) (hv : ∀ j, Vis (X j).env.scope x := by intro _; first | exact Or.inl rfl | exact Or.inr (Or.inl rfl) | exact Or.inr (Or.inr rfl)) (hd : (x == ("__debug__" : Str)) = false := by decide) (hcd : (x == ("__classdict__" : Str)) = false := by decide) :
    SndR X K (.Name x pos) (rVar i) := r_var i hN hv hd hcd
theorem xmov (i : Nat) {x : Str} {pos : Pos} (hN : ∀ j, (X j).N[i]? = some x := by intro _; rfl) (hv : ∀ j, Vis (X j).env.scope x := by intro _; first | exact Or.inl rfl | exact Or.inr (Or.inl rfl) | exact Or.inr (Or.inr rfl)) (hd : (x == ("__debug__" : Str)) = false := by decide) (hcd : (x == ("__classdict__" : Str)) = false := by decide) :
    SndE X K W (.Name x pos) (eMov i) := e_mov i hN hv hd hcd
theorem mmut (i : Nat) {js : List (Option Nat)} {x : Str} {pos : Pos} {es : List Expr} {t : WL} (h' : SndM X K W js es t) (hN : ∀ j, (X j).N[i]? = some x := by intro _; rfl) (hv : ∀ j, Vis (X j).env.scope x := by intro _; first | exact Or.inl rfl | exact Or.inr (Or.inl rfl) | exact Or.inr (Or.inr rfl)) (hd : (x == ("__debug__" : Str)) = false := by decide) (hcd : (x == ("__classdict__" : Str)) = false := by decide)
    (hs : ∀ j, starEach (.Name x pos :: es) (X j).env = (false, eval (.Name x pos) (X j).env) :: starEach es (X j).env := by intro _; rfl) : SndM X K W (some i :: js) (.Name x pos :: es) (lMut i t) := m_mut i h' hN hv hd hcd hs
theorem gnm (i : Nat) {x : Str} {pos : Pos} (hN : ∀ j, (X j).N.Nodup) (hi : ∀ j, (X j).N[i]? = some x := by intro _; rfl) (hx : ∀ j, Loc (X j).env.scope x := by intro _; first | exact Or.inl rfl | exact Or.inr rfl) (hf : ∀ j, (X j).fn x = true ∨ (X j).env.scope.names.lookup x = some .local := by intro _; first | exact Or.inl rfl | exact Or.inr rfl) : SndG X K [i] (.Name x pos) (gNm i) := g_name i hN hi hx hf
theorem sset (i : Nat) {x : Str} {e : Expr} {w : WE} {pos pos' : Pos} (hN : ∀ j, (X j).N.Nodup) (h : SndE X K W e w) (hi : i ∉ pn := by decide) (hn : ∀ j, (X j).N[i]? = some x := by intro _; rfl) (hx : ∀ j, Loc (X j).env.scope x := by intro _; first | exact Or.inl rfl | exact Or.inr rfl)
    (hs : ∀ j, swapsWith e (some (.Name x pos')) pos.line (X j).env = pure false := by intro _; rfl) (hf : ∀ j, (X j).fn x = true ∨ (X j).env.scope.names.lookup x = some .local := by intro _; first | exact Or.inl rfl | exact Or.inr rfl) : SndS X K W pn (.Assign [.Name x pos'] e pos) (sSet i w) := s_set i h hi hN hn hx hs hf
end
end T
namespace T
open PySem PySem.Spec PyProof.Rows L2
@[simp] def sNil : WS := fun E G => E.nx G
@[simp] def sPass : WS := fun E G => E.nx G
@[simp] def sBreak : WS := fun E G => E.bk G
@[simp] def leI := onI0 fun i j => .bl (decide (i ≤ j))
@[simp] def ltI := onI0 fun i j => .bl (decide (i < j))
@[simp] def sNever : WS := fun _ _ => False
section
variable {ι : Type} {X : ι → Cx} {K : PySem.W.Frag} {W : WX} {pn : List Nat}
theorem ok_le1 : OpOk K (rI0 fun i j => .bl (decide (i ≤ j))) leI := ok_rI0 (gd := fun i j => .bl (decide (i ≤ j))) (fun _ _ _ _ => .bl _) onI0_of
theorem ok_lt1 : OpOk K (rI0 fun i j => .bl (decide (i < j))) ltI := ok_rI0 (gd := fun i j => .bl (decide (i < j))) (fun _ _ _ _ => .bl _) onI0_of
/-- what is not come to -/
theorem s_never {st : Stmt} : SndS X K W pn st sNever := ⟨fun _ _ _ => False, fun _ => ⟨fun _ _ _ _ _ _ h => h.elim⟩, fun _ _ _ _ _ _ _ _ _ w _ => w.elim⟩
theorem e_meth0 (i : Nat) {e' : Expr} {r : V → List V → Hp → VK → Prop} {f : List D → List D → (List D → D → Prop) → Prop} (ok : MutOk K r f) (mk : ∀ j, PE (X j) e' (fun σ H Q => tVar i σ H fun x H1 => tyV K "list" x H1 ∧ r x [] H1 Q)) : SndE X K W e' (eMeth i f lNil) := by
  refine ⟨_, mk, fun U0 G σ H Oo os P PX Q rep w okq okx => ?_⟩
  obtain ⟨xs0, e0, w⟩ := lstAt_get w
  have rep0 : Rep K U0 G σ H (Oo ++ []) os := by rw [List.append_nil]; exact rep
  obtain ⟨xs, e1, q⟩ := lstAt_get w
  obtain ⟨p, vs, ox, hv, hp, hx, nd, put⟩ := rep0.write e1
  refine ⟨.ref p, hv, .inl ⟨rfl, vs, .inl (.inl hp)⟩, ?_⟩
  refine ok H _ xs [] vs [] ox [] p _ Q hp hx .nil nd q fun xs' d vs' z ox' o3 hF hx' hd nd' sub => ?_
  obtain ⟨os', r2, s2, back⟩ := put xs' vs' ox' o3 hx' nd' sub
  exact okq d _ z _ o3 os' hF s2 r2 (back d z hd)
/-! ### what stands behind a call that changes what it was handed -/
theorem callM_core {js : List (Option Nat)} {U0 S0 : Addr → Prop} {G1 G2 : T.Env} {σ : L2.St} {H H0 H1 H' : Hp} {Oo os os1 om orest o2 o1' : List Addr} {ds ds' : List D} {vs : List V} (r1 : Rep K U0 G1 σ H1 Oo os1) (st1 : Stp H H1 os os1) (g2 : RpG K H1 (ug U0 (Oo ++ os1)) G2 σ orest) (pm : os1.Perm (om ++ orest))
    (hn : ∀ i : Nat, some i ∈ js → G2[i]? = some none) (nd : (js.filterMap id).Nodup) (mv : MixV K H0 S0 σ js ds vs) (st : Stp H1 H' om (o2 ++ o1')) (ow : Own H' (o2 ++ o1')) (mu : MutR K H' (ug U0 ((Oo ++ o2) ++ (o1' ++ orest))) (msk js) vs ds' o1') :
    ∃ os', Rep K U0 (putA js G2 ds') σ H' (Oo ++ o2) os' ∧ Stp H H' os (o2 ++ os') ∧ (∀ a, ug U0 ((Oo ++ o2) ++ (o1' ++ orest)) a → ug U0 ((Oo ++ o2) ++ os') a) := by
  have mo : ∀ a ∈ om, a ∈ os1 := fun a m => pm.mem_iff.mpr (List.mem_append_left _ m)
  have mr : ∀ a ∈ orest, a ∈ os1 := fun a m => pm.mem_iff.mpr (List.mem_append_right _ m)
  obtain ⟨n1, n2, n3⟩ := List.nodup_append.mp r1.own.1
  obtain ⟨n4, n5, n6⟩ := List.nodup_append.mp (pm.nodup_iff.mp n2)
  have fr : ∀ a, a ∈ o2 ++ o1' → a ∉ Oo ∧ a ∉ orest := fun a m => by
    rcases st.new a m with z | z
    · exact ⟨fun y => n3 a y a (mo a z) rfl, fun y => n6 a z a y rfl⟩
    · exact ⟨fun y => r1.own.none z (List.mem_append_left _ y), fun y => r1.own.none z (List.mem_append_right _ (mr a y))⟩
  have mem3 : ∀ a, a ∈ (Oo ++ o2) ++ (o1' ++ orest) → a ∈ Oo ∨ a ∈ o2 ++ o1' ∨ a ∈ orest := fun a m => by
    rcases List.mem_append.mp m with z | z
    · rcases List.mem_append.mp z with y | y
      · exact .inl y
      · exact .inr (.inl (List.mem_append_left _ y))
    · rcases List.mem_append.mp z with y | y
      · exact .inr (.inl (List.mem_append_right _ y))
      · exact .inr (.inr y)
  have g3 : RpG K H' (ug U0 ((Oo ++ o2) ++ (o1' ++ orest))) G2 σ orest := by
    refine g2.mono (os0 := orest) (fun a o e h => ?_) (fun a u ⟨o, e⟩ => ⟨u.1, fun m => ?_⟩) fun a m => m
    · refine st.keep a o e fun m => ?_
      rcases h with h | h | h
      · exact h.2 (List.mem_append_right _ (mo a m))
      · exact n6 a m a h rfl
      · obtain ⟨o', q, mu'⟩ := r1.own.2 a (List.mem_append_right _ (mo a m))
        rw [e] at q; cases q
        exact h mu'
    · rcases mem3 a m with z | z | z
      · exact u.2 (List.mem_append_left _ z)
      · rcases st.new a z with w | w
        · exact u.2 (List.mem_append_right _ (mo a w))
        · rw [e] at w; cases w
      · exact u.2 (List.mem_append_right _ (mr a z))
  obtain ⟨os', g4, pm4⟩ := put_all g3 mv mu nd hn
  have pm5 : ((Oo ++ o2) ++ (o1' ++ orest)).Perm ((Oo ++ o2) ++ os') := List.Perm.append_left _ pm4.symm
  have hs5 : ∀ a ∈ (Oo ++ o2) ++ os', a ∈ (Oo ++ o2) ++ (o1' ++ orest) := fun a m => pm5.mem_iff.mpr m
  have keepO : ∀ a, a ∈ Oo ∨ a ∈ orest → ∃ o, H' a = some o ∧ Mut (some o) := fun a m => by
    have hin : a ∈ Oo ++ os1 := m.elim (fun z => List.mem_append_left _ z) fun z => List.mem_append_right _ (mr a z)
    obtain ⟨o, q, mu'⟩ := r1.own.2 a hin
    refine ⟨o, st.keep a o q fun z => ?_, mu'⟩
    rcases m with m | m
    · exact n3 a m a (mo a z) rfl
    · exact n6 a z a m rfl
  have ow5 : Own H' ((Oo ++ o2) ++ (o1' ++ orest)) := by
    refine ⟨?_, fun a m => ?_⟩
    · have e5 : (Oo ++ o2) ++ (o1' ++ orest) = Oo ++ ((o2 ++ o1') ++ orest) := by simp [List.append_assoc]
      rw [e5]
      refine List.nodup_append.mpr ⟨n1, List.nodup_append.mpr ⟨ow.1, n5, fun a m b m' e => ?_⟩, fun a m b m' e => ?_⟩
      · subst e
        exact (fr a m).2 m'
      · subst e
        rcases List.mem_append.mp m' with z | z
        · exact (fr a z).1 m
        · exact n3 a m a (mr a z) rfl
    · rcases mem3 a m with z | z | z
      · exact keepO a (.inl z)
      · exact ow.2 a z
      · exact keepO a (.inr z)
  refine ⟨os', ⟨g4.mono (os0 := os') (fun a o q _ => q) (fun a u _ => ug_sub hs5 a u) fun a m => m, ow5.perm pm5, fun a m => ?_, fun a h => r1.un a (st.free h)⟩, ⟨fun a o e n => ?_, fun a m => ?_, fun a o e => ?_⟩, fun a u => ug_sub hs5 a u⟩
  · rcases mem3 a (hs5 a m) with z | z | z
    · exact r1.u0 a (List.mem_append_left _ z)
    · rcases st.new a z with w | w
      · exact r1.u0 a (List.mem_append_right _ (mo a w))
      · exact r1.un a w
    · exact r1.u0 a (List.mem_append_right _ (mr a z))
  · refine st.keep a o (st1.keep a o e n) fun z => ?_
    rcases st1.new a (mo a z) with w | w
    · exact n w
    · rw [e] at w; cases w
  · have z : a ∈ o2 ++ o1' ∨ a ∈ orest := by
      rcases List.mem_append.mp m with z | z
      · exact .inl (List.mem_append_left _ z)
      · rcases List.mem_append.mp (pm4.mem_iff.mp z) with w | w
        · exact .inl (List.mem_append_right _ w)
        · exact .inr w
    rcases z with z | z
    · rcases st.new a z with w | w
      · exact st1.new a (mo a w)
      · exact .inr (st1.free w)
    · exact st1.new a (mr a z)
  · obtain ⟨o', q⟩ := st1.dom a o e
    exact st.dom a o' q
/-! ### arguments, read alone, some of them handed over -/
def SndMr (X : ι → Cx) (K : PySem.W.Frag) (js : List (Option Nat)) (es : List Expr) (w : WA) : Prop := ∃ t : TA, (∀ i, PA (X i) es t) ∧ ∀ (Gm G : T.Env) (σ : L2.St) (H : Hp) (S : Addr → Prop) (P : List D → Prop) (Q : List V → Hp → Prop),
  VwG K H S G σ → (∀ i : Nat, some i ∈ js → ∃ v, σ[i]? = some (some v)) → w G P → (∀ ds vs H', P ds → Same H H' → MixV K H' (gr S H) σ js ds vs → Q vs H') → t σ H Q
theorem MixV.same {H H' : Hp} {S S' : Addr → Prop} {σ : L2.St} (e : Same H H') (h : ∀ a, S a → S' a) : ∀ {js : List (Option Nat)} {ds : List D} {vs : List V}, MixV K H S σ js ds vs → MixV K H' S' σ js ds vs
  | _, _, _, .nil => .nil
  | _, _, _, .val r t => .val (r.same e h) (MixV.same e h t)
  | _, _, _, .mut q t => .mut q (MixV.same e h t)
theorem mr_nil : SndMr X K [] [] aNil := ⟨tNil, fun _ => pa_nil, fun Gm G σ H S P Q g hs w q => q [] [] H w (Same.refl H) .nil⟩
theorem mr_val {js : List (Option Nat)} {e : Expr} {es : List Expr} {r : WR} {t : WA} (h : SndR X K e r) (h' : SndMr X K js es t) (hs : ∀ j, starEach (e :: es) (X j).env = (false, eval e (X j).env) :: starEach es (X j).env := by intro _; rfl) : SndMr X K (none :: js) (e :: es) (aCons r t) := by
  obtain ⟨ta, a1, a2⟩ := h
  obtain ⟨tb, b1, b2⟩ := h'
  refine ⟨tCons ta tb, fun j => pa_cons (a1 j) (b1 j) (hs j), fun Gm G σ H S P Q g hs w q => ?_⟩
  refine a2 G σ H S _ _ g w fun d v H1 p s hv => ?_
  refine b2 Gm G σ H1 (gr S H) _ _ (g.same s gr_of) (fun i m => hs i (List.mem_cons_of_mem _ m)) p fun ds vs H2 p2 s2 hvs => ?_
  exact q _ _ H2 p2 (s.trans s2) (.val (hv.same s2 fun _ z => z) (hvs.same (Same.refl _) (gr_gr s)))
theorem mr_mut (i : Nat) {js : List (Option Nat)} {x : Str} {pos : Pos} {es : List Expr} {t : WA} (h' : SndMr X K js es t) (hN : ∀ j, (X j).N[i]? = some x := by intro _; rfl) (hv : ∀ j, Vis (X j).env.scope x := by intro _; first | exact Or.inl rfl | exact Or.inr (Or.inl rfl) | exact Or.inr (Or.inr rfl)) (hd : (x == ("__debug__" : Str)) = false := by decide) (hcd : (x == ("__classdict__" : Str)) = false := by decide)
    (hs : ∀ j, starEach (.Name x pos :: es) (X j).env = (false, eval (.Name x pos) (X j).env) :: starEach es (X j).env := by intro _; rfl) : SndMr X K (some i :: js) (.Name x pos :: es) t := by
  obtain ⟨tb, b1, b2⟩ := h'
  refine ⟨tCons (tVar i) tb, fun j => pa_cons (pe_var (hN j) (hv j) hd hcd) (b1 j) (hs j), fun Gm G σ H S P Q g hs w q => ?_⟩
  obtain ⟨v, hv⟩ := hs i List.mem_cons_self
  refine ⟨v, hv, ?_⟩
  exact b2 Gm G σ H S _ _ g (fun i m => hs i (List.mem_cons_of_mem _ m)) w fun ds vs H' p s m => q ds (v :: vs) H' p s (.mut hv m)
/-! the slots without what is handed over -/
@[simp] def strip : List (Option Nat) → T.Env → Option T.Env
  | [], G => some G
  | none :: js, G => strip js G
  | some i :: js, G => match G[i]? with
    | some (some _) => strip js (G.set i none)
    | _ => none
theorem MutR.anyU {H : Hp} {U U' : Addr → Prop} : ∀ {m : List Bool} {vs : List V} {ds : List D} {os : List Addr}, owndL ds = true → MutR K H U m vs ds os → MutR K H U' m vs ds os
  | _, _, _, _, _, .nil => .nil
  | _, _, _, _, q, .bor t => .bor (MutR.anyU q t)
  | _, _, _, _, q, .mut h t => .mut (h.anyU (by simp [owndL] at q; exact q.1)) (MutR.anyU (by simp [owndL] at q; exact q.2) t)
theorem strip_all {H : Hp} {U : Addr → Prop} {σ : L2.St} : ∀ {js : List (Option Nat)} {G G' : T.Env} {os : List Addr}, RpG K H U G σ os → strip js G = some G' →
    ∃ om orest, RpG K H U G' σ orest ∧ os.Perm (om ++ orest) ∧ (∀ i : Nat, some i ∈ js → G'[i]? = some none) ∧ (∀ i : Nat, G[i]? = some none → G'[i]? = some none) ∧ (∀ i : Nat, some i ∈ js → ∃ v, σ[i]? = some (some v)) ∧
      ∀ (H' : Hp) (S' : Addr → Prop) (ds : List D) (vs : List V), Same H H' → (∀ a, U a → S' a) → MixV K H' S' σ js ds vs → ∃ full, fillA js G (frzL ds) = some (full, G') ∧ ArgR K H' S' (msk js) full vs om
  | [], G, G', os, g, e => by
    simp [strip] at e
    subst e
    refine ⟨[], os, g, List.Perm.refl _, fun i m => absurd m (by simp), fun i h => h, fun i m => absurd m (by simp), fun H' S' ds vs s hu m => ?_⟩
    cases m
    exact ⟨[], rfl, .nil⟩
  | none :: js, G, G', os, g, e => by
    obtain ⟨om, orest, h1, h2, h3, h4, h5, h6⟩ := strip_all g (show strip js G = some G' from e)
    refine ⟨om, orest, h1, h2, fun i m => h3 i (by simpa using m), h4, fun i m => h5 i (by simpa using m), fun H' S' ds vs s hu m => ?_⟩
    cases m with
    | val h t =>
      obtain ⟨full, e1, e2⟩ := h6 H' S' _ _ s hu t
      exact ⟨_, by simp only [frzL, fillA, e1, Option.map_some], .bor h.frz (frz_frz _) e2⟩
  | some i :: js, G, G', os, g, e => by
    simp only [strip] at e
    split at e
    · rename_i d ed
      obtain ⟨v', o1, o2, q1, q2, q3, q4⟩ := g.take ed
      obtain ⟨om, orest, h1, h2, h3, h4, h5, h6⟩ := strip_all q3 e
      have hi : i < G.length := (List.getElem?_eq_some_iff.mp ed).1
      refine ⟨o1 ++ om, orest, h1, ?_, fun k m => ?_, fun k hk => h4 k ?_, fun k m => ?_, fun H' S' ds vs s hu m => ?_⟩
      · rw [List.append_assoc]
        exact q4.trans (List.Perm.append_left o1 h2)
      · rcases List.mem_cons.mp m with z | z
        · cases z
          exact h4 _ (by simp [hi])
        · exact h3 k z
      · by_cases hki : i = k
        · subst hki
          simp [hi]
        · rw [List.getElem?_set_ne hki]
          exact hk
      · rcases List.mem_cons.mp m with z | z
        · cases z
          exact ⟨_, q1⟩
        · exact h5 k z
      · cases m with
        | «mut» hv t =>
          rw [q1] at hv
          cases hv
          obtain ⟨full, e1, e2⟩ := h6 H' S' _ _ s hu t
          refine ⟨d :: full, by simp only [fillA, ed, e1, Option.map_some], .mut (q2.mono (os0 := o1) (fun a o e _ => s a o e) (fun a u _ => hu a u) fun a m => m) e2⟩
    · cases e
section
variable {x : Str} {e : Expr} {es : List Expr} {p pos : Pos} {A : FSp} {js : List (Option Nat)}
/-- some are handed over, the others lent: what comes back is all owned -/
@[simp] def eCallMR (A : FSp) (js : List (Option Nat)) (t : WA) : WE := fun G P PX => match strip js G with
  | some G' => t G' fun ds => match fillA js G (frzL ds) with
    | some q => A q.1 (fun d ds' => (ownd d = true ∧ owndL ds' = true) ∧ P d (putA js G' ds')) (fun c ds' => owndL ds' = true ∧ PX c (putA js G' ds'))
    | none => False
  | none => False
theorem e_callMR (tk : ∀ j, Takes (X j) W) (F : Df X K x (msk js) A) (hg : ∀ j, Gl (X j) x) {t : WA} (h : SndMr X K js (e :: es) t) (nd : (js.filterMap id).Nodup := by decide) (hdb : (x == ("__debug__" : Str)) = false := by decide)
    (hs : ∀ j, starEach (e :: es) (X j).env = (false, eval e (X j).env) :: starEach es (X j).env := by intro _; rfl) (hpl : ∀ j, (backTo pos (starEach es (X j).env)).any (·.1) = false := by intro _; rfl) : SndE X K W (.Call (.Name x p) (e :: es) [] pos) (eCallMR A js t) := by
  obtain ⟨f, fd, ps, k, hl, hF⟩ := F.fn
  obtain ⟨ta, a1, a2⟩ := h
  refine ⟨tCallS (conc K (msk js) A) (L2.WE W) ta, fun j => pe_callS (hF j).1 (hF j).2.1 (hg j) (hF j).2.2.1 (hF j).2.2.2.1 (hF j).2.2.2.2 (fun σ => passAt (tk j) σ) (a1 j) hdb (hs j) (hpl j), fun U0 G σ H Oo os P PX Q rep w ok okx => ?_⟩
  unfold eCallMR at w
  split at w
  case h_2 => exact w.elim
  rename_i G2 hG2
  obtain ⟨om, orest, g2, pm, hn, _, hsl, fin⟩ := strip_all rep.g hG2
  have nd2 := (List.nodup_append.mp rep.own.1)
  have ndp := List.nodup_append.mp (pm.nodup_iff.mp nd2.2.1)
  have mo : ∀ a ∈ om, a ∈ os := fun a m => pm.mem_iff.mpr (List.mem_append_left _ m)
  have vg : VwG K H (fun a => U0 a ∧ a ∉ om) G2 σ := g2.vw (fun a m => ⟨rep.u0 a (List.mem_append_right _ (pm.mem_iff.mpr (List.mem_append_right _ m))), fun z => ndp.2.2 a z a m rfl⟩) fun a u => ⟨u.1, fun z => u.2 (List.mem_append_right _ (mo a z))⟩
  refine a2 G G2 σ H _ _ _ vg hsl w fun ds vs H1 hp s mv => ?_
  split at hp
  case h_2 => exact hp.elim
  rename_i q hq
  obtain ⟨full, G3⟩ := q
  have hUS : ∀ a, ug U0 (Oo ++ os) a → gr (fun a => U0 a ∧ a ∉ om) H a := fun a u => .inl ⟨u.1, fun z => u.2 (List.mem_append_right _ (mo a z))⟩
  obtain ⟨full', e1, ar⟩ := fin H1 _ ds vs s hUS mv
  rw [hq] at e1
  cases e1
  have r1 := rep.same s
  have g2' : RpG K H1 (ug U0 (Oo ++ os)) G2 σ orest := g2.mono (os0 := orest) (fun a o e _ => s a o e) (fun a u _ => u) fun a m => m
  refine ⟨gr (fun a => U0 a ∧ a ∉ om) H, full, om, _, _, fun a u m => ?_, ar, ⟨ndp.1, fun a m => r1.own.2 a (List.mem_append_right _ (mo a m))⟩, hp, fun d ds' pd v H' o2 o1' st ow mu rp => ?_, fun c ds' pd H' o1' st ow mu => ?_⟩
  · rcases u with u | u
    · exact u.2 m
    · exact rep.own.none u (List.mem_append_right _ (mo a m))
  · obtain ⟨os', rr, ss, gu⟩ := callM_core r1 (Stp.of_same s os) g2' pm hn nd mv st ow (mu.anyU pd.1.2)
    exact ok d _ v H' o2 os' pd.2 ss rr (rp.anyU pd.1.1)
  · obtain ⟨os', rr, ss, _⟩ := callM_core (o2 := []) r1 (Stp.of_same s os) g2' pm hn nd mv st ow (mu.anyU pd.1)
    exact okx c _ H' os' pd.2 ss (by rw [List.append_nil] at rr; exact rr)
end
end
end T
namespace T
open PySem PySem.Spec PyProof.Rows L2
section
variable {ι : Type} {X : ι → Cx} {K : PySem.W.Frag} {W : WX} {pn : List Nat}
/-! ### a list within a slot's data -/
/-- what the items of a tuple or an owned list are -/
@[simp] def itm : D → Option (List D)
  | .tup xs => some xs
  | .lst true xs => some xs
  | _ => none
@[simp] def rebuild : D → List D → D
  | .tup _, ys => .tup ys
  | .lst _ _, ys => .lst true ys
  | d, _ => d
theorem rpL_foc {H : Hp} {U : Addr → Prop} : ∀ {xs : List D} {ws : List V} {os : List Addr} {k : Nat} {ys : List D}, RpL K H U xs ws os → xs[k]? = some (.lst true ys) →
    ∃ p vs ox pre post, ws[k]? = some (.ref p) ∧ H p = some (.lst vs) ∧ RpL K H U ys vs ox ∧ os = pre ++ ((p :: ox) ++ post) ∧
      ∀ (H' : Hp) (U' : Addr → Prop) (ys' : List D) (vs' : List V) (ox' : List Addr), H' p = some (.lst vs') → RpL K H' U' ys' vs' ox' → (∀ a o, H a = some o → (U a ∨ a ∈ pre ++ post ∨ ¬ Mut (some o)) → H' a = some o) → (∀ a, U a → (∃ o, H a = some o) → U' a) → RpL K H' U' (xs.set k (.lst true ys')) ws (pre ++ ((p :: ox') ++ post))
  | _, _, _, _, _, .nil, e => by simp at e
  | _, _, _, 0, ys, .cons (o1 := o1) (o2 := o2) h t, e => by
    simp at e
    subst e
    cases h with
    | @lstO p vs _ ox hp hx =>
      refine ⟨p, vs, ox, [], o2, rfl, hp, hx, rfl, fun H' U' ys' vs' ox' hp' hx' hk hs => ?_⟩
      exact .cons (o1 := p :: ox') (.lstO hp' hx') (t.mono (os0 := o2) (fun a o e h => hk a o e (h.imp id fun z => z.imp (fun m => by simpa using m) id)) hs fun a m => m)
  | _, _, _, k + 1, ys, .cons (o1 := o1) (o2 := o2) h t, e => by
    obtain ⟨p, vs, ox, pre, post, h1, h2, h3, h4, h5⟩ := rpL_foc (k := k) (ys := ys) t (by simpa using e)
    refine ⟨p, vs, ox, o1 ++ pre, post, by simpa using h1, h2, h3, by rw [h4, List.append_assoc], fun H' U' ys' vs' ox' hp' hx' hk hs => ?_⟩
    rw [List.append_assoc]
    refine .cons (h.mono (os0 := o1) (fun a o e h => hk a o e (h.imp id fun z => z.imp (fun m => by simp [m]) id)) hs fun a m => m) ?_
    exact h5 H' U' ys' vs' ox' hp' hx' (fun a o e h => hk a o e (h.imp id fun z => z.imp (fun m => by
      rw [List.append_assoc]
      exact List.mem_append_right _ m) id)) hs
/-- one step into a slot's data -/
theorem rp_foc {H : Hp} {U : Addr → Prop} {c : D} {v : V} {os : List Addr} {xs ys : List D} {n : Int} {k : Nat} (r : Rp K H U c v os) (hi : itm c = some xs) (hn : ixN xs.length n = some k) (e : xs[k]? = some (.lst true ys)) :
    ∃ p vs ox pre post, (∀ (Q : VK) (H1 : Hp), (∀ a o, H a = some o → H1 a = some o) → Q (.ref p) H1 → rIx K v (.int n) H1 Q) ∧ H p = some (.lst vs) ∧ RpL K H U ys vs ox ∧ os = pre ++ ((p :: ox) ++ post) ∧
      ∀ (H' : Hp) (U' : Addr → Prop) (ys' : List D) (vs' : List V) (ox' : List Addr), H' p = some (.lst vs') → RpL K H' U' ys' vs' ox' → (∀ a o, H a = some o → (U a ∨ a ∈ pre ++ post ∨ ¬ Mut (some o)) → H' a = some o) → (∀ a, U a → (∃ o, H a = some o) → U' a) → Rp K H' U' (rebuild c (xs.set k (.lst true ys'))) v (pre ++ ((p :: ox') ++ post)) := by
  cases r with
  | @tup a ws _ _ sq l =>
    cases hi
    obtain ⟨p, vs, ox, pre, post, h1, h2, h3, h4, h5⟩ := rpL_foc l e
    refine ⟨p, vs, ox, pre, post, fun Q H1 hk q => .inr (.inl ⟨a, ws, n, .ref p, rfl, rfl, sqt_keep (fun o e _ => hk _ o e) sq, ?_, q⟩), h2, h3, h4, fun H' U' ys' vs' ox' hp' hx' hk hs => ?_⟩
    · unfold atI
      rw [← l.length, hn]
      exact h1
    · exact .tup (sqt_keep (fun o e m => hk _ o e (.inr (.inr m))) sq) (h5 H' U' ys' vs' ox' hp' hx' hk hs)
  | @lstO a ws _ os2 ha l =>
    cases hi
    obtain ⟨p, vs, ox, pre, post, h1, h2, h3, h4, h5⟩ := rpL_foc l e
    refine ⟨p, vs, ox, a :: pre, post, fun Q H1 hk q => .inl ⟨a, ws, n, .ref p, rfl, rfl, .inl (.inl (hk _ _ ha)), ?_, q⟩, h2, h3, by rw [h4]; rfl, fun H' U' ys' vs' ox' hp' hx' hk hs => ?_⟩
    · unfold atI
      rw [← l.length, hn]
      exact h1
    · exact .lstO (hk _ _ ha (.inr (.inl (by simp)))) (h5 H' U' ys' vs' ox' hp' hx' (fun a o e h => hk a o e (h.imp id fun z => z.imp (fun m => by simp at m ⊢; exact .inr m) id)) hs)
  | _ => cases hi
/-! ### arguments while a slot is pinned -/
def SndLp (X : ι → Cx) (K : PySem.W.Frag) (W : WX) (i : Nat) (es : List Expr) (w : WL) : Prop := ∃ t : TA, (∀ j, PA (X j) es t) ∧ ∀ (U0 : Addr → Prop) (G : T.Env) (σ : L2.St) (H : Hp) (Oo os oi : List Addr) (d : D) (v : V) (P : List D → T.Env → Prop) (Q : List V → Hp → Prop),
  G[i]? = some (some d) → σ[i]? = some (some v) → Rp K H (ug U0 ((Oo ++ oi) ++ os)) d v oi → Rep K U0 (G.set i none) σ H (Oo ++ oi) os → w G P (fun _ _ => False) →
  (∀ ds G' vs H' o2 os1, P ds G' → Stp H H' os (o2 ++ os1) → Rep K U0 G' σ H' ((Oo ++ oi) ++ o2) os1 → RpL K H' (ug U0 (((Oo ++ oi) ++ o2) ++ os1)) ds vs o2 → Q vs H') → t σ H Q
theorem vwg_pin {U0 : Addr → Prop} {G : T.Env} {σ : L2.St} {H : Hp} {Oo os oi : List Addr} {d : D} {v : V} {i : Nat} (hg : G[i]? = some (some d)) (hv : σ[i]? = some (some v)) (r : Rp K H (ug U0 ((Oo ++ oi) ++ os)) d v oi) (rep : Rep K U0 (G.set i none) σ H (Oo ++ oi) os) : VwG K H (fun _ => True) G σ := by
  have z := rep.g.vw (S := fun _ => True) (fun _ _ => trivial) fun _ _ => trivial
  refine ⟨by simpa using z.len, fun k d' e => ?_⟩
  by_cases hk : i = k
  · subst hk
    rw [hg] at e
    cases e
    exact ⟨v, hv, r.vw (fun _ _ => trivial) fun _ _ => trivial⟩
  · exact z.at' k d' (by rw [List.getElem?_set_ne hk]; exact e)
@[simp] def lPinR (i : Nat) (t : WA) : WL := fun G P _ => t G fun ds => flatL ds = true ∧ P ds (G.set i none)
theorem lp_r (i : Nat) {es : List Expr} {t : WA} (h : SndA X K es t) : SndLp X K W i es (lPinR i t) := by
  obtain ⟨ta, a1, a2⟩ := h
  refine ⟨ta, a1, fun U0 G σ H Oo os oi d v P Q hg hv r rep w q => ?_⟩
  refine a2 G σ H _ _ _ (vwg_pin hg hv r rep) w fun ds vs H1 p s hvs => ?_
  have z := (hvs.flat (S' := ug U0 ((Oo ++ oi) ++ os)) p.1).rp (U := ug U0 (((Oo ++ oi) ++ []) ++ os)) (fun a u => by rw [List.append_nil]; exact u)
  rw [frzL_flat ds p.1] at z
  exact q ds _ vs H1 [] os p.2 (Stp.of_same s os) (by rw [List.append_nil]; exact rep.same s) z
theorem mixV_flat {H : Hp} {S S' : Addr → Prop} {σ : L2.St} : ∀ {js : List (Option Nat)} {ds : List D} {vs : List V}, flatL ds = true → MixV K H S σ js ds vs → MixV K H S' σ js ds vs
  | _, _, _, _, .nil => .nil
  | _, _, _, q, .val r t => .val (r.flat (by simp [flatL] at q; exact q.1)) (mixV_flat (by simp [flatL] at q; exact q.2) t)
  | _, _, _, q, .mut e t => .mut e (mixV_flat q t)
/-- one argument: a call that is handed some slots (not the pinned one) -/
@[simp] def lPinC (i : Nat) (A : FSp) (js : List (Option Nat)) (t : WA) : WL := fun G P _ => t G fun ds => flatL ds = true ∧ match strip js (G.set i none) with
  | some G' => (match fillA js (G.set i none) (frzL ds) with
    | some q => A q.1 (fun d ds' => P [d] (putA js G' ds')) (fun _ _ => False)
    | none => False)
  | none => False
theorem lp_call (i : Nat) {x : Str} {e : Expr} {es : List Expr} {p pos : Pos} {A : FSp} {js : List (Option Nat)} (tk : ∀ j, Takes (X j) W) (F : Df X K x (msk js) A) (hg : ∀ j, Gl (X j) x) {t : WA} (h : SndMr X K js (e :: es) t) (hjs : ∀ j ∈ js.filterMap id, ∀ (G : T.Env) (d : D), True := by intros; trivial) (nd : (js.filterMap id).Nodup := by decide) (hdb : (x == ("__debug__" : Str)) = false := by decide)
    (hs : ∀ j, starEach (e :: es) (X j).env = (false, eval e (X j).env) :: starEach es (X j).env := by intro _; rfl) (hpl : ∀ j, (backTo pos (starEach es (X j).env)).any (·.1) = false := by intro _; rfl)
    (hs2 : ∀ j, starEach [Expr.Call (.Name x p) (e :: es) [] pos] (X j).env = (false, eval (.Call (.Name x p) (e :: es) [] pos) (X j).env) :: starEach [] (X j).env := by intro _; rfl) (hsl : ∀ (G : T.Env) (σ : L2.St) (H : Hp) (S : Addr → Prop), VwG K H S G σ → ∀ k : Nat, some k ∈ js → (∃ d, G[k]? = some (some d)) → ∃ v, σ[k]? = some (some v) := by
      intro G σ H S g k _ ⟨d, e⟩
      obtain ⟨v, h, _⟩ := g.at' k d e
      exact ⟨v, h⟩) : SndLp X K W i [Expr.Call (.Name x p) (e :: es) [] pos] (fun G P PX => (∀ k : Nat, some k ∈ js → ∃ d, G[k]? = some (some d)) ∧ lPinC i A js t G P PX) := by
  obtain ⟨f, fd, ps, k, hl, hF⟩ := F.fn
  obtain ⟨ta, a1, a2⟩ := h
  refine ⟨tCons (tCallS (conc K (msk js) A) (L2.WE W) ta) tNil, fun j => pa_cons (pe_callS (hF j).1 (hF j).2.1 (hg j) (hF j).2.2.1 (hF j).2.2.2.1 (hF j).2.2.2.2 (fun σ => passAt (tk j) σ) (a1 j) hdb (hs j) (hpl j)) pa_nil (hs2 j), fun U0 G σ H Oo os oi d v P Q hgi hv r rep w q => ?_⟩
  obtain ⟨wk, w⟩ := w
  have vg := vwg_pin hgi hv r rep
  refine a2 G G σ H _ _ _ vg (fun k m => hsl G σ H _ vg k m (wk k m)) w fun ds vs H1 hp s mv => ?_
  obtain ⟨hfl, hp⟩ := hp
  split at hp
  case h_2 => exact hp.elim
  rename_i G2 hG2
  split at hp
  case h_2 => exact hp.elim
  rename_i q1 hq
  obtain ⟨full, G3⟩ := q1
  obtain ⟨om, orest, g2, pm, hn, _, _, fin⟩ := strip_all rep.g hG2
  have nd2 := (List.nodup_append.mp rep.own.1)
  have ndp := List.nodup_append.mp (pm.nodup_iff.mp nd2.2.1)
  have mo : ∀ a ∈ om, a ∈ os := fun a m => pm.mem_iff.mpr (List.mem_append_left _ m)
  have mv2 : MixV K H1 (ug U0 ((Oo ++ oi) ++ os)) σ js ds vs := mixV_flat hfl mv
  obtain ⟨full', e1, ar⟩ := fin H1 _ ds vs s (fun a u => u) mv2
  rw [hq] at e1
  cases e1
  have r1 := rep.same s
  have g2' : RpG K H1 (ug U0 ((Oo ++ oi) ++ os)) G2 σ orest := g2.mono (os0 := orest) (fun a o e _ => s a o e) (fun a u _ => u) fun a m => m
  refine ⟨ug U0 ((Oo ++ oi) ++ os), full, om, _, _, fun a u m => u.2 (List.mem_append_right _ (mo a m)), ar, ⟨ndp.1, fun a m => r1.own.2 a (List.mem_append_right _ (mo a m))⟩, hp, fun dd ds' pd v' H' o2 o1' st ow mu rp => ?_, fun c ds' pd H' o1' st ow mu => pd.elim⟩
  have base : ∀ a, ug (fun a => ug U0 ((Oo ++ oi) ++ os) a ∨ a ∈ om ∨ H1 a = none) (o2 ++ o1') a → ug U0 (((Oo ++ oi) ++ o2) ++ (o1' ++ orest)) a := fun a u => by
    have b : U0 a ∧ a ∉ (Oo ++ oi) ∧ a ∉ orest := by
      rcases u.1 with z | z | z
      · exact ⟨z.1, fun y => z.2 (List.mem_append_left _ y), fun y => z.2 (List.mem_append_right _ (pm.mem_iff.mpr (List.mem_append_right _ y)))⟩
      · exact ⟨r1.u0 a (List.mem_append_right _ (mo a z)), fun y => nd2.2.2 a y a (mo a z) rfl, fun y => ndp.2.2 a z a y rfl⟩
      · exact ⟨r1.un a z, fun y => r1.own.none z (List.mem_append_left _ y), fun y => r1.own.none z (List.mem_append_right _ (pm.mem_iff.mpr (List.mem_append_right _ y)))⟩
    refine ⟨b.1, fun m => ?_⟩
    rcases List.mem_append.mp m with z | z
    · rcases List.mem_append.mp z with y | y
      · exact b.2.1 y
      · exact u.2 (List.mem_append_left _ y)
    · rcases List.mem_append.mp z with y | y
      · exact u.2 (List.mem_append_right _ y)
      · exact b.2.2 y
  obtain ⟨os', rr, ss, gu⟩ := callM_core r1 (Stp.of_same s os) g2' pm hn nd mv2 st ow (fn_ok.mutR_mono base mu)
  refine q [dd] _ [v'] H' o2 os' pd ss rr ?_
  have z : Rp K H' (ug U0 (((Oo ++ oi) ++ o2) ++ os')) dd v' o2 := rp.mono (os0 := o2) (fun a o q _ => q) (fun a u _ => gu a (base a u)) fun a m => m
  simpa using RpL.cons z .nil
/-! ### a method of a list within a slot's data -/
@[simp] def eMethP (i : Nat) (ri : WR) (f : List D → List D → (List D → D → Prop) → Prop) (t : WL) : WE := fun G P PX => match G[i]? with
  | some (some c) => (match itm c with
    | some xs => ri G fun kd => (match kd with
      | .int n => (match ixN xs.length n with
        | some k => (match xs[k]? with
          | some (.lst true ys) => t G (fun as G' => G'[i]? = some none ∧ f ys as fun ys' d => P d (G'.set i (some (rebuild c (xs.set k (.lst true ys')))))) (fun _ _ => False)
          | _ => False)
        | none => False)
      | _ => False)
    | none => False)
  | _ => False
theorem methP_core (i : Nat) {ri : WR} {r : V → List V → Hp → VK → Prop} {f : List D → List D → (List D → D → Prop) → Prop} {t : WL} {ti : TE} {ta : TA} (ok : MutOk K r f)
    (i2 : ∀ (G : T.Env) (σ : L2.St) (H : Hp) (S : Addr → Prop) (P : D → Prop) (Q : VK), VwG K H S G σ → ri G P → (∀ d v H', P d → Same H H' → Vw K H' (gr S H) d v → Q v H') → ti σ H Q)
    (a2 : ∀ (U0 : Addr → Prop) (G : T.Env) (σ : L2.St) (H : Hp) (Oo os oi : List Addr) (d : D) (v : V) (P : List D → T.Env → Prop) (Q : List V → Hp → Prop),
      G[i]? = some (some d) → σ[i]? = some (some v) → Rp K H (ug U0 ((Oo ++ oi) ++ os)) d v oi → Rep K U0 (G.set i none) σ H (Oo ++ oi) os → t G P (fun _ _ => False) →
      (∀ ds G' vs H' o2 os1, P ds G' → Stp H H' os (o2 ++ os1) → Rep K U0 G' σ H' ((Oo ++ oi) ++ o2) os1 → RpL K H' (ug U0 (((Oo ++ oi) ++ o2) ++ os1)) ds vs o2 → Q vs H') → ta σ H Q)
    (U0 : Addr → Prop) (G : T.Env) (σ : L2.St) (H : Hp) (Oo os : List Addr) (P : D → T.Env → Prop) (PX : Nat → T.Env → Prop) (Q : VK) (rep : Rep K U0 G σ H Oo os) (w : eMethP i ri f t G P PX) (okq : OkE K U0 Oo σ H os P Q) :
    tOp (rIx K) (tVar i) ti σ H fun x H1 => tyV K "list" x H1 ∧ ta σ H1 fun xs H2 => r x xs H2 Q := by
  unfold eMethP at w
  split at w
  case h_2 => exact w.elim
  rename_i c hG
  split at w
  case h_2 => exact w.elim
  rename_i xs hxs
  obtain ⟨v, oi, orest, hv, rg, rc, pm⟩ := rep.take hG
  refine ⟨v, hv, ?_⟩
  refine i2 G σ H _ _ _ rep.vw w fun kd kv H1 p s hk => ?_
  split at p
  case h_2 => exact p.elim
  rename_i n
  cases vw_int hk
  split at p
  case h_2 => exact p.elim
  rename_i k hk2
  split at p
  case h_2 => exact p.elim
  rename_i ys hys
  have rg1 := rg.same s
  have rc1 : Rp K H1 (ug U0 ((Oo ++ oi) ++ orest)) c v oi := rc.mono (os0 := oi) (fun a o e _ => s a o e) (fun a u _ => u) fun a m => m
  obtain ⟨q0, vs, ox, pre, post, hix, hq0, hx, eo, back⟩ := rp_foc rc1 hxs hk2 hys
  refine hix _ H1 (fun a o e => e) ⟨.inl ⟨rfl, vs, .inl (.inl hq0)⟩, ?_⟩
  refine a2 U0 G σ H1 Oo orest oi c v _ _ hG hv rc1 rg1 p fun as G' us H2 o2 os1 p2 s2 r2 x2 => ?_
  obtain ⟨hn, p2⟩ := p2
  -- addresses
  have nd0 := r2.own.1
  have row : ((Oo ++ oi) ++ o2) ++ os1 = Oo ++ ((oi ++ o2) ++ os1) := by simp [List.append_assoc]
  rw [row] at nd0
  obtain ⟨n1, n2, n3, n4, n5, n6⟩ := nodup3 nd0
  have ndi := List.nodup_append.mp n2
  have hoi : ∀ a, a ∈ oi ↔ a ∈ pre ∨ a = q0 ∨ a ∈ ox ∨ a ∈ post := fun a => by rw [eo]; simp
  have q0i : q0 ∈ oi := (hoi q0).mpr (.inr (.inl rfl))
  have oxi : ∀ a ∈ ox, a ∈ oi := fun a m => (hoi a).mpr (.inr (.inr (.inl m)))
  have ndo : (pre ++ ((q0 :: ox) ++ post)).Nodup := eo ▸ ndi.1
  obtain ⟨m1, m2, m3⟩ := List.nodup_append.mp ndo
  obtain ⟨m4, m5, m6⟩ := List.nodup_append.mp m2
  obtain ⟨m7, m8⟩ := List.nodup_cons.mp m4
  -- kept from H1 to H2
  have kp : ∀ a o, H1 a = some o → a ∉ orest → H2 a = some o := s2.keep
  have ndr := rg1.own.1
  have oir : ∀ a, a ∈ oi → a ∉ orest := fun a m z => (List.nodup_append.mp ndr).2.2 a (List.mem_append_right _ m) a z rfl
  have hq2 : H2 q0 = some (.lst vs) := kp _ _ hq0 (oir q0 q0i)
  have gsub : ∀ a, ug U0 ((Oo ++ oi) ++ orest) a → (∃ o, H1 a = some o) → ug U0 (((Oo ++ oi) ++ o2) ++ os1) a := fun a u ⟨o, e⟩ => ⟨u.1, fun m => by
    have z : a ∈ (Oo ++ oi) ∨ a ∈ o2 ++ os1 := by
      rw [List.append_assoc] at m
      exact List.mem_append.mp m
    rcases z with z | z
    · exact u.2 (List.mem_append_left _ z)
    · rcases s2.new a z with y | y
      · exact u.2 (List.mem_append_right _ y)
      · rw [e] at y; cases y⟩
  have keep12 : ∀ a o, H1 a = some o → (ug U0 ((Oo ++ oi) ++ orest) a ∨ a ∈ oi ∨ ¬ Mut (some o)) → H2 a = some o := fun a o e h => by
    refine kp a o e fun m => ?_
    rcases h with h | h | h
    · exact h.2 (List.mem_append_right _ m)
    · exact oir a h m
    · obtain ⟨o', q', mu⟩ := rg1.own.2 a (List.mem_append_right _ m)
      rw [e] at q'; cases q'
      exact h mu
  have hx2 : RpL K H2 (ug U0 (((Oo ++ oi) ++ o2) ++ os1)) ys vs ox := hx.mono (os0 := ox) (fun a o e h => keep12 a o e (h.imp id fun z => z.imp (oxi a) id)) gsub fun a m => m
  have ndx : (ox ++ o2).Nodup := List.nodup_append.mpr ⟨m8, ndi.2.1, fun a m b m' e => ndi.2.2 a (oxi a m) b m' e⟩
  refine ok H2 _ ys as vs us ox o2 q0 _ Q hq2 hx2 x2 ndx p2 fun ys' d vs' z ox' o3 hF hx' hd nd' sub => ?_
  -- the write
  have memx : ∀ a ∈ ox' ++ o3, a ∈ oi ++ o2 := fun a m => by
    rcases List.mem_append.mp (sub a m) with y | y
    · exact List.mem_append_left _ (oxi a y)
    · exact List.mem_append_right _ y
  have nq : q0 ∉ ox' ++ o3 := fun m => by
    rcases List.mem_append.mp (sub q0 m) with y | y
    · exact m7 y
    · exact ndi.2.2 q0 q0i q0 y rfl
  have npre : ∀ a, a ∈ pre ++ post → a ≠ q0 ∧ a ∉ ox' ++ o3 ∧ a ∈ oi := fun a m => by
    have hin : a ∈ oi := (hoi a).mpr ((List.mem_append.mp m).elim .inl fun z => .inr (.inr (.inr z)))
    refine ⟨?_, fun y => ?_, hin⟩
    · rintro rfl
      rcases List.mem_append.mp m with y | y
      · exact m3 a y a (List.mem_append_left _ List.mem_cons_self) rfl
      · exact m6 a List.mem_cons_self a y rfl
    · rcases List.mem_append.mp (sub a y) with w | w
      · rcases List.mem_append.mp m with y' | y'
        · exact m3 a y' a (List.mem_append_left _ (List.mem_cons_of_mem _ w)) rfl
        · exact m6 a (List.mem_cons_of_mem _ w) a y' rfl
      · exact ndi.2.2 a hin a w rfl
  have allm : ∀ a, a ∈ (Oo ++ o3) ++ ((pre ++ ((q0 :: ox') ++ post)) ++ os1) → a ∈ ((Oo ++ oi) ++ o2) ++ os1 := fun a m => by
    simp only [List.mem_append, List.mem_cons] at m
    have g : a ∈ Oo ∨ a ∈ oi ++ o2 ∨ a ∈ os1 := by
      rcases m with (m | m) | ((m | ((m | m) | m)) | m)
      · exact .inl m
      · exact .inr (.inl (memx a (List.mem_append_right _ m)))
      · exact .inr (.inl (List.mem_append_left _ (npre a (List.mem_append_left _ m)).2.2))
      · rw [m]; exact .inr (.inl (List.mem_append_left _ q0i))
      · exact .inr (.inl (memx a (List.mem_append_left _ m)))
      · exact .inr (.inl (List.mem_append_left _ (npre a (List.mem_append_right _ m)).2.2))
      · exact .inr (.inr m)
    rw [row]
    rcases g with g | g | g
    · exact List.mem_append_left _ g
    · exact List.mem_append_right _ (List.mem_append_left _ g)
    · exact List.mem_append_right _ (List.mem_append_right _ g)
  have gu : ∀ a, ug U0 (((Oo ++ oi) ++ o2) ++ os1) a → ug U0 ((Oo ++ o3) ++ ((pre ++ ((q0 :: ox') ++ post)) ++ os1)) a := ug_sub allm
  have hkeep : ∀ a o, H2 a = some o → a ≠ q0 → (upd H2 q0 (.lst vs')) a = some o := fun a o e ne => by rw [upd_ne ne]; exact e
  have q0no : q0 ∉ os1 := n6 q0 (List.mem_append_left _ q0i)
  have neU : ∀ a, ug U0 (((Oo ++ oi) ++ o2) ++ os1) a → a ≠ q0 := fun a u e => u.2 (by rw [e, row]; exact List.mem_append_right _ (List.mem_append_left _ (List.mem_append_left _ q0i)))
  have neM : ∀ a o, H2 a = some o → ¬ Mut (some o) → a ≠ q0 := fun a o e h z => by
    rw [z, hq2] at e
    cases e
    exact h trivial
  have rest1 : RpG K (upd H2 q0 (.lst vs')) (ug U0 ((Oo ++ o3) ++ ((pre ++ ((q0 :: ox') ++ post)) ++ os1))) G' σ os1 := r2.g.mono (os0 := os1) (fun a o e h => hkeep a o e (by
    rcases h with h | h | h
    · exact neU a h
    · intro z; rw [z] at h; exact q0no h
    · exact neM a o e h)) (fun a u _ => gu a u) fun a m => m
  have xnew : RpL K (upd H2 q0 (.lst vs')) (ug U0 ((Oo ++ o3) ++ ((pre ++ ((q0 :: ox') ++ post)) ++ os1))) ys' vs' ox' := hx'.mono (os0 := ox') (fun a o e h => hkeep a o e (by
    rcases h with h | h | h
    · exact neU a h
    · intro z; rw [z] at h; exact nq (List.mem_append_left _ h)
    · exact neM a o e h)) (fun a u _ => gu a u) fun a m => m
  have new1 := back (upd H2 q0 (.lst vs')) (ug U0 ((Oo ++ o3) ++ ((pre ++ ((q0 :: ox') ++ post)) ++ os1))) ys' vs' ox' upd_same xnew (fun a o e h => by
    have e2 : H2 a = some o := keep12 a o e (h.imp id fun z => z.imp (fun m => (npre a m).2.2) id)
    refine hkeep a o e2 ?_
    rcases h with h | h | h
    · intro z; rw [z] at h; exact h.2 (List.mem_append_left _ (List.mem_append_right _ q0i))
    · exact (npre a h).1
    · exact neM a o e2 h) fun a u ex => gu a (gsub a u ex)
  obtain ⟨os', g2, pm2⟩ := rest1.put (v := v) hn new1
  have es : σ.set i (some v) = σ := by
    apply List.ext_getElem?
    intro k
    by_cases hki : i = k
    · subst hki
      obtain ⟨hlt, _⟩ := List.getElem?_eq_some_iff.mp hv
      rw [List.getElem?_set_self hlt, hv]
    · rw [List.getElem?_set_ne hki]
  rw [es] at g2
  have hs5 : ∀ a ∈ (Oo ++ o3) ++ os', a ∈ (Oo ++ o3) ++ ((pre ++ ((q0 :: ox') ++ post)) ++ os1) := fun a m => (List.mem_append.mp m).elim (List.mem_append_left _) fun z => List.mem_append_right _ (pm2.mem_iff.mp z)
  have ndn : ((Oo ++ o3) ++ ((pre ++ ((q0 :: ox') ++ post)) ++ os1)).Nodup := by
    have e5 : (Oo ++ o3) ++ ((pre ++ ((q0 :: ox') ++ post)) ++ os1) = Oo ++ ((o3 ++ (pre ++ ((q0 :: ox') ++ post))) ++ os1) := by simp [List.append_assoc]
    rw [e5]
    have q1 : ((q0 :: (ox' ++ o3)) ++ (pre ++ post)).Nodup := by
      refine List.nodup_append.mpr ⟨List.nodup_cons.mpr ⟨nq, nd'⟩, ?_, fun a m b m' e => ?_⟩
      · refine List.nodup_append.mpr ⟨m1, m5, fun a m b m' e => m3 a m b (List.mem_append_right _ m') e⟩
      · subst e
        obtain ⟨y1, y2, _⟩ := npre a m'
        rcases List.mem_cons.mp m with z | z
        · exact y1 z
        · exact y2 z
    have pmm : ((q0 :: (ox' ++ o3)) ++ (pre ++ post)).Perm (o3 ++ (pre ++ ((q0 :: ox') ++ post))) := by
      refine List.perm_iff_count.mpr fun a => ?_
      simp only [List.count_append, List.count_cons]
      omega
    have q1' := pmm.nodup_iff.mp q1
    have q2 : ∀ a ∈ o3 ++ (pre ++ ((q0 :: ox') ++ post)), a ∈ oi ++ o2 := fun a m => by
      rcases List.mem_append.mp (pmm.mem_iff.mpr m) with z | z
      · rcases List.mem_cons.mp z with y | y
        · rw [y]; exact List.mem_append_left _ q0i
        · exact memx a y
      · exact List.mem_append_left _ (npre a z).2.2
    refine List.nodup_append.mpr ⟨n1, List.nodup_append.mpr ⟨q1', n3, fun a m b m' q => ?_⟩, fun a m b m' q => ?_⟩
    · subst q
      exact n6 a (q2 a m) m'
    · subst q
      rcases List.mem_append.mp m' with z | z
      · exact n4 a m (q2 a z)
      · exact n5 a m z
  have own2 : ∀ a ∈ (Oo ++ o3) ++ os', ∃ o, (upd H2 q0 (.lst vs')) a = some o ∧ Mut (some o) := fun a m => by
    by_cases ha : a = q0
    · subst ha
      exact ⟨_, upd_same, trivial⟩
    · obtain ⟨o, q, mu⟩ := r2.own.2 a (allm a (hs5 a m))
      exact ⟨o, by rw [upd_ne ha]; exact q, mu⟩
  have stA : Stp H1 (upd H2 q0 (.lst vs')) (oi ++ orest) (o3 ++ os') := by
    refine ⟨fun a o e n => ?_, fun a m => ?_, fun a o e => ?_⟩
    · have ne : a ≠ q0 := fun z => n (by rw [z]; exact List.mem_append_left _ q0i)
      rw [upd_ne ne]
      exact kp a o e fun m => n (List.mem_append_right _ m)
    · have y := hs5 a (by rw [List.append_assoc]; exact List.mem_append_right _ m)
      have z : a ∈ oi ∨ a ∈ o2 ++ os1 := by
        rcases List.mem_append.mp m with m | m
        · rcases List.mem_append.mp (memx a (List.mem_append_right _ m)) with z | z
          · exact .inl z
          · exact .inr (List.mem_append_left _ z)
        · rcases List.mem_append.mp (pm2.mem_iff.mp m) with z | z
          · simp only [List.mem_append, List.mem_cons] at z
            rcases z with z | ((z | z) | z)
            · exact .inl (npre a (List.mem_append_left _ z)).2.2
            · rw [z]; exact .inl q0i
            · rcases List.mem_append.mp (memx a (List.mem_append_left _ z)) with w | w
              · exact .inl w
              · exact .inr (List.mem_append_left _ w)
            · exact .inl (npre a (List.mem_append_right _ z)).2.2
          · exact .inr (List.mem_append_right _ z)
      rcases z with z | z
      · exact .inl (List.mem_append_left _ z)
      · exact (s2.new a z).imp (fun w => List.mem_append_right _ w) id
    · obtain ⟨o', q⟩ := s2.dom a o e
      by_cases ha : a = q0
      · subst ha
        exact ⟨_, upd_same⟩
      · exact ⟨o', by rw [upd_ne ha]; exact q⟩
  have stB : Stp H (upd H2 q0 (.lst vs')) os (o3 ++ os') := by
    refine (Stp.of_same s os).trans ?_
    refine ⟨fun a o e n => stA.keep a o e fun m => n (pm.mem_iff.mpr m), fun a m => (stA.new a m).imp (fun z => pm.mem_iff.mpr z) id, stA.dom⟩
  refine okq d _ z _ o3 os' hF stB ⟨g2.mono (os0 := os') (fun a o q _ => q) (fun a u _ => ug_sub hs5 a u) fun a m => m, ⟨?_, own2⟩, fun a m => r2.u0 a (allm a (hs5 a m)), fun a h => ?_⟩ ?_
  · exact (List.Perm.append_left (Oo ++ o3) pm2).nodup_iff.mpr ndn
  · refine r2.un a ?_
    by_cases ha : a = q0
    · subst ha
      rw [upd_same] at h
      cases h
    · rw [upd_ne ha] at h
      exact h
  · refine hd.mono (os0 := o3) (fun a o e h => hkeep a o e (by
      rcases h with h | h | h
      · exact neU a h
      · intro z; rw [z] at h; exact nq (List.mem_append_right _ h)
      · exact neM a o e h)) (fun a u _ => ug_sub hs5 a (gu a u)) fun a m => m
theorem e_methP (i : Nat) {e' : Expr} {es : List Expr} {ie : Expr} {ri : WR} {r : V → List V → Hp → VK → Prop} {f : List D → List D → (List D → D → Prop) → Prop} {t : WL} (ok : MutOk K r f) (hi : SndR X K ie ri) (h : SndLp X K W i es t)
    (mk : ∀ ti ta, (∀ j, PE (X j) ie ti) → (∀ j, PA (X j) es ta) → ∀ j, PE (X j) e' (fun σ H Q => tOp (rIx K) (tVar i) ti σ H fun x H1 => tyV K "list" x H1 ∧ ta σ H1 fun xs H2 => r x xs H2 Q)) : SndE X K W e' (eMethP i ri f t) := by
  obtain ⟨ti, i1, i2⟩ := hi
  obtain ⟨ta, a1, a2⟩ := h
  exact ⟨_, mk ti ta i1 a1, fun U0 G σ H Oo os P PX Q rep w okq okx => methP_core i ok i2 a2 U0 G σ H Oo os P PX Q rep w okq⟩
theorem e_methP0 (i : Nat) {e' ie : Expr} {ri : WR} {r : V → List V → Hp → VK → Prop} {f : List D → List D → (List D → D → Prop) → Prop} (ok : MutOk K r f) (hi : SndR X K ie ri)
    (mk : ∀ ti, (∀ j, PE (X j) ie ti) → ∀ j, PE (X j) e' (fun σ H Q => tOp (rIx K) (tVar i) ti σ H fun x H1 => tyV K "list" x H1 ∧ r x [] H1 Q)) : SndE X K W e' (eMethP i ri f (lPinR i aNil)) := by
  obtain ⟨ti, i1, i2⟩ := hi
  refine ⟨_, mk ti i1, fun U0 G σ H Oo os P PX Q rep w okq okx => ?_⟩
  refine methP_core (ta := tNil) i ok i2 (fun U0 G σ H Oo os oi d v P Q hg hv r rep w q => ?_) U0 G σ H Oo os P PX Q rep w okq
  exact q [] _ [] H [] os w.2 (Stp.refl _ _) (by rw [List.append_nil]; exact rep) .nil
end
end T
namespace T
@[simp] abbrev lPinX (i : Nat) (A : FSp) (js : List (Option Nat)) (t : WA) : WL := fun G P PX => (∀ k : Nat, some k ∈ js → ∃ d, G[k]? = some (some d)) ∧ lPinC i A js t G P PX
end T
namespace T
open PySem PySem.Spec PyProof.Rows L2
section
variable {ι : Type} {X : ι → Cx} {K : PySem.W.Frag} {W : WX} {pn : List Nat}
theorem VwG.setN {H : Hp} {S : Addr → Prop} {G : T.Env} {σ : L2.St} {i : Nat} {x : Option V} (g : VwG K H S G σ) (h : G[i]? = some none) : VwG K H S G (σ.set i x) := by
  refine ⟨by rw [List.length_set]; exact g.len, fun k d e => ?_⟩
  have ne : i ≠ k := by
    rintro rfl
    rw [h] at e
    cases e
  rw [List.getElem?_set_ne ne]
  exact g.at' k d e
/-! ### a number drawn from a deck of pools -/
/-- the deck's own rule: the pool in turn is taken from the deck, the turn goes on, the rest works at the pool -/
def wDraw (ri ra : WR) (wr : WS) : WS := fun E G => ∃ (ps : List D) (c m : Int), G = [some (.lst true [.lst true ps, .int c]), some (.int m), none, none, none] ∧
  ri G fun kd => match kd with
    | .int n => (match ixN ps.length n with
      | some k => (match ps[k]? with
        | some (.lst true ys) => ra G fun cd => (match cd with
          | .int c' => wr ⟨fun _ => False, fun d G' => ∃ r g0 g1 ys' g3 g4, d = .int r ∧ G' = [g0, g1, some (.lst true ys'), g3, g4] ∧ E.rt (.int r) [some (.lst true [.lst true (ps.set k (.lst true ys')), .int c']), none, none, none, none], fun _ => False, fun _ => False, fun _ _ => False⟩ [none, some (.int m), some (.lst true ys), none, none]
          | _ => False)
        | _ => False)
      | none => False)
    | _ => False
theorem s_draw {st1 st2 : Stmt} {rest : List Stmt} {ri ra : WR} {wr : WS} {ie ae : Expr} (hi : SndR X K ie ri) (ha : SndR X K ae ra) (hr : SndSs X K W [0, 2] rest wr)
    (mk1 : ∀ ti, (∀ j, PE (X j) ie ti) → ∀ j, PS (X j) st1 (tAsg (tOp (rIx K) (tOp (rIx K) (tVar 0) (tC (.int 0))) ti) (gName 2)))
    (mk2 : ∀ ta, (∀ j, PE (X j) ae ta) → ∀ j, PS (X j) st2 (tAsg ta (gSub (tVar 0) (tC (.int 1)) rSetL))) : SndSs X K W [0] (st1 :: st2 :: rest) (wDraw ri ra wr) := by
  obtain ⟨ti, i1, i2⟩ := hi
  obtain ⟨ta, a1, a2⟩ := ha
  obtain ⟨tr, r1, r2⟩ := hr
  refine ⟨_, fun j => pss_cons (mk1 ti i1 j) (pss_cons (mk2 ta a1 j) (r1 j)), fun U0 G σ H Oo os E De rep w ok => ?_⟩
  obtain ⟨ps, c, m, rfl, w⟩ := w
  have vg := rep.vw
  obtain ⟨g, own, u0, un⟩ := rep
  cases g with
  | cons hd g1 =>
  cases g1 with
  | cons h1 g2 =>
  cases g2 with
  | skip x2 g3 =>
  cases g3 with
  | skip x3 g4 =>
  cases g4 with
  | skip x4 g5 =>
  cases g5
  cases h1
  cases hd with
  | @lstO d _ _ _ hd1 hl =>
  cases hl with
  | cons hq hl2 =>
  cases hl2 with
  | cons hc hl3 =>
  cases hl3
  cases hc
  cases hq with
  | @lstO q ws _ op hq1 hps =>
  simp only [List.append_nil] at *
  refine ⟨.ref d, rfl, ?_⟩
  refine .inl ⟨d, _, 0, .ref q, rfl, rfl, .inl (.inl hd1), rfl, ?_⟩
  refine i2 _ _ H _ _ _ vg w fun kd kv H1 w s1 hk => ?_
  split at w
  case h_2 => exact w.elim
  rename_i n
  cases vw_int hk
  split at w
  case h_2 => exact w.elim
  rename_i k hk2
  split at w
  case h_2 => exact w.elim
  rename_i ys hys
  obtain ⟨p, vs, ox, pre, post, hws, hp, hx, eo, back⟩ := rpL_foc hps hys
  refine .inl ⟨q, ws, n, .ref p, rfl, rfl, .inl (.inl (s1 _ _ hq1)), ?_, ?_⟩
  · unfold atI
    rw [← hps.length, hk2]
    exact hws
  refine a2 _ _ H1 _ _ _ ((vg.same s1 fun _ z => z).setN (i := 2) rfl) w fun cd cv H2 w s2 hcv => ?_
  split at w
  case h_2 => exact w.elim
  rename_i c'
  cases vw_int hcv
  have s12 : Same H H2 := s1.trans s2
  refine ⟨.ref d, rfl, ⟨d, _, 1, 1, rfl, rfl, s12 _ _ hd1, rfl, ?_⟩⟩
  -- addresses
  have eos : d :: q :: op = d :: q :: (pre ++ ((p :: ox) ++ post)) := by rw [eo]
  have pmA : (Oo ++ d :: q :: op).Perm ((Oo ++ d :: q :: (pre ++ post)) ++ (p :: ox)) := by
    rw [eos]
    refine List.perm_iff_count.mpr fun a => ?_
    simp only [List.count_append, List.count_cons]
    omega
  have nd := pmA.nodup_iff.mp own.1
  obtain ⟨nA, nB, nC⟩ := List.nodup_append.mp nd
  have hdin : d ∈ Oo ++ d :: q :: (pre ++ post) := by simp
  have dp : d ∉ p :: ox := fun m => nC d hdin d m rfl
  have mp : ∀ a, a ∈ Oo ++ d :: q :: op ↔ a ∈ (Oo ++ d :: q :: (pre ++ post)) ++ (p :: ox) := fun a => pmA.mem_iff
  have eqU : ∀ a, ug U0 (Oo ++ d :: q :: op) a → ug U0 ((Oo ++ d :: q :: (pre ++ post)) ++ (p :: ox)) a := fun a u => ⟨u.1, fun z => u.2 ((mp a).mpr z)⟩
  have ho : ∀ a o, H a = some o → a ≠ d → (upd H2 d (.lst [.ref q, .int c'])) a = some o := fun a o e ne => by
    rw [upd_ne ne]
    exact s12 a o e
  have hop : ∀ a ∈ p :: ox, a ≠ d := fun a m e => dp (e ▸ m)
  have pin : ∀ a ∈ p :: ox, a ∈ Oo ++ d :: q :: op := fun a m => (mp a).mpr (List.mem_append_right _ m)
  have hx3 : RpL K (upd H2 d (.lst [.ref q, .int c'])) (ug U0 ((Oo ++ d :: q :: (pre ++ post)) ++ (p :: ox))) ys vs ox := hx.mono (os0 := ox) (fun a o e h => ho a o e (by
    rcases h with h | h | h
    · intro z; rw [z] at h; exact h.2 (by simp)
    · exact hop a (List.mem_cons_of_mem _ h)
    · intro z; rw [z, hd1] at e; cases e; exact h trivial)) (fun a u _ => eqU a u) fun a m => m
  have own3 : Own (upd H2 d (.lst [.ref q, .int c'])) ((Oo ++ d :: q :: (pre ++ post)) ++ (p :: ox)) := ⟨nd, fun a m => by
    by_cases ha : a = d
    · subst ha
      exact ⟨_, upd_same, trivial⟩
    · obtain ⟨o, e, mu⟩ := own.2 a ((mp a).mpr m)
      exact ⟨o, ho a o e ha, mu⟩⟩
  have repV : Rep K U0 [none, some (.int m), some (.lst true ys), none, none] [some (.ref d), some (.int m), some (.ref p), x3, x4] (upd H2 d (.lst [.ref q, .int c'])) (Oo ++ d :: q :: (pre ++ post)) (p :: ox) := by
    refine ⟨?_, own3, fun a z => u0 a ((mp a).mpr z), fun a z => ?_⟩
    · have z := RpG.skip (K := K) (H := upd H2 d (.lst [.ref q, .int c'])) (U := ug U0 ((Oo ++ d :: q :: (pre ++ post)) ++ (p :: ox))) (some (.ref d)) (.cons (.int m) (.cons (.lstO (ho _ _ hp (hop p List.mem_cons_self)) hx3) (.skip x3 (.skip x4 .nil))))
      simpa using z
    · by_cases ha : a = d
      · subst ha
        rw [upd_same] at z
        cases z
      · rw [upd_ne ha] at z
        exact un a (s12.free z)
  show tr De [some (.ref d), some (.int m), some (.ref p), x3, x4] (upd H2 d (.lst [.ref q, .int c']))
  refine r2 U0 _ _ _ (Oo ++ d :: q :: (pre ++ post)) (p :: ox) _ De repV w ⟨fun _ _ _ _ z => z.elim, fun dd G' v σ' H' o2 os1 pE s r x pnn => ?_, fun _ _ _ _ z => z.elim, fun _ _ _ _ z => z.elim, fun _ _ _ _ _ z => z.elim⟩
  obtain ⟨rr, g0, g1, ys', g3, g4, rfl, rfl, pE⟩ := pE
  obtain ⟨rfl, rfl⟩ := rp_int x
  rw [List.append_nil] at r
  obtain ⟨v2, oo1, orest, hv2, rrest, rp2, pm2⟩ := r.take (i := 2) (d := .lst true ys') rfl
  have e2 := pnn 2 (by simp)
  have e0 := pnn 0 (by simp)
  rw [hv2] at e2
  cases e2
  cases rp2 with
  | @lstO _ vs' _ ox' hp' hx' =>
  -- the slots
  have lσ := r.g.length
  have hσ : ∃ y1 y2 y3 y4, σ' = [some (.ref d), y1, y2, y3, y4] := by
    match σ', lσ, e0 with
    | [y0, y1, y2, y3, y4], _, e0 =>
      have : y0 = some (.ref d) := by simpa using e0
      subst this
      exact ⟨_, _, _, _, rfl⟩
  obtain ⟨y1, y2, y3, y4, rfl⟩ := hσ
  have memf : ∀ a, a ∈ Oo ++ d :: q :: (pre ++ ((p :: ox') ++ post)) → a ∈ ((Oo ++ d :: q :: (pre ++ post)) ++ (p :: ox')) := fun a z => by
    simp only [List.mem_append, List.mem_cons] at z ⊢
    rcases z with z | z | z | z | (z | z) | z <;> simp [z]
  have pmf : (Oo ++ d :: q :: (pre ++ ((p :: ox') ++ post))).Perm ((Oo ++ d :: q :: (pre ++ post)) ++ (p :: ox')) := by
    refine List.perm_iff_count.mpr fun a => ?_
    simp only [List.count_append, List.count_cons]
    omega
  have sub1 : ∀ a, a ∈ (Oo ++ d :: q :: (pre ++ post)) ++ (p :: ox') → a ∈ (Oo ++ d :: q :: (pre ++ post)) ++ os1 := fun a z => (List.mem_append.mp z).elim (List.mem_append_left _) fun y => List.mem_append_right _ (pm2.mem_iff.mpr (List.mem_append_left _ y))
  have ndF : ((Oo ++ d :: q :: (pre ++ post)) ++ (p :: ox')).Nodup := by
    have z := (List.Perm.append_left (Oo ++ d :: q :: (pre ++ post)) pm2).nodup_iff.mp r.own.1
    rw [← List.append_assoc] at z
    exact (List.nodup_append.mp z).1
  have ownF : Own H' (Oo ++ d :: q :: (pre ++ ((p :: ox') ++ post))) := ⟨pmf.nodup_iff.mpr ndF, fun a z => r.own.2 a (sub1 a (memf a z))⟩
  have kp : ∀ a o, H a = some o → a ≠ d → a ∉ p :: ox → H' a = some o := fun a o e n1 n2 => s.keep a o (ho a o e n1) n2
  have hd' : H' d = some (.lst [.ref q, .int c']) := s.keep d _ upd_same dp
  have nq : q ∉ p :: ox := fun m => nC q (by simp) q m rfl
  have ndO := (List.nodup_append.mp own.1).2.1
  have dq : q ≠ d := fun e => by
    rw [e] at ndO
    simp at ndO
  have hq' : H' q = some (.lst ws) := kp _ _ hq1 dq nq
  have uF : ∀ a, ug U0 (Oo ++ d :: q :: op) a → (∃ o, H a = some o) → ug U0 (Oo ++ d :: q :: (pre ++ ((p :: ox') ++ post))) a := fun a u ⟨o, e⟩ => ⟨u.1, fun z => by
    rcases List.mem_append.mp (memf a z) with y | y
    · exact u.2 ((mp a).mpr (List.mem_append_left _ y))
    · have z3 := s.new a (by simpa using pm2.mem_iff.mpr (List.mem_append_left _ y))
      rcases z3 with z3 | z3
      · exact u.2 (pin a z3)
      · have ne : a ≠ d := fun ee => by rw [ee, upd_same] at z3; cases z3
        rw [ho a o e ne] at z3
        cases z3⟩
  have hx'' : RpL K H' (ug U0 (Oo ++ d :: q :: (pre ++ ((p :: ox') ++ post)))) ys' vs' ox' := hx'.mono (os0 := ox') (fun a o e _ => e) (fun a u _ => ⟨u.1, fun z => u.2 (List.mem_append_left _ (memf a z))⟩) fun a m => m
  have newps := back H' (ug U0 (Oo ++ d :: q :: (pre ++ ((p :: ox') ++ post)))) ys' vs' ox' hp' hx'' (fun a o e h => by
    have h1 : a ≠ d ∧ a ∉ p :: ox := by
      rcases h with h | h | h
      · exact ⟨fun z => h.2 (by rw [z]; simp), fun z => h.2 (pin a z)⟩
      · refine ⟨fun z => ?_, fun z => nC a (by simp only [List.mem_append, List.mem_cons] at h ⊢; rcases h with h | h <;> simp [h]) a z rfl⟩
        subst z
        have z4 := (List.nodup_append.mp nA).2.1
        exact (List.nodup_cons.mp z4).1 (List.mem_cons_of_mem _ h)
      · refine ⟨fun z => by rw [z, hd1] at e; cases e; exact h trivial, fun z => ?_⟩
        obtain ⟨o', q', mu⟩ := own.2 a (pin a z)
        rw [e] at q'; cases q'
        exact h mu
    exact kp a o e h1.1 h1.2) uF
  refine ok.rt (.int rr) _ _ [some (.ref d), y1, y2, y3, y4] H' [] (d :: q :: (pre ++ ((p :: ox') ++ post))) pE ⟨fun a o e n => ?_, fun a m => ?_, fun a o e => ?_⟩ ⟨?_, by rw [List.append_nil]; exact ownF, fun a m => ?_, r.un⟩ (.int rr) (fun i m => ?_)
  · exact kp a o e (fun z => n (by rw [z]; simp)) fun z => n (by
      rw [eos]
      simp only [List.mem_append, List.mem_cons] at z ⊢
      rcases z with z | z <;> simp [z])
  · have m' : a ∈ d :: q :: (pre ++ ((p :: ox') ++ post)) := m
    rw [eos]
    simp only [List.mem_append, List.mem_cons] at m'
    have : a ∈ p :: ox' ∨ a ∈ d :: q :: (pre ++ ((p :: ox) ++ post)) := by
      rcases m' with z | z | z | (z | z) | z <;> simp [z]
    rcases this with z | z
    · rcases s.new a (by simpa using pm2.mem_iff.mpr (List.mem_append_left _ z)) with y | y
      · left
        simp only [List.mem_append, List.mem_cons] at y ⊢
        rcases y with y | y <;> simp [y]
      · right
        by_cases ha : a = d
        · subst ha; rw [upd_same] at y; cases y
        · rw [upd_ne ha] at y
          exact s12.free y
    · exact .inl z
  · by_cases ha : a = d
    · subst ha; exact ⟨_, hd'⟩
    · exact s.dom a o (ho a o e ha)
  · rw [List.append_nil]
    have z := RpG.cons (K := K) (H := H') (U := ug U0 (Oo ++ d :: q :: (pre ++ ((p :: ox') ++ post)))) (Rp.lstO hd' (.cons (.lstO hq' newps) (.cons (.int c') .nil))) (.skip y1 (.skip y2 (.skip y3 (.skip y4 .nil))))
    simpa using z
  · rw [List.append_nil] at m
    exact r.u0 a (sub1 a (memf a m))
  · have : i = 0 := by simpa using m
    subst this
    rfl
end
end T
namespace T
open PySem PySem.Spec PyProof.Rows L2
theorem frzL_len (xs : List D) : (frzL xs).length = xs.length := by rw [frzL_map, List.length_map]
/-! ### equality of data -/
def deqL (xs ys : List D) : Bool := PyData.eqvAll (pyL xs) (pyL ys)
@[simp] theorem deq_int (i j : Int) : deq (.int i) (.int j) = decide (i = j) := rfl
@[simp] theorem deq_str (i j : Str) : deq (.str i) (.str j) = decide (i = j) := rfl
@[simp] theorem deq_non : deq .non .non = true := rfl
@[simp] theorem deq_non_int (i : Int) : deq .non (.int i) = false := rfl
@[simp] theorem deq_int_non (i : Int) : deq (.int i) .non = false := rfl
@[simp] theorem deq_tup (xs ys : List D) : deq (.tup xs) (.tup ys) = deqL xs ys := rfl
@[simp] theorem deq_lst (o p : Bool) (xs ys : List D) : deq (.lst o xs) (.lst p ys) = deqL xs ys := rfl
@[simp] theorem deqL_nil : deqL [] [] = true := rfl
@[simp] theorem deqL_cons (x y : D) (xs ys : List D) : deqL (x :: xs) (y :: ys) = (deq x y && deqL xs ys) := rfl
@[simp] theorem deqL_nil_cons (y : D) (ys : List D) : deqL [] (y :: ys) = false := rfl
@[simp] theorem deqL_cons_nil (y : D) (ys : List D) : deqL (y :: ys) [] = false := rfl
/-- data without bools, dicts, objects, all of it seen from outside -/
def nb : D → Bool
  | .non => true
  | .int _ => true
  | .str _ => true
  | .tup xs => nbL xs
  | .lst o xs => !o && nbL xs
  | _ => false
where nbL : List D → Bool
  | [] => true
  | x :: xs => nb x && nbL xs
mutual
theorem deq_iff : ∀ x y : D, nb x = true → nb y = true → (deq x y = true ↔ x = y)
  | .non, y, _, hy => by cases y <;> simp_all [nb, deq, py, PyData.eqv]
  | .int i, y, _, hy => by cases y <;> simp_all [nb, deq, py, PyData.eqv]
  | .str i, y, _, hy => by cases y <;> simp_all [nb, deq, py, PyData.eqv]
  | .tup xs, y, hx, hy => by
    cases y with
    | tup ys =>
      rw [deq_tup, deqL_iff xs ys (by simpa [nb] using hx) (by simpa [nb] using hy)]
      simp
    | _ => simp_all [nb, deq, py, PyData.eqv]
  | .lst o xs, y, hx, hy => by
    cases y with
    | lst p ys =>
      simp only [nb, Bool.and_eq_true, Bool.not_eq_true'] at hx hy
      rw [deq_lst, deqL_iff xs ys hx.2 hy.2, hx.1, hy.1]
      simp
    | _ => simp_all [nb, deq, py, PyData.eqv]
  | .bl _, _, hx, _ | .scr _, _, hx, _ | .dic _ _ _, _, hx, _ | .obj _ _ _ _, _, hx, _ => by simp [nb] at hx
theorem deqL_iff : ∀ xs ys : List D, nb.nbL xs = true → nb.nbL ys = true → (deqL xs ys = true ↔ xs = ys)
  | [], [], _, _ => by simp
  | [], y :: ys, _, _ => by simp
  | x :: xs, [], _, _ => by simp
  | x :: xs, y :: ys, hx, hy => by
    simp only [nb.nbL, Bool.and_eq_true] at hx hy
    rw [deqL_cons, Bool.and_eq_true, deq_iff x y hx.1 hy.1, deqL_iff xs ys hx.2 hy.2]
    simp
end
theorem deq_self {x : D} (h : nb x = true) : deq x x = true := (deq_iff x x h h).mpr rfl
theorem deqL_self {x : List D} (h : nb.nbL x = true) : deqL x x = true := (deqL_iff x x h h).mpr rfl
theorem nbL_all : ∀ {xs : List D}, nb.nbL xs = true ↔ ∀ x ∈ xs, nb x = true
  | [] => by simp [nb.nbL]
  | x :: xs => by simp [nb.nbL, nbL_all (xs := xs)]
theorem mem_iff {x : D} {xs : List D} (h : nb x = true) (h' : nb.nbL xs = true) : mem x xs = true ↔ x ∈ xs := by
  unfold mem
  rw [pyL_map, List.any_map, List.any_eq_true]
  constructor
  · rintro ⟨z, hz, e⟩
    have := (deq_iff z x (nbL_all.mp h' z hz) h).mp e
    exact this ▸ hz
  · exact fun m => ⟨x, m, deq_self h⟩
/-! ### what may be compared -/
def okd (k : Nat) (d : D) : Prop := (py d).canLay0 = true ∧ (py d).depth ≤ k
theorem okd_shp {d : D} (h : okd 64 d) : shp d = true := by
  unfold shp SeqAt.shaped
  simp [h.1, h.2]
theorem okd_mono {k k' : Nat} {d : D} (h : okd k d) (hk : k ≤ k') : okd k' d := ⟨h.1, Nat.le_trans h.2 hk⟩
def flz (d : D) : Bool := match d with | .non | .bl _ | .int _ => true | .str x => PyData.strOk x | _ => false
theorem okd_flat0 {k : Nat} {d : D} (h : flz d = true) : okd (k + 1) d := by
  cases d <;> simp_all [flz, okd, py, PyData.canLay0, PyData.depth]
theorem okdL {k : Nat} : ∀ {xs : List D}, (∀ x ∈ xs, okd k x) → PyData.canLayAll0 (pyL xs) = true ∧ PyData.depthAll (pyL xs) ≤ k
  | [], _ => by simp [pyL, PyData.canLayAll0, PyData.depthAll]
  | x :: xs, h => by
    obtain ⟨h1, h2⟩ := okdL (xs := xs) fun y m => h y (List.mem_cons_of_mem _ m)
    obtain ⟨h3, h4⟩ := h x List.mem_cons_self
    simp only [pyL, PyData.canLayAll0, PyData.depthAll, h3, h1, Bool.and_self, true_and]
    omega
theorem okd_tup {k : Nat} {xs : List D} (h : ∀ x ∈ xs, okd k x) : okd (k + 1) (.tup xs) := by
  obtain ⟨h1, h2⟩ := okdL h
  refine ⟨by simpa [py, PyData.canLay0] using h1, ?_⟩
  simp only [py, PyData.depth]
  omega
theorem okd_lst {k : Nat} {o : Bool} {xs : List D} (h : ∀ x ∈ xs, okd k x) : okd (k + 1) (.lst o xs) := by
  obtain ⟨h1, h2⟩ := okdL h
  refine ⟨by simpa [py, PyData.canLay0] using h1, ?_⟩
  simp only [py, PyData.depth]
  omega
@[simp] theorem shp_int (i : Int) : shp (.int i) = true := rfl
@[simp] theorem shp_non : shp .non = true := rfl
@[simp] theorem shp_bl (b : Bool) : shp (.bl b) = true := rfl
@[simp] theorem shp_lnil (o : Bool) : shp (.lst o []) = true := rfl
/-! ### a comprehension, item by item -/
theorem compR_eq {g : WG} {c : WT} {r : WR} {G : T.Env} (f : D → Bool) (h : D → D) : ∀ (xs : List D) (P : List D → Prop), (∀ x ∈ xs, ∃ G1, (∀ k, g x G k = k G1) ∧ (∀ Q, c G1 Q = Q (f x)) ∧ (f x = true → ∀ A, r G1 A = A (h x))) →
    compR g c r G xs P = P ((xs.filter f).map h)
  | [], P, _ => by simp [compR]
  | x :: xs, P, hx => by
    have ih := fun P => compR_eq (g := g) (c := c) (r := r) (G := G) f h xs P fun y m => hx y (List.mem_cons_of_mem _ m)
    obtain ⟨G1, h1, h2, h3⟩ := hx x List.mem_cons_self
    simp only [compR]
    rw [h1, h2]
    by_cases e : f x = true
    · rw [if_pos e, h3 e, ih, List.filter_cons_of_pos e, List.map_cons]
    · rw [if_neg e, ih, List.filter_cons_of_neg e]
/-! ### a loop: what holds of what is done -/
theorem sLoop_inv {g : WG} {b : WS} {E : En} (I : List D → List D → T.Env → Prop) : ∀ (xs done : List D) (G : T.Env), I done xs G → (∀ done x rest G (K : T.Env → Prop), I done (x :: rest) G → (∀ G', I (done ++ [x]) rest G' → K G') → g x G fun G1 => b { E with nx := K, ct := K, bk := E.nx } G1) → (∀ done G, I done [] G → E.nx G) → sLoop g b E xs G
  | [], done, G, h, _, he => he done G h
  | x :: xs, done, G, h, hs, he => by
    simp only [sLoop]
    exact hs done x xs G _ h fun G' h' => sLoop_inv I xs (done ++ [x]) G' h' hs he
end T
namespace T
open PySem PySem.Spec PyProof.Rows L2
abbrev topS (i : Nat) : Stmt := PySem.Challenge.pw_wintold_k02_matches_left_and_points_had.main.body.getD i (.Pass ⟨0, 0, 0, 0⟩)
def c_KINDS : D := .tup [.str "plain", .str "ties"]
def c_FEWEST : D := .int 2
def c_MOST : D := .int 6
noncomputable def w_is_whole : WS :=
  sRet (eR (rAnd (rIsi' "int" (rVar 0)) (rNot (rIsi' "bool" (rVar 0)))))
theorem ex_is_whole : ∃ A : FSp, A = fun ds P PX => w_is_whole (enOf [false] P PX) (env0 ds 1) := ⟨_, rfl⟩
noncomputable def a_is_whole : FSp := Classical.choose ex_is_whole
theorem eq_is_whole : a_is_whole = fun ds P PX => w_is_whole (enOf [false] P PX) (env0 ds 1) := Classical.choose_spec ex_is_whole
abbrev s_is_whole : Stmt := topS 7
theorem sc_is_whole : FnScope ["thing"] ["thing"] (defScope s_is_whole) := ⟨rfl, rfl, rfl, by decide +kernel, rfl, by decide +kernel, by decide +kernel⟩
theorem sd_is_whole {P : Program} {w : World} {K : PySem.W.Frag} {mg : Str → Option Value} {base : Heap} (z_isinstance : mg "isinstance" = none) (z_int : mg "int" = none) (z_bool : mg "bool" = none) {f : Addr} {cdv : Value} {Ar : Around} {outer : List PySem.Env} {s : Shared} {H : Hp} {E : XK}
    (hr : Room 0 (Ar.deeper (envOfC "is_whole" (defScope s_is_whole) s.heap.objs.size f cdv))) : SndSs (bx P w K mg base ["thing"] "is_whole" s_is_whole f cdv Ar outer s H E) K (wx E) (mutIx [false] 0) (defBody s_is_whole) w_is_whole :=
  have Sc := sc_is_whole
  (ss_one (s_ret (e_r (r_and (r_isi (by intro _; rfl) (xv 0) rfl (by intro _; rfl) (fun _ => z_isinstance) (by decide +kernel) (by intro _; rfl) (fun _ => z_int) (by decide +kernel) (by decide)) (r_one (r_not (r_isi (by intro _; rfl) (xv 0) rfl (by intro _; rfl) (fun _ => z_isinstance) (by decide +kernel) (by intro _; rfl) (fun _ => z_bool) (by decide +kernel) (by decide))))))))
theorem dk_is_whole {P : Program} {w : World} {K : PySem.W.Frag} {mg : Str → Option Value} {base : Heap} {f : Addr} {fd : FuncData} (F : L2.Fun K "is_whole" "is_whole" s_is_whole f fd) (hmg : mg "is_whole" = some (.ref f)) (hb : Binds K fd ["thing"] []) (z_isinstance : mg "isinstance" = none) (z_int : mg "int" = none) (z_bool : mg "bool" = none) : Dk P w K mg base 1 "is_whole" [false] a_is_whole :=
  dk_mk F hmg hb sc_is_whole rfl (by decide) (fun cdv Ar outer s H E hr => sd_is_whole z_isinstance z_int z_bool hr) (fun ds P PX h hl => by rw [eq_is_whole] at h;  exact h)
noncomputable def w_all_matches : WS :=
  sSeq (sSet 1 (eF (fLst (aNil)))) (sSeq (sFor (lNo (aRng1 (aCons (rVar 0) (aNil)))) (gNm 2) (sExpr (eMeth 1 mExt (lCons (eF (aComp (aRng2 (aCons (rOp addD (rVar 2) (rCon (.int 1))) (aCons (rVar 0) (aNil)))) (gNm 3) (tT) (rTup (aCons (rVar 2) (aCons (rVar 3) (aNil)))) [3])) (lNil))))) (sRet (eMov 1)))
theorem ex_all_matches : ∃ A : FSp, A = fun ds P PX => w_all_matches (enOf [false] P PX) (env0 ds 4) := ⟨_, rfl⟩
noncomputable def a_all_matches : FSp := Classical.choose ex_all_matches
theorem eq_all_matches : a_all_matches = fun ds P PX => w_all_matches (enOf [false] P PX) (env0 ds 4) := Classical.choose_spec ex_all_matches
abbrev s_all_matches : Stmt := topS 9
theorem sc_all_matches : FnScope ["n", "found", "i", "j"] ["n"] (defScope s_all_matches) := ⟨rfl, rfl, rfl, by decide +kernel, rfl, by decide +kernel, by decide +kernel⟩
theorem sd_all_matches {P : Program} {w : World} {K : PySem.W.Frag} {mg : Str → Option Value} {base : Heap} (z_range : mg "range" = none) {f : Addr} {cdv : Value} {Ar : Around} {outer : List PySem.Env} {s : Shared} {H : Hp} {E : XK}
    (hr : Room 0 (Ar.deeper (envOfC "all_matches" (defScope s_all_matches) s.heap.objs.size f cdv))) : SndSs (bx P w K mg base ["n", "found", "i", "j"] "all_matches" s_all_matches f cdv Ar outer s H E) K (wx E) (mutIx [false] 0) (defBody s_all_matches) w_all_matches :=
  have Sc := sc_all_matches
  (ss_cons (sset 1 (fun _ => Sc.nd) (e_f (f_lst a_nil))) (ss_cons (s_for bx_passes (by intro _; rfl) (ie_rng (by intro _; rfl) (fun _ => z_range) (a_cons (xv 0) a_nil)) (gnm 2 (fun _ => Sc.nd)) (ss_one (s_expr (e_meth 1 ok_ext (l_cons (e_f (f_comp (comp_read (own := [("j", 3)]) (i_rng2 (by intro _; rfl) (fun _ => z_range) (a_cons (r_bin (fun _ => op_addA rfl) ok_add (xv 2) r_int) (a_cons (xv 0) a_nil)) (mk := fun u h j => pi_range2 rfl z_range (h j))) (gnm 3 (fun _ => Sc.nd)) ts_nil (r_tup (a_cons (xv 2) (a_cons (xv 3) a_nil)))) (by intro _; rfl) (fun _ => Sc.nd) (fun _ => blkOk_by (own := [("j", 3)]) rfl))) l_nil) (fun ta h j => pe_bm PySem.F.plainAttrs_list PySem.F.slot_list_extend PySem.F.type_list_extend mt_ext (pv 1) (h j)))))) (ss_one (s_ret (xmov 1)))))
theorem dk_all_matches {P : Program} {w : World} {K : PySem.W.Frag} {mg : Str → Option Value} {base : Heap} {f : Addr} {fd : FuncData} (F : L2.Fun K "all_matches" "all_matches" s_all_matches f fd) (hmg : mg "all_matches" = some (.ref f)) (hb : Binds K fd ["n"] []) (z_range : mg "range" = none) : Dk P w K mg base 1 "all_matches" [false] a_all_matches :=
  dk_mk F hmg hb sc_all_matches rfl (by decide) (fun cdv Ar outer s H E hr => sd_all_matches z_range hr) (fun ds P PX h hl => by rw [eq_all_matches] at h;  exact h)
noncomputable def w_worth_in : WS :=
  sRet (eR (rOp ixD (rF (fLst (aCons (rCon (.int 1)) (aCons (rCon (.int 2)) (aNil))))) (rCB intD (aCons (rOp eqD (rVar 0) (rCon (.str "ties"))) (aNil)))))
theorem ex_worth_in : ∃ A : FSp, A = fun ds P PX => w_worth_in (enOf [false] P PX) (env0 ds 1) := ⟨_, rfl⟩
noncomputable def a_worth_in : FSp := Classical.choose ex_worth_in
theorem eq_worth_in : a_worth_in = fun ds P PX => w_worth_in (enOf [false] P PX) (env0 ds 1) := Classical.choose_spec ex_worth_in
abbrev s_worth_in : Stmt := topS 10
theorem sc_worth_in : FnScope ["kind"] ["kind"] (defScope s_worth_in) := ⟨rfl, rfl, rfl, by decide +kernel, rfl, by decide +kernel, by decide +kernel⟩
theorem sd_worth_in {P : Program} {w : World} {K : PySem.W.Frag} {mg : Str → Option Value} {base : Heap} (z_int : mg "int" = none) {f : Addr} {cdv : Value} {Ar : Around} {outer : List PySem.Env} {s : Shared} {H : Hp} {E : XK}
    (hr : Room 0 (Ar.deeper (envOfC "worth_in" (defScope s_worth_in) s.heap.objs.size f cdv))) : SndSs (bx P w K mg base ["kind"] "worth_in" s_worth_in f cdv Ar outer s H E) K (wx E) (mutIx [false] 0) (defBody s_worth_in) w_worth_in :=
  have Sc := sc_worth_in
  (ss_one (s_ret (e_r (r_ix (fun _ => ix_seq) ok_ix (r_f (f_lst (a_cons r_int (a_cons r_int a_nil)))) (r_callTy (fun _ => call_int1) ok_int (by intro _; rfl) (fun _ => z_int) (by decide +kernel) (a_cons (r_cmp (fun _ => op_eqD hr.u64) ok_eq (xv 0) r_str (nomark _)) a_nil)) (fun _ _ => rfl)))))
theorem dk_worth_in {P : Program} {w : World} {K : PySem.W.Frag} {mg : Str → Option Value} {base : Heap} {f : Addr} {fd : FuncData} (F : L2.Fun K "worth_in" "worth_in" s_worth_in f fd) (hmg : mg "worth_in" = some (.ref f)) (hb : Binds K fd ["kind"] []) (z_int : mg "int" = none) : Dk P w K mg base 1 "worth_in" [false] a_worth_in :=
  dk_mk F hmg hb sc_worth_in rfl (by decide) (fun cdv Ar outer s H E hr => sd_worth_in z_int hr) (fun ds P PX h hl => by rw [eq_worth_in] at h;  exact h)
noncomputable def w__law_deck : WS :=
  sSeq (sSet 1 (eF (fLst (aNil)))) (sSeq (sFor (lNo (aRng1 (aCons (rCB max2D (aCons (rCon (.int 1)) (aCons (rCB min2D (aCons (rCon (.int 63)) (aCons (rCB lenD (aCons (rVar 0) (aNil))) (aNil)))) (aNil)))) (aNil)))) (gNm 2) (sSeq (sSet 3 (eR (rCon (.int 0)))) (sSeq (sIf (bT (asB (rOp ltD (rVar 2) (rCB lenD (aCons (rVar 0) (aNil)))))) (sSet 3 (eR (rOp ixD (rVar 0) (rVar 2)))) (sNil)) (sExpr (eMeth 1 mApp (lCons (eF (fLst (aCons (rVar 3) (aCons (rCB intD (aCons (rOp geD (rVar 3) (rOp powD (rCon (.int 10)) (rCon (.int 18)))) (aNil))) (aCons (rOp mulD (rCon (.int 31)) (rVar 2)) (aNil)))))) (lNil))))))) (sRet (eLst (lCons (eMov 1) (lCons (eR (rCon (.int 0))) (lNil))))))
theorem ex__law_deck : ∃ A : FSp, A = fun ds P PX => w__law_deck (enOf [false] P PX) (env0 ds 4) := ⟨_, rfl⟩
noncomputable def a__law_deck : FSp := Classical.choose ex__law_deck
theorem eq__law_deck : a__law_deck = fun ds P PX => w__law_deck (enOf [false] P PX) (env0 ds 4) := Classical.choose_spec ex__law_deck
abbrev s__law_deck : Stmt := topS 20
theorem sc__law_deck : FnScope ["script", "pools", "k", "cell"] ["script"] (defScope s__law_deck) := ⟨rfl, rfl, rfl, by decide +kernel, rfl, by decide +kernel, by decide +kernel⟩
theorem sd__law_deck {P : Program} {w : World} {K : PySem.W.Frag} {mg : Str → Option Value} {base : Heap} (z_len : mg "len" = none) (z_min : mg "min" = none) (z_max : mg "max" = none) (z_range : mg "range" = none) (z_int : mg "int" = none) {f : Addr} {cdv : Value} {Ar : Around} {outer : List PySem.Env} {s : Shared} {H : Hp} {E : XK}
    (hr : Room 0 (Ar.deeper (envOfC "_law_deck" (defScope s__law_deck) s.heap.objs.size f cdv))) : SndSs (bx P w K mg base ["script", "pools", "k", "cell"] "_law_deck" s__law_deck f cdv Ar outer s H E) K (wx E) (mutIx [false] 0) (defBody s__law_deck) w__law_deck :=
  have Sc := sc__law_deck
  (ss_cons (sset 1 (fun _ => Sc.nd) (e_f (f_lst a_nil))) (ss_cons (s_for bx_passes (by intro _; rfl) (ie_rng (by intro _; rfl) (fun _ => z_range) (a_cons (r_callB (fun _ => call_max2 rfl) ok_max2 (by intro _; rfl) (fun _ => z_max) (by decide +kernel) (a_cons r_int (a_cons (r_callB (fun _ => call_min2 rfl) ok_min2 (by intro _; rfl) (fun _ => z_min) (by decide +kernel) (a_cons r_int (a_cons (r_callB (fun _ => c_len rfl) ok_len (by intro _; rfl) (fun _ => z_len) (by decide +kernel) (a_cons (xv 0) a_nil)) a_nil))) a_nil))) a_nil)) (gnm 2 (fun _ => Sc.nd)) (ss_cons (sset 3 (fun _ => Sc.nd) (e_r r_int)) (ss_cons (s_if (b_t (t_cmp (fun _ => op_ltA rfl hr.units0) ok_ord (xv 2) (r_callB (fun _ => c_len rfl) ok_len (by intro _; rfl) (fun _ => z_len) (by decide +kernel) (a_cons (xv 0) a_nil)) (nomark _))) (ss_one (sset 3 (fun _ => Sc.nd) (e_r (r_ix (fun _ => ix_seq) ok_ix (xv 0) (xv 2) (fun _ _ => rfl))))) ss_nil) (ss_one (s_expr (e_meth 1 ok_app (l_cons (e_f (f_lst (a_cons (xv 3) (a_cons (r_callTy (fun _ => call_int1) ok_int (by intro _; rfl) (fun _ => z_int) (by decide +kernel) (a_cons (r_cmp (fun _ => op_geA rfl hr.units0) ok_ord (xv 3) (r_bin (fun _ => op_pow) ok_pow r_int r_int) (nomark _)) a_nil)) (a_cons (r_bin (fun _ => op_mul) ok_mul r_int (xv 2)) a_nil))))) l_nil) (fun ta h j => pe_bm PySem.F.plainAttrs_list PySem.F.slot_list_append PySem.F.type_list_append mt_append (pv 1) (h j)))))))) (ss_one (s_ret (e_lst (l_cons (xmov 1) (l_cons (e_r r_int) l_nil)))))))
theorem dk__law_deck {P : Program} {w : World} {K : PySem.W.Frag} {mg : Str → Option Value} {base : Heap} {f : Addr} {fd : FuncData} (F : L2.Fun K "_law_deck" "_law_deck" s__law_deck f fd) (hmg : mg "_law_deck" = some (.ref f)) (hb : Binds K fd ["script"] []) (z_len : mg "len" = none) (z_min : mg "min" = none) (z_max : mg "max" = none) (z_range : mg "range" = none) (z_int : mg "int" = none) : Dk P w K mg base 1 "_law_deck" [false] a__law_deck :=
  dk_mk F hmg hb sc__law_deck rfl (by decide) (fun cdv Ar outer s H E hr => sd__law_deck z_len z_min z_max z_range z_int hr) (fun ds P PX h hl => by rw [eq__law_deck] at h;  exact h)
noncomputable def w__law_draw : WS :=
  wDraw (rOp modD (rOp ixD (rVar 0) (rCon (.int 1))) (rCB lenD (aCons (rOp ixD (rVar 0) (rCon (.int 0))) (aNil)))) (rOp addD (rOp ixD (rVar 0) (rCon (.int 1))) (rCon (.int 1))) (sSeq (sIf (bT (tAndT (asB (rOp eqD (rOp ixD (rVar 2) (rCon (.int 1))) (rCon (.int 1)))) (asB (rOp gtD (rOp ixD (rVar 2) (rCon (.int 0))) (rCon (.int 0)))))) (sSeq (sSet 3 (eR (rOp modD (rOp ixD (rVar 2) (rCon (.int 0))) (rVar 1)))) (sSeq (sSetIx 2 (rCon (.int 0)) (eR (rOp fdivD (rOp ixD (rVar 2) (rCon (.int 0))) (rVar 1)))) (sRet (eR (rVar 3))))) (sNil)) (sSeq (sSetIx 2 (rCon (.int 2)) (eR (rOp addD (rOp ixD (rVar 2) (rCon (.int 2))) (rCon (.int 1))))) (sSeq (sSet 4 (eR (rOp modD (rOp addD (rOp modD (rOp ixD (rVar 2) (rCon (.int 0))) (rCon (.int 99999999977))) (rOp mulD (rCon (.int 700001)) (rOp ixD (rVar 2) (rCon (.int 2))))) (rCon (.int 99999999947))))) (sSeq (sSet 4 (eR (rOp modD (rOp mulD (rVar 4) (rVar 4)) (rCon (.int 99999999821))))) (sSeq (sSet 4 (eR (rOp modD (rOp mulD (rVar 4) (rOp addD (rVar 4) (rCon (.int 19)))) (rCon (.int 9999999967))))) (sRet (eR (rOp modD (rOp fdivD (rVar 4) (rCon (.int 13))) (rVar 1)))))))))
theorem ex__law_draw : ∃ A : FSp, A = fun ds P PX => w__law_draw (enOf [true, false] P PX) (env0 ds 5) := ⟨_, rfl⟩
noncomputable def a__law_draw : FSp := Classical.choose ex__law_draw
theorem eq__law_draw : a__law_draw = fun ds P PX => w__law_draw (enOf [true, false] P PX) (env0 ds 5) := Classical.choose_spec ex__law_draw
abbrev s__law_draw : Stmt := topS 21
theorem sc__law_draw : FnScope ["deck", "many", "pool", "found", "number"] ["deck", "many"] (defScope s__law_draw) := ⟨rfl, rfl, rfl, by decide +kernel, rfl, by decide +kernel, by decide +kernel⟩
theorem sd__law_draw {P : Program} {w : World} {K : PySem.W.Frag} {mg : Str → Option Value} {base : Heap} (z_len : mg "len" = none) {f : Addr} {cdv : Value} {Ar : Around} {outer : List PySem.Env} {s : Shared} {H : Hp} {E : XK}
    (hr : Room 0 (Ar.deeper (envOfC "_law_draw" (defScope s__law_draw) s.heap.objs.size f cdv))) : SndSs (bx P w K mg base ["deck", "many", "pool", "found", "number"] "_law_draw" s__law_draw f cdv Ar outer s H E) K (wx E) (mutIx [true, false] 0) (defBody s__law_draw) w__law_draw :=
  have Sc := sc__law_draw
  (s_draw (r_bin (fun _ => op_mod) ok_mod (r_ix (fun _ => ix_seq) ok_ix (xv 0) r_int (fun _ _ => rfl)) (r_callB (fun _ => c_len rfl) ok_len (by intro _; rfl) (fun _ => z_len) (by decide +kernel) (a_cons (r_ix (fun _ => ix_seq) ok_ix (xv 0) r_int (fun _ _ => rfl)) a_nil))) (r_bin (fun _ => op_addA rfl) ok_add (r_ix (fun _ => ix_seq) ok_ix (xv 0) r_int (fun _ _ => rfl)) r_int) (ss_cons (s_if (b_t (t_w (w_and (t_cmp (fun _ => op_eqD hr.u64) ok_eq (r_ix (fun _ => ix_seq) ok_ix (xv 2) r_int (fun _ _ => rfl)) r_int (nomark _)) (w_and1 (t_cmp (fun _ => op_gtA rfl hr.units0) ok_ord (r_ix (fun _ => ix_seq) ok_ix (xv 2) r_int (fun _ _ => rfl)) r_int (nomark _)))))) (ss_cons (sset 3 (fun _ => Sc.nd) (e_r (r_bin (fun _ => op_mod) ok_mod (r_ix (fun _ => ix_seq) ok_ix (xv 2) r_int (fun _ _ => rfl)) (xv 1)))) (ss_cons (s_setix 2 (e_r (r_bin (fun _ => op_fdiv) ok_fdiv (r_ix (fun _ => ix_seq) ok_ix (xv 2) r_int (fun _ _ => rfl)) (xv 1))) r_int (fun t ti h1 h2 j => ps_asg (h1 j) (pg_sub (pv 2) (h2 j) set_list))) (ss_one (s_ret (e_r (xv 3)))))) ss_nil) (ss_cons (s_setix 2 (e_r (r_bin (fun _ => op_addA rfl) ok_add (r_ix (fun _ => ix_seq) ok_ix (xv 2) r_int (fun _ _ => rfl)) r_int)) r_int (fun t ti h1 h2 j => ps_asg (h1 j) (pg_sub (pv 2) (h2 j) set_list))) (ss_cons (sset 4 (fun _ => Sc.nd) (e_r (r_bin (fun _ => op_mod) ok_mod (r_bin (fun _ => op_addA rfl) ok_add (r_bin (fun _ => op_mod) ok_mod (r_ix (fun _ => ix_seq) ok_ix (xv 2) r_int (fun _ _ => rfl)) r_int) (r_bin (fun _ => op_mul) ok_mul r_int (r_ix (fun _ => ix_seq) ok_ix (xv 2) r_int (fun _ _ => rfl)))) r_int))) (ss_cons (sset 4 (fun _ => Sc.nd) (e_r (r_bin (fun _ => op_mod) ok_mod (r_bin (fun _ => op_mul) ok_mul (xv 4) (xv 4)) r_int))) (ss_cons (sset 4 (fun _ => Sc.nd) (e_r (r_bin (fun _ => op_mod) ok_mod (r_bin (fun _ => op_mul) ok_mul (xv 4) (r_bin (fun _ => op_addA rfl) ok_add (xv 4) r_int)) r_int))) (ss_one (s_ret (e_r (r_bin (fun _ => op_mod) ok_mod (r_bin (fun _ => op_fdiv) ok_fdiv (xv 4) r_int) (xv 1)))))))))) (fun ti h j => ps_set Sc.nd rfl (Or.inl rfl) (pe_ix ix_seq (pe_ix ix_seq (pv 0) pe_int (fun _ _ => rfl)) (h j) (fun _ _ => rfl)) rfl (Or.inl rfl)) (fun ta h j => ps_asg (h j) (pg_sub (pv 0) pe_int set_list)))
theorem dk__law_draw {P : Program} {w : World} {K : PySem.W.Frag} {mg : Str → Option Value} {base : Heap} {f : Addr} {fd : FuncData} (F : L2.Fun K "_law_draw" "_law_draw" s__law_draw f fd) (hmg : mg "_law_draw" = some (.ref f)) (hb : Binds K fd ["deck", "many"] []) (z_len : mg "len" = none) : Dk P w K mg base 1 "_law_draw" [true, false] a__law_draw :=
  dk_mk F hmg hb sc__law_draw rfl (by decide) (fun cdv Ar outer s H E hr => sd__law_draw z_len hr) (fun ds P PX h hl => by rw [eq__law_draw] at h;  exact h)
noncomputable def w__law_pairs : WS :=
  sSeq (sSet 1 (eF (fLst (aNil)))) (sSeq (sFor (lNo (aRng1 (aCons (rVar 0) (aNil)))) (gNm 2) (sExpr (eMeth 1 mExt (lCons (eF (aComp (aRng1 (aCons (rVar 2) (aNil))) (gNm 3) (tT) (rTup (aCons (rVar 3) (aCons (rVar 2) (aNil)))) [3])) (lNil))))) (sRet (eF (fCB sortedD (aCons (rVar 1) (aNil))))))
theorem ex__law_pairs : ∃ A : FSp, A = fun ds P PX => w__law_pairs (enOf [false] P PX) (env0 ds 4) := ⟨_, rfl⟩
noncomputable def a__law_pairs : FSp := Classical.choose ex__law_pairs
theorem eq__law_pairs : a__law_pairs = fun ds P PX => w__law_pairs (enOf [false] P PX) (env0 ds 4) := Classical.choose_spec ex__law_pairs
abbrev s__law_pairs : Stmt := topS 22
theorem sc__law_pairs : FnScope ["n", "found", "j", "i"] ["n"] (defScope s__law_pairs) := ⟨rfl, rfl, rfl, by decide +kernel, rfl, by decide +kernel, by decide +kernel⟩
theorem sd__law_pairs {P : Program} {w : World} {K : PySem.W.Frag} {mg : Str → Option Value} {base : Heap} (z_range : mg "range" = none) (z_sorted : mg "sorted" = none) {f : Addr} {cdv : Value} {Ar : Around} {outer : List PySem.Env} {s : Shared} {H : Hp} {E : XK}
    (hr : Room 0 (Ar.deeper (envOfC "_law_pairs" (defScope s__law_pairs) s.heap.objs.size f cdv))) : SndSs (bx P w K mg base ["n", "found", "j", "i"] "_law_pairs" s__law_pairs f cdv Ar outer s H E) K (wx E) (mutIx [false] 0) (defBody s__law_pairs) w__law_pairs :=
  have Sc := sc__law_pairs
  (ss_cons (sset 1 (fun _ => Sc.nd) (e_f (f_lst a_nil))) (ss_cons (s_for bx_passes (by intro _; rfl) (ie_rng (by intro _; rfl) (fun _ => z_range) (a_cons (xv 0) a_nil)) (gnm 2 (fun _ => Sc.nd)) (ss_one (s_expr (e_meth 1 ok_ext (l_cons (e_f (f_comp (comp_read (own := [("i", 3)]) (i_rng1 (by intro _; rfl) (fun _ => z_range) (a_cons (xv 2) a_nil)) (gnm 3 (fun _ => Sc.nd)) ts_nil (r_tup (a_cons (xv 3) (a_cons (xv 2) a_nil)))) (by intro _; rfl) (fun _ => Sc.nd) (fun _ => blkOk_by (own := [("i", 3)]) rfl))) l_nil) (fun ta h j => pe_bm PySem.F.plainAttrs_list PySem.F.slot_list_extend PySem.F.type_list_extend mt_ext (pv 1) (h j)))))) (ss_one (s_ret (e_f (f_callB (fun _ => c_sorted rfl hr.u80) ok_sorted (by intro _; rfl) (fun _ => z_sorted) (by decide +kernel) (a_cons (xv 1) a_nil)))))))
theorem dk__law_pairs {P : Program} {w : World} {K : PySem.W.Frag} {mg : Str → Option Value} {base : Heap} {f : Addr} {fd : FuncData} (F : L2.Fun K "_law_pairs" "_law_pairs" s__law_pairs f fd) (hmg : mg "_law_pairs" = some (.ref f)) (hb : Binds K fd ["n"] []) (z_range : mg "range" = none) (z_sorted : mg "sorted" = none) : Dk P w K mg base 1 "_law_pairs" [false] a__law_pairs :=
  dk_mk F hmg hb sc__law_pairs rfl (by decide) (fun cdv Ar outer s H E hr => sd__law_pairs z_range z_sorted hr) (fun ds P PX h hl => by rw [eq__law_pairs] at h;  exact h)
noncomputable def w__law_own : WS :=
  sRet (eTup (lCons (eR (rOp ixD (rVar 0) (rCon (.int 0)))) (lCons (eR (rOp ixD (rVar 0) (rCon (.int 1)))) (lCons (eF (fCB listD (aCons (rOp ixD (rVar 0) (rCon (.int 2))) (aNil)))) (lNil)))))
theorem ex__law_own : ∃ A : FSp, A = fun ds P PX => w__law_own (enOf [false] P PX) (env0 ds 1) := ⟨_, rfl⟩
noncomputable def a__law_own : FSp := Classical.choose ex__law_own
theorem eq__law_own : a__law_own = fun ds P PX => w__law_own (enOf [false] P PX) (env0 ds 1) := Classical.choose_spec ex__law_own
abbrev s__law_own : Stmt := topS 25
theorem sc__law_own : FnScope ["league"] ["league"] (defScope s__law_own) := ⟨rfl, rfl, rfl, by decide +kernel, rfl, by decide +kernel, by decide +kernel⟩
theorem sd__law_own {P : Program} {w : World} {K : PySem.W.Frag} {mg : Str → Option Value} {base : Heap} (z_list : mg "list" = none) {f : Addr} {cdv : Value} {Ar : Around} {outer : List PySem.Env} {s : Shared} {H : Hp} {E : XK}
    (hr : Room 0 (Ar.deeper (envOfC "_law_own" (defScope s__law_own) s.heap.objs.size f cdv))) : SndSs (bx P w K mg base ["league"] "_law_own" s__law_own f cdv Ar outer s H E) K (wx E) (mutIx [false] 0) (defBody s__law_own) w__law_own :=
  have Sc := sc__law_own
  (ss_one (s_ret (e_tup (l_cons (e_r (r_ix (fun _ => ix_seq) ok_ix (xv 0) r_int (fun _ _ => rfl))) (l_cons (e_r (r_ix (fun _ => ix_seq) ok_ix (xv 0) r_int (fun _ _ => rfl))) (l_cons (e_f (f_callTy (fun _ => c_list rfl) ok_list (by intro _; rfl) (fun _ => z_list) (by decide +kernel) (a_cons (r_ix (fun _ => ix_seq) ok_ix (xv 0) r_int (fun _ _ => rfl)) a_nil))) l_nil))))))
theorem dk__law_own {P : Program} {w : World} {K : PySem.W.Frag} {mg : Str → Option Value} {base : Heap} {f : Addr} {fd : FuncData} (F : L2.Fun K "_law_own" "_law_own" s__law_own f fd) (hmg : mg "_law_own" = some (.ref f)) (hb : Binds K fd ["league"] []) (z_list : mg "list" = none) : Dk P w K mg base 1 "_law_own" [false] a__law_own :=
  dk_mk F hmg hb sc__law_own rfl (by decide) (fun cdv Ar outer s H E hr => sd__law_own z_list hr) (fun ds P PX h hl => by rw [eq__law_own] at h;  exact h)
noncomputable def w__law_sums : WS :=
  sSeq (sSet 1 (eR (rOp ixD (rF (fLst (aCons (rCon (.int 1)) (aCons (rCon (.int 2)) (aNil))))) (rCB intD (aCons (rOp eqD (rOp ixD (rVar 0) (rCon (.int 0))) (rCon (.str "ties"))) (aNil)))))) (sSeq (sSet 2 (eF (fLst (aNil)))) (sSeq (sFor (lNo (aRng1 (aCons (rOp ixD (rVar 0) (rCon (.int 1))) (aNil)))) (gNm 3) (sSeq (sSet 7 (eR (rCB lenD (aCons (rF (aComp (asLst (rOp ixD (rVar 0) (rCon (.int 2)))) (gTp 3 (gsCons (gNm 4) (gsCons (gNm 5) (gsCons (gNm 6) (gsNil))))) (tAndT (asB (rOp eqD (rVar 6) (rVar 3))) (asB (rOp notND (rVar 6) (rCon .non)))) (rCon (.int 1)) [4, 5, 6])) (aNil))))) (sSeq (sSet 8 (eR (rCB lenD (aCons (rF (aComp (asLst (rOp ixD (rVar 0) (rCon (.int 2)))) (gTp 3 (gsCons (gNm 4) (gsCons (gNm 5) (gsCons (gNm 6) (gsNil))))) (tAndT (asB (rOp isND (rVar 6) (rCon .non))) (asB (rOp inD (rVar 3) (rTup (aCons (rVar 4) (aCons (rVar 5) (aNil))))))) (rCon (.int 1)) [4, 5, 6])) (aNil))))) (sExpr (eMeth 2 mApp (lCons (eR (rOp addD (rOp mulD (rVar 1) (rVar 7)) (rVar 8))) (lNil))))))) (sRet (eMov 2))))
theorem ex__law_sums : ∃ A : FSp, A = fun ds P PX => w__law_sums (enOf [false] P PX) (env0 ds 9) := ⟨_, rfl⟩
noncomputable def a__law_sums : FSp := Classical.choose ex__law_sums
theorem eq__law_sums : a__law_sums = fun ds P PX => w__law_sums (enOf [false] P PX) (env0 ds 9) := Classical.choose_spec ex__law_sums
abbrev s__law_sums : Stmt := topS 26
theorem sc__law_sums : FnScope ["league", "worth", "found", "player", "i", "j", "w", "won", "tied"] ["league"] (defScope s__law_sums) := ⟨rfl, rfl, rfl, by decide +kernel, rfl, by decide +kernel, by decide +kernel⟩
theorem sd__law_sums {P : Program} {w : World} {K : PySem.W.Frag} {mg : Str → Option Value} {base : Heap} (z_int : mg "int" = none) (z_range : mg "range" = none) (z_len : mg "len" = none) {f : Addr} {cdv : Value} {Ar : Around} {outer : List PySem.Env} {s : Shared} {H : Hp} {E : XK}
    (hr : Room 0 (Ar.deeper (envOfC "_law_sums" (defScope s__law_sums) s.heap.objs.size f cdv))) : SndSs (bx P w K mg base ["league", "worth", "found", "player", "i", "j", "w", "won", "tied"] "_law_sums" s__law_sums f cdv Ar outer s H E) K (wx E) (mutIx [false] 0) (defBody s__law_sums) w__law_sums :=
  have Sc := sc__law_sums
  (ss_cons (sset 1 (fun _ => Sc.nd) (e_r (r_ix (fun _ => ix_seq) ok_ix (r_f (f_lst (a_cons r_int (a_cons r_int a_nil)))) (r_callTy (fun _ => call_int1) ok_int (by intro _; rfl) (fun _ => z_int) (by decide +kernel) (a_cons (r_cmp (fun _ => op_eqD hr.u64) ok_eq (r_ix (fun _ => ix_seq) ok_ix (xv 0) r_int (fun _ _ => rfl)) r_str (nomark _)) a_nil)) (fun _ _ => rfl)))) (ss_cons (sset 2 (fun _ => Sc.nd) (e_f (f_lst a_nil))) (ss_cons (s_for bx_passes (by intro _; rfl) (ie_rng (by intro _; rfl) (fun _ => z_range) (a_cons (r_ix (fun _ => ix_seq) ok_ix (xv 0) r_int (fun _ _ => rfl)) a_nil)) (gnm 3 (fun _ => Sc.nd)) (ss_cons (sset 7 (fun _ => Sc.nd) (e_r (r_callB (fun _ => c_len rfl) ok_len (by intro _; rfl) (fun _ => z_len) (by decide +kernel) (a_cons (r_f (f_comp (comp_read (own := [("i", 4), ("j", 5), ("w", 6)]) (i_list (by intro _; rfl) (r_ix (fun _ => ix_seq) ok_ix (xv 0) r_int (fun _ _ => rfl))) (g_tup (by intro _; rfl) (gs_cons (gnm 4 (fun _ => Sc.nd)) (gs_cons (gnm 5 (fun _ => Sc.nd)) (gs_cons (gnm 6 (fun _ => Sc.nd)) gs_nil (fun t u h1 h2 j => pgs_cons (h1 j) (h2 j))) (fun t u h1 h2 j => pgs_cons (h1 j) (h2 j))) (fun t u h1 h2 j => pgs_cons (h1 j) (h2 j))) (fun u h j => pg_tup rfl (h j))) (ts_one (t_w (w_and (t_cmp (fun _ => op_eqD hr.u64) ok_eq (xv 6) (xv 3) (nomark _)) (w_and1 (t_cmp (fun _ => op_isNotA) ok_isNot (xv 6) r_non (nomark _)))))) r_int) (by intro _; rfl) (fun _ => Sc.nd) (fun _ => blkOk_by (own := [("i", 4), ("j", 5), ("w", 6)]) rfl))) a_nil)))) (ss_cons (sset 8 (fun _ => Sc.nd) (e_r (r_callB (fun _ => c_len rfl) ok_len (by intro _; rfl) (fun _ => z_len) (by decide +kernel) (a_cons (r_f (f_comp (comp_read (own := [("i", 4), ("j", 5), ("w", 6)]) (i_list (by intro _; rfl) (r_ix (fun _ => ix_seq) ok_ix (xv 0) r_int (fun _ _ => rfl))) (g_tup (by intro _; rfl) (gs_cons (gnm 4 (fun _ => Sc.nd)) (gs_cons (gnm 5 (fun _ => Sc.nd)) (gs_cons (gnm 6 (fun _ => Sc.nd)) gs_nil (fun t u h1 h2 j => pgs_cons (h1 j) (h2 j))) (fun t u h1 h2 j => pgs_cons (h1 j) (h2 j))) (fun t u h1 h2 j => pgs_cons (h1 j) (h2 j))) (fun u h j => pg_tup rfl (h j))) (ts_one (t_w (w_and (t_cmp (fun _ => op_isA) ok_is (xv 6) r_non (nomark _)) (w_and1 (t_cmp (fun _ => op_inA rfl hr.u65) ok_in (xv 3) (r_tup (a_cons (xv 4) (a_cons (xv 5) a_nil))) rfl))))) r_int) (by intro _; rfl) (fun _ => Sc.nd) (fun _ => blkOk_by (own := [("i", 4), ("j", 5), ("w", 6)]) rfl))) a_nil)))) (ss_one (s_expr (e_meth 2 ok_app (l_cons (e_r (r_bin (fun _ => op_addA rfl) ok_add (r_bin (fun _ => op_mul) ok_mul (xv 1) (xv 7)) (xv 8))) l_nil) (fun ta h j => pe_bm PySem.F.plainAttrs_list PySem.F.slot_list_append PySem.F.type_list_append mt_append (pv 2) (h j)))))))) (ss_one (s_ret (xmov 2))))))
theorem dk__law_sums {P : Program} {w : World} {K : PySem.W.Frag} {mg : Str → Option Value} {base : Heap} {f : Addr} {fd : FuncData} (F : L2.Fun K "_law_sums" "_law_sums" s__law_sums f fd) (hmg : mg "_law_sums" = some (.ref f)) (hb : Binds K fd ["league"] []) (z_int : mg "int" = none) (z_range : mg "range" = none) (z_len : mg "len" = none) : Dk P w K mg base 1 "_law_sums" [false] a__law_sums :=
  dk_mk F hmg hb sc__law_sums rfl (by decide) (fun cdv Ar outer s H E hr => sd__law_sums z_int z_range z_len hr) (fun ds P PX h hl => by rw [eq__law_sums] at h;  exact h)
noncomputable def w_is_player : WS :=
  sRet (eR (rAnd (rCall a_is_whole 1 (aCons (rVar 1) (aNil))) (rChain leI ltI (rCon (.int 0)) (rVar 1) (rVar 0))))
theorem ex_is_player : ∃ A : FSp, A = fun ds P PX => w_is_player (enOf [false, false] P PX) (env0 ds 2) := ⟨_, rfl⟩
noncomputable def a_is_player : FSp := Classical.choose ex_is_player
theorem eq_is_player : a_is_player = fun ds P PX => w_is_player (enOf [false, false] P PX) (env0 ds 2) := Classical.choose_spec ex_is_player
abbrev s_is_player : Stmt := topS 8
theorem sc_is_player : FnScope ["n", "thing"] ["n", "thing"] (defScope s_is_player) := ⟨rfl, rfl, rfl, by decide +kernel, rfl, by decide +kernel, by decide +kernel⟩
theorem sd_is_player {P : Program} {w : World} {K : PySem.W.Frag} {mg : Str → Option Value} {base : Heap} (D_is_whole : Dk P w K mg base 1 "is_whole" [false] a_is_whole) {f : Addr} {cdv : Value} {Ar : Around} {outer : List PySem.Env} {s : Shared} {H : Hp} {E : XK}
    (hr : Room 1 (Ar.deeper (envOfC "is_player" (defScope s_is_player) s.heap.objs.size f cdv))) : SndSs (bx P w K mg base ["n", "thing"] "is_player" s_is_player f cdv Ar outer s H E) K (wx E) (mutIx [false, false] 0) (defBody s_is_player) w_is_player :=
  have Sc := sc_is_player
  (ss_one (s_ret (e_r (r_and (r_call (D_is_whole.df hr) (by intro _; rfl) (a_cons (xv 1) a_nil)) (r_one (r_chain (fun _ => op_le) (fun _ => op_lt) ok_le1 ok_lt1 r_int (xv 1) (xv 0)))))))
theorem dk_is_player {P : Program} {w : World} {K : PySem.W.Frag} {mg : Str → Option Value} {base : Heap} {f : Addr} {fd : FuncData} (F : L2.Fun K "is_player" "is_player" s_is_player f fd) (hmg : mg "is_player" = some (.ref f)) (hb : Binds K fd ["n", "thing"] []) (D_is_whole : Dk P w K mg base 1 "is_whole" [false] a_is_whole) : Dk P w K mg base 2 "is_player" [false, false] a_is_player :=
  dk_mk F hmg hb sc_is_player rfl (by decide) (fun cdv Ar outer s H E hr => sd_is_player D_is_whole hr) (fun ds P PX h hl => by rw [eq_is_player] at h;  exact h)
noncomputable def w_left_in : WS :=
  sSeq (sSet 4 (eF (aComp (asLst (rOp ixD (rVar 0) (rCon (.int 2)))) (gTp 3 (gsCons (gNm 1) (gsCons (gNm 2) (gsCons (gNm 3) (gsNil))))) (tT) (rTup (aCons (rVar 1) (aCons (rVar 2) (aNil)))) [1, 2, 3]))) (sRet (eF (aComp (asLst (rCall a_all_matches 1 (aCons (rOp ixD (rVar 0) (rCon (.int 1))) (aNil)))) (gNm 5) (asB (rOp notInD (rVar 5) (rVar 4))) (rVar 5) [5])))
theorem ex_left_in : ∃ A : FSp, A = fun ds P PX => w_left_in (enOf [false] P PX) (env0 ds 6) := ⟨_, rfl⟩
noncomputable def a_left_in : FSp := Classical.choose ex_left_in
theorem eq_left_in : a_left_in = fun ds P PX => w_left_in (enOf [false] P PX) (env0 ds 6) := Classical.choose_spec ex_left_in
abbrev s_left_in : Stmt := topS 14
theorem sc_left_in : FnScope ["league", "i", "j", "w", "met", "match"] ["league"] (defScope s_left_in) := ⟨rfl, rfl, rfl, by decide +kernel, rfl, by decide +kernel, by decide +kernel⟩
theorem sd_left_in {P : Program} {w : World} {K : PySem.W.Frag} {mg : Str → Option Value} {base : Heap} (D_all_matches : Dk P w K mg base 1 "all_matches" [false] a_all_matches) {f : Addr} {cdv : Value} {Ar : Around} {outer : List PySem.Env} {s : Shared} {H : Hp} {E : XK}
    (hr : Room 1 (Ar.deeper (envOfC "left_in" (defScope s_left_in) s.heap.objs.size f cdv))) : SndSs (bx P w K mg base ["league", "i", "j", "w", "met", "match"] "left_in" s_left_in f cdv Ar outer s H E) K (wx E) (mutIx [false] 0) (defBody s_left_in) w_left_in :=
  have Sc := sc_left_in
  (ss_cons (sset 4 (fun _ => Sc.nd) (e_f (f_comp (comp_read (own := [("i", 1), ("j", 2), ("w", 3)]) (i_list (by intro _; rfl) (r_ix (fun _ => ix_seq) ok_ix (xv 0) r_int (fun _ _ => rfl))) (g_tup (by intro _; rfl) (gs_cons (gnm 1 (fun _ => Sc.nd)) (gs_cons (gnm 2 (fun _ => Sc.nd)) (gs_cons (gnm 3 (fun _ => Sc.nd)) gs_nil (fun t u h1 h2 j => pgs_cons (h1 j) (h2 j))) (fun t u h1 h2 j => pgs_cons (h1 j) (h2 j))) (fun t u h1 h2 j => pgs_cons (h1 j) (h2 j))) (fun u h j => pg_tup rfl (h j))) ts_nil (r_tup (a_cons (xv 1) (a_cons (xv 2) a_nil)))) (by intro _; rfl) (fun _ => Sc.nd) (fun _ => blkOk_by (own := [("i", 1), ("j", 2), ("w", 3)]) rfl)))) (ss_one (s_ret (e_f (f_comp (comp_read (own := [("match", 5)]) (i_list (by intro _; rfl) (r_call (D_all_matches.df hr) (by intro _; rfl) (a_cons (r_ix (fun _ => ix_seq) ok_ix (xv 0) r_int (fun _ _ => rfl)) a_nil))) (gnm 5 (fun _ => Sc.nd)) (ts_one (t_cmp (fun _ => op_notInA rfl hr.u65) ok_notIn (xv 5) (xv 4) rfl)) (xv 5)) (by intro _; rfl) (fun _ => Sc.nd) (fun _ => blkOk_by (own := [("match", 5)]) rfl))))))
theorem dk_left_in {P : Program} {w : World} {K : PySem.W.Frag} {mg : Str → Option Value} {base : Heap} {f : Addr} {fd : FuncData} (F : L2.Fun K "left_in" "left_in" s_left_in f fd) (hmg : mg "left_in" = some (.ref f)) (hb : Binds K fd ["league"] []) (D_all_matches : Dk P w K mg base 1 "all_matches" [false] a_all_matches) : Dk P w K mg base 2 "left_in" [false] a_left_in :=
  dk_mk F hmg hb sc_left_in rfl (by decide) (fun cdv Ar outer s H E hr => sd_left_in D_all_matches hr) (fun ds P PX h hl => by rw [eq_left_in] at h;  exact h)
noncomputable def w_gains_of : WS :=
  sSeq (sIf (bT (asB (rOp isND (rVar 3) (rCon .non)))) (sRet (eR (rTup (aCons (rCon (.int 1)) (aCons (rCon (.int 1)) (aNil)))))) (sNil)) (sRet (eR (rTup (aCons (rOp mulD (rCall a_worth_in 1 (aCons (rVar 0) (aNil))) (rCB intD (aCons (rOp eqD (rVar 3) (rVar 1)) (aNil)))) (aCons (rOp mulD (rCall a_worth_in 1 (aCons (rVar 0) (aNil))) (rCB intD (aCons (rOp eqD (rVar 3) (rVar 2)) (aNil)))) (aNil))))))
theorem ex_gains_of : ∃ A : FSp, A = fun ds P PX => w_gains_of (enOf [false, false, false, false] P PX) (env0 ds 4) := ⟨_, rfl⟩
noncomputable def a_gains_of : FSp := Classical.choose ex_gains_of
theorem eq_gains_of : a_gains_of = fun ds P PX => w_gains_of (enOf [false, false, false, false] P PX) (env0 ds 4) := Classical.choose_spec ex_gains_of
abbrev s_gains_of : Stmt := topS 15
theorem sc_gains_of : FnScope ["kind", "i", "j", "w"] ["kind", "i", "j", "w"] (defScope s_gains_of) := ⟨rfl, rfl, rfl, by decide +kernel, rfl, by decide +kernel, by decide +kernel⟩
theorem sd_gains_of {P : Program} {w : World} {K : PySem.W.Frag} {mg : Str → Option Value} {base : Heap} (z_int : mg "int" = none) (D_worth_in : Dk P w K mg base 1 "worth_in" [false] a_worth_in) {f : Addr} {cdv : Value} {Ar : Around} {outer : List PySem.Env} {s : Shared} {H : Hp} {E : XK}
    (hr : Room 1 (Ar.deeper (envOfC "gains_of" (defScope s_gains_of) s.heap.objs.size f cdv))) : SndSs (bx P w K mg base ["kind", "i", "j", "w"] "gains_of" s_gains_of f cdv Ar outer s H E) K (wx E) (mutIx [false, false, false, false] 0) (defBody s_gains_of) w_gains_of :=
  have Sc := sc_gains_of
  (ss_cons (s_if (b_t (t_cmp (fun _ => op_isA) ok_is (xv 3) r_non (nomark _))) (ss_one (s_ret (e_r (r_tup (a_cons r_int (a_cons r_int a_nil)))))) ss_nil) (ss_one (s_ret (e_r (r_tup (a_cons (r_bin (fun _ => op_mul) ok_mul (r_call (D_worth_in.df hr) (by intro _; rfl) (a_cons (xv 0) a_nil)) (r_callTy (fun _ => call_int1) ok_int (by intro _; rfl) (fun _ => z_int) (by decide +kernel) (a_cons (r_cmp (fun _ => op_eqD hr.u64) ok_eq (xv 3) (xv 1) (nomark _)) a_nil))) (a_cons (r_bin (fun _ => op_mul) ok_mul (r_call (D_worth_in.df hr) (by intro _; rfl) (a_cons (xv 0) a_nil)) (r_callTy (fun _ => call_int1) ok_int (by intro _; rfl) (fun _ => z_int) (by decide +kernel) (a_cons (r_cmp (fun _ => op_eqD hr.u64) ok_eq (xv 3) (xv 2) (nomark _)) a_nil))) a_nil)))))))
theorem dk_gains_of {P : Program} {w : World} {K : PySem.W.Frag} {mg : Str → Option Value} {base : Heap} {f : Addr} {fd : FuncData} (F : L2.Fun K "gains_of" "gains_of" s_gains_of f fd) (hmg : mg "gains_of" = some (.ref f)) (hb : Binds K fd ["kind", "i", "j", "w"] []) (z_int : mg "int" = none) (D_worth_in : Dk P w K mg base 1 "worth_in" [false] a_worth_in) : Dk P w K mg base 2 "gains_of" [false, false, false, false] a_gains_of :=
  dk_mk F hmg hb sc_gains_of rfl (by decide) (fun cdv Ar outer s H E hr => sd_gains_of z_int D_worth_in hr) (fun ds P PX h hl => by rw [eq_gains_of] at h;  exact h)
noncomputable def w__law_outcome : WS :=
  sRet (eOp ixD (eF (fLst (aCons (rVar 2) (aCons (rVar 3) (aCons (rOp ixD (rF (fLst (aCons (rCon .non) (aCons (rVar 2) (aNil))))) (rCB intD (aCons (rOp eqD (rVar 1) (rCon (.str "plain"))) (aNil)))) (aNil)))))) (eCallMR a__law_draw [some 0, none] (aCons (rCon (.int 3)) (aNil))))
theorem ex__law_outcome : ∃ A : FSp, A = fun ds P PX => w__law_outcome (enOf [true, false, false, false] P PX) (env0 ds 4) := ⟨_, rfl⟩
noncomputable def a__law_outcome : FSp := Classical.choose ex__law_outcome
theorem eq__law_outcome : a__law_outcome = fun ds P PX => w__law_outcome (enOf [true, false, false, false] P PX) (env0 ds 4) := Classical.choose_spec ex__law_outcome
abbrev s__law_outcome : Stmt := topS 23
theorem sc__law_outcome : FnScope ["deck", "kind", "i", "j"] ["deck", "kind", "i", "j"] (defScope s__law_outcome) := ⟨rfl, rfl, rfl, by decide +kernel, rfl, by decide +kernel, by decide +kernel⟩
theorem sd__law_outcome {P : Program} {w : World} {K : PySem.W.Frag} {mg : Str → Option Value} {base : Heap} (z_int : mg "int" = none) (D__law_draw : Dk P w K mg base 1 "_law_draw" [true, false] a__law_draw) {f : Addr} {cdv : Value} {Ar : Around} {outer : List PySem.Env} {s : Shared} {H : Hp} {E : XK}
    (hr : Room 1 (Ar.deeper (envOfC "_law_outcome" (defScope s__law_outcome) s.heap.objs.size f cdv))) : SndSs (bx P w K mg base ["deck", "kind", "i", "j"] "_law_outcome" s__law_outcome f cdv Ar outer s H E) K (wx E) (mutIx [true, false, false, false] 0) (defBody s__law_outcome) w__law_outcome :=
  have Sc := sc__law_outcome
  (ss_one (s_ret (e_ix (fun _ => ix_seq) ok_ix (e_f (f_lst (a_cons (xv 2) (a_cons (xv 3) (a_cons (r_ix (fun _ => ix_seq) ok_ix (r_f (f_lst (a_cons r_non (a_cons (xv 2) a_nil)))) (r_callTy (fun _ => call_int1) ok_int (by intro _; rfl) (fun _ => z_int) (by decide +kernel) (a_cons (r_cmp (fun _ => op_eqD hr.u64) ok_eq (xv 1) r_str (nomark _)) a_nil)) (fun _ _ => rfl)) a_nil))))) (e_callMR bx_takes (D__law_draw.df hr) (by intro _; rfl) (mr_mut 0 (mr_val r_int mr_nil))) (fun _ _ => rfl))))
theorem dk__law_outcome {P : Program} {w : World} {K : PySem.W.Frag} {mg : Str → Option Value} {base : Heap} {f : Addr} {fd : FuncData} (F : L2.Fun K "_law_outcome" "_law_outcome" s__law_outcome f fd) (hmg : mg "_law_outcome" = some (.ref f)) (hb : Binds K fd ["deck", "kind", "i", "j"] []) (z_int : mg "int" = none) (D__law_draw : Dk P w K mg base 1 "_law_draw" [true, false] a__law_draw) : Dk P w K mg base 2 "_law_outcome" [true, false, false, false] a__law_outcome :=
  dk_mk F hmg hb sc__law_outcome rfl (by decide) (fun cdv Ar outer s H E hr => sd__law_outcome z_int D__law_draw hr) (fun ds P PX h hl => by rw [eq__law_outcome] at h;  exact h)
noncomputable def w_is_played : WS :=
  sSeq (sIf (bT (tOrT (tNotT (asB (rIsi' "tuple" (rVar 2)))) (asB (rOp neD (rCB lenD (aCons (rVar 2) (aNil))) (rCon (.int 3)))))) (sRet (eR (rCon (.bl false)))) (sNil)) (sSeq (sUnp (gTp 3 (gsCons (gNm 3) (gsCons (gNm 4) (gsCons (gNm 5) (gsNil))))) (eZ [2] (rVar 2))) (sSeq (sIf (bT (tOrT (tNotT (asB (rCall a_is_player 2 (aCons (rVar 1) (aCons (rVar 3) (aNil)))))) (tOrT (tNotT (asB (rCall a_is_player 2 (aCons (rVar 1) (aCons (rVar 4) (aNil)))))) (asB (rOp geD (rVar 3) (rVar 4)))))) (sRet (eR (rCon (.bl false)))) (sNil)) (sSeq (sIf (bT (asB (rOp isND (rVar 5) (rCon .non)))) (sRet (eR (rOp eqD (rVar 0) (rCon (.str "ties"))))) (sNil)) (sRet (eR (rAnd (rCall a_is_player 2 (aCons (rVar 1) (aCons (rVar 5) (aNil)))) (rOp inD (rVar 5) (rTup (aCons (rVar 3) (aCons (rVar 4) (aNil)))))))))))
theorem ex_is_played : ∃ A : FSp, A = fun ds P PX => w_is_played (enOf [false, false, false] P PX) (env0 ds 6) := ⟨_, rfl⟩
noncomputable def a_is_played : FSp := Classical.choose ex_is_played
theorem eq_is_played : a_is_played = fun ds P PX => w_is_played (enOf [false, false, false] P PX) (env0 ds 6) := Classical.choose_spec ex_is_played
abbrev s_is_played : Stmt := topS 11
theorem sc_is_played : FnScope ["kind", "n", "thing", "i", "j", "w"] ["kind", "n", "thing"] (defScope s_is_played) := ⟨rfl, rfl, rfl, by decide +kernel, rfl, by decide +kernel, by decide +kernel⟩
theorem sd_is_played {P : Program} {w : World} {K : PySem.W.Frag} {mg : Str → Option Value} {base : Heap} (z_isinstance : mg "isinstance" = none) (z_tuple : mg "tuple" = none) (z_len : mg "len" = none) (D_is_player : Dk P w K mg base 2 "is_player" [false, false] a_is_player) {f : Addr} {cdv : Value} {Ar : Around} {outer : List PySem.Env} {s : Shared} {H : Hp} {E : XK}
    (hr : Room 2 (Ar.deeper (envOfC "is_played" (defScope s_is_played) s.heap.objs.size f cdv))) : SndSs (bx P w K mg base ["kind", "n", "thing", "i", "j", "w"] "is_played" s_is_played f cdv Ar outer s H E) K (wx E) (mutIx [false, false, false] 0) (defBody s_is_played) w_is_played :=
  have Sc := sc_is_played
  (ss_cons (s_if (b_t (t_w (w_or (t_not (t_val (r_isi (by intro _; rfl) (xv 2) rfl (by intro _; rfl) (fun _ => z_isinstance) (by decide +kernel) (by intro _; rfl) (fun _ => z_tuple) (by decide +kernel) (by decide)))) (w_or1 (t_cmp (fun _ => op_neD hr.u64) ok_ne (r_callB (fun _ => c_len rfl) ok_len (by intro _; rfl) (fun _ => z_len) (by decide +kernel) (a_cons (xv 2) a_nil)) r_int (nomark _)))))) (ss_one (s_ret (e_r r_bl))) ss_nil) (ss_cons (s_unp (e_z [2] (xv 2)) (g_tup (by intro _; rfl) (gs_cons (gnm 3 (fun _ => Sc.nd)) (gs_cons (gnm 4 (fun _ => Sc.nd)) (gs_cons (gnm 5 (fun _ => Sc.nd)) gs_nil (fun t u h1 h2 j => pgs_cons (h1 j) (h2 j))) (fun t u h1 h2 j => pgs_cons (h1 j) (h2 j))) (fun t u h1 h2 j => pgs_cons (h1 j) (h2 j))) (fun u h j => pg_tup rfl (h j))) (fun t u h1 h2 j => ps_asg (h1 j) (h2 j))) (ss_cons (s_if (b_t (t_w (w_or (t_not (t_val (r_call (D_is_player.df hr) (by intro _; rfl) (a_cons (xv 1) (a_cons (xv 3) a_nil))))) (w_or (t_not (t_val (r_call (D_is_player.df hr) (by intro _; rfl) (a_cons (xv 1) (a_cons (xv 4) a_nil))))) (w_or1 (t_cmp (fun _ => op_geA rfl hr.units0) ok_ord (xv 3) (xv 4) (nomark _))))))) (ss_one (s_ret (e_r r_bl))) ss_nil) (ss_cons (s_if (b_t (t_cmp (fun _ => op_isA) ok_is (xv 5) r_non (nomark _))) (ss_one (s_ret (e_r (r_cmp (fun _ => op_eqD hr.u64) ok_eq (xv 0) r_str (nomark _))))) ss_nil) (ss_one (s_ret (e_r (r_and (r_call (D_is_player.df hr) (by intro _; rfl) (a_cons (xv 1) (a_cons (xv 5) a_nil))) (r_one (r_cmp (fun _ => op_inA rfl hr.u65) ok_in (xv 5) (r_tup (a_cons (xv 3) (a_cons (xv 4) a_nil))) rfl))))))))))
theorem dk_is_played {P : Program} {w : World} {K : PySem.W.Frag} {mg : Str → Option Value} {base : Heap} {f : Addr} {fd : FuncData} (F : L2.Fun K "is_played" "is_played" s_is_played f fd) (hmg : mg "is_played" = some (.ref f)) (hb : Binds K fd ["kind", "n", "thing"] []) (z_isinstance : mg "isinstance" = none) (z_tuple : mg "tuple" = none) (z_len : mg "len" = none) (D_is_player : Dk P w K mg base 2 "is_player" [false, false] a_is_player) : Dk P w K mg base 3 "is_played" [false, false, false] a_is_played :=
  dk_mk F hmg hb sc_is_played rfl (by decide) (fun cdv Ar outer s H E hr => sd_is_played z_isinstance z_tuple z_len D_is_player hr) (fun ds P PX h hl => by rw [eq_is_played] at h;  exact h)
noncomputable def w_had_in : WS :=
  sSeq (sSet 1 (eF (fRep (aCons (rCon (.int 0)) (aNil)) (rOp ixD (rVar 0) (rCon (.int 1)))))) (sSeq (sFor (lZ [0] (asLst (rOp ixD (rVar 0) (rCon (.int 2))))) (gTp 3 (gsCons (gNm 2) (gsCons (gNm 3) (gsCons (gNm 4) (gsNil))))) (sSeq (sUnp (gTp 2 (gsCons (gNm 5) (gsCons (gNm 6) (gsNil)))) (eCallR a_gains_of 4 (aCons (rOp ixD (rVar 0) (rCon (.int 0))) (aCons (rVar 2) (aCons (rVar 3) (aCons (rVar 4) (aNil))))))) (sSeq (sAugIx 1 (fun a b => a + b) (rVar 2) (rVar 5)) (sAugIx 1 (fun a b => a + b) (rVar 3) (rVar 6))))) (sRet (eMov 1)))
theorem ex_had_in : ∃ A : FSp, A = fun ds P PX => w_had_in (enOf [false] P PX) (env0 ds 7) := ⟨_, rfl⟩
noncomputable def a_had_in : FSp := Classical.choose ex_had_in
theorem eq_had_in : a_had_in = fun ds P PX => w_had_in (enOf [false] P PX) (env0 ds 7) := Classical.choose_spec ex_had_in
abbrev s_had_in : Stmt := topS 16
theorem sc_had_in : FnScope ["league", "found", "i", "j", "w", "one", "other"] ["league"] (defScope s_had_in) := ⟨rfl, rfl, rfl, by decide +kernel, rfl, by decide +kernel, by decide +kernel⟩
theorem sd_had_in {P : Program} {w : World} {K : PySem.W.Frag} {mg : Str → Option Value} {base : Heap} (D_gains_of : Dk P w K mg base 2 "gains_of" [false, false, false, false] a_gains_of) {f : Addr} {cdv : Value} {Ar : Around} {outer : List PySem.Env} {s : Shared} {H : Hp} {E : XK}
    (hr : Room 2 (Ar.deeper (envOfC "had_in" (defScope s_had_in) s.heap.objs.size f cdv))) : SndSs (bx P w K mg base ["league", "found", "i", "j", "w", "one", "other"] "had_in" s_had_in f cdv Ar outer s H E) K (wx E) (mutIx [false] 0) (defBody s_had_in) w_had_in :=
  have Sc := sc_had_in
  (ss_cons (sset 1 (fun _ => Sc.nd) (e_f (f_rep (a_cons r_int a_nil) (r_ix (fun _ => ix_seq) ok_ix (xv 0) r_int (fun _ _ => rfl))))) (ss_cons (s_for bx_passes (by intro _; rfl) (ie_z [0] (i_list (by intro _; rfl) (r_ix (fun _ => ix_seq) ok_ix (xv 0) r_int (fun _ _ => rfl)))) (g_tup (by intro _; rfl) (gs_cons (gnm 2 (fun _ => Sc.nd)) (gs_cons (gnm 3 (fun _ => Sc.nd)) (gs_cons (gnm 4 (fun _ => Sc.nd)) gs_nil (fun t u h1 h2 j => pgs_cons (h1 j) (h2 j))) (fun t u h1 h2 j => pgs_cons (h1 j) (h2 j))) (fun t u h1 h2 j => pgs_cons (h1 j) (h2 j))) (fun u h j => pg_tup rfl (h j))) (ss_cons (s_unp (e_callR bx_takes (D_gains_of.df hr) (by intro _; rfl) (a_cons (r_ix (fun _ => ix_seq) ok_ix (xv 0) r_int (fun _ _ => rfl)) (a_cons (xv 2) (a_cons (xv 3) (a_cons (xv 4) a_nil))))) (g_tup (by intro _; rfl) (gs_cons (gnm 5 (fun _ => Sc.nd)) (gs_cons (gnm 6 (fun _ => Sc.nd)) gs_nil (fun t u h1 h2 j => pgs_cons (h1 j) (h2 j))) (fun t u h1 h2 j => pgs_cons (h1 j) (h2 j))) (fun u h j => pg_tup rfl (h j))) (fun t u h1 h2 j => ps_asg (h1 j) (h2 j))) (ss_cons (s_augix 1 (xv 5) (xv 2) (fun t ti h1 h2 j => ps_augS (pv 1) (h2 j) (get_list rfl) (h1 j) ip_add set_list)) (ss_one (s_augix 1 (xv 6) (xv 3) (fun t ti h1 h2 j => ps_augS (pv 1) (h2 j) (get_list rfl) (h1 j) ip_add set_list)))))) (ss_one (s_ret (xmov 1)))))
theorem dk_had_in {P : Program} {w : World} {K : PySem.W.Frag} {mg : Str → Option Value} {base : Heap} {f : Addr} {fd : FuncData} (F : L2.Fun K "had_in" "had_in" s_had_in f fd) (hmg : mg "had_in" = some (.ref f)) (hb : Binds K fd ["league"] []) (D_gains_of : Dk P w K mg base 2 "gains_of" [false, false, false, false] a_gains_of) : Dk P w K mg base 3 "had_in" [false] a_had_in :=
  dk_mk F hmg hb sc_had_in rfl (by decide) (fun cdv Ar outer s H E hr => sd_had_in D_gains_of hr) (fun ds P PX h hl => by rw [eq_had_in] at h;  exact h)
noncomputable def w__law_some_league_0 : WS :=
  sIf (bT (asB (rVar 8))) (sExpr (eMeth 5 mApp (lCons (eTup (lCons (eR (rOp ixD (rVar 7) (rCon (.int 0)))) (lCons (eR (rOp ixD (rVar 7) (rCon (.int 1)))) (lCons (eCallMR a__law_outcome [some 0, none, none, none] (aCons (rVar 1) (aCons (rOp ixD (rVar 7) (rCon (.int 0))) (aCons (rOp ixD (rVar 7) (rCon (.int 1))) (aNil))))) (lNil))))) (lNil)))) (sNil)
noncomputable def w__law_some_league_1 : WS :=
  sSeq (sSet 8 (eOp ixD (eLst (lCons (eR (rCon (.bl false))) (lCons (eR (rCon (.bl true))) (lCons (eOp eqD (eCallMR a__law_draw [some 0, none] (aCons (rCon (.int 2)) (aNil))) (eR (rCon (.int 0)))) (lCons (eOp eqD (eCallMR a__law_draw [some 0, none] (aCons (rCon (.int 5)) (aNil))) (eR (rCon (.int 0)))) (lCons (eR (rOp ltD (rVar 6) (rVar 4))) (lNil))))))) (eR (rVar 3)))) w__law_some_league_0
noncomputable def w__law_some_league_2 : WS :=
  sRet (eTup (lCons (eR (rVar 1)) (lCons (eR (rVar 2)) (lCons (eMov 5) (lNil)))))
noncomputable def w__law_some_league_3 : WS :=
  sSeq (sFor (lEnum (lCons (eCallR a__law_pairs 1 (aCons (rVar 2) (aNil))) (lNil))) (gTp 2 (gsCons (gNm 6) (gsCons (gNm 7) (gsNil)))) (w__law_some_league_1)) w__law_some_league_2
noncomputable def w__law_some_league_4 : WS :=
  sSeq (sSet 5 (eF (fLst (aNil)))) w__law_some_league_3
noncomputable def w__law_some_league_5 : WS :=
  sSeq (sSet 4 (eCallMR a__law_draw [some 0, none] (aCons (rCon (.int 16)) (aNil)))) w__law_some_league_4
noncomputable def w__law_some_league_6 : WS :=
  sSeq (sSet 3 (eCallMR a__law_draw [some 0, none] (aCons (rCon (.int 5)) (aNil)))) w__law_some_league_5
noncomputable def w__law_some_league_7 : WS :=
  sSeq (sSet 2 (eOp ixD (eLst (lCons (eOp addD (eR (rCon (.int 2))) (eCallMR a__law_draw [some 0, none] (aCons (rCon (.int 5)) (aNil)))) (lCons (eR (rCon (.int 6))) (lCons (eOp addD (eR (rCon (.int 4))) (eCallMR a__law_draw [some 0, none] (aCons (rCon (.int 3)) (aNil)))) (lNil))))) (eCallMR a__law_draw [some 0, none] (aCons (rCon (.int 3)) (aNil))))) w__law_some_league_6
noncomputable def w__law_some_league_8 : WS :=
  sSeq (sSet 1 (eOp ixD (eF (fLst (aCons (rCon (.str "plain")) (aCons (rCon (.str "ties")) (aNil))))) (eCallMR a__law_draw [some 0, none] (aCons (rCon (.int 2)) (aNil))))) w__law_some_league_7
noncomputable def w__law_some_league : WS := w__law_some_league_8
noncomputable def v__law_some_league : WS :=
  sSeq (sSet 1 (eOp ixD (eF (fLst (aCons (rCon (.str "plain")) (aCons (rCon (.str "ties")) (aNil))))) (eCallMR a__law_draw [some 0, none] (aCons (rCon (.int 2)) (aNil))))) (sSeq (sSet 2 (eOp ixD (eLst (lCons (eOp addD (eR (rCon (.int 2))) (eCallMR a__law_draw [some 0, none] (aCons (rCon (.int 5)) (aNil)))) (lCons (eR (rCon (.int 6))) (lCons (eOp addD (eR (rCon (.int 4))) (eCallMR a__law_draw [some 0, none] (aCons (rCon (.int 3)) (aNil)))) (lNil))))) (eCallMR a__law_draw [some 0, none] (aCons (rCon (.int 3)) (aNil))))) (sSeq (sSet 3 (eCallMR a__law_draw [some 0, none] (aCons (rCon (.int 5)) (aNil)))) (sSeq (sSet 4 (eCallMR a__law_draw [some 0, none] (aCons (rCon (.int 16)) (aNil)))) (sSeq (sSet 5 (eF (fLst (aNil)))) (sSeq (sFor (lEnum (lCons (eCallR a__law_pairs 1 (aCons (rVar 2) (aNil))) (lNil))) (gTp 2 (gsCons (gNm 6) (gsCons (gNm 7) (gsNil)))) (sSeq (sSet 8 (eOp ixD (eLst (lCons (eR (rCon (.bl false))) (lCons (eR (rCon (.bl true))) (lCons (eOp eqD (eCallMR a__law_draw [some 0, none] (aCons (rCon (.int 2)) (aNil))) (eR (rCon (.int 0)))) (lCons (eOp eqD (eCallMR a__law_draw [some 0, none] (aCons (rCon (.int 5)) (aNil))) (eR (rCon (.int 0)))) (lCons (eR (rOp ltD (rVar 6) (rVar 4))) (lNil))))))) (eR (rVar 3)))) (sIf (bT (asB (rVar 8))) (sExpr (eMeth 5 mApp (lCons (eTup (lCons (eR (rOp ixD (rVar 7) (rCon (.int 0)))) (lCons (eR (rOp ixD (rVar 7) (rCon (.int 1)))) (lCons (eCallMR a__law_outcome [some 0, none, none, none] (aCons (rVar 1) (aCons (rOp ixD (rVar 7) (rCon (.int 0))) (aCons (rOp ixD (rVar 7) (rCon (.int 1))) (aNil))))) (lNil))))) (lNil)))) (sNil)))) (sRet (eTup (lCons (eR (rVar 1)) (lCons (eR (rVar 2)) (lCons (eMov 5) (lNil)))))))))))
theorem wv__law_some_league : v__law_some_league = w__law_some_league := rfl
theorem ex__law_some_league : ∃ A : FSp, A = fun ds P PX => w__law_some_league (enOf [true] P PX) (env0 ds 9) := ⟨_, rfl⟩
noncomputable def a__law_some_league : FSp := Classical.choose ex__law_some_league
theorem eq__law_some_league : a__law_some_league = fun ds P PX => w__law_some_league (enOf [true] P PX) (env0 ds 9) := Classical.choose_spec ex__law_some_league
abbrev s__law_some_league : Stmt := topS 24
theorem sc__law_some_league : FnScope ["deck", "kind", "n", "way", "most", "played", "k", "pair", "taken"] ["deck"] (defScope s__law_some_league) := ⟨rfl, rfl, rfl, by decide +kernel, rfl, by decide +kernel, by decide +kernel⟩
theorem sd__law_some_league {P : Program} {w : World} {K : PySem.W.Frag} {mg : Str → Option Value} {base : Heap} (z_enumerate : mg "enumerate" = none) (D__law_draw : Dk P w K mg base 1 "_law_draw" [true, false] a__law_draw) (D__law_pairs : Dk P w K mg base 1 "_law_pairs" [false] a__law_pairs) (D__law_outcome : Dk P w K mg base 2 "_law_outcome" [true, false, false, false] a__law_outcome) {f : Addr} {cdv : Value} {Ar : Around} {outer : List PySem.Env} {s : Shared} {H : Hp} {E : XK}
    (hr : Room 2 (Ar.deeper (envOfC "_law_some_league" (defScope s__law_some_league) s.heap.objs.size f cdv))) : SndSs (bx P w K mg base ["deck", "kind", "n", "way", "most", "played", "k", "pair", "taken"] "_law_some_league" s__law_some_league f cdv Ar outer s H E) K (wx E) (mutIx [true] 0) (defBody s__law_some_league) v__law_some_league :=
  have Sc := sc__law_some_league
  (ss_cons (sset 1 (fun _ => Sc.nd) (e_ix (fun _ => ix_seq) ok_ix (e_f (f_lst (a_cons r_str (a_cons r_str a_nil)))) (e_callMR bx_takes (D__law_draw.df hr) (by intro _; rfl) (mr_mut 0 (mr_val r_int mr_nil))) (fun _ _ => rfl))) (ss_cons (sset 2 (fun _ => Sc.nd) (e_ix (fun _ => ix_seq) ok_ix (e_lst (l_cons (e_bin (fun _ => op_addA rfl) ok_add (e_r r_int) (e_callMR bx_takes (D__law_draw.df hr) (by intro _; rfl) (mr_mut 0 (mr_val r_int mr_nil)))) (l_cons (e_r r_int) (l_cons (e_bin (fun _ => op_addA rfl) ok_add (e_r r_int) (e_callMR bx_takes (D__law_draw.df hr) (by intro _; rfl) (mr_mut 0 (mr_val r_int mr_nil)))) l_nil)))) (e_callMR bx_takes (D__law_draw.df hr) (by intro _; rfl) (mr_mut 0 (mr_val r_int mr_nil))) (fun _ _ => rfl))) (ss_cons (sset 3 (fun _ => Sc.nd) (e_callMR bx_takes (D__law_draw.df hr) (by intro _; rfl) (mr_mut 0 (mr_val r_int mr_nil)))) (ss_cons (sset 4 (fun _ => Sc.nd) (e_callMR bx_takes (D__law_draw.df hr) (by intro _; rfl) (mr_mut 0 (mr_val r_int mr_nil)))) (ss_cons (sset 5 (fun _ => Sc.nd) (e_f (f_lst a_nil))) (ss_cons (s_for bx_passes (by intro _; rfl) (ie_enum (by intro _; rfl) (by intro _; rfl) (fun _ => z_enumerate) (l_cons (e_callR bx_takes (D__law_pairs.df hr) (by intro _; rfl) (a_cons (xv 2) a_nil)) l_nil)) (g_tup (by intro _; rfl) (gs_cons (gnm 6 (fun _ => Sc.nd)) (gs_cons (gnm 7 (fun _ => Sc.nd)) gs_nil (fun t u h1 h2 j => pgs_cons (h1 j) (h2 j))) (fun t u h1 h2 j => pgs_cons (h1 j) (h2 j))) (fun u h j => pg_tup rfl (h j))) (ss_cons (sset 8 (fun _ => Sc.nd) (e_ix (fun _ => ix_seq) ok_ix (e_lst (l_cons (e_r r_bl) (l_cons (e_r r_bl) (l_cons (e_cmp (fun _ => op_eqD hr.u64) ok_eq (e_callMR bx_takes (D__law_draw.df hr) (by intro _; rfl) (mr_mut 0 (mr_val r_int mr_nil))) (e_r r_int) (nomark _)) (l_cons (e_cmp (fun _ => op_eqD hr.u64) ok_eq (e_callMR bx_takes (D__law_draw.df hr) (by intro _; rfl) (mr_mut 0 (mr_val r_int mr_nil))) (e_r r_int) (nomark _)) (l_cons (e_r (r_cmp (fun _ => op_ltA rfl hr.units0) ok_ord (xv 6) (xv 4) (nomark _))) l_nil)))))) (e_r (xv 3)) (fun _ _ => rfl))) (ss_one (s_if (b_t (t_val (xv 8))) (ss_one (s_expr (e_meth 5 ok_app (l_cons (e_tup (l_cons (e_r (r_ix (fun _ => ix_seq) ok_ix (xv 7) r_int (fun _ _ => rfl))) (l_cons (e_r (r_ix (fun _ => ix_seq) ok_ix (xv 7) r_int (fun _ _ => rfl))) (l_cons (e_callMR bx_takes (D__law_outcome.df hr) (by intro _; rfl) (mr_mut 0 (mr_val (xv 1) (mr_val (r_ix (fun _ => ix_seq) ok_ix (xv 7) r_int (fun _ _ => rfl)) (mr_val (r_ix (fun _ => ix_seq) ok_ix (xv 7) r_int (fun _ _ => rfl)) mr_nil))))) l_nil)))) l_nil) (fun ta h j => pe_bm PySem.F.plainAttrs_list PySem.F.slot_list_append PySem.F.type_list_append mt_append (pv 5) (h j))))) ss_nil)))) (ss_one (s_ret (e_tup (l_cons (e_r (xv 1)) (l_cons (e_r (xv 2)) (l_cons (xmov 5) l_nil))))))))))))
theorem dk__law_some_league {P : Program} {w : World} {K : PySem.W.Frag} {mg : Str → Option Value} {base : Heap} {f : Addr} {fd : FuncData} (F : L2.Fun K "_law_some_league" "_law_some_league" s__law_some_league f fd) (hmg : mg "_law_some_league" = some (.ref f)) (hb : Binds K fd ["deck"] []) (z_enumerate : mg "enumerate" = none) (D__law_draw : Dk P w K mg base 1 "_law_draw" [true, false] a__law_draw) (D__law_pairs : Dk P w K mg base 1 "_law_pairs" [false] a__law_pairs) (D__law_outcome : Dk P w K mg base 2 "_law_outcome" [true, false, false, false] a__law_outcome) : Dk P w K mg base 3 "_law_some_league" [true] a__law_some_league :=
  dk_mk F hmg hb sc__law_some_league rfl (by decide) (fun cdv Ar outer s H E hr => sd__law_some_league z_enumerate D__law_draw D__law_pairs D__law_outcome hr) (fun ds P PX h hl => by rw [eq__law_some_league] at h; rw [wv__law_some_league]; exact h)
noncomputable def w_is_league : WS :=
  sSeq (sIf (bT (tOrT (tNotT (asB (rIsi' "tuple" (rVar 0)))) (asB (rOp neD (rCB lenD (aCons (rVar 0) (aNil))) (rCon (.int 3)))))) (sRet (eR (rCon (.bl false)))) (sNil)) (sSeq (sUnp (gTp 3 (gsCons (gNm 1) (gsCons (gNm 2) (gsCons (gNm 3) (gsNil))))) (eZ [0] (rVar 0))) (sSeq (sIf (bT (tOrT (tNotT (asB (rIsi' "str" (rVar 1)))) (tOrT (asB (rOp notInD (rVar 1) (rCon c_KINDS))) (tOrT (tNotT (asB (rCall a_is_whole 1 (aCons (rVar 2) (aNil))))) (tNotT (asB (rChain leI leI (rCon c_FEWEST) (rVar 2) (rCon c_MOST)))))))) (sRet (eR (rCon (.bl false)))) (sNil)) (sSeq (sIf (bT (tOrT (tNotT (asB (rIsi' "list" (rVar 3)))) (asB (rOp neD (rF (aComp (asLst (rVar 3)) (gNm 4) (tNotT (asB (rCall a_is_played 3 (aCons (rVar 1) (aCons (rVar 2) (aCons (rVar 4) (aNil))))))) (rVar 4) [4])) (rF (fLst (aNil))))))) (sRet (eR (rCon (.bl false)))) (sNil)) (sRet (eR (rOp eqD (rF (aComp (aRng2 (aCons (rCon (.int 1)) (aCons (rCB lenD (aCons (rVar 3) (aNil))) (aNil)))) (gNm 5) (asB (rOp geD (rSlT (rOp ixD (rVar 3) (rOp subD (rVar 5) (rCon (.int 1)))) (oNone) (oSome (rCon (.int 2)))) (rSlT (rOp ixD (rVar 3) (rVar 5)) (oNone) (oSome (rCon (.int 2)))))) (rVar 5) [5])) (rF (fLst (aNil)))))))))
theorem ex_is_league : ∃ A : FSp, A = fun ds P PX => w_is_league (enOf [false] P PX) (env0 ds 6) := ⟨_, rfl⟩
noncomputable def a_is_league : FSp := Classical.choose ex_is_league
theorem eq_is_league : a_is_league = fun ds P PX => w_is_league (enOf [false] P PX) (env0 ds 6) := Classical.choose_spec ex_is_league
abbrev s_is_league : Stmt := topS 12
theorem sc_is_league : FnScope ["thing", "kind", "n", "played", "match", "k"] ["thing"] (defScope s_is_league) := ⟨rfl, rfl, rfl, by decide +kernel, rfl, by decide +kernel, by decide +kernel⟩
theorem sd_is_league {P : Program} {w : World} {K : PySem.W.Frag} {mg : Str → Option Value} {base : Heap} (z_isinstance : mg "isinstance" = none) (z_tuple : mg "tuple" = none) (z_len : mg "len" = none) (z_str : mg "str" = none) (z_list : mg "list" = none) (z_range : mg "range" = none) {u_KINDS : Value} {x_KINDS : V} (m_KINDS : mg "KINDS" = some u_KINDS) (q_KINDS : RelV x_KINDS u_KINDS) (v_KINDS : ∀ H S, Vw K H S c_KINDS x_KINDS) {u_FEWEST : Value} {x_FEWEST : V} (m_FEWEST : mg "FEWEST" = some u_FEWEST) (q_FEWEST : RelV x_FEWEST u_FEWEST) (v_FEWEST : ∀ H S, Vw K H S c_FEWEST x_FEWEST) {u_MOST : Value} {x_MOST : V} (m_MOST : mg "MOST" = some u_MOST) (q_MOST : RelV x_MOST u_MOST) (v_MOST : ∀ H S, Vw K H S c_MOST x_MOST) (D_is_whole : Dk P w K mg base 1 "is_whole" [false] a_is_whole) (D_is_played : Dk P w K mg base 3 "is_played" [false, false, false] a_is_played) {f : Addr} {cdv : Value} {Ar : Around} {outer : List PySem.Env} {s : Shared} {H : Hp} {E : XK}
    (hr : Room 3 (Ar.deeper (envOfC "is_league" (defScope s_is_league) s.heap.objs.size f cdv))) : SndSs (bx P w K mg base ["thing", "kind", "n", "played", "match", "k"] "is_league" s_is_league f cdv Ar outer s H E) K (wx E) (mutIx [false] 0) (defBody s_is_league) w_is_league :=
  have Sc := sc_is_league
  (ss_cons (s_if (b_t (t_w (w_or (t_not (t_val (r_isi (by intro _; rfl) (xv 0) rfl (by intro _; rfl) (fun _ => z_isinstance) (by decide +kernel) (by intro _; rfl) (fun _ => z_tuple) (by decide +kernel) (by decide)))) (w_or1 (t_cmp (fun _ => op_neD hr.u64) ok_ne (r_callB (fun _ => c_len rfl) ok_len (by intro _; rfl) (fun _ => z_len) (by decide +kernel) (a_cons (xv 0) a_nil)) r_int (nomark _)))))) (ss_one (s_ret (e_r r_bl))) ss_nil) (ss_cons (s_unp (e_z [0] (xv 0)) (g_tup (by intro _; rfl) (gs_cons (gnm 1 (fun _ => Sc.nd)) (gs_cons (gnm 2 (fun _ => Sc.nd)) (gs_cons (gnm 3 (fun _ => Sc.nd)) gs_nil (fun t u h1 h2 j => pgs_cons (h1 j) (h2 j))) (fun t u h1 h2 j => pgs_cons (h1 j) (h2 j))) (fun t u h1 h2 j => pgs_cons (h1 j) (h2 j))) (fun u h j => pg_tup rfl (h j))) (fun t u h1 h2 j => ps_asg (h1 j) (h2 j))) (ss_cons (s_if (b_t (t_w (w_or (t_not (t_val (r_isi (by intro _; rfl) (xv 1) rfl (by intro _; rfl) (fun _ => z_isinstance) (by decide +kernel) (by intro _; rfl) (fun _ => z_str) (by decide +kernel) (by decide)))) (w_or (t_cmp (fun _ => op_notInA rfl hr.u65) ok_notIn (xv 1) (r_glob (by intro _; rfl) (fun _ => m_KINDS) q_KINDS v_KINDS) rfl) (w_or (t_not (t_val (r_call (D_is_whole.df hr) (by intro _; rfl) (a_cons (xv 2) a_nil)))) (w_or1 (t_not (t_chain (fun _ => op_le) (fun _ => op_le) ok_le1 ok_le1 (r_glob (by intro _; rfl) (fun _ => m_FEWEST) q_FEWEST v_FEWEST) (xv 2) (r_glob (by intro _; rfl) (fun _ => m_MOST) q_MOST v_MOST))))))))) (ss_one (s_ret (e_r r_bl))) ss_nil) (ss_cons (s_if (b_t (t_w (w_or (t_not (t_val (r_isi (by intro _; rfl) (xv 3) rfl (by intro _; rfl) (fun _ => z_isinstance) (by decide +kernel) (by intro _; rfl) (fun _ => z_list) (by decide +kernel) (by decide)))) (w_or1 (t_cmp (fun _ => op_neD hr.u64) ok_ne (r_f (f_comp (comp_read (own := [("match", 4)]) (i_list (by intro _; rfl) (xv 3)) (gnm 4 (fun _ => Sc.nd)) (ts_one (t_not (t_val (r_call (D_is_played.df hr).bk (by intro _; rfl) (a_cons (xv 1) (a_cons (xv 2) (a_cons (xv 4) a_nil))))))) (xv 4)) (by intro _; rfl) (fun _ => Sc.nd) (fun _ => blkOk_by (own := [("match", 4)]) rfl))) (r_f (f_lst a_nil)) (nomark _)))))) (ss_one (s_ret (e_r r_bl))) ss_nil) (ss_one (s_ret (e_r (r_cmp (fun _ => op_eqD hr.u64) ok_eq (r_f (f_comp (comp_read (own := [("k", 5)]) (i_rng2 (by intro _; rfl) (fun _ => z_range) (a_cons r_int (a_cons (r_callB (fun _ => c_len rfl) ok_len (by intro _; rfl) (fun _ => z_len) (by decide +kernel) (a_cons (xv 3) a_nil)) a_nil)) (mk := fun u h j => pi_range2 rfl z_range (h j))) (gnm 5 (fun _ => Sc.nd)) (ts_one (t_cmp (fun _ => op_geA rfl hr.units0) ok_ord (r_slT (by intro _; rfl) (r_ix (fun _ => ix_seq) ok_ix (xv 3) (r_bin (fun _ => op_sub) ok_sub (xv 5) r_int) (fun _ _ => rfl)) o_none (o_some r_int)) (r_slT (by intro _; rfl) (r_ix (fun _ => ix_seq) ok_ix (xv 3) (xv 5) (fun _ _ => rfl)) o_none (o_some r_int)) (nomark _))) (xv 5)) (by intro _; rfl) (fun _ => Sc.nd) (fun _ => blkOk_by (own := [("k", 5)]) rfl))) (r_f (f_lst a_nil)) (nomark _)))))))))
theorem dk_is_league {P : Program} {w : World} {K : PySem.W.Frag} {mg : Str → Option Value} {base : Heap} {f : Addr} {fd : FuncData} (F : L2.Fun K "is_league" "is_league" s_is_league f fd) (hmg : mg "is_league" = some (.ref f)) (hb : Binds K fd ["thing"] []) (z_isinstance : mg "isinstance" = none) (z_tuple : mg "tuple" = none) (z_len : mg "len" = none) (z_str : mg "str" = none) (z_list : mg "list" = none) (z_range : mg "range" = none) {u_KINDS : Value} {x_KINDS : V} (m_KINDS : mg "KINDS" = some u_KINDS) (q_KINDS : RelV x_KINDS u_KINDS) (v_KINDS : ∀ H S, Vw K H S c_KINDS x_KINDS) {u_FEWEST : Value} {x_FEWEST : V} (m_FEWEST : mg "FEWEST" = some u_FEWEST) (q_FEWEST : RelV x_FEWEST u_FEWEST) (v_FEWEST : ∀ H S, Vw K H S c_FEWEST x_FEWEST) {u_MOST : Value} {x_MOST : V} (m_MOST : mg "MOST" = some u_MOST) (q_MOST : RelV x_MOST u_MOST) (v_MOST : ∀ H S, Vw K H S c_MOST x_MOST) (D_is_whole : Dk P w K mg base 1 "is_whole" [false] a_is_whole) (D_is_played : Dk P w K mg base 3 "is_played" [false, false, false] a_is_played) : Dk P w K mg base 4 "is_league" [false] a_is_league :=
  dk_mk F hmg hb sc_is_league rfl (by decide) (fun cdv Ar outer s H E hr => sd_is_league z_isinstance z_tuple z_len z_str z_list z_range m_KINDS q_KINDS v_KINDS m_FEWEST q_FEWEST v_FEWEST m_MOST q_MOST v_MOST D_is_whole D_is_played hr) (fun ds P PX h hl => by rw [eq_is_league] at h;  exact h)
noncomputable def w_need_league : WS :=
  sIf (bT (tNotT (asB (rCall a_is_league 1 (aCons (rVar 0) (aNil)))))) (sNever) (sNil)
theorem ex_need_league : ∃ A : FSp, A = fun ds P PX => w_need_league (enOf [false] P PX) (env0 ds 1) := ⟨_, rfl⟩
noncomputable def a_need_league : FSp := Classical.choose ex_need_league
theorem eq_need_league : a_need_league = fun ds P PX => w_need_league (enOf [false] P PX) (env0 ds 1) := Classical.choose_spec ex_need_league
abbrev s_need_league : Stmt := topS 13
theorem sc_need_league : FnScope ["thing"] ["thing"] (defScope s_need_league) := ⟨rfl, rfl, rfl, by decide +kernel, rfl, by decide +kernel, by decide +kernel⟩
theorem sd_need_league {P : Program} {w : World} {K : PySem.W.Frag} {mg : Str → Option Value} {base : Heap} (D_is_league : Dk P w K mg base 4 "is_league" [false] a_is_league) {f : Addr} {cdv : Value} {Ar : Around} {outer : List PySem.Env} {s : Shared} {H : Hp} {E : XK}
    (hr : Room 4 (Ar.deeper (envOfC "need_league" (defScope s_need_league) s.heap.objs.size f cdv))) : SndSs (bx P w K mg base ["thing"] "need_league" s_need_league f cdv Ar outer s H E) K (wx E) (mutIx [false] 0) (defBody s_need_league) w_need_league :=
  have Sc := sc_need_league
  (ss_one (s_if (b_t (t_not (t_val (r_call (D_is_league.df hr) (by intro _; rfl) (a_cons (xv 0) a_nil))))) (ss_one s_never) ss_nil))
theorem dk_need_league {P : Program} {w : World} {K : PySem.W.Frag} {mg : Str → Option Value} {base : Heap} {f : Addr} {fd : FuncData} (F : L2.Fun K "need_league" "need_league" s_need_league f fd) (hmg : mg "need_league" = some (.ref f)) (hb : Binds K fd ["thing"] []) (D_is_league : Dk P w K mg base 4 "is_league" [false] a_is_league) : Dk P w K mg base 5 "need_league" [false] a_need_league :=
  dk_mk F hmg hb sc_need_league rfl (by decide) (fun cdv Ar outer s H E hr => sd_need_league D_is_league hr) (fun ds P PX h hl => by rw [eq_need_league] at h;  exact h)
noncomputable def w_matches_left : WS :=
  sSeq (sExpr (eCallR a_need_league 1 (aCons (rVar 0) (aNil)))) (sRet (eCallR a_left_in 1 (aCons (rVar 0) (aNil))))
theorem ex_matches_left : ∃ A : FSp, A = fun ds P PX => w_matches_left (enOf [false] P PX) (env0 ds 1) := ⟨_, rfl⟩
noncomputable def a_matches_left : FSp := Classical.choose ex_matches_left
theorem eq_matches_left : a_matches_left = fun ds P PX => w_matches_left (enOf [false] P PX) (env0 ds 1) := Classical.choose_spec ex_matches_left
abbrev s_matches_left : Stmt := topS 17
theorem sc_matches_left : FnScope ["league"] ["league"] (defScope s_matches_left) := ⟨rfl, rfl, rfl, by decide +kernel, rfl, by decide +kernel, by decide +kernel⟩
theorem sd_matches_left {P : Program} {w : World} {K : PySem.W.Frag} {mg : Str → Option Value} {base : Heap} (D_need_league : Dk P w K mg base 5 "need_league" [false] a_need_league) (D_left_in : Dk P w K mg base 2 "left_in" [false] a_left_in) {f : Addr} {cdv : Value} {Ar : Around} {outer : List PySem.Env} {s : Shared} {H : Hp} {E : XK}
    (hr : Room 5 (Ar.deeper (envOfC "matches_left" (defScope s_matches_left) s.heap.objs.size f cdv))) : SndSs (bx P w K mg base ["league"] "matches_left" s_matches_left f cdv Ar outer s H E) K (wx E) (mutIx [false] 0) (defBody s_matches_left) w_matches_left :=
  have Sc := sc_matches_left
  (ss_cons (s_expr (e_callR bx_takes (D_need_league.df hr) (by intro _; rfl) (a_cons (xv 0) a_nil))) (ss_one (s_ret (e_callR bx_takes (D_left_in.df hr) (by intro _; rfl) (a_cons (xv 0) a_nil)))))
theorem dk_matches_left {P : Program} {w : World} {K : PySem.W.Frag} {mg : Str → Option Value} {base : Heap} {f : Addr} {fd : FuncData} (F : L2.Fun K "matches_left" "matches_left" s_matches_left f fd) (hmg : mg "matches_left" = some (.ref f)) (hb : Binds K fd ["league"] []) (D_need_league : Dk P w K mg base 5 "need_league" [false] a_need_league) (D_left_in : Dk P w K mg base 2 "left_in" [false] a_left_in) : Dk P w K mg base 6 "matches_left" [false] a_matches_left :=
  dk_mk F hmg hb sc_matches_left rfl (by decide) (fun cdv Ar outer s H E hr => sd_matches_left D_need_league D_left_in hr) (fun ds P PX h hl => by rw [eq_matches_left] at h;  exact h)
noncomputable def w_points_had : WS :=
  sSeq (sExpr (eCallR a_need_league 1 (aCons (rVar 0) (aNil)))) (sRet (eCallR a_had_in 1 (aCons (rVar 0) (aNil))))
theorem ex_points_had : ∃ A : FSp, A = fun ds P PX => w_points_had (enOf [false] P PX) (env0 ds 1) := ⟨_, rfl⟩
noncomputable def a_points_had : FSp := Classical.choose ex_points_had
theorem eq_points_had : a_points_had = fun ds P PX => w_points_had (enOf [false] P PX) (env0 ds 1) := Classical.choose_spec ex_points_had
abbrev s_points_had : Stmt := topS 18
theorem sc_points_had : FnScope ["league"] ["league"] (defScope s_points_had) := ⟨rfl, rfl, rfl, by decide +kernel, rfl, by decide +kernel, by decide +kernel⟩
theorem sd_points_had {P : Program} {w : World} {K : PySem.W.Frag} {mg : Str → Option Value} {base : Heap} (D_need_league : Dk P w K mg base 5 "need_league" [false] a_need_league) (D_had_in : Dk P w K mg base 3 "had_in" [false] a_had_in) {f : Addr} {cdv : Value} {Ar : Around} {outer : List PySem.Env} {s : Shared} {H : Hp} {E : XK}
    (hr : Room 5 (Ar.deeper (envOfC "points_had" (defScope s_points_had) s.heap.objs.size f cdv))) : SndSs (bx P w K mg base ["league"] "points_had" s_points_had f cdv Ar outer s H E) K (wx E) (mutIx [false] 0) (defBody s_points_had) w_points_had :=
  have Sc := sc_points_had
  (ss_cons (s_expr (e_callR bx_takes (D_need_league.df hr) (by intro _; rfl) (a_cons (xv 0) a_nil))) (ss_one (s_ret (e_callR bx_takes (D_had_in.df hr) (by intro _; rfl) (a_cons (xv 0) a_nil)))))
theorem dk_points_had {P : Program} {w : World} {K : PySem.W.Frag} {mg : Str → Option Value} {base : Heap} {f : Addr} {fd : FuncData} (F : L2.Fun K "points_had" "points_had" s_points_had f fd) (hmg : mg "points_had" = some (.ref f)) (hb : Binds K fd ["league"] []) (D_need_league : Dk P w K mg base 5 "need_league" [false] a_need_league) (D_had_in : Dk P w K mg base 3 "had_in" [false] a_had_in) : Dk P w K mg base 6 "points_had" [false] a_points_had :=
  dk_mk F hmg hb sc_points_had rfl (by decide) (fun cdv Ar outer s H E hr => sd_points_had D_need_league D_had_in hr) (fun ds P PX h hl => by rw [eq_points_had] at h;  exact h)
noncomputable def w__law_right : WS :=
  sSeq (sSet 2 (eCallR a__law_own 1 (aCons (rVar 0) (aNil)))) (sSeq (sSet 4 (eF (aComp (asLst (rOp ixD (rVar 2) (rCon (.int 2)))) (gNm 3) (tT) (rSlT (rVar 3) (oNone) (oSome (rCon (.int 2)))) [3]))) (sSeq (sSet 6 (eLst (lCons (eF (aComp (asLst (rCall a__law_pairs 1 (aCons (rOp ixD (rVar 2) (rCon (.int 1))) (aNil)))) (gNm 5) (asB (rOp notInD (rVar 5) (rVar 4))) (rVar 5) [5])) (lCons (eCallR a__law_sums 1 (aCons (rVar 2) (aNil))) (lNil))))) (sSeq (sFor (lNo (aRng1 (aCons (rCon (.int 2)) (aNil)))) (gNm 7) (sSeq (sSet 8 (eLst (lCons (eCallR a_matches_left 1 (aCons (rVar 0) (aNil))) (lCons (eCallR a_points_had 1 (aCons (rVar 0) (aNil))) (lNil))))) (sSeq (sIf (bT (tOrT (asB (rOp neD (rVar 8) (rVar 6))) (tOrT (asB (rOp neD (rVar 0) (rVar 2))) (tOrT (tNotT (asB (rIsi' "list" (rOp ixD (rVar 8) (rCon (.int 0)))))) (tNotT (asB (rIsi' "list" (rOp ixD (rVar 8) (rCon (.int 1)))))))))) (sRet (eR (rCon (.bl false)))) (sNil)) (sSeq (sIf (bT (asB (rOp neD (rF (aComp (asLst (rOp ixD (rVar 8) (rCon (.int 0)))) (gNm 5) (tNotT (asB (rIsi' "tuple" (rVar 5)))) (rVar 5) [5])) (rF (fLst (aNil)))))) (sRet (eR (rCon (.bl false)))) (sNil)) (sSeq (sIf (bT (asB (rOp neD (rF (aComp (asLst (rOp ixD (rVar 8) (rCon (.int 1)))) (gNm 9) (asB (rIsi' "bool" (rVar 9))) (rVar 9) [9])) (rF (fLst (aNil)))))) (sRet (eR (rCon (.bl false)))) (sNil)) (sSeq (sExpr (eMethP 8 (rVar 7) mApp (lPinR 8 (aCons (rTup (aCons (rCon (.int 9)) (aCons (rCon (.int 9)) (aNil)))) (aNil))))) (sExpr (eMethP 8 (rOp subD (rCon (.int 1)) (rVar 7)) mApp (lPinR 8 (aCons (rTup (aCons (rCon (.int 9)) (aCons (rCon (.int 9)) (aNil)))) (aNil))))))))))) (sSeq (sExpr (eMeth 1 mApp (lCons (eTup (lCons (eLst (lCons (eCallR a_matches_left 1 (aCons (rVar 0) (aNil))) (lCons (eCallR a_points_had 1 (aCons (rVar 0) (aNil))) (lNil)))) (lCons (eMov 6) (lNil)))) (lNil)))) (sRet (eR (rOp eqD (rVar 0) (rVar 2))))))))
theorem ex__law_right : ∃ A : FSp, A = fun ds P PX => w__law_right (enOf [false, true] P PX) (env0 ds 10) := ⟨_, rfl⟩
noncomputable def a__law_right : FSp := Classical.choose ex__law_right
theorem eq__law_right : a__law_right = fun ds P PX => w__law_right (enOf [false, true] P PX) (env0 ds 10) := Classical.choose_spec ex__law_right
abbrev s__law_right : Stmt := topS 27
theorem sc__law_right : FnScope ["handed", "held", "league", "match", "met", "pair", "dues", "turn", "told", "number"] ["handed", "held"] (defScope s__law_right) := ⟨rfl, rfl, rfl, by decide +kernel, rfl, by decide +kernel, by decide +kernel⟩
theorem sd__law_right {P : Program} {w : World} {K : PySem.W.Frag} {mg : Str → Option Value} {base : Heap} (z_range : mg "range" = none) (z_isinstance : mg "isinstance" = none) (z_list : mg "list" = none) (z_tuple : mg "tuple" = none) (z_bool : mg "bool" = none) (D__law_own : Dk P w K mg base 1 "_law_own" [false] a__law_own) (D__law_sums : Dk P w K mg base 1 "_law_sums" [false] a__law_sums) (D__law_pairs : Dk P w K mg base 1 "_law_pairs" [false] a__law_pairs) (D_points_had : Dk P w K mg base 6 "points_had" [false] a_points_had) (D_matches_left : Dk P w K mg base 6 "matches_left" [false] a_matches_left) {f : Addr} {cdv : Value} {Ar : Around} {outer : List PySem.Env} {s : Shared} {H : Hp} {E : XK}
    (hr : Room 6 (Ar.deeper (envOfC "_law_right" (defScope s__law_right) s.heap.objs.size f cdv))) : SndSs (bx P w K mg base ["handed", "held", "league", "match", "met", "pair", "dues", "turn", "told", "number"] "_law_right" s__law_right f cdv Ar outer s H E) K (wx E) (mutIx [false, true] 0) (defBody s__law_right) w__law_right :=
  have Sc := sc__law_right
  (ss_cons (sset 2 (fun _ => Sc.nd) (e_callR bx_takes (D__law_own.df hr) (by intro _; rfl) (a_cons (xv 0) a_nil))) (ss_cons (sset 4 (fun _ => Sc.nd) (e_f (f_comp (comp_read (own := [("match", 3)]) (i_list (by intro _; rfl) (r_ix (fun _ => ix_seq) ok_ix (xv 2) r_int (fun _ _ => rfl))) (gnm 3 (fun _ => Sc.nd)) ts_nil (r_slT (by intro _; rfl) (xv 3) o_none (o_some r_int))) (by intro _; rfl) (fun _ => Sc.nd) (fun _ => blkOk_by (own := [("match", 3)]) rfl)))) (ss_cons (sset 6 (fun _ => Sc.nd) (e_lst (l_cons (e_f (f_comp (comp_read (own := [("pair", 5)]) (i_list (by intro _; rfl) (r_call (D__law_pairs.df hr) (by intro _; rfl) (a_cons (r_ix (fun _ => ix_seq) ok_ix (xv 2) r_int (fun _ _ => rfl)) a_nil))) (gnm 5 (fun _ => Sc.nd)) (ts_one (t_cmp (fun _ => op_notInA rfl hr.u65) ok_notIn (xv 5) (xv 4) rfl)) (xv 5)) (by intro _; rfl) (fun _ => Sc.nd) (fun _ => blkOk_by (own := [("pair", 5)]) rfl))) (l_cons (e_callR bx_takes (D__law_sums.df hr) (by intro _; rfl) (a_cons (xv 2) a_nil)) l_nil)))) (ss_cons (s_for bx_passes (by intro _; rfl) (ie_rng (by intro _; rfl) (fun _ => z_range) (a_cons r_int a_nil)) (gnm 7 (fun _ => Sc.nd)) (ss_cons (sset 8 (fun _ => Sc.nd) (e_lst (l_cons (e_callR bx_takes (D_matches_left.df hr) (by intro _; rfl) (a_cons (xv 0) a_nil)) (l_cons (e_callR bx_takes (D_points_had.df hr) (by intro _; rfl) (a_cons (xv 0) a_nil)) l_nil)))) (ss_cons (s_if (b_t (t_w (w_or (t_cmp (fun _ => op_neD hr.u64) ok_ne (xv 8) (xv 6) (nomark _)) (w_or (t_cmp (fun _ => op_neD hr.u64) ok_ne (xv 0) (xv 2) (nomark _)) (w_or (t_not (t_val (r_isi (by intro _; rfl) (r_ix (fun _ => ix_seq) ok_ix (xv 8) r_int (fun _ _ => rfl)) rfl (by intro _; rfl) (fun _ => z_isinstance) (by decide +kernel) (by intro _; rfl) (fun _ => z_list) (by decide +kernel) (by decide)))) (w_or1 (t_not (t_val (r_isi (by intro _; rfl) (r_ix (fun _ => ix_seq) ok_ix (xv 8) r_int (fun _ _ => rfl)) rfl (by intro _; rfl) (fun _ => z_isinstance) (by decide +kernel) (by intro _; rfl) (fun _ => z_list) (by decide +kernel) (by decide)))))))))) (ss_one (s_ret (e_r r_bl))) ss_nil) (ss_cons (s_if (b_t (t_cmp (fun _ => op_neD hr.u64) ok_ne (r_f (f_comp (comp_read (own := [("pair", 5)]) (i_list (by intro _; rfl) (r_ix (fun _ => ix_seq) ok_ix (xv 8) r_int (fun _ _ => rfl))) (gnm 5 (fun _ => Sc.nd)) (ts_one (t_not (t_val (r_isi (by intro _; rfl) (xv 5) rfl (by intro _; rfl) (fun _ => z_isinstance) (by decide +kernel) (by intro _; rfl) (fun _ => z_tuple) (by decide +kernel) (by decide))))) (xv 5)) (by intro _; rfl) (fun _ => Sc.nd) (fun _ => blkOk_by (own := [("pair", 5)]) rfl))) (r_f (f_lst a_nil)) (nomark _))) (ss_one (s_ret (e_r r_bl))) ss_nil) (ss_cons (s_if (b_t (t_cmp (fun _ => op_neD hr.u64) ok_ne (r_f (f_comp (comp_read (own := [("number", 9)]) (i_list (by intro _; rfl) (r_ix (fun _ => ix_seq) ok_ix (xv 8) r_int (fun _ _ => rfl))) (gnm 9 (fun _ => Sc.nd)) (ts_one (t_val (r_isi (by intro _; rfl) (xv 9) rfl (by intro _; rfl) (fun _ => z_isinstance) (by decide +kernel) (by intro _; rfl) (fun _ => z_bool) (by decide +kernel) (by decide)))) (xv 9)) (by intro _; rfl) (fun _ => Sc.nd) (fun _ => blkOk_by (own := [("number", 9)]) rfl))) (r_f (f_lst a_nil)) (nomark _))) (ss_one (s_ret (e_r r_bl))) ss_nil) (ss_cons (s_expr (e_methP 8 ok_app (xv 7) (lp_r 8 (a_cons (r_tup (a_cons r_int (a_cons r_int a_nil))) a_nil)) (fun ti ta h1 h2 j => pe_bm PySem.F.plainAttrs_list PySem.F.slot_list_append PySem.F.type_list_append mt_append (pe_ix ix_seq (pv 8) (h1 j) (fun _ _ => rfl)) (h2 j)))) (ss_one (s_expr (e_methP 8 ok_app (r_bin (fun _ => op_sub) ok_sub r_int (xv 7)) (lp_r 8 (a_cons (r_tup (a_cons r_int (a_cons r_int a_nil))) a_nil)) (fun ti ta h1 h2 j => pe_bm PySem.F.plainAttrs_list PySem.F.slot_list_append PySem.F.type_list_append mt_append (pe_ix ix_seq (pv 8) (h1 j) (fun _ _ => rfl)) (h2 j))))))))))) (ss_cons (s_expr (e_meth 1 ok_app (l_cons (e_tup (l_cons (e_lst (l_cons (e_callR bx_takes (D_matches_left.df hr) (by intro _; rfl) (a_cons (xv 0) a_nil)) (l_cons (e_callR bx_takes (D_points_had.df hr) (by intro _; rfl) (a_cons (xv 0) a_nil)) l_nil))) (l_cons (xmov 6) l_nil))) l_nil) (fun ta h j => pe_bm PySem.F.plainAttrs_list PySem.F.slot_list_append PySem.F.type_list_append mt_append (pv 1) (h j)))) (ss_one (s_ret (e_r (r_cmp (fun _ => op_eqD hr.u64) ok_eq (xv 0) (xv 2) (nomark _))))))))))
theorem dk__law_right {P : Program} {w : World} {K : PySem.W.Frag} {mg : Str → Option Value} {base : Heap} {f : Addr} {fd : FuncData} (F : L2.Fun K "_law_right" "_law_right" s__law_right f fd) (hmg : mg "_law_right" = some (.ref f)) (hb : Binds K fd ["handed", "held"] []) (z_range : mg "range" = none) (z_isinstance : mg "isinstance" = none) (z_list : mg "list" = none) (z_tuple : mg "tuple" = none) (z_bool : mg "bool" = none) (D__law_own : Dk P w K mg base 1 "_law_own" [false] a__law_own) (D__law_sums : Dk P w K mg base 1 "_law_sums" [false] a__law_sums) (D__law_pairs : Dk P w K mg base 1 "_law_pairs" [false] a__law_pairs) (D_points_had : Dk P w K mg base 6 "points_had" [false] a_points_had) (D_matches_left : Dk P w K mg base 6 "matches_left" [false] a_matches_left) : Dk P w K mg base 7 "_law_right" [false, true] a__law_right :=
  dk_mk F hmg hb sc__law_right rfl (by decide) (fun cdv Ar outer s H E hr => sd__law_right z_range z_isinstance z_list z_tuple z_bool D__law_own D__law_sums D__law_pairs D_points_had D_matches_left hr) (fun ds P PX h hl => by rw [eq__law_right] at h;  exact h)
noncomputable def w_law_0 : WS :=
  sIf (bNot (bE (eCallMR a__law_right [none, some 2] (aCons (rVar 4) (aNil))))) (sRet (eR (rCon (.bl false)))) (sNil)
noncomputable def w_law_1 : WS :=
  sSeq (sExpr (eMethP 4 (rCon (.int 2)) mPop (lPinX 4 a__law_draw [some 1, none] (aCons (rCB lenD (aCons (rOp ixD (rVar 4) (rCon (.int 2))) (aNil))) (aNil))))) w_law_0
noncomputable def w_law_2 : WS :=
  sIf (bT (asB (rOp neD (rOp ixD (rVar 4) (rCon (.int 2))) (rF (fLst (aNil)))))) (w_law_1) (sNil)
noncomputable def w_law_3 : WS :=
  sSeq (sIf (bNot (bE (eCallMR a__law_right [none, some 2] (aCons (rVar 4) (aNil))))) (sRet (eR (rCon (.bl false)))) (sNil)) w_law_2
noncomputable def w_law_4 : WS :=
  sSeq (sSet 4 (eCallMR a__law_some_league [some 1] (aNil))) w_law_3
noncomputable def w_law_5 : WS :=
  sRet (eR (rOp eqD (rF (aComp (asLst (rVar 2)) (gNm 5) (asB (rOp neD (rOp ixD (rVar 5) (rCon (.int 0))) (rOp ixD (rVar 5) (rCon (.int 1))))) (rVar 5) [5])) (rF (fLst (aNil)))))
noncomputable def w_law_6 : WS :=
  sSeq (sFor (lNo (aRng1 (aCons (rCon (.int 12)) (aNil)))) (gNm 3) (w_law_4)) w_law_5
noncomputable def w_law_7 : WS :=
  sSeq (sSet 2 (eF (fLst (aNil)))) w_law_6
noncomputable def w_law_8 : WS :=
  sSeq (sSet 1 (eCallR a__law_deck 1 (aCons (rVar 0) (aNil)))) w_law_7
noncomputable def w_law : WS := w_law_8
noncomputable def v_law : WS :=
  sSeq (sSet 1 (eCallR a__law_deck 1 (aCons (rVar 0) (aNil)))) (sSeq (sSet 2 (eF (fLst (aNil)))) (sSeq (sFor (lNo (aRng1 (aCons (rCon (.int 12)) (aNil)))) (gNm 3) (sSeq (sSet 4 (eCallMR a__law_some_league [some 1] (aNil))) (sSeq (sIf (bNot (bE (eCallMR a__law_right [none, some 2] (aCons (rVar 4) (aNil))))) (sRet (eR (rCon (.bl false)))) (sNil)) (sIf (bT (asB (rOp neD (rOp ixD (rVar 4) (rCon (.int 2))) (rF (fLst (aNil)))))) (sSeq (sExpr (eMethP 4 (rCon (.int 2)) mPop (lPinX 4 a__law_draw [some 1, none] (aCons (rCB lenD (aCons (rOp ixD (rVar 4) (rCon (.int 2))) (aNil))) (aNil))))) (sIf (bNot (bE (eCallMR a__law_right [none, some 2] (aCons (rVar 4) (aNil))))) (sRet (eR (rCon (.bl false)))) (sNil))) (sNil))))) (sRet (eR (rOp eqD (rF (aComp (asLst (rVar 2)) (gNm 5) (asB (rOp neD (rOp ixD (rVar 5) (rCon (.int 0))) (rOp ixD (rVar 5) (rCon (.int 1))))) (rVar 5) [5])) (rF (fLst (aNil))))))))
theorem wv_law : v_law = w_law := rfl
theorem ex_law : ∃ A : FSp, A = fun ds P PX => w_law (enOf [false] P PX) (env0 ds 6) := ⟨_, rfl⟩
noncomputable def a_law : FSp := Classical.choose ex_law
theorem eq_law : a_law = fun ds P PX => w_law (enOf [false] P PX) (env0 ds 6) := Classical.choose_spec ex_law
abbrev s_law : Stmt := topS 28
theorem sc_law : FnScope ["script", "deck", "held", "k", "league", "one"] ["script"] (defScope s_law) := ⟨rfl, rfl, rfl, by decide +kernel, rfl, by decide +kernel, by decide +kernel⟩
theorem sd_law {P : Program} {w : World} {K : PySem.W.Frag} {mg : Str → Option Value} {base : Heap} (z_range : mg "range" = none) (z_len : mg "len" = none) (D__law_deck : Dk P w K mg base 1 "_law_deck" [false] a__law_deck) (D__law_some_league : Dk P w K mg base 3 "_law_some_league" [true] a__law_some_league) (D__law_right : Dk P w K mg base 7 "_law_right" [false, true] a__law_right) (D__law_draw : Dk P w K mg base 1 "_law_draw" [true, false] a__law_draw) {f : Addr} {cdv : Value} {Ar : Around} {outer : List PySem.Env} {s : Shared} {H : Hp} {E : XK}
    (hr : Room 7 (Ar.deeper (envOfC "law" (defScope s_law) s.heap.objs.size f cdv))) : SndSs (bx P w K mg base ["script", "deck", "held", "k", "league", "one"] "law" s_law f cdv Ar outer s H E) K (wx E) (mutIx [false] 0) (defBody s_law) v_law :=
  have Sc := sc_law
  (ss_cons (sset 1 (fun _ => Sc.nd) (e_callR bx_takes (D__law_deck.df hr) (by intro _; rfl) (a_cons (xv 0) a_nil))) (ss_cons (sset 2 (fun _ => Sc.nd) (e_f (f_lst a_nil))) (ss_cons (s_for bx_passes (by intro _; rfl) (ie_rng (by intro _; rfl) (fun _ => z_range) (a_cons r_int a_nil)) (gnm 3 (fun _ => Sc.nd)) (ss_cons (sset 4 (fun _ => Sc.nd) (e_callMR bx_takes (D__law_some_league.df hr) (by intro _; rfl) (mr_mut 1 mr_nil))) (ss_cons (s_if (b_not (b_e (e_callMR bx_takes (D__law_right.df hr) (by intro _; rfl) (mr_val (xv 4) (mr_mut 2 mr_nil))))) (ss_one (s_ret (e_r r_bl))) ss_nil) (ss_one (s_if (b_t (t_cmp (fun _ => op_neD hr.u64) ok_ne (r_ix (fun _ => ix_seq) ok_ix (xv 4) r_int (fun _ _ => rfl)) (r_f (f_lst a_nil)) (nomark _))) (ss_cons (s_expr (e_methP 4 ok_pop r_int (lp_call 4 bx_takes (D__law_draw.df hr) (by intro _; rfl) (mr_mut 1 (mr_val (r_callB (fun _ => c_len rfl) ok_len (by intro _; rfl) (fun _ => z_len) (by decide +kernel) (a_cons (r_ix (fun _ => ix_seq) ok_ix (xv 4) r_int (fun _ _ => rfl)) a_nil)) mr_nil))) (fun ti ta h1 h2 j => pe_bm PySem.F.plainAttrs_list PySem.F.slot_list_pop PySem.F.type_list_pop mt_popAt (pe_ix ix_seq (pv 4) (h1 j) (fun _ _ => rfl)) (h2 j)))) (ss_one (s_if (b_not (b_e (e_callMR bx_takes (D__law_right.df hr) (by intro _; rfl) (mr_val (xv 4) (mr_mut 2 mr_nil))))) (ss_one (s_ret (e_r r_bl))) ss_nil))) ss_nil))))) (ss_one (s_ret (e_r (r_cmp (fun _ => op_eqD hr.u64) ok_eq (r_f (f_comp (comp_read (own := [("one", 5)]) (i_list (by intro _; rfl) (xv 2)) (gnm 5 (fun _ => Sc.nd)) (ts_one (t_cmp (fun _ => op_neD hr.u64) ok_ne (r_ix (fun _ => ix_seq) ok_ix (xv 5) r_int (fun _ _ => rfl)) (r_ix (fun _ => ix_seq) ok_ix (xv 5) r_int (fun _ _ => rfl)) (nomark _))) (xv 5)) (by intro _; rfl) (fun _ => Sc.nd) (fun _ => blkOk_by (own := [("one", 5)]) rfl))) (r_f (f_lst a_nil)) (nomark _))))))))
theorem dk_law {P : Program} {w : World} {K : PySem.W.Frag} {mg : Str → Option Value} {base : Heap} {f : Addr} {fd : FuncData} (F : L2.Fun K "law" "law" s_law f fd) (hmg : mg "law" = some (.ref f)) (hb : Binds K fd ["script"] []) (z_range : mg "range" = none) (z_len : mg "len" = none) (D__law_deck : Dk P w K mg base 1 "_law_deck" [false] a__law_deck) (D__law_some_league : Dk P w K mg base 3 "_law_some_league" [true] a__law_some_league) (D__law_right : Dk P w K mg base 7 "_law_right" [false, true] a__law_right) (D__law_draw : Dk P w K mg base 1 "_law_draw" [true, false] a__law_draw) : Dk P w K mg base 8 "law" [false] a_law :=
  dk_mk F hmg hb sc_law rfl (by decide) (fun cdv Ar outer s H E hr => sd_law z_range z_len D__law_deck D__law_some_league D__law_right D__law_draw hr) (fun ds P PX h hl => by rw [eq_law] at h; rw [wv_law]; exact h)
end T
namespace T
open PySem PySem.Spec PyProof.Rows L2
@[simp] theorem shp_plain : shp (.str (Str.ofString "plain")) = true := by decide +kernel
@[simp] theorem shp_ties : shp (.str (Str.ofString "ties")) = true := by decide +kernel
@[simp] theorem ne_pt : (Str.ofString "plain" = Str.ofString "ties") = False := by simp; decide +kernel
@[simp] theorem ne_tp : (Str.ofString "ties" = Str.ofString "plain") = False := by simp; decide +kernel
def kS (b : Bool) : Str := if b then "ties" else "plain"
@[simp] theorem kS_ties (b : Bool) : (kS b = Str.ofString "ties") = (b = true) := by cases b <;> simp [kS] <;> rfl
@[simp] theorem kS_plain (b : Bool) : (kS b = Str.ofString "plain") = (b = false) := by cases b <;> simp [kS] <;> rfl
@[simp] theorem shp_kS (b : Bool) : shp (.str (kS b)) = true := by cases b; exact shp_plain; exact shp_ties
abbrev M := Int × Int × Option Int
def wD : Option Int → D | none => .non | some x => .int x
def mD (m : M) : D := .tup [.int m.1, .int m.2.1, wD m.2.2]
def lgD (o k : Bool) (n : Int) (ms : List M) : D := .tup [.str (kS k), .int n, .lst o (ms.map mD)]
def okW (k : Bool) (m : M) : Prop := (m.2.2 = none ∧ k = true) ∨ m.2.2 = some m.1 ∨ m.2.2 = some m.2.1
def okM (k : Bool) (n : Int) (m : M) : Prop := 0 ≤ m.1 ∧ m.1 < m.2.1 ∧ m.2.1 < n ∧ okW k m
def ltM (a b : M) : Prop := a.1 < b.1 ∨ (a.1 = b.1 ∧ a.2.1 < b.2.1)
structure okL (k : Bool) (n : Int) (ms : List M) : Prop where
  n2 : 2 ≤ n
  n6 : n ≤ 6
  ok : ∀ m ∈ ms, okM k n m
  lt : ms.Pairwise ltM
  len : ms.length ≤ 1000
@[simp] theorem frz_wD (w : Option Int) : frz (wD w) = wD w := by cases w <;> rfl
@[simp] theorem frz_mD (m : M) : frz (mD m) = mD m := by simp [mD]
@[simp] theorem frzL_ms (ms : List M) : frzL (ms.map mD) = ms.map mD := by simp [frzL_map]
@[simp] theorem flat_wD (w : Option Int) : flat (wD w) = true := by cases w <;> rfl
section
variable (P : D → List D → Prop) (PX : Nat → List D → Prop)
@[simp] theorem l_is_whole_int (i : Int) : a_is_whole [.int i] P PX = P (.bl true) [] := by
  simp [eq_is_whole, w_is_whole]
@[simp] theorem l_is_player (n i : Int) : a_is_player [.int n, .int i] P PX = P (.bl (decide (0 ≤ i ∧ i < n))) [] := by
  simp [eq_is_player, w_is_player]
  by_cases h : 0 ≤ i <;> simp [h]
@[simp] theorem l_worth (b : Bool) : a_worth_in [.str (kS b)] P PX = P (.int (if b then 2 else 1)) [] := by
  cases b <;> simp [eq_worth_in, w_worth_in, atI, ixN]
theorem l_is_played {k : Bool} {n : Int} {m : M} (h : okM k n m) : a_is_played [.str (kS k), .int n, mD m] P PX = P (.bl true) [] := by
  obtain ⟨h1, h2, h3, h4⟩ := h
  obtain ⟨i, j, w⟩ := m
  simp only at h1 h2 h3
  have h5 : 0 ≤ j := by omega
  have h6 : i < n := by omega
  have h7 : ¬ j ≤ i := by omega
  rcases h4 with ⟨h4, hk⟩ | h4 | h4
  · simp only at h4
    subst h4 hk
    simp [eq_is_played, w_is_played, mD, wD, h1, h2, h3, h5, h6, h7]
  · simp only at h4
    subst h4
    simp [eq_is_played, w_is_played, mD, wD, h1, h2, h3, h5, h6, h7, mem, pyL, py, PyData.eqv]
  · simp only at h4
    subst h4
    simp [eq_is_played, w_is_played, mD, wD, h1, h2, h3, h5, h6, h7, mem, pyL, py, PyData.eqv]
@[simp] theorem mem_kS (k : Bool) : mem (.str (kS k)) [.str (Str.ofString "plain"), .str (Str.ofString "ties")] = true := by
  cases k <;> simp [mem, pyL, py, PyData.eqv, kS] <;> first | exact .inl rfl | exact .inr rfl
@[simp] theorem ff {α : Type} (l : List α) : List.filter (fun _ => false) l = [] := by induction l <;> simp_all
@[simp] theorem sIx3a : HT.sIx 3 0 none = 0 := HT.sIx_none 3 0
@[simp] theorem sIx3b : HT.sIx 3 3 (some 2) = 2 := HT.sIx_nat 3 3 2
theorem cut2 (a b : Int) (w : D) : cutD [.int a, .int b, w] none (some 2) = [.int a, .int b] := by
  simp [cutD]
@[simp] theorem cut2m (m : M) : cutD [.int m.1, .int m.2.1, wD m.2.2] none (some 2) = [.int m.1, .int m.2.1] := cut2 _ _ _
theorem atI_ms {ms : List M} {i : Nat} {x : Int} (hx : x = (i : Int)) (h : i < ms.length) : atI (ms.map mD) x = some (mD ms[i]) := by
  subst hx
  simp [atI, ixN, h]
theorem l_is_league {k : Bool} {n : Int} {ms : List M} (h : okL k n ms) : a_is_league [lgD false k n ms] P PX = P (.bl true) [] := by
  have e1 := h.n2
  have e2 := h.n6
  have e3 := h.len
  have e4 : ms.length ≤ 100000 := by omega
  have e5 : (ms.length : Int) < 4611686018427387904 := by omega
  have e6 : (rangeD 1 (ms.length - 1)).length ≤ 100000 := by simp [rangeD]; omega
  simp [eq_is_league, w_is_league, lgD, c_KINDS, c_FEWEST, c_MOST, e1, e2, e4, e5, e6]
  rw [compR_eq (fun _ => false) id]
  · simp [e5, e6]
    rw [compR_eq (fun _ => false) id]
    · simp
      intro z
      omega
    · intro x hx
      simp only [rangeD, List.mem_map, List.mem_range] at hx
      obtain ⟨i, hi, rfl⟩ := hx
      have hp := List.pairwise_iff_getElem.mp h.lt i (i + 1) (by omega) (by omega) (by omega)
      have a1 : atI (ms.map mD) (1 + (i : Int)) = some (mD (ms[i + 1]'(by omega))) := atI_ms (by omega) (by omega)
      have a2 : atI (ms.map mD) (1 + (i : Int) - 1) = some (mD (ms[i]'(by omega))) := atI_ms (by omega) (by omega)
      refine ⟨_, fun k => rfl, fun Q => ?_, fun z => by cases z⟩
      simp [a1, a2]
      simp [mD]
      generalize ms[i]'(by omega) = a at hp
      generalize ms[i + 1]'(by omega) = b at hp
      have z : (if a.1 = b.1 then decide (a.2.1 = b.2.1) || decide (b.2.1 ≤ a.2.1) else decide (b.1 ≤ a.1)) = false := by
        rcases hp with hp | ⟨hp1, hp2⟩
        · rw [if_neg (by omega)]
          simp; omega
        · rw [if_pos hp1]
          simp; omega
      rw [z]
  · intro x hx
    obtain ⟨m, hm, rfl⟩ := List.mem_map.mp hx
    refine ⟨_, fun k => rfl, fun Q => ?_, fun z => by cases z⟩
    have e := fun P PX => l_is_played P PX (h.ok m hm)
    simp [e]
@[simp] theorem l_need_league {k : Bool} {n : Int} {ms : List M} (h : okL k n ms) : a_need_league [lgD false k n ms] P PX = P .non [] := by
  have e := fun P PX => l_is_league P PX h
  simp only [lgD] at e ⊢
  simp [eq_need_league, w_need_league, e]
end
end T
namespace T
open PySem PySem.Spec PyProof.Rows L2
def pL (n : Nat) : List (Int × Int) := (List.range n).flatMap fun i => ((List.range n).filter fun j => decide (i < j)).map fun (j : Nat) => ((i : Int), (j : Int))
def pD (p : Int × Int) : D := .tup [.int p.1, .int p.2]
section
variable (P : D → List D → Prop) (PX : Nat → List D → Prop)
theorem flatL_all : ∀ {xs : List D}, (∀ x ∈ xs, flat x = true) → flatL xs = true
  | [], _ => rfl
  | x :: xs, h => by simp [h x List.mem_cons_self, flatL_all (xs := xs) fun y m => h y (List.mem_cons_of_mem _ m)]
theorem mem_rangeD {lo : Int} {n : Nat} {x : D} (h : x ∈ rangeD lo n) : ∃ i : Nat, i < n ∧ x = .int (lo + i) := by
  simp only [rangeD, List.mem_map, List.mem_range] at h
  obtain ⟨i, hi, rfl⟩ := h
  exact ⟨i, hi, rfl⟩
def rowA (n : Nat) (d : D) : List D := match d with | .int i => (rangeD (i + 1) ((n : Int) - (i + 1)).toNat).map fun j => .tup [.int i, j] | _ => []
theorem rowA_len {n : Nat} (h6 : n ≤ 6) {i : Nat} : (rowA n (.int (i : Int))).length ≤ 6 := by
  simp [rowA, rangeD_len]; omega
theorem flatMap_len {f : D → List D} {k : Nat} : ∀ {xs : List D}, (∀ x ∈ xs, (f x).length ≤ k) → (xs.flatMap f).length ≤ xs.length * k
  | [], _ => by simp
  | x :: xs, h => by
    have h1 := flatMap_len (xs := xs) fun y m => h y (List.mem_cons_of_mem _ m)
    have h2 := h x List.mem_cons_self
    rw [List.flatMap_cons, List.length_append, List.length_cons, Nat.succ_mul]
    omega
theorem l_all_matches {n : Nat} (h2 : 2 ≤ n) (h6 : n ≤ 6) (h : P (.lst true ((pL n).map pD)) []) : a_all_matches [.int n] P PX := by
  have e0 : (n : Int) < 4611686018427387904 := by omega
  simp [eq_all_matches, w_all_matches, e0]
  refine sLoop_inv (fun done rest G => done ++ rest = rangeD 0 n ∧ ∃ y2 y3, G = [some (.int n), some (.lst true (done.flatMap (rowA n))), y2, y3]) _ [] _ ⟨rfl, none, none, rfl⟩ ?_ ?_
  · rintro done x rest G K ⟨e, y2, y3, rfl⟩ hK
    have hx : x ∈ rangeD 0 n := by rw [← e]; simp
    obtain ⟨i, hi, rfl⟩ := mem_rangeD hx
    have hd : done.length ≤ 6 := by
      have := congrArg List.length e
      rw [List.length_append, rangeD_len] at this
      omega
    have hdl : (done.flatMap (rowA n)).length ≤ 6 * 6 := Nat.le_trans (flatMap_len (k := 6) fun y m => by
      obtain ⟨i', hi', rfl⟩ := mem_rangeD (by rw [← e]; exact List.mem_append_left _ m : y ∈ rangeD 0 n)
      simpa using rowA_len h6 (i := i')) (Nat.mul_le_mul_right 6 hd)
    have b1 : (-4611686018427387904 : Int) ≤ 0 + (i : Int) + 1 := by omega
    have b2 : (0 : Int) + (i : Int) + 1 < 4611686018427387904 := by omega
    have b3 : (rangeD ((i : Int) + 1) ((n : Int) - ((i : Int) + 1)).toNat).length ≤ 100000 := by rw [rangeD_len]; omega
    simp at b1 b2
    simp [b1, b2, b3, e0]
    rw [compR_eq (fun _ => true) (fun j => .tup [.int i, j])]
    · have ef : List.filter (fun _ => true) (rangeD ((i : Int) + 1) ((n : Int) - ((i : Int) + 1)).toNat) = rangeD ((i : Int) + 1) ((n : Int) - ((i : Int) + 1)).toNat := by simp
      have fl : flatL ((rangeD ((i : Int) + 1) ((n : Int) - ((i : Int) + 1)).toNat).map fun j => D.tup [.int i, j]) = true := flatL_all fun y m => by
        obtain ⟨z, hz, rfl⟩ := List.mem_map.mp m
        obtain ⟨k, _, rfl⟩ := mem_rangeD hz
        simp
      have ll : (done.flatMap (rowA n)).length + (rangeD ((i : Int) + 1) ((n : Int) - ((i : Int) + 1)).toNat).length < 100000 := by rw [rangeD_len]; omega
      rw [ef]
      refine ⟨fl, by simpa using ll, ?_⟩
      exact hK _ ⟨by rw [← e]; simp, some (.int i), y3, by simp [rowA]⟩
    · intro x hx
      obtain ⟨k, _, rfl⟩ := mem_rangeD hx
      exact ⟨_, fun k => rfl, fun Q => by simp, fun _ A => by simp⟩
  · rintro done G ⟨e, y2, y3, rfl⟩
    rw [List.append_nil] at e
    subst e
    have e1 : (rangeD 0 n).flatMap (rowA n) = (pL n).map pD := by
      have : n = 2 ∨ n = 3 ∨ n = 4 ∨ n = 5 ∨ n = 6 := by omega
      rcases this with rfl | rfl | rfl | rfl | rfl <;> rfl
    rw [e1]
    simpa using h
end
def ltP (a b : Int × Int) : Prop := a.1 < b.1 ∨ (a.1 = b.1 ∧ a.2 < b.2)
theorem le_pair (a b : Int × Int) : PySem.W.dataLe false py (pD a) (pD b) = true ↔ ¬ ltP b a := by
  simp [PySem.W.dataLe, PySem.W.sortLe, pD, py, pyL, PySem.W.keyToks, PySem.W.keyToksAll, PyProof.Rows.lexLt, PyProof.Rows.itemLt, ltP]
  omega
theorem sort_pairs {l l' : List (Int × Int)} (hp : l.Perm l') (hl : l'.Pairwise ltP) (hn : l.length ≤ 1000) : Srtb (l.map pD) ∧ sortD (l.map pD) = l'.map pD := by
  refine ⟨⟨?_, .inl ?_, ?_, by rw [List.length_map]; omega⟩, ?_⟩
  · intro d hd d' hd'
    simp only [List.mem_map] at hd hd'
    obtain ⟨_, ⟨a, _, rfl⟩, rfl⟩ := hd
    obtain ⟨_, ⟨b, _, rfl⟩, rfl⟩ := hd'
    rfl
  · intro d hd
    simp only [List.mem_map] at hd
    obtain ⟨_, ⟨a, _, rfl⟩, rfl⟩ := hd
    exact ⟨_, _, rfl⟩
  · intro x hx
    obtain ⟨a, _, rfl⟩ := List.mem_map.mp hx
    exact ⟨rfl, by simp [pD, py, pyL, PyData.depth, PyData.depthAll]⟩
  · have hle : ∀ a b c : D, PySem.W.dataLe false py a b = true → PySem.W.dataLe false py b c = true → PySem.W.dataLe false py a c = true := (PySem.W.sortLe_total _ _ _).trans
    have tot : ∀ a b : D, (PySem.W.dataLe false py a b || PySem.W.dataLe false py b a) = true := fun a b => Bool.or_eq_true_iff.mpr ((PySem.W.sortLe_total _ _ _).total a b)
    have sp := List.pairwise_mergeSort (le := PySem.W.dataLe false py) hle tot (l.map pD)
    have pm : (sortD (l.map pD)).Perm (l'.map pD) := (List.mergeSort_perm _ _).trans (hp.map pD)
    refine List.Perm.eq_of_pairwise (le := fun a b => PySem.W.dataLe false py a b = true) (fun a b ha hb h1 h2 => ?_) sp ?_ pm
    · obtain ⟨x, _, rfl⟩ := List.mem_map.mp (pm.mem_iff.mp ha)
      obtain ⟨y, _, rfl⟩ := List.mem_map.mp hb
      rw [le_pair] at h1 h2
      unfold ltP at h1 h2
      have e1 : x.1 = y.1 := by omega
      have e2 : x.2 = y.2 := by omega
      have : x = y := Prod.ext e1 e2
      rw [this]
    · refine List.pairwise_map.mpr (hl.imp fun {a b} h => ?_)
      rw [le_pair]
      unfold ltP at h ⊢
      omega
section
variable (P : D → List D → Prop) (PX : Nat → List D → Prop)
def rowB (d : D) : List D := match d with | .int j => (rangeD 0 j.toNat).map fun i => .tup [i, .int j] | _ => []
theorem rowB_len {n : Nat} {i : Nat} (h : i < n) (h6 : n ≤ 6) : (rowB (.int (i : Int))).length ≤ 6 := by
  simp [rowB, rangeD_len]; omega
def qL (n : Nat) : List (Int × Int) := (List.range n).flatMap fun j => (List.range j).map fun (i : Nat) => ((i : Int), (j : Int))
theorem l_pairs {n : Nat} (h2 : 2 ≤ n) (h6 : n ≤ 6) (h : P (.lst true ((pL n).map pD)) []) : a__law_pairs [.int n] P PX := by
  have e0 : (n : Int) < 4611686018427387904 := by omega
  have hs : Srtb ((qL n).map pD) ∧ sortD ((qL n).map pD) = (pL n).map pD := by
    have : n = 2 ∨ n = 3 ∨ n = 4 ∨ n = 5 ∨ n = 6 := by omega
    refine sort_pairs ?_ ?_ ?_
    · rcases this with rfl | rfl | rfl | rfl | rfl <;> decide +kernel
    · rcases this with rfl | rfl | rfl | rfl | rfl <;> simp [pL, List.range_succ, ltP]
    · rcases this with rfl | rfl | rfl | rfl | rfl <;> decide +kernel
  have hf : flatL ((pL n).map pD) = true := flatL_all fun y m => by
    obtain ⟨z, _, rfl⟩ := List.mem_map.mp m
    simp [pD]
  simp [eq__law_pairs, w__law_pairs, e0]
  refine sLoop_inv (fun done rest G => done ++ rest = rangeD 0 n ∧ ∃ y2 y3, G = [some (.int n), some (.lst true (done.flatMap rowB)), y2, y3]) _ [] _ ⟨rfl, none, none, rfl⟩ ?_ ?_
  · rintro done x rest G K ⟨e, y2, y3, rfl⟩ hK
    have hx : x ∈ rangeD 0 n := by rw [← e]; simp
    obtain ⟨i, hi, rfl⟩ := mem_rangeD hx
    have hd : done.length ≤ 6 := by
      have := congrArg List.length e
      rw [List.length_append, rangeD_len] at this
      omega
    have hdl : (done.flatMap rowB).length ≤ 6 * 6 := Nat.le_trans (flatMap_len (k := 6) fun y m => by
      obtain ⟨i', hi', rfl⟩ := mem_rangeD (by rw [← e]; exact List.mem_append_left _ m : y ∈ rangeD 0 n)
      simpa using rowB_len hi' h6) (Nat.mul_le_mul_right 6 hd)
    have b2 : (i : Int) < 4611686018427387904 := by omega
    have b3 : (rangeD 0 i).length ≤ 100000 := by rw [rangeD_len]; omega
    simp [b2, b3]
    rw [compR_eq (fun _ => true) (fun j => .tup [j, .int i])]
    · have ef : List.filter (fun _ => true) (rangeD 0 i) = rangeD 0 i := by simp
      have fl : flatL ((rangeD 0 i).map fun j => D.tup [j, .int i]) = true := flatL_all fun y m => by
        obtain ⟨z, hz, rfl⟩ := List.mem_map.mp m
        obtain ⟨k, _, rfl⟩ := mem_rangeD hz
        simp
      have ll : (done.flatMap rowB).length + (rangeD 0 i).length < 100000 := by rw [rangeD_len]; omega
      rw [ef]
      refine ⟨fl, by simpa using ll, ?_⟩
      exact hK _ ⟨by rw [← e]; simp, some (.int i), y3, by simp [rowB]⟩
    · intro x hx
      obtain ⟨k, _, rfl⟩ := mem_rangeD hx
      exact ⟨_, fun k => rfl, fun Q => by simp, fun _ A => by simp⟩
  · rintro done G ⟨e, y2, y3, rfl⟩
    rw [List.append_nil] at e
    subst e
    have e1 : (rangeD 0 n).flatMap rowB = (qL n).map pD := by
      have : n = 2 ∨ n = 3 ∨ n = 4 ∨ n = 5 ∨ n = 6 := by omega
      rcases this with rfl | rfl | rfl | rfl | rfl <;> rfl
    rw [e1]
    have ez : frzL ((qL n).map pD) = (qL n).map pD := by
      rw [frzL_map, List.map_map]
      rfl
    simp [ez, hs.1, hs.2, hf, h]
end
end T
namespace T
open PySem PySem.Spec PyProof.Rows L2
@[simp] theorem at3a {α : Type} (a b c : α) : atI [a, b, c] 0 = some a := rfl
@[simp] theorem at3b {α : Type} (a b c : α) : atI [a, b, c] 1 = some b := rfl
@[simp] theorem at3c {α : Type} (a b c : α) : atI [a, b, c] 2 = some c := rfl
@[simp] theorem at2a {α : Type} (a b : α) : atI [a, b] 0 = some a := rfl
@[simp] theorem at2b {α : Type} (a b : α) : atI [a, b] 1 = some b := rfl
theorem gTp3m (a b c : Nat) (m : M) (G : T.Env) (k : T.Env → Prop) : gTp 3 (gsCons (gNm a) (gsCons (gNm b) (gsCons (gNm c) gsNil))) (mD m) G k = k (((G.set a (some (.int m.1))).set b (some (.int m.2.1))).set c (some (wD m.2.2))) := by
  simp [mD]
def mp (m : M) : D := pD (m.1, m.2.1)
def metD (ms : List M) : List D := ms.map mp
def leftD (n : Nat) (ms : List M) : List D := ((pL n).map pD).filter fun d => !mem d (metD ms)
@[simp] theorem frz_pD (p : Int × Int) : frz (pD p) = pD p := rfl
@[simp] theorem frz_mp (m : M) : frz (mp m) = mp m := rfl
@[simp] theorem flat_pD (p : Int × Int) : flat (pD p) = true := rfl
@[simp] theorem flat_mp (m : M) : flat (mp m) = true := rfl
theorem frzL_id {xs : List D} (h : ∀ x ∈ xs, frz x = x) : frzL xs = xs := by
  rw [frzL_map]
  exact (List.map_congr_left h).trans (List.map_id _)
@[simp] theorem frzL_met (ms : List M) : frzL (metD ms) = metD ms := frzL_id fun x h => by
  obtain ⟨m, _, rfl⟩ := List.mem_map.mp h
  rfl
@[simp] theorem flatL_met (ms : List M) : flatL (metD ms) = true := flatL_all fun x h => by
  obtain ⟨m, _, rfl⟩ := List.mem_map.mp h
  rfl
theorem mem_left {n : Nat} {ms : List M} {d : D} (h : d ∈ leftD n ms) : ∃ p ∈ pL n, d = pD p := by
  obtain ⟨p, hp, rfl⟩ := List.mem_map.mp (List.mem_filter.mp h).1
  exact ⟨p, hp, rfl⟩
@[simp] theorem frzL_left (n : Nat) (ms : List M) : frzL (leftD n ms) = leftD n ms := frzL_id fun x h => by
  obtain ⟨p, _, rfl⟩ := mem_left h
  rfl
@[simp] theorem flatL_left (n : Nat) (ms : List M) : flatL (leftD n ms) = true := flatL_all fun x h => by
  obtain ⟨p, _, rfl⟩ := mem_left h
  rfl
@[simp] theorem frzL_pL (n : Nat) : frzL ((pL n).map pD) = (pL n).map pD := frzL_id fun x h => by
  obtain ⟨p, _, rfl⟩ := List.mem_map.mp h
  rfl
theorem okd_pD (p : Int × Int) : okd 2 (pD p) := okd_tup (k := 1) fun x m => by
  simp at m
  rcases m with rfl | rfl <;> exact okd_flat0 rfl
@[simp] theorem shp_pD (p : Int × Int) : shp (pD p) = true := okd_shp (okd_mono (okd_pD p) (by omega))
@[simp] theorem shp_met (o : Bool) (ms : List M) : shp (.lst o (metD ms)) = true := okd_shp (okd_mono (okd_lst (k := 2) fun x h => by
  obtain ⟨m, _, rfl⟩ := List.mem_map.mp h
  exact okd_pD _) (by omega))
theorem pL_len {n : Nat} (h6 : n ≤ 6) : (pL n).length ≤ 15 := by
  have : n = 0 ∨ n = 1 ∨ n = 2 ∨ n = 3 ∨ n = 4 ∨ n = 5 ∨ n = 6 := by omega
  rcases this with rfl | rfl | rfl | rfl | rfl | rfl | rfl <;> decide
section
variable (P : D → List D → Prop) (PX : Nat → List D → Prop)
theorem l_left_in {k : Bool} {n : Nat} {ms : List M} (hL : okL k n ms) (h : P (.lst true (leftD n ms)) []) : a_left_in [lgD false k n ms] P PX := by
  have e3 := hL.len
  have e4 : ms.length ≤ 100000 := by omega
  have h2 : 2 ≤ n := by have := hL.n2; omega
  have h6 : n ≤ 6 := by have := hL.n6; omega
  simp [eq_left_in, w_left_in, lgD, e4]
  rw [compR_eq (fun _ => true) (fun d => match d with | .tup [a, b, _] => .tup [a, b] | _ => .non)]
  · have em : List.map (fun d => match d with | D.tup [a, b, _] => D.tup [a, b] | _ => .non) (List.filter (fun _ => true) (ms.map mD)) = metD ms := by
      rw [List.filter_eq_self.mpr (by simp), List.map_map]
      rfl
    rw [em]
    simp
    refine l_all_matches _ _ h2 h6 ?_
    have hl := pL_len h6
    have hl2 : (pL n).length ≤ 100000 := by omega
    simp [hl2]
    rw [compR_eq (fun d => !mem d (metD ms)) id]
    · rw [List.map_id]
      show flatL (leftD n ms) = true ∧ P (D.lst true (leftD n ms)) []
      exact ⟨flatL_left n ms, h⟩
    · intro x hx
      obtain ⟨p, _, rfl⟩ := List.mem_map.mp hx
      exact ⟨_, fun k => rfl, fun Q => by simp, fun _ A => by simp⟩
  · intro x hx
    obtain ⟨m, hm, rfl⟩ := List.mem_map.mp hx
    refine ⟨_, fun k => gTp3m _ _ _ m _ k, fun Q => by simp, fun _ A => ?_⟩
    simp [mD]
/-! points -/
def gn (k : Bool) (m : M) (p : Int) : Int := match m.2.2 with
  | none => if p = m.1 ∨ p = m.2.1 then 1 else 0
  | some x => if x = p then (if k then 2 else 1) else 0
def pts (k : Bool) (ms : List M) (p : Int) : Int := (ms.map fun m => gn k m p).sum
def hadD (k : Bool) (n : Nat) (ms : List M) : List D := (List.range n).map fun (p : Nat) => .int (pts k ms p)
def g1 (k : Bool) (m : M) : Int := match m.2.2 with | none => 1 | some x => (if k then 2 else 1) * (if x = m.1 then 1 else 0)
def g2 (k : Bool) (m : M) : Int := match m.2.2 with | none => 1 | some x => (if k then 2 else 1) * (if x = m.2.1 then 1 else 0)
theorem l_gains {k : Bool} {m : M} (h : P (.tup [.int (g1 k m), .int (g2 k m)]) []) : a_gains_of [.str (kS k), .int m.1, .int m.2.1, wD m.2.2] P PX := by
  obtain ⟨i, j, w⟩ := m
  cases w with
  | none =>
    simp [g1, g2] at h
    simp [eq_gains_of, w_gains_of, wD, h]
  | some x =>
    have e : CMul (if k = true then 2 else 1) (if x = i then 1 else 0) := .inl (by cases k <;> simp)
    have e' : CMul (if k = true then 2 else 1) (if x = j then 1 else 0) := .inl (by cases k <;> simp)
    simp [g1, g2] at h
    simp [eq_gains_of, w_gains_of, wD, e, e']
    exact h
theorem ixN_nn {n : Nat} {i : Int} (h : 0 ≤ i) (h' : i < n) : ixN n i = some i.toNat := by simp [ixN, h, h']
theorem had_len (k : Bool) (n : Nat) (ms : List M) : (hadD k n ms).length = n := by simp [hadD]
theorem had_get {k : Bool} {n : Nat} {ms : List M} {i : Nat} (h : i < n) : (hadD k n ms)[i]? = some (.int (pts k ms i)) := by simp [hadD, h]
theorem had_step {k : Bool} {n : Nat} {d : List M} {m : M} (hm : okM k n m) : ((hadD k n d).set m.1.toNat (.int (pts k d m.1 + g1 k m))).set m.2.1.toNat (.int (pts k d m.2.1 + g2 k m)) = hadD k n (d ++ [m]) := by
  obtain ⟨h1, h2, h3, h4⟩ := hm
  have pa : ∀ p, pts k (d ++ [m]) p = pts k d p + gn k m p := fun p => by simp [pts]
  have e1 : gn k m m.1 = g1 k m := by
    unfold gn g1
    cases e : m.2.2 with
    | none => simp
    | some x => simp; split <;> simp
  have e2 : gn k m m.2.1 = g2 k m := by
    unfold gn g2
    cases e : m.2.2 with
    | none => simp
    | some x => simp; split <;> simp
  have e3 : ∀ p : Int, p ≠ m.1 → p ≠ m.2.1 → gn k m p = 0 := fun p n1 n2 => by
    unfold gn
    rcases h4 with ⟨e, _⟩ | e | e <;> rw [e] <;> simp <;> omega
  apply List.ext_getElem?
  intro q
  by_cases hq : q < n
  · rw [had_get hq, pa]
    by_cases q2 : m.2.1.toNat = q
    · subst q2
      rw [List.getElem?_set_self (by rw [List.length_set, had_len]; exact hq)]
      have : ((m.2.1.toNat : Nat) : Int) = m.2.1 := by omega
      rw [this, e2]
    · rw [List.getElem?_set_ne q2]
      by_cases q1 : m.1.toNat = q
      · subst q1
        rw [List.getElem?_set_self (by rw [had_len]; exact hq)]
        have : ((m.1.toNat : Nat) : Int) = m.1 := by omega
        rw [this, e1]
      · rw [List.getElem?_set_ne q1, had_get hq, e3 q (by omega) (by omega), Int.add_zero]
  · rw [List.getElem?_eq_none (by simp [had_len]; omega), List.getElem?_eq_none (by simp [had_len]; omega)]
theorem l_had_in {k : Bool} {n : Nat} {ms : List M} (hL : okL k n ms) (h : P (.lst true (hadD k n ms)) []) : a_had_in [lgD false k n ms] P PX := by
  have h2 : 2 ≤ n := by have := hL.n2; omega
  have h6 : n ≤ 6 := by have := hL.n6; omega
  have b1 : (n : Int) ≤ 1000 := by omega
  have b2 : (-9223372036854775808 : Int) ≤ n := by omega
  simp [eq_had_in, w_had_in, lgD, b1, b2]
  have f0 : flatL (List.replicate n (D.int 0)) = true := flatL_all fun x m => by rw [List.eq_of_mem_replicate m]; rfl
  have e0 : List.replicate n (D.int 0) = hadD k n [] := by
    apply List.ext_getElem?
    intro q
    by_cases hq : q < n
    · rw [had_get hq]; simp [hq, pts]
    · rw [List.getElem?_eq_none (by simpa using hq), List.getElem?_eq_none (by rw [had_len]; omega)]
  simp [f0]
  rw [e0]
  refine sLoop_inv (fun done rest G => ∃ d r, done = d.map mD ∧ rest = r.map mD ∧ d ++ r = ms ∧ ∃ y2 y3 y4 y5 y6, G = [some (.tup [.str (kS k), .int n, .lst false (ms.map mD)]), some (.lst true (hadD k n d)), y2, y3, y4, y5, y6]) _ [] _ ⟨[], ms, rfl, rfl, rfl, none, none, none, none, none, rfl⟩ ?_ ?_
  · rintro done x rest G K ⟨d, r, rfl, er, ed, y2, y3, y4, y5, y6, rfl⟩ hK
    cases r with
    | nil => simp at er
    | cons m r =>
      simp only [List.map_cons, List.cons.injEq] at er
      obtain ⟨rfl, rfl⟩ := er
      have hm := hL.ok m (by rw [← ed]; simp)
      obtain ⟨h1, h3, h4, h5⟩ := hm
      rw [gTp3m]
      simp
      refine l_gains _ _ ?_
      have i1 : ixN n m.1 = some m.1.toNat := ixN_nn h1 (by omega)
      have i2 : ixN n m.2.1 = some m.2.1.toNat := ixN_nn (by omega) h4
      have c1 : ((m.1.toNat : Nat) : Int) = m.1 := by omega
      have c2 : ((m.2.1.toNat : Nat) : Int) = m.2.1 := by omega
      have q1 : (hadD k n d)[m.1.toNat]? = some (.int (pts k d m.1)) := by rw [had_get (by omega), c1]
      have q2 : ∀ y, ((hadD k n d).set m.1.toNat y)[m.2.1.toNat]? = some (.int (pts k d m.2.1)) := fun y => by
        rw [List.getElem?_set_ne (by omega), had_get (by omega), c2]
      simp [had_len, i1, i2, q1, q2]
      rw [had_step ⟨h1, h3, h4, h5⟩]
      exact hK _ ⟨d ++ [m], r, by simp, rfl, by simpa using ed, _, _, _, _, _, rfl⟩
  · rintro done G ⟨d, r, rfl, er, ed, y2, y3, y4, y5, y6, rfl⟩
    cases r with
    | cons _ _ => simp at er
    | nil =>
    rw [List.append_nil] at ed
    subst ed
    simpa using h
end
end T
namespace T
open PySem PySem.Spec PyProof.Rows L2
@[simp] theorem ownd_pD (p : Int × Int) : ownd (pD p) = true := rfl
theorem owndL_all : ∀ {xs : List D}, (∀ x ∈ xs, ownd x = true) → owndL xs = true
  | [], _ => rfl
  | x :: xs, h => by simp [h x List.mem_cons_self, owndL_all (xs := xs) fun y m => h y (List.mem_cons_of_mem _ m)]
@[simp] theorem owndL_left (n : Nat) (ms : List M) : owndL (leftD n ms) = true := owndL_all fun x h => by
  obtain ⟨p, _, rfl⟩ := mem_left h
  rfl
@[simp] theorem owndL_had (k : Bool) (n : Nat) (ms : List M) : owndL (hadD k n ms) = true := owndL_all fun x h => by
  obtain ⟨p, _, rfl⟩ := List.mem_map.mp h
  rfl
@[simp] theorem ownd_mD (m : M) : ownd (mD m) = true := by
  obtain ⟨i, j, w⟩ := m
  cases w <;> rfl
@[simp] theorem owndL_ms (ms : List M) : owndL (ms.map mD) = true := owndL_all fun x h => by
  obtain ⟨p, _, rfl⟩ := List.mem_map.mp h
  simp
@[simp] theorem flat_mD (m : M) : flat (mD m) = true := by
  obtain ⟨i, j, w⟩ := m
  cases w <;> rfl
@[simp] theorem flatL_ms (ms : List M) : flatL (ms.map mD) = true := flatL_all fun x h => by
  obtain ⟨p, _, rfl⟩ := List.mem_map.mp h
  simp
@[simp] theorem frzL_had (k : Bool) (n : Nat) (ms : List M) : frzL (hadD k n ms) = hadD k n ms := frzL_id fun x h => by
  obtain ⟨p, _, rfl⟩ := List.mem_map.mp h
  rfl
section
variable (P : D → List D → Prop) (PX : Nat → List D → Prop)
theorem l_need {k : Bool} {n : Nat} {ms : List M} (hL : okL k n ms) (h : P .non []) : a_need_league [lgD false k n ms] P PX := by
  rw [l_need_league P PX hL]
  exact h
theorem l_matches_left {k : Bool} {n : Nat} {ms : List M} (hL : okL k n ms) (h : P (.lst true (leftD n ms)) []) : a_matches_left [lgD false k n ms] P PX := by
  have e : frz (lgD false k n ms) = lgD false k n ms := by simp [lgD]
  simp [eq_matches_left, w_matches_left, e]
  refine l_need _ _ hL ?_
  simp [e]
  refine l_left_in _ _ hL ?_
  simpa using h
theorem l_points_had {k : Bool} {n : Nat} {ms : List M} (hL : okL k n ms) (h : P (.lst true (hadD k n ms)) []) : a_points_had [lgD false k n ms] P PX := by
  have e : frz (lgD false k n ms) = lgD false k n ms := by simp [lgD]
  simp [eq_points_had, w_points_had, e]
  refine l_need _ _ hL ?_
  simp [e]
  refine l_had_in _ _ hL ?_
  simpa using h
theorem l_own {k : Bool} {n : Nat} {ms : List M} (hl : ms.length ≤ 1000) (h : P (lgD true k n ms) []) : a__law_own [lgD false k n ms] P PX := by
  have e4 : ms.length ≤ 100000 := by omega
  simp [lgD] at h
  simp [eq__law_own, w__law_own, lgD, e4, h]
/-! sums -/
def fW (p : Int) (d : D) : Bool := match d with | .tup [_, _, .int x] => decide (x = p) | _ => false
def fT (p : Int) (d : D) : Bool := match d with | .tup [.int i, .int j, .non] => decide (i = p) || decide (j = p) | _ => false
theorem pts_sum (k : Bool) (p : Int) : ∀ ms : List M, pts k ms p = (if k then 2 else 1) * (((ms.map mD).filter (fW p)).length : Int) + (((ms.map mD).filter (fT p)).length : Int)
  | [] => by simp [pts]
  | (i, j, w) :: ms => by
    have ih := pts_sum k p ms
    have e : pts k ((i, j, w) :: ms) p = gn k (i, j, w) p + pts k ms p := by simp [pts]
    rw [e, ih]
    cases w with
    | none =>
      have e1 : fW p (mD (i, j, none)) = false := rfl
      have e2 : fT p (mD (i, j, none)) = (decide (i = p) || decide (j = p)) := rfl
      rw [List.map_cons, List.filter_cons, List.filter_cons, e1, e2]
      by_cases h : p = i ∨ p = j
      · have h' : (decide (i = p) || decide (j = p)) = true := by simp; omega
        simp [gn, h, h']
        omega
      · have h' : ¬ (decide (i = p) || decide (j = p)) = true := by simp; omega
        rw [if_neg h', if_neg Bool.false_ne_true]
        simp [gn, h]
    | some x =>
      have e1 : fW p (mD (i, j, some x)) = decide (x = p) := rfl
      have e2 : fT p (mD (i, j, some x)) = false := rfl
      rw [List.map_cons, List.filter_cons, List.filter_cons, e1, e2]
      by_cases h : x = p
      · simp [gn, h]
        cases k <;> simp <;> omega
      · simp [gn, h]
theorem l_sums {k : Bool} {n : Nat} {ms : List M} (hL : okL k n ms) (h : P (.lst true (hadD k n ms)) []) : a__law_sums [lgD false k n ms] P PX := by
  have h2 : 2 ≤ n := by have := hL.n2; omega
  have h6 : n ≤ 6 := by have := hL.n6; omega
  have e0 : (n : Int) < 4611686018427387904 := by omega
  have e3 := hL.len
  have e4 : ms.length ≤ 100000 := by omega
  have ew : atI [D.int 1, D.int 2] (if k = true then 1 else 0) = some (.int (if k then 2 else 1)) := by cases k <;> rfl
  simp [eq__law_sums, w__law_sums, lgD, e0, ew]
  refine sLoop_inv (fun done rest G => done ++ rest = rangeD 0 n ∧ ∃ y3 y4 y5 y6 y7 y8, G = [some (.tup [.str (kS k), .int n, .lst false (ms.map mD)]), some (.int (if k then 2 else 1)), some (.lst true (done.map fun d => match d with | .int p => .int (pts k ms p) | _ => .non)), y3, y4, y5, y6, y7, y8]) _ [] _ ⟨rfl, none, none, none, none, none, none, rfl⟩ ?_ ?_
  · rintro done x rest G K ⟨e, y3, y4, y5, y6, y7, y8, rfl⟩ hK
    have hx : x ∈ rangeD 0 n := by rw [← e]; simp
    obtain ⟨i, hi, rfl⟩ := mem_rangeD hx
    have hd : done.length ≤ 6 := by
      have := congrArg List.length e
      rw [List.length_append, rangeD_len] at this
      omega
    have hd' : done.length < 100000 := by omega
    simp [e4]
    rw [compR_eq (fW i) (fun _ => .int 1)]
    · simp [e4]
      rw [compR_eq (fT i) (fun _ => .int 1)]
      · simp [hd']
        exact ⟨.inl (by cases k <;> simp), hK _ ⟨by rw [← e]; simp, some (.int i), y4, y5, y6, _, _, by simp [pts_sum]; exact ⟨rfl, rfl⟩⟩⟩
      · intro x hx
        obtain ⟨m, hm, rfl⟩ := List.mem_map.mp hx
        refine ⟨_, fun k => gTp3m _ _ _ m _ k, fun Q => ?_, fun _ A => by simp⟩
        obtain ⟨a, b, w⟩ := m
        cases w with
        | none => simp [mD, wD, fT, mem, pyL, py, PyData.eqv]; exact Iff.rfl
        | some x => simp [mD, wD, fT]
    · intro x hx
      obtain ⟨m, hm, rfl⟩ := List.mem_map.mp hx
      refine ⟨_, fun k => gTp3m _ _ _ m _ k, fun Q => ?_, fun _ A => by simp⟩
      obtain ⟨a, b, w⟩ := m
      cases w with
      | none => simp [mD, wD, fW]
      | some x =>
        by_cases hxi : x = i <;> simp [mD, wD, fW, hxi]
  · rintro done G ⟨e, y3, y4, y5, y6, y7, y8, rfl⟩
    rw [List.append_nil] at e
    subst e
    have e1 : ((rangeD 0 n).map fun d => match d with | .int p => .int (pts k ms p) | _ => .non) = hadD k n ms := by
      simp [rangeD, hadD]
    rw [e1]
    simpa using h
end
end T
namespace T
open PySem PySem.Spec PyProof.Rows L2
theorem nb_mD (m : M) : nb (mD m) = true := by
  obtain ⟨i, j, w⟩ := m
  cases w <;> rfl
theorem nbL_of {xs : List D} (h : ∀ x ∈ xs, nb x = true) : nb.nbL xs = true := nbL_all.mpr h
theorem nbL_ms (ms : List M) : nb.nbL (ms.map mD) = true := nbL_of fun x h => by
  obtain ⟨m, _, rfl⟩ := List.mem_map.mp h
  exact nb_mD m
theorem nbL_left (n : Nat) (ms : List M) : nb.nbL (leftD n ms) = true := nbL_of fun x h => by
  obtain ⟨p, _, rfl⟩ := mem_left h
  rfl
theorem nbL_had (k : Bool) (n : Nat) (ms : List M) : nb.nbL (hadD k n ms) = true := nbL_of fun x h => by
  obtain ⟨p, _, rfl⟩ := List.mem_map.mp h
  rfl
@[simp] theorem eq_left (n : Nat) (ms : List M) : deqL (leftD n ms) (leftD n ms) = true := deqL_self (nbL_left n ms)
@[simp] theorem eq_had (k : Bool) (n : Nat) (ms : List M) : deqL (hadD k n ms) (hadD k n ms) = true := deqL_self (nbL_had k n ms)
@[simp] theorem eq_ms (ms : List M) : deqL (ms.map mD) (ms.map mD) = true := deqL_self (nbL_ms ms)
theorem okd_mD (m : M) : okd 2 (mD m) := okd_tup (k := 1) fun x h => by
  obtain ⟨i, j, w⟩ := m
  simp at h
  rcases h with rfl | rfl | rfl
  · exact okd_flat0 rfl
  · exact okd_flat0 rfl
  · cases w <;> exact okd_flat0 rfl
theorem okd_ms (o : Bool) (ms : List M) : okd 3 (.lst o (ms.map mD)) := okd_lst fun x h => by
  obtain ⟨m, _, rfl⟩ := List.mem_map.mp h
  exact okd_mD m
theorem okd_left (o : Bool) (n : Nat) (ms : List M) : okd 3 (.lst o (leftD n ms)) := okd_lst fun x h => by
  obtain ⟨p, _, rfl⟩ := mem_left h
  exact okd_pD p
theorem okd_had (o k : Bool) (n : Nat) (ms : List M) : okd 3 (.lst o (hadD k n ms)) := okd_lst fun x h => by
  obtain ⟨p, _, rfl⟩ := List.mem_map.mp h
  exact okd_flat0 rfl
@[simp] theorem okd_two (o o1 o2 k : Bool) (n : Nat) (ms : List M) : shp (.lst o [.lst o1 (leftD n ms), .lst o2 (hadD k n ms)]) = true := okd_shp (okd_mono (okd_lst (k := 3) fun x h => by
  simp at h
  rcases h with rfl | rfl
  · exact okd_left _ _ _
  · exact okd_had _ _ _ _) (by omega))
@[simp] theorem okd_lg (o k : Bool) (n : Int) (ms : List M) : shp (.tup [.str (kS k), .int n, .lst o (ms.map mD)]) = true := okd_shp (okd_mono (okd_tup (k := 3) fun x h => by
  simp at h
  rcases h with rfl | rfl | rfl
  · cases k <;> exact okd_flat0 (by decide +kernel)
  · exact okd_flat0 rfl
  · exact okd_ms _ _) (by omega))
@[simp] theorem eq_kS (k : Bool) : (kS k = kS k) = True := by simp
section
variable (P : D → List D → Prop) (PX : Nat → List D → Prop)
abbrev LH (o k : Bool) (n : Nat) (ms : List M) : D := .lst o [.lst o (leftD n ms), .lst o (hadD k n ms)]
theorem left_len {n : Nat} (h6 : n ≤ 6) (ms : List M) : (leftD n ms).length ≤ 100000 := by
  have := pL_len h6
  have h := List.length_filter_le (fun d => !mem d (metD ms)) ((pL n).map pD)
  rw [List.length_map] at h
  show ((leftD n ms)).length ≤ _
  unfold leftD
  omega
theorem l_right {k : Bool} {n : Nat} {ms : List M} (hL : okL k n ms) {hs : List D} (hh : hs.length < 1000) (h : P (.bl true) [.lst true (hs ++ [.tup [LH true k n ms, LH true k n ms]])]) : a__law_right [lgD false k n ms, .lst true hs] P PX := by
  have h2 : 2 ≤ n := by have := hL.n2; omega
  have h6 : n ≤ 6 := by have := hL.n6; omega
  have e3 := hL.len
  have e4 : ms.length ≤ 100000 := by omega
  have el := left_len h6 ms
  have eh : (hadD k n ms).length ≤ 100000 := by rw [had_len]; omega
  have elg : frz (lgD false k n ms) = lgD false k n ms := by simp [lgD]
  simp [eq__law_right, w__law_right, elg]
  refine l_own _ _ hL.len ?_
  simp [lgD, e4]
  rw [compR_eq (fun _ => true) (fun d => match d with | .tup [a, b, _] => .tup [a, b] | _ => .non)]
  · have em : List.map (fun d => match d with | D.tup [a, b, _] => D.tup [a, b] | _ => .non) (List.filter (fun _ => true) (ms.map mD)) = metD ms := by
      rw [List.filter_eq_self.mpr (by simp), List.map_map]
      rfl
    rw [em]
    simp
    refine l_pairs _ _ h2 h6 ?_
    have hl := pL_len h6
    have hl2 : (pL n).length ≤ 100000 := by omega
    simp [hl2]
    rw [compR_eq (fun d => !mem d (metD ms)) id]
    · rw [List.map_id]
      show flatL (leftD n ms) = true ∧ _
      simp
      refine l_sums _ _ hL ?_
      simp
      refine sLoop_inv (fun done rest G => ∃ y3 y5 y7 y8 y9, G = [some (lgD false k n ms), some (.lst true hs), some (lgD true k n ms), y3, some (.lst true (metD ms)), y5, some (LH true k n ms), y7, y8, y9] ∧ ∀ x ∈ rest, x = .int 0 ∨ x = .int 1) _ [] _ ⟨none, none, none, none, none, rfl, ?_⟩ ?_ ?_
      · intro x hx
        obtain ⟨i, hi, rfl⟩ := mem_rangeD hx
        have : i = 0 ∨ i = 1 := by omega
        rcases this with rfl | rfl <;> simp
      · rintro done x rest G K ⟨y3, y5, y7, y8, y9, rfl, hx⟩ hK
        have hx1 := hx x List.mem_cons_self
        simp [elg]
        refine l_matches_left _ _ hL ?_
        simp [elg]
        refine l_points_had _ _ hL ?_
        simp [lgD, el, eh]
        rw [compR_eq (fun _ => false) id]
        · simp [eh]
          rw [compR_eq (fun _ => false) id]
          · simp
            have el' : (leftD n ms).length < 99999 := by
              have h1 := List.length_filter_le (fun d => !mem d (metD ms)) ((pL n).map pD)
              rw [List.length_map] at h1
              show (List.filter _ _).length < _
              omega
            have el2 : (leftD n ms).length < 100000 := by omega
            have eh' : (hadD k n ms).length < 99999 := by rw [had_len]; omega
            have eh2 : (hadD k n ms).length < 100000 := by omega
            rcases hx1 with rfl | rfl
            · simp [ixN, el', eh', el2, eh2]
              exact hK _ ⟨y3, y5, some (.int 0), some (.lst true [.lst true (leftD n ms ++ [.tup [.int 9, .int 9]]), .lst true (hadD k n ms ++ [.tup [.int 9, .int 9]])]), y9, rfl, fun y m => hx y (List.mem_cons_of_mem _ m)⟩
            · simp [ixN, el', eh', el2, eh2]
              exact hK _ ⟨y3, y5, some (.int 1), some (.lst true [.lst true (leftD n ms ++ [.tup [.int 9, .int 9]]), .lst true (hadD k n ms ++ [.tup [.int 9, .int 9]])]), y9, rfl, fun y m => hx y (List.mem_cons_of_mem _ m)⟩
          · intro z hz
            obtain ⟨p, _, rfl⟩ := List.mem_map.mp hz
            exact ⟨_, fun k => rfl, fun Q => by simp, fun z => by cases z⟩
        · intro z hz
          obtain ⟨p, _, rfl⟩ := mem_left hz
          refine ⟨_, fun k => rfl, fun Q => by simp [pD], fun z => by cases z⟩
      · rintro done G ⟨y3, y5, y7, y8, y9, rfl, _⟩
        have hh' : hs.length < 100000 := by omega
        simp [elg]
        refine l_matches_left _ _ hL ?_
        simp [elg]
        refine l_points_had _ _ hL ?_
        simp [lgD, hh']
        exact h
    · intro x hx
      obtain ⟨p, _, rfl⟩ := List.mem_map.mp hx
      exact ⟨_, fun k => rfl, fun Q => by simp, fun _ A => by simp⟩
  · intro x hx
    obtain ⟨m, hm, rfl⟩ := List.mem_map.mp hx
    refine ⟨_, fun k => rfl, fun Q => by simp, fun _ A => ?_⟩
    simp [mD, cut2]
end
end T
namespace T
open PySem PySem.Spec PyProof.Rows L2
abbrev Pool := Int × Int × Int
def poolD (p : Pool) : D := .lst true [.int p.1, .int p.2.1, .int p.2.2]
def DK (ps : List Pool) (c : Int) : D := .lst true [.lst true (ps.map poolD), .int c]
@[simp] theorem frzL_len' (xs : List D) : (frzL xs).length = xs.length := frzL_len xs
@[simp] theorem owndL_pools (ps : List Pool) : owndL (ps.map poolD) = true := owndL_all fun x h => by
  obtain ⟨p, _, rfl⟩ := List.mem_map.mp h
  rfl
@[simp] theorem ownd_DK (ps : List Pool) (c : Int) : ownd (DK ps c) = true := by simp [DK]
theorem wDraw_i {ri ra : WR} {wr : WS} {E : En} {G : T.Env} {ps ys : List D} {c m n c' : Int} {k : Nat} (hG : G = [some (.lst true [.lst true ps, .int c]), some (.int m), none, none, none]) (hi : ∀ Q : D → Prop, Q (.int n) → ri G Q) (hn : ixN ps.length n = some k) (hk : ps[k]? = some (.lst true ys)) (ha : ∀ Q : D → Prop, Q (.int c') → ra G Q)
    (h : wr ⟨fun _ => False, fun d G' => ∃ r g0 g1 ys' g3 g4, d = .int r ∧ G' = [g0, g1, some (.lst true ys'), g3, g4] ∧ E.rt (.int r) [some (.lst true [.lst true (ps.set k (.lst true ys')), .int c']), none, none, none, none], fun _ => False, fun _ => False, fun _ _ => False⟩ [none, some (.int m), some (.lst true ys), none, none]) : wDraw ri ra wr E G := by
  refine ⟨ps, c, m, hG, hi _ ?_⟩
  simp only [hn, hk]
  exact ha _ h
section
variable (P : D → List D → Prop) (PX : Nat → List D → Prop)
theorem l_draw {ps : List Pool} {c many : Int} (hp : ps ≠ []) (h0 : 0 < many) (h1 : many < 1000) (h : ∀ r ps' c', 0 ≤ r → r < many → ps' ≠ [] → P (.int r) [DK ps' c']) : a__law_draw [DK ps c, .int many] P PX := by
  have hl : 0 < ps.length := List.length_pos_iff.mpr hp
  have hl' : (0 : Int) < ps.length := by omega
  have hm0 := Int.emod_nonneg c (show (ps.length : Int) ≠ 0 by omega)
  have hm1 := Int.emod_lt_of_pos c hl'
  have hi : ixN ps.length (c % ps.length) = some (c % ps.length).toNat := ixN_nn hm0 hm1
  have hk : (c % ps.length).toNat < ps.length := by omega
  generalize (c % (ps.length : Int)).toNat = k at hi hk
  obtain ⟨a, b, e, hps⟩ : ∃ a b e, ps[k] = (a, b, e) := ⟨_, _, _, rfl⟩
  have fin : ∀ (p' : Pool) (r : Int), 0 ≤ r → r < many → P (.int r) [.lst true [.lst true ((ps.map poolD).set k (poolD p')), .int (c + 1)]] := fun p' r r0 r1 => by
    rw [← List.map_set]
    exact h r (ps.set k p') (c + 1) r0 r1 (by intro z; have := congrArg List.length z; rw [List.length_set, List.length_nil] at this; omega)
  have dv : CDiv a many := ⟨h0, by omega⟩
  simp only [eq__law_draw, w__law_draw]
  refine wDraw_i (ps := ps.map poolD) (c := c) (m := many) (n := c % ps.length) (k := k) (ys := [.int a, .int b, .int e]) (c' := c + 1) rfl (fun Q q => ?_) (by rw [List.length_map]; exact hi) (by simp [hk, hps, poolD]) (fun Q q => ?_) ?_
  · simp [DK, hl, q]
  · simp [DK, q]
  · have x30 : ixN 3 0 = some 0 := rfl
    have x32 : ixN 3 2 = some 2 := rfl
    have cm : ∀ x y : Int, CMul (x % 99999999947) y := fun x y => .inl ⟨by have := Int.emod_nonneg x (show (99999999947 : Int) ≠ 0 by decide); omega, by have := Int.emod_lt_of_pos x (show (0 : Int) < 99999999947 by decide); omega⟩
    have cm2 : ∀ x y : Int, CMul (x % 99999999821) y := fun x y => .inl ⟨by have := Int.emod_nonneg x (show (99999999821 : Int) ≠ 0 by decide); omega, by have := Int.emod_lt_of_pos x (show (0 : Int) < 99999999821 by decide); omega⟩
    have cm3 : ∀ y : Int, CMul 700001 y := fun y => .inl ⟨by decide, by decide⟩
    have cd : ∀ x : Int, CDiv x 13 := fun x => ⟨by decide, by decide⟩
    have fa : ∀ x : Int, P (.int (x % many)) [.lst true [.lst true ((ps.map poolD).set k (.lst true [.int a, .int b, .int (e + 1)])), .int (c + 1)]] := fun x => fin (a, b, e + 1) _ (Int.emod_nonneg x (by omega)) (Int.emod_lt_of_pos x h0)
    have fb : P (.int (a % many)) [.lst true [.lst true ((ps.map poolD).set k (.lst true [.int (a / many), .int b, .int e])), .int (c + 1)]] := fin (a / many, b, e) _ (Int.emod_nonneg a (by omega)) (Int.emod_lt_of_pos a h0)
    by_cases hb : b = 1
    · subst hb
      by_cases ha : 0 < a
      · simp [dv, x30, x32, ha, h0, cm, cm2, cm3, cd]
        exact ⟨_, _, _, ⟨rfl, rfl, rfl⟩, fb⟩
      · simp [dv, x30, x32, ha, h0, cm, cm2, cm3, cd]
        exact ⟨_, _, _, ⟨rfl, rfl, rfl⟩, fa _⟩
    · simp [dv, x30, x32, hb, h0, cm, cm2, cm3, cd]
      exact ⟨_, _, _, ⟨rfl, rfl, rfl⟩, fa _⟩
end
end T
namespace T
open PySem PySem.Spec PyProof.Rows L2
section
variable (P : D → List D → Prop) (PX : Nat → List D → Prop)
theorem l_outcome {ps : List Pool} {c : Int} {k : Bool} {i j : Int} (hp : ps ≠ []) (h : ∀ w ps' c', okW k (i, j, w) → ps' ≠ [] → P (wD w) [DK ps' c']) : a__law_outcome [DK ps c, .str (kS k), .int i, .int j] P PX := by
  have e0 : atI [D.non, D.int i] (if k = false then 1 else 0) = some (wD (if k then none else some i)) := by cases k <;> rfl
  simp [eq__law_outcome, w__law_outcome, e0]
  refine l_draw _ _ hp (by decide) (by decide) fun r ps' c' r0 r1 hp' => ?_
  have : r = 0 ∨ r = 1 ∨ r = 2 := by omega
  rcases this with rfl | rfl | rfl
  · simp
    exact h (some i) ps' c' (.inr (.inl rfl)) hp'
  · simp
    exact h (some j) ps' c' (.inr (.inr rfl)) hp'
  · simp
    refine h _ ps' c' ?_ hp'
    cases k
    · exact .inr (.inl rfl)
    · exact .inl ⟨rfl, rfl⟩
end
end T
namespace T
open PySem PySem.Spec PyProof.Rows L2
section
variable (P : D → List D → Prop) (PX : Nat → List D → Prop)
theorem l_deck {ns : List Int} (hn : ns.length ≤ 63) (h : ∀ ps c, ps ≠ [] → P (DK ps c) []) : a__law_deck [.scr ns] P PX := by
  obtain ⟨N, hN, hN1, hN2⟩ : ∃ N : Nat, (if 1 < (if (ns.length : Int) < 63 then (ns.length : Int) else 63) then (if (ns.length : Int) < 63 then (ns.length : Int) else 63) else 1) = (N : Int) ∧ 1 ≤ N ∧ N ≤ 63 := by
    refine ⟨max 1 ns.length, ?_, by omega, by omega⟩
    split <;> split <;> omega
  have cp : CPow 10 18 := ⟨by decide, by decide, by decide⟩
  have cm : ∀ y : Int, CMul 31 y := fun y => .inl ⟨by decide, by decide⟩
  have e0 : (N : Int) < 4611686018427387904 := by omega
  simp [eq__law_deck, w__law_deck, hN, e0]
  refine sLoop_inv (fun done rest G => done ++ rest = rangeD 0 N ∧ ∃ (ps : List Pool) (y2 y3 : Option D), ps.length = done.length ∧ G = [some (.scr ns), some (.lst true (ps.map poolD)), y2, y3]) _ [] _ ⟨rfl, [], none, none, rfl, rfl⟩ ?_ ?_
  · rintro done x rest G K ⟨e, ps, y2, y3, hps, rfl⟩ hK
    have hx : x ∈ rangeD 0 N := by rw [← e]; simp
    obtain ⟨i, hi, rfl⟩ := mem_rangeD hx
    have hd : done.length ≤ 63 := by
      have := congrArg List.length e
      rw [List.length_append, rangeD_len] at this
      omega
    have hp : ps.length < 100000 := by omega
    have fin : ∀ a b d : Int, K [some (.scr ns), some (.lst true (ps.map poolD ++ [.lst true [.int a, .int b, .int d]])), some (.int i), some (.int a)] := fun a b d => hK _ ⟨by rw [← e]; simp, ps ++ [(a, b, d)], _, _, by simp [hps], by simp [poolD]; exact ⟨rfl, rfl⟩⟩
    by_cases hlt : i < ns.length
    · have hg : atI ns (i : Int) = some ns[i] := by simp [atI, ixN, hlt]
      simp [hlt, hg, cp, cm, hp]
      exact fin _ _ _
    · simp [hlt, cp, cm, hp]
      exact fin _ _ _
  · rintro done G ⟨e, ps, y2, y3, hps, rfl⟩
    have hne : ps ≠ [] := by
      intro z
      subst z
      have := congrArg List.length e
      rw [List.length_append, rangeD_len, ← hps] at this
      simp at this
      omega
    simp
    exact h ps 0 hne
@[simp] theorem owndL_pL (n : Nat) : owndL ((pL n).map pD) = true := owndL_all fun x h => by
  obtain ⟨p, _, rfl⟩ := List.mem_map.mp h
  rfl
/-- a pair and its place -/
def ep (o : Nat) (rl : List (Int × Int)) : List D := rl.mapIdx fun i p => .tup [.int ((o + i : Nat) : Int), pD p]
theorem ep_cons (o : Nat) (p : Int × Int) (rl : List (Int × Int)) : ep o (p :: rl) = .tup [.int o, pD p] :: ep (o + 1) rl := by
  simp [ep, List.mapIdx_cons]
  congr 1
  funext i q
  congr 2
  simp
  omega
theorem enum_pL (n : Nat) : enumD ((pL n).map pD) = ep 0 (pL n) := by
  apply List.ext_getElem?
  intro i
  simp [enumD, ep]
  rfl
theorem pL_sorted {n : Nat} (h6 : n ≤ 6) : (pL n).Pairwise ltP ∧ ∀ p ∈ pL n, 0 ≤ p.1 ∧ p.1 < p.2 ∧ p.2 < n := by
  have : n = 0 ∨ n = 1 ∨ n = 2 ∨ n = 3 ∨ n = 4 ∨ n = 5 ∨ n = 6 := by omega
  rcases this with rfl | rfl | rfl | rfl | rfl | rfl | rfl <;> simp [pL, List.range_succ, ltP]
theorem l_some_league {ps : List Pool} {c : Int} (hp : ps ≠ []) (h : ∀ (k : Bool) (n : Nat) (ms : List M) ps' c', okL k n ms → ms.length ≤ 15 → ps' ≠ [] → P (lgD true k n ms) [DK ps' c']) : a__law_some_league [DK ps c] P PX := by
  simp [eq__law_some_league, w__law_some_league, w__law_some_league_8]
  refine l_draw _ _ hp (by decide) (by decide) fun r ps c r0 r1 hp => ?_
  obtain ⟨k, hk⟩ : ∃ k, atI [D.str (Str.ofString "plain"), D.str (Str.ofString "ties")] r = some (.str (kS k)) := by
    have : r = 0 ∨ r = 1 := by omega
    rcases this with rfl | rfl
    · exact ⟨false, rfl⟩
    · exact ⟨true, rfl⟩
  simp [hk, w__law_some_league_7]
  refine l_draw _ _ hp (by decide) (by decide) fun r1 ps c r10 r11 hp => ?_
  simp
  refine l_draw _ _ hp (by decide) (by decide) fun r2 ps c r20 r21 hp => ?_
  simp
  refine l_draw _ _ hp (by decide) (by decide) fun r3 ps c r30 r31 hp => ?_
  obtain ⟨n, hn, h2, h6⟩ : ∃ n : Nat, atI [D.int (2 + r1), D.int 6, D.int (4 + r2)] r3 = some (.int n) ∧ 2 ≤ n ∧ n ≤ 6 := by
    have : r3 = 0 ∨ r3 = 1 ∨ r3 = 2 := by omega
    rcases this with rfl | rfl | rfl
    · exact ⟨(2 + r1).toNat, by simp; omega, by omega, by omega⟩
    · exact ⟨6, rfl, by omega, by omega⟩
    · exact ⟨(4 + r2).toNat, by simp; omega, by omega, by omega⟩
  simp [hn, w__law_some_league_6]
  refine l_draw _ _ hp (by decide) (by decide) fun way ps c w0 w1 hp => ?_
  simp [w__law_some_league_5]
  refine l_draw _ _ hp (by decide) (by decide) fun most ps c _ _ hp => ?_
  simp [w__law_some_league_4, w__law_some_league_3]
  refine l_pairs _ _ h2 h6 ?_
  simp [enum_pL]
  obtain ⟨srt, rng⟩ := pL_sorted h6
  have hl := pL_len h6
  refine sLoop_inv (fun done rest G => ∃ (o : Nat) (rl : List (Int × Int)) (ms : List M) (ps : List Pool) (c : Int) (y6 y7 y8 : Option D), rest = ep o rl ∧ ps ≠ [] ∧ rl.Pairwise ltP ∧ (∀ p ∈ rl, 0 ≤ p.1 ∧ p.1 < p.2 ∧ p.2 < n) ∧ okL k n ms ∧ (∀ m ∈ ms, ∀ p ∈ rl, ltP (m.1, m.2.1) p) ∧ ms.length + rl.length ≤ 15 ∧
    G = [some (DK ps c), some (.str (kS k)), some (.int n), some (.int way), some (.int most), some (.lst true (ms.map mD)), y6, y7, y8]) _ [] _ ⟨0, pL n, [], ps, c, none, none, none, rfl, hp, srt, rng, ⟨by omega, by omega, by simp, .nil, by simp⟩, by simp, by simpa using hl, rfl⟩ ?_ ?_
  · rintro done x rest G K ⟨o, rl, ms, ps, c, y6, y7, y8, er, hp, srt, rng, hL, hlt, hlen, rfl⟩ hK
    cases rl with
    | nil => simp [ep] at er
    | cons p rl =>
      rw [ep_cons] at er
      simp only [List.cons.injEq] at er
      obtain ⟨rfl, rfl⟩ := er
      simp [w__law_some_league_1]
      refine l_draw _ _ hp (by decide) (by decide) fun r1 ps c _ _ hp => ?_
      simp
      refine l_draw _ _ hp (by decide) (by decide) fun r2 ps c _ _ hp => ?_
      simp
      obtain ⟨t, ht⟩ : ∃ t, atI [D.bl false, D.bl true, D.bl (decide (r1 = 0)), D.bl (decide (r2 = 0)), D.bl (decide ((o : Int) < most))] way = some (.bl t) := by
        have : way = 0 ∨ way = 1 ∨ way = 2 ∨ way = 3 ∨ way = 4 := by omega
        rcases this with rfl | rfl | rfl | rfl | rfl <;> exact ⟨_, rfl⟩
      have rp := rng p List.mem_cons_self
      have srt2 := (List.pairwise_cons.mp srt)
      have hln : ms.length < 100000 := by omega
      cases t with
      | false =>
        simp [ht, w__law_some_league_0]
        exact hK _ ⟨o + 1, rl, ms, ps, c, some (.int o), some (pD p), some (.bl false), rfl, hp, srt2.2, fun q m => rng q (List.mem_cons_of_mem _ m), hL, fun m hm q hq => hlt m hm q (List.mem_cons_of_mem _ hq), by rw [List.length_cons] at hlen; omega, rfl⟩
      | true =>
        simp [ht, w__law_some_league_0, pD]
        refine l_outcome _ _ hp fun w ps c hw hp => ?_
        have ow : ownd (wD w) = true := by cases w <;> rfl
        simp [ow, hln]
        refine hK _ ⟨o + 1, rl, ms ++ [(p.1, p.2, w)], ps, c, some (.int o), some (pD p), some (.bl true), rfl, hp, srt2.2, fun q m => rng q (List.mem_cons_of_mem _ m), ⟨hL.n2, hL.n6, fun m hm => ?_, ?_, by rw [List.length_append, List.length_singleton]; rw [List.length_cons] at hlen; omega⟩, fun m hm q hq => ?_, by rw [List.length_append, List.length_singleton]; rw [List.length_cons] at hlen; omega, by simp [mD, pD]⟩
        · rcases List.mem_append.mp hm with z | z
          · exact hL.ok m z
          · rw [List.mem_singleton.mp z]
            exact ⟨rp.1, rp.2.1, rp.2.2, hw⟩
        · refine List.pairwise_append.mpr ⟨hL.lt, List.pairwise_singleton _ _, fun a ha b hb => ?_⟩
          rw [List.mem_singleton.mp hb]
          exact hlt a ha p List.mem_cons_self
        · rcases List.mem_append.mp hm with z | z
          · exact hlt m z q (List.mem_cons_of_mem _ hq)
          · rw [List.mem_singleton.mp z]
            exact srt2.1 q hq
  · rintro done G ⟨o, rl, ms, ps, c, y6, y7, y8, er, hp, srt, rng, hL, hlt, hlen, rfl⟩
    simp [w__law_some_league_2]
    exact h k n ms ps c hL (by omega) hp
end
end T
namespace T
open PySem PySem.Spec PyProof.Rows L2
def okH (d : D) : Prop := ∃ (k : Bool) (n : Nat) (ms : List M), d = .tup [LH true k n ms, LH true k n ms]
theorem owndL_H {hs : List D} (h : ∀ d ∈ hs, okH d) : owndL hs = true := owndL_all fun x m => by
  obtain ⟨k, n, ms, rfl⟩ := h x m
  simp
theorem okH_add {hs : List D} (h : ∀ d ∈ hs, okH d) (k : Bool) (n : Nat) (ms : List M) : ∀ d ∈ hs ++ [D.tup [LH true k n ms, LH true k n ms]], okH d := fun d m => by
  rcases List.mem_append.mp m with z | z
  · exact h d z
  · rw [List.mem_singleton.mp z]
    exact ⟨k, n, ms, rfl⟩
theorem okL_erase {k : Bool} {n : Int} {ms : List M} (h : okL k n ms) (i : Nat) : okL k n (ms.eraseIdx i) :=
  ⟨h.n2, h.n6, fun m hm => h.ok m ((List.eraseIdx_sublist ms i).subset hm), h.lt.sublist (List.eraseIdx_sublist ms i), Nat.le_trans (List.eraseIdx_sublist ms i).length_le h.len⟩
theorem law_true (ns : List Int) (hn : ns.length ≤ 63) : a_law [.scr ns] (fun d _ => d = .bl true) (fun _ _ => False) := by
  simp [eq_law, w_law, w_law_8]
  refine l_deck _ _ hn fun ps c hp => ?_
  simp [w_law_7, w_law_6]
  refine sLoop_inv (fun done rest G => ∃ (ps : List Pool) (c : Int) (hs : List D) (y3 y4 y5 : Option D), ps ≠ [] ∧ (∀ d ∈ hs, okH d) ∧ hs.length ≤ 2 * done.length ∧ done.length + rest.length = 12 ∧ G = [some (.scr ns), some (DK ps c), some (.lst true hs), y3, y4, y5]) _ [] _ ⟨ps, c, [], none, none, none, hp, by simp, by simp, rfl, rfl⟩ ?_ ?_
  · rintro done x rest G K ⟨ps, c, hs, y3, y4, y5, hp, hH, hlen, h12, rfl⟩ hK
    rw [List.length_cons] at h12
    have hs1 : hs.length < 1000 := by omega
    simp [w_law_4]
    refine l_some_league _ _ hp fun k n ms ps c hL hms hp => ?_
    simp [lgD, w_law_3]
    refine l_right _ _ hL hs1 ?_
    have ow1 : owndL (hs ++ [D.tup [LH true k n ms, LH true k n ms]]) = true := owndL_H (okH_add hH k n ms)
    have sm : shp (.lst false (ms.map mD)) = true := okd_shp (okd_mono (okd_ms false ms) (by omega))
    have hl2 : (hs ++ [D.tup [LH true k n ms, LH true k n ms]]).length = hs.length + 1 := by simp
    simp [ow1, w_law_2, sm]
    by_cases hne : ms = []
    · subst hne
      simp
      exact hK _ ⟨ps, c, _, _, _, _, hp, okH_add hH k n [], by rw [hl2, List.length_append, List.length_singleton]; omega, by rw [List.length_append, List.length_singleton]; omega, rfl⟩
    · have hd : deqL (ms.map mD) [] = false := by
        cases ms with
        | nil => exact absurd rfl hne
        | cons _ _ => rfl
      have hpos : 0 < ms.length := List.length_pos_iff.mpr hne
      simp [hd, w_law_1]
      refine l_draw _ _ hp (by omega) (by omega) fun r ps c r0 r1 hp => ?_
      have i1 : ixN ms.length r = some r.toNat := ixN_nn r0 r1
      have hr : r.toNat < ms.length := by omega
      have b1 : (-9223372036854775808 : Int) ≤ r := by omega
      have b2 : r < 9223372036854775808 := by omega
      have er : (ms.map mD).eraseIdx r.toNat = (ms.eraseIdx r.toNat).map mD := by
        rw [List.eraseIdx_eq_take_drop_succ, List.eraseIdx_eq_take_drop_succ, List.map_append, List.map_take, List.map_drop]
      simp [i1, hr, b1, b2, er, w_law_0]
      have hL' := okL_erase hL r.toNat
      have hH' := okH_add hH k n ms
      refine l_right _ _ hL' (by rw [hl2]; omega) ?_
      generalize hg : hs ++ [D.tup [LH true k n ms, LH true k n ms]] = hs' at hH' hl2 ⊢
      have ow2 : owndL (hs' ++ [D.tup [LH true k n (ms.eraseIdx r.toNat), LH true k n (ms.eraseIdx r.toNat)]]) = true := owndL_H (okH_add hH' k n _)
      simp [ow2]
      exact hK _ ⟨ps, c, _, _, _, _, hp, okH_add hH' k n (ms.eraseIdx r.toNat), by rw [List.length_append, List.length_append, List.length_singleton, List.length_singleton]; omega, by rw [List.length_append, List.length_singleton]; omega, rfl⟩
  · rintro done G ⟨ps, c, hs, y3, y4, y5, hp, hH, hlen, h12, rfl⟩
    have hl : hs.length ≤ 100000 := by simp at h12; omega
    simp [w_law_5, hl]
    rw [compR_eq (fun _ => false) id]
    · simp
    · intro x hx
      rw [frzL_map] at hx
      obtain ⟨d, hd, rfl⟩ := List.mem_map.mp hx
      obtain ⟨k, n, ms, rfl⟩ := hH d hd
      exact ⟨_, fun k => rfl, fun Q => by simp, fun z => by cases z⟩
end T
namespace T
open PySem PySem.Spec PyProof.Rows L2
theorem all_mk {l : PySem.W.OpenLaw} {w : World} {K : PySem.W.Frag} {h : Heap} {mg : Str → Option Value} {fa : Addr} (X : K.In h) (G : h.Ns mainGlobals mg) (hfa : mg "law" = some (.ref fa))
    {f0 : Addr} {od0 an0 : Option Addr} {sl0 : Array (Option Value)} {oc0 kV0 dc0 pm0 cd0 ct0 : Value}
    (a0 : PySem.W.nsIn K mainGlobals "is_whole" = some (some (.ref f0))) (l0 : K.lookup f0 = some ⟨oc0, od0, .func (PySem.W.fnOf "is_whole" "is_whole" (defArgs s_is_whole) (defBody s_is_whole) (defScope s_is_whole) .none kV0 dc0 pm0 an0 cd0 ct0), sl0⟩) (c0 : PySem.W.codeIn K cd0 "is_whole" = true) (k0 : PySem.W.keepIn K (.ref f0) = true)
    {f1 : Addr} {od1 an1 : Option Addr} {sl1 : Array (Option Value)} {oc1 kV1 dc1 pm1 cd1 ct1 : Value}
    (a1 : PySem.W.nsIn K mainGlobals "all_matches" = some (some (.ref f1))) (l1 : K.lookup f1 = some ⟨oc1, od1, .func (PySem.W.fnOf "all_matches" "all_matches" (defArgs s_all_matches) (defBody s_all_matches) (defScope s_all_matches) .none kV1 dc1 pm1 an1 cd1 ct1), sl1⟩) (c1 : PySem.W.codeIn K cd1 "all_matches" = true) (k1 : PySem.W.keepIn K (.ref f1) = true)
    {f2 : Addr} {od2 an2 : Option Addr} {sl2 : Array (Option Value)} {oc2 kV2 dc2 pm2 cd2 ct2 : Value}
    (a2 : PySem.W.nsIn K mainGlobals "worth_in" = some (some (.ref f2))) (l2 : K.lookup f2 = some ⟨oc2, od2, .func (PySem.W.fnOf "worth_in" "worth_in" (defArgs s_worth_in) (defBody s_worth_in) (defScope s_worth_in) .none kV2 dc2 pm2 an2 cd2 ct2), sl2⟩) (c2 : PySem.W.codeIn K cd2 "worth_in" = true) (k2 : PySem.W.keepIn K (.ref f2) = true)
    {f3 : Addr} {od3 an3 : Option Addr} {sl3 : Array (Option Value)} {oc3 kV3 dc3 pm3 cd3 ct3 : Value}
    (a3 : PySem.W.nsIn K mainGlobals "_law_deck" = some (some (.ref f3))) (l3 : K.lookup f3 = some ⟨oc3, od3, .func (PySem.W.fnOf "_law_deck" "_law_deck" (defArgs s__law_deck) (defBody s__law_deck) (defScope s__law_deck) .none kV3 dc3 pm3 an3 cd3 ct3), sl3⟩) (c3 : PySem.W.codeIn K cd3 "_law_deck" = true) (k3 : PySem.W.keepIn K (.ref f3) = true)
    {f4 : Addr} {od4 an4 : Option Addr} {sl4 : Array (Option Value)} {oc4 kV4 dc4 pm4 cd4 ct4 : Value}
    (a4 : PySem.W.nsIn K mainGlobals "_law_draw" = some (some (.ref f4))) (l4 : K.lookup f4 = some ⟨oc4, od4, .func (PySem.W.fnOf "_law_draw" "_law_draw" (defArgs s__law_draw) (defBody s__law_draw) (defScope s__law_draw) .none kV4 dc4 pm4 an4 cd4 ct4), sl4⟩) (c4 : PySem.W.codeIn K cd4 "_law_draw" = true) (k4 : PySem.W.keepIn K (.ref f4) = true)
    {f5 : Addr} {od5 an5 : Option Addr} {sl5 : Array (Option Value)} {oc5 kV5 dc5 pm5 cd5 ct5 : Value}
    (a5 : PySem.W.nsIn K mainGlobals "_law_pairs" = some (some (.ref f5))) (l5 : K.lookup f5 = some ⟨oc5, od5, .func (PySem.W.fnOf "_law_pairs" "_law_pairs" (defArgs s__law_pairs) (defBody s__law_pairs) (defScope s__law_pairs) .none kV5 dc5 pm5 an5 cd5 ct5), sl5⟩) (c5 : PySem.W.codeIn K cd5 "_law_pairs" = true) (k5 : PySem.W.keepIn K (.ref f5) = true)
    {f6 : Addr} {od6 an6 : Option Addr} {sl6 : Array (Option Value)} {oc6 kV6 dc6 pm6 cd6 ct6 : Value}
    (a6 : PySem.W.nsIn K mainGlobals "_law_own" = some (some (.ref f6))) (l6 : K.lookup f6 = some ⟨oc6, od6, .func (PySem.W.fnOf "_law_own" "_law_own" (defArgs s__law_own) (defBody s__law_own) (defScope s__law_own) .none kV6 dc6 pm6 an6 cd6 ct6), sl6⟩) (c6 : PySem.W.codeIn K cd6 "_law_own" = true) (k6 : PySem.W.keepIn K (.ref f6) = true)
    {f7 : Addr} {od7 an7 : Option Addr} {sl7 : Array (Option Value)} {oc7 kV7 dc7 pm7 cd7 ct7 : Value}
    (a7 : PySem.W.nsIn K mainGlobals "_law_sums" = some (some (.ref f7))) (l7 : K.lookup f7 = some ⟨oc7, od7, .func (PySem.W.fnOf "_law_sums" "_law_sums" (defArgs s__law_sums) (defBody s__law_sums) (defScope s__law_sums) .none kV7 dc7 pm7 an7 cd7 ct7), sl7⟩) (c7 : PySem.W.codeIn K cd7 "_law_sums" = true) (k7 : PySem.W.keepIn K (.ref f7) = true)
    {f8 : Addr} {od8 an8 : Option Addr} {sl8 : Array (Option Value)} {oc8 kV8 dc8 pm8 cd8 ct8 : Value}
    (a8 : PySem.W.nsIn K mainGlobals "is_player" = some (some (.ref f8))) (l8 : K.lookup f8 = some ⟨oc8, od8, .func (PySem.W.fnOf "is_player" "is_player" (defArgs s_is_player) (defBody s_is_player) (defScope s_is_player) .none kV8 dc8 pm8 an8 cd8 ct8), sl8⟩) (c8 : PySem.W.codeIn K cd8 "is_player" = true) (k8 : PySem.W.keepIn K (.ref f8) = true)
    {f9 : Addr} {od9 an9 : Option Addr} {sl9 : Array (Option Value)} {oc9 kV9 dc9 pm9 cd9 ct9 : Value}
    (a9 : PySem.W.nsIn K mainGlobals "left_in" = some (some (.ref f9))) (l9 : K.lookup f9 = some ⟨oc9, od9, .func (PySem.W.fnOf "left_in" "left_in" (defArgs s_left_in) (defBody s_left_in) (defScope s_left_in) .none kV9 dc9 pm9 an9 cd9 ct9), sl9⟩) (c9 : PySem.W.codeIn K cd9 "left_in" = true) (k9 : PySem.W.keepIn K (.ref f9) = true)
    {f10 : Addr} {od10 an10 : Option Addr} {sl10 : Array (Option Value)} {oc10 kV10 dc10 pm10 cd10 ct10 : Value}
    (a10 : PySem.W.nsIn K mainGlobals "gains_of" = some (some (.ref f10))) (l10 : K.lookup f10 = some ⟨oc10, od10, .func (PySem.W.fnOf "gains_of" "gains_of" (defArgs s_gains_of) (defBody s_gains_of) (defScope s_gains_of) .none kV10 dc10 pm10 an10 cd10 ct10), sl10⟩) (c10 : PySem.W.codeIn K cd10 "gains_of" = true) (k10 : PySem.W.keepIn K (.ref f10) = true)
    {f11 : Addr} {od11 an11 : Option Addr} {sl11 : Array (Option Value)} {oc11 kV11 dc11 pm11 cd11 ct11 : Value}
    (a11 : PySem.W.nsIn K mainGlobals "_law_outcome" = some (some (.ref f11))) (l11 : K.lookup f11 = some ⟨oc11, od11, .func (PySem.W.fnOf "_law_outcome" "_law_outcome" (defArgs s__law_outcome) (defBody s__law_outcome) (defScope s__law_outcome) .none kV11 dc11 pm11 an11 cd11 ct11), sl11⟩) (c11 : PySem.W.codeIn K cd11 "_law_outcome" = true) (k11 : PySem.W.keepIn K (.ref f11) = true)
    {f12 : Addr} {od12 an12 : Option Addr} {sl12 : Array (Option Value)} {oc12 kV12 dc12 pm12 cd12 ct12 : Value}
    (a12 : PySem.W.nsIn K mainGlobals "is_played" = some (some (.ref f12))) (l12 : K.lookup f12 = some ⟨oc12, od12, .func (PySem.W.fnOf "is_played" "is_played" (defArgs s_is_played) (defBody s_is_played) (defScope s_is_played) .none kV12 dc12 pm12 an12 cd12 ct12), sl12⟩) (c12 : PySem.W.codeIn K cd12 "is_played" = true) (k12 : PySem.W.keepIn K (.ref f12) = true)
    {f13 : Addr} {od13 an13 : Option Addr} {sl13 : Array (Option Value)} {oc13 kV13 dc13 pm13 cd13 ct13 : Value}
    (a13 : PySem.W.nsIn K mainGlobals "had_in" = some (some (.ref f13))) (l13 : K.lookup f13 = some ⟨oc13, od13, .func (PySem.W.fnOf "had_in" "had_in" (defArgs s_had_in) (defBody s_had_in) (defScope s_had_in) .none kV13 dc13 pm13 an13 cd13 ct13), sl13⟩) (c13 : PySem.W.codeIn K cd13 "had_in" = true) (k13 : PySem.W.keepIn K (.ref f13) = true)
    {f14 : Addr} {od14 an14 : Option Addr} {sl14 : Array (Option Value)} {oc14 kV14 dc14 pm14 cd14 ct14 : Value}
    (a14 : PySem.W.nsIn K mainGlobals "_law_some_league" = some (some (.ref f14))) (l14 : K.lookup f14 = some ⟨oc14, od14, .func (PySem.W.fnOf "_law_some_league" "_law_some_league" (defArgs s__law_some_league) (defBody s__law_some_league) (defScope s__law_some_league) .none kV14 dc14 pm14 an14 cd14 ct14), sl14⟩) (c14 : PySem.W.codeIn K cd14 "_law_some_league" = true) (k14 : PySem.W.keepIn K (.ref f14) = true)
    {f15 : Addr} {od15 an15 : Option Addr} {sl15 : Array (Option Value)} {oc15 kV15 dc15 pm15 cd15 ct15 : Value}
    (a15 : PySem.W.nsIn K mainGlobals "is_league" = some (some (.ref f15))) (l15 : K.lookup f15 = some ⟨oc15, od15, .func (PySem.W.fnOf "is_league" "is_league" (defArgs s_is_league) (defBody s_is_league) (defScope s_is_league) .none kV15 dc15 pm15 an15 cd15 ct15), sl15⟩) (c15 : PySem.W.codeIn K cd15 "is_league" = true) (k15 : PySem.W.keepIn K (.ref f15) = true)
    {f16 : Addr} {od16 an16 : Option Addr} {sl16 : Array (Option Value)} {oc16 kV16 dc16 pm16 cd16 ct16 : Value}
    (a16 : PySem.W.nsIn K mainGlobals "need_league" = some (some (.ref f16))) (l16 : K.lookup f16 = some ⟨oc16, od16, .func (PySem.W.fnOf "need_league" "need_league" (defArgs s_need_league) (defBody s_need_league) (defScope s_need_league) .none kV16 dc16 pm16 an16 cd16 ct16), sl16⟩) (c16 : PySem.W.codeIn K cd16 "need_league" = true) (k16 : PySem.W.keepIn K (.ref f16) = true)
    {f17 : Addr} {od17 an17 : Option Addr} {sl17 : Array (Option Value)} {oc17 kV17 dc17 pm17 cd17 ct17 : Value}
    (a17 : PySem.W.nsIn K mainGlobals "matches_left" = some (some (.ref f17))) (l17 : K.lookup f17 = some ⟨oc17, od17, .func (PySem.W.fnOf "matches_left" "matches_left" (defArgs s_matches_left) (defBody s_matches_left) (defScope s_matches_left) .none kV17 dc17 pm17 an17 cd17 ct17), sl17⟩) (c17 : PySem.W.codeIn K cd17 "matches_left" = true) (k17 : PySem.W.keepIn K (.ref f17) = true)
    {f18 : Addr} {od18 an18 : Option Addr} {sl18 : Array (Option Value)} {oc18 kV18 dc18 pm18 cd18 ct18 : Value}
    (a18 : PySem.W.nsIn K mainGlobals "points_had" = some (some (.ref f18))) (l18 : K.lookup f18 = some ⟨oc18, od18, .func (PySem.W.fnOf "points_had" "points_had" (defArgs s_points_had) (defBody s_points_had) (defScope s_points_had) .none kV18 dc18 pm18 an18 cd18 ct18), sl18⟩) (c18 : PySem.W.codeIn K cd18 "points_had" = true) (k18 : PySem.W.keepIn K (.ref f18) = true)
    {f19 : Addr} {od19 an19 : Option Addr} {sl19 : Array (Option Value)} {oc19 kV19 dc19 pm19 cd19 ct19 : Value}
    (a19 : PySem.W.nsIn K mainGlobals "_law_right" = some (some (.ref f19))) (l19 : K.lookup f19 = some ⟨oc19, od19, .func (PySem.W.fnOf "_law_right" "_law_right" (defArgs s__law_right) (defBody s__law_right) (defScope s__law_right) .none kV19 dc19 pm19 an19 cd19 ct19), sl19⟩) (c19 : PySem.W.codeIn K cd19 "_law_right" = true) (k19 : PySem.W.keepIn K (.ref f19) = true)
    {f20 : Addr} {od20 an20 : Option Addr} {sl20 : Array (Option Value)} {oc20 kV20 dc20 pm20 cd20 ct20 : Value}
    (a20 : PySem.W.nsIn K mainGlobals "law" = some (some (.ref f20))) (l20 : K.lookup f20 = some ⟨oc20, od20, .func (PySem.W.fnOf "law" "law" (defArgs s_law) (defBody s_law) (defScope s_law) .none kV20 dc20 pm20 an20 cd20 ct20), sl20⟩) (c20 : PySem.W.codeIn K cd20 "law" = true) (k20 : PySem.W.keepIn K (.ref f20) = true)
    (z_isinstance : PySem.W.nsIn K mainGlobals "isinstance" = some none)
    (z_int : PySem.W.nsIn K mainGlobals "int" = some none)
    (z_bool : PySem.W.nsIn K mainGlobals "bool" = some none)
    (z_range : PySem.W.nsIn K mainGlobals "range" = some none)
    (z_len : PySem.W.nsIn K mainGlobals "len" = some none)
    (z_min : PySem.W.nsIn K mainGlobals "min" = some none)
    (z_max : PySem.W.nsIn K mainGlobals "max" = some none)
    (z_sorted : PySem.W.nsIn K mainGlobals "sorted" = some none)
    (z_list : PySem.W.nsIn K mainGlobals "list" = some none)
    (z_tuple : PySem.W.nsIn K mainGlobals "tuple" = some none)
    (z_enumerate : PySem.W.nsIn K mainGlobals "enumerate" = some none)
    (z_str : PySem.W.nsIn K mainGlobals "str" = some none)
    {tk0_KINDS tk1_KINDS : Tok}    {r_KINDS : Addr} {n_KINDS : Nat} {d_KINDS : Option Addr} {sl_KINDS : Array (Option Value)} (m_KINDS : PySem.W.nsIn K mainGlobals "KINDS" = some (some (.ref r_KINDS))) (t_KINDS : K.lookup r_KINDS = some ⟨.type "tuple", d_KINDS, .seq #[.str "plain" tk0_KINDS, .str "ties" tk1_KINDS] n_KINDS, sl_KINDS⟩)
    {tk_FEWEST : Tok} (m_FEWEST : PySem.W.nsIn K mainGlobals "FEWEST" = some (some (.int 2 tk_FEWEST)))
    {tk_MOST : Tok} (m_MOST : PySem.W.nsIn K mainGlobals "MOST" = some (some (.int 6 tk_MOST)))
    : ∃ fd : FuncData, (∀ (s : Shared) (v : Value), BindsTo s fd ⟨[v], []⟩ [("script", v)]) ∧ ∀ base : Heap, K.In base → base.Ns mainGlobals mg → FnOk l.prog w K mg base (L2.CX l.prog w) 8 fa fd ["script"] (conc K [false] a_law) := by
  have e := hfa.symm.trans (PySem.W.mg_of X G a20)
  cases e
  have z_isinstance := PySem.W.mg_none_of X G z_isinstance
  have z_int := PySem.W.mg_none_of X G z_int
  have z_bool := PySem.W.mg_none_of X G z_bool
  have z_range := PySem.W.mg_none_of X G z_range
  have z_len := PySem.W.mg_none_of X G z_len
  have z_min := PySem.W.mg_none_of X G z_min
  have z_max := PySem.W.mg_none_of X G z_max
  have z_sorted := PySem.W.mg_none_of X G z_sorted
  have z_list := PySem.W.mg_none_of X G z_list
  have z_tuple := PySem.W.mg_none_of X G z_tuple
  have z_enumerate := PySem.W.mg_none_of X G z_enumerate
  have z_str := PySem.W.mg_none_of X G z_str
  have m_KINDS := PySem.W.mg_of X G m_KINDS
  have q_KINDS : L2.RelV (V.ref r_KINDS) (Value.ref r_KINDS) := rfl
  have v_KINDS : ∀ H S, Vw K H S c_KINDS (V.ref r_KINDS) := fun _ _ => .tup (vs := [.str "plain", .str "ties"]) (.inr ⟨_, _, _, t_KINDS, rfl, rfl, small_line (show 2 ≤ 100000 by decide), by first | exact .cons ⟨_, rfl⟩ (.cons ⟨_, rfl⟩ (.nil)) | simp [L2.Vals, L2.RelV]⟩) (.cons (.str _) (.cons (.str _) (.nil)))
  have m_FEWEST := PySem.W.mg_of X G m_FEWEST
  have q_FEWEST : L2.RelV (V.int 2) (Value.int 2 tk_FEWEST) := ⟨_, rfl⟩
  have v_FEWEST : ∀ H S, Vw K H S c_FEWEST (V.int 2) := fun _ _ => .int _
  have m_MOST := PySem.W.mg_of X G m_MOST
  have q_MOST : L2.RelV (V.int 6) (Value.int 6 tk_MOST) := ⟨_, rfl⟩
  have v_MOST : ∀ H S, Vw K H S c_MOST (V.int 6) := fun _ _ => .int _
  refine ⟨PySem.W.fnOf "law" "law" (defArgs s_law) (defBody s_law) (defScope s_law) .none kV20 dc20 pm20 an20 cd20 ct20, fun s v => .of_eq rfl, fun base _ _ => ?_⟩
  have F_is_whole := fun_mk (st := s_is_whole) l0 c0 k0
  have D_is_whole : Dk l.prog w K mg base 1 "is_whole" [false] a_is_whole := dk_is_whole F_is_whole (PySem.W.mg_of X G a0) (F_is_whole.binds (ps := ["thing"]) fun _ _ _ _ _ _ us hl => match us, hl with | [_], _ => rfl) z_isinstance z_int z_bool
  have F_all_matches := fun_mk (st := s_all_matches) l1 c1 k1
  have D_all_matches : Dk l.prog w K mg base 1 "all_matches" [false] a_all_matches := dk_all_matches F_all_matches (PySem.W.mg_of X G a1) (F_all_matches.binds (ps := ["n"]) fun _ _ _ _ _ _ us hl => match us, hl with | [_], _ => rfl) z_range
  have F_worth_in := fun_mk (st := s_worth_in) l2 c2 k2
  have D_worth_in : Dk l.prog w K mg base 1 "worth_in" [false] a_worth_in := dk_worth_in F_worth_in (PySem.W.mg_of X G a2) (F_worth_in.binds (ps := ["kind"]) fun _ _ _ _ _ _ us hl => match us, hl with | [_], _ => rfl) z_int
  have F__law_deck := fun_mk (st := s__law_deck) l3 c3 k3
  have D__law_deck : Dk l.prog w K mg base 1 "_law_deck" [false] a__law_deck := dk__law_deck F__law_deck (PySem.W.mg_of X G a3) (F__law_deck.binds (ps := ["script"]) fun _ _ _ _ _ _ us hl => match us, hl with | [_], _ => rfl) z_len z_min z_max z_range z_int
  have F__law_draw := fun_mk (st := s__law_draw) l4 c4 k4
  have D__law_draw : Dk l.prog w K mg base 1 "_law_draw" [true, false] a__law_draw := dk__law_draw F__law_draw (PySem.W.mg_of X G a4) (F__law_draw.binds (ps := ["deck", "many"]) fun _ _ _ _ _ _ us hl => match us, hl with | [_, _], _ => rfl) z_len
  have F__law_pairs := fun_mk (st := s__law_pairs) l5 c5 k5
  have D__law_pairs : Dk l.prog w K mg base 1 "_law_pairs" [false] a__law_pairs := dk__law_pairs F__law_pairs (PySem.W.mg_of X G a5) (F__law_pairs.binds (ps := ["n"]) fun _ _ _ _ _ _ us hl => match us, hl with | [_], _ => rfl) z_range z_sorted
  have F__law_own := fun_mk (st := s__law_own) l6 c6 k6
  have D__law_own : Dk l.prog w K mg base 1 "_law_own" [false] a__law_own := dk__law_own F__law_own (PySem.W.mg_of X G a6) (F__law_own.binds (ps := ["league"]) fun _ _ _ _ _ _ us hl => match us, hl with | [_], _ => rfl) z_list
  have F__law_sums := fun_mk (st := s__law_sums) l7 c7 k7
  have D__law_sums : Dk l.prog w K mg base 1 "_law_sums" [false] a__law_sums := dk__law_sums F__law_sums (PySem.W.mg_of X G a7) (F__law_sums.binds (ps := ["league"]) fun _ _ _ _ _ _ us hl => match us, hl with | [_], _ => rfl) z_int z_range z_len
  have F_is_player := fun_mk (st := s_is_player) l8 c8 k8
  have D_is_player : Dk l.prog w K mg base 2 "is_player" [false, false] a_is_player := dk_is_player F_is_player (PySem.W.mg_of X G a8) (F_is_player.binds (ps := ["n", "thing"]) fun _ _ _ _ _ _ us hl => match us, hl with | [_, _], _ => rfl) D_is_whole
  have F_left_in := fun_mk (st := s_left_in) l9 c9 k9
  have D_left_in : Dk l.prog w K mg base 2 "left_in" [false] a_left_in := dk_left_in F_left_in (PySem.W.mg_of X G a9) (F_left_in.binds (ps := ["league"]) fun _ _ _ _ _ _ us hl => match us, hl with | [_], _ => rfl) D_all_matches
  have F_gains_of := fun_mk (st := s_gains_of) l10 c10 k10
  have D_gains_of : Dk l.prog w K mg base 2 "gains_of" [false, false, false, false] a_gains_of := dk_gains_of F_gains_of (PySem.W.mg_of X G a10) (F_gains_of.binds (ps := ["kind", "i", "j", "w"]) fun _ _ _ _ _ _ us hl => match us, hl with | [_, _, _, _], _ => rfl) z_int D_worth_in
  have F__law_outcome := fun_mk (st := s__law_outcome) l11 c11 k11
  have D__law_outcome : Dk l.prog w K mg base 2 "_law_outcome" [true, false, false, false] a__law_outcome := dk__law_outcome F__law_outcome (PySem.W.mg_of X G a11) (F__law_outcome.binds (ps := ["deck", "kind", "i", "j"]) fun _ _ _ _ _ _ us hl => match us, hl with | [_, _, _, _], _ => rfl) z_int D__law_draw
  have F_is_played := fun_mk (st := s_is_played) l12 c12 k12
  have D_is_played : Dk l.prog w K mg base 3 "is_played" [false, false, false] a_is_played := dk_is_played F_is_played (PySem.W.mg_of X G a12) (F_is_played.binds (ps := ["kind", "n", "thing"]) fun _ _ _ _ _ _ us hl => match us, hl with | [_, _, _], _ => rfl) z_isinstance z_tuple z_len D_is_player
  have F_had_in := fun_mk (st := s_had_in) l13 c13 k13
  have D_had_in : Dk l.prog w K mg base 3 "had_in" [false] a_had_in := dk_had_in F_had_in (PySem.W.mg_of X G a13) (F_had_in.binds (ps := ["league"]) fun _ _ _ _ _ _ us hl => match us, hl with | [_], _ => rfl) D_gains_of
  have F__law_some_league := fun_mk (st := s__law_some_league) l14 c14 k14
  have D__law_some_league : Dk l.prog w K mg base 3 "_law_some_league" [true] a__law_some_league := dk__law_some_league F__law_some_league (PySem.W.mg_of X G a14) (F__law_some_league.binds (ps := ["deck"]) fun _ _ _ _ _ _ us hl => match us, hl with | [_], _ => rfl) z_enumerate D__law_draw D__law_pairs D__law_outcome
  have F_is_league := fun_mk (st := s_is_league) l15 c15 k15
  have D_is_league : Dk l.prog w K mg base 4 "is_league" [false] a_is_league := dk_is_league F_is_league (PySem.W.mg_of X G a15) (F_is_league.binds (ps := ["thing"]) fun _ _ _ _ _ _ us hl => match us, hl with | [_], _ => rfl) z_isinstance z_tuple z_len z_str z_list z_range m_KINDS q_KINDS v_KINDS m_FEWEST q_FEWEST v_FEWEST m_MOST q_MOST v_MOST D_is_whole D_is_played
  have F_need_league := fun_mk (st := s_need_league) l16 c16 k16
  have D_need_league : Dk l.prog w K mg base 5 "need_league" [false] a_need_league := dk_need_league F_need_league (PySem.W.mg_of X G a16) (F_need_league.binds (ps := ["thing"]) fun _ _ _ _ _ _ us hl => match us, hl with | [_], _ => rfl) D_is_league
  have F_matches_left := fun_mk (st := s_matches_left) l17 c17 k17
  have D_matches_left : Dk l.prog w K mg base 6 "matches_left" [false] a_matches_left := dk_matches_left F_matches_left (PySem.W.mg_of X G a17) (F_matches_left.binds (ps := ["league"]) fun _ _ _ _ _ _ us hl => match us, hl with | [_], _ => rfl) D_need_league D_left_in
  have F_points_had := fun_mk (st := s_points_had) l18 c18 k18
  have D_points_had : Dk l.prog w K mg base 6 "points_had" [false] a_points_had := dk_points_had F_points_had (PySem.W.mg_of X G a18) (F_points_had.binds (ps := ["league"]) fun _ _ _ _ _ _ us hl => match us, hl with | [_], _ => rfl) D_need_league D_had_in
  have F__law_right := fun_mk (st := s__law_right) l19 c19 k19
  have D__law_right : Dk l.prog w K mg base 7 "_law_right" [false, true] a__law_right := dk__law_right F__law_right (PySem.W.mg_of X G a19) (F__law_right.binds (ps := ["handed", "held"]) fun _ _ _ _ _ _ us hl => match us, hl with | [_, _], _ => rfl) z_range z_isinstance z_list z_tuple z_bool D__law_own D__law_sums D__law_pairs D_points_had D_matches_left
  have Fl := fun_mk (st := s_law) l20 c20 k20
  exact fn_ok Fl sc_law rfl (by decide) (fun cdv Ar outer s H E hr => sd_law z_range z_len D__law_deck D__law_some_league D__law_right D__law_draw hr) (fun ds P PX h hl => by rw [eq_law] at h; rw [wv_law]; exact h)

theorem law_sp {K : PySem.W.Frag} (hl : ∀ ns : List Int, ns.length ≤ 63 → a_law [.scr ns] (fun d _ => d = .bl true) (fun _ _ => False)) (H : Hp) (a : Addr) (ns : List Int) (h : ns.length ≤ 63) (hO : Only H) (hS : SqL K H a (ns.map V.int)) : conc K [false] a_law [.ref a] H (fun v _ => v = .bl true) (fun _ _ _ => False) := by
  have sa : ScrAt K H a ns := by
    rcases hS with (hS | hS) | hS
    · rcases hO a with z | ⟨o, xs, z⟩
      · rw [z] at hS; cases hS
      · rw [z] at hS; cases hS
    · exact .inl hS
    · exact .inr hS
  refine ⟨fun _ => False, [.scr ns], [], _, _, fun a z => z.elim, .bor (.scr sa) rfl .nil, Own.nil, hl ns h, fun d ds' pd v H' o2 o1 _ _ _ r => ?_, fun c ds' pd => pd.elim⟩
  subst pd
  exact (rp_bl r).1
end T
open PySem PySem.W PyProof.Rows
set_option maxHeartbeats 0 in
theorem PySem.Challenge.cw_wintold_k02_matches_left_and_points_had_holds : PySem.Challenge.rw_wintold_k02_matches_left_and_points_had.Holds := by
  w_on; o_law; k_head; (case hw => w_witness2)
  k_fill
  refine L2.walk_of (l := PySem.Challenge.rw_wintold_k02_matches_left_and_points_had) (n := 63) (k := 8) (x := "script") (CX := fun w => L2.CX (PySem.Challenge.rw_wintold_k02_matches_left_and_points_had).prog w) (sp := fun w => T.conc _ [false] T.a_law) rfl (by decide) rfl ⟨rfl, by decide, by decide⟩ (fun w h Y => PySem.W.kIn_of Y) ?F (fun _ H a ns hl hO hS => T.law_sp T.law_true H a ns hl hO hS) (fun w H s e s' h => by obtain ⟨_, _, _, _, _, _, _, _, _, _, _, _, hE⟩ := h; exact hE)
  case F =>
    intro w mg fa h KX G hmg
    refine' T.all_mk KX G hmg ?a0 ?l0 ?c0 ?k0 ?a1 ?l1 ?c1 ?k1 ?a2 ?l2 ?c2 ?k2 ?a3 ?l3 ?c3 ?k3 ?a4 ?l4 ?c4 ?k4 ?a5 ?l5 ?c5 ?k5 ?a6 ?l6 ?c6 ?k6 ?a7 ?l7 ?c7 ?k7 ?a8 ?l8 ?c8 ?k8 ?a9 ?l9 ?c9 ?k9 ?a10 ?l10 ?c10 ?k10 ?a11 ?l11 ?c11 ?k11 ?a12 ?l12 ?c12 ?k12 ?a13 ?l13 ?c13 ?k13 ?a14 ?l14 ?c14 ?k14 ?a15 ?l15 ?c15 ?k15 ?a16 ?l16 ?c16 ?k16 ?a17 ?l17 ?c17 ?k17 ?a18 ?l18 ?c18 ?k18 ?a19 ?l19 ?c19 ?k19 ?a20 ?l20 ?c20 ?k20 ?z_isinstance ?z_int ?z_bool ?z_range ?z_len ?z_min ?z_max ?z_sorted ?z_list ?z_tuple ?z_enumerate ?z_str ?m_KINDS ?t_KINDS ?m_FEWEST ?m_MOST
    (case a0 => k_is); (case l0 => k_is); (case c0 => k_is); (case k0 => k_is); (case a1 => k_is); (case l1 => k_is); (case c1 => k_is); (case k1 => k_is); (case a2 => k_is); (case l2 => k_is); (case c2 => k_is); (case k2 => k_is); (case a3 => k_is); (case l3 => k_is); (case c3 => k_is); (case k3 => k_is); (case a4 => k_is); (case l4 => k_is); (case c4 => k_is); (case k4 => k_is); (case a5 => k_is); (case l5 => k_is); (case c5 => k_is); (case k5 => k_is); (case a6 => k_is); (case l6 => k_is); (case c6 => k_is); (case k6 => k_is); (case a7 => k_is); (case l7 => k_is); (case c7 => k_is); (case k7 => k_is); (case a8 => k_is); (case l8 => k_is); (case c8 => k_is); (case k8 => k_is); (case a9 => k_is); (case l9 => k_is); (case c9 => k_is); (case k9 => k_is); (case a10 => k_is); (case l10 => k_is); (case c10 => k_is); (case k10 => k_is); (case a11 => k_is); (case l11 => k_is); (case c11 => k_is); (case k11 => k_is); (case a12 => k_is); (case l12 => k_is); (case c12 => k_is); (case k12 => k_is); (case a13 => k_is); (case l13 => k_is); (case c13 => k_is); (case k13 => k_is); (case a14 => k_is); (case l14 => k_is); (case c14 => k_is); (case k14 => k_is); (case a15 => k_is); (case l15 => k_is); (case c15 => k_is); (case k15 => k_is); (case a16 => k_is); (case l16 => k_is); (case c16 => k_is); (case k16 => k_is); (case a17 => k_is); (case l17 => k_is); (case c17 => k_is); (case k17 => k_is); (case a18 => k_is); (case l18 => k_is); (case c18 => k_is); (case k18 => k_is); (case a19 => k_is); (case l19 => k_is); (case c19 => k_is); (case k19 => k_is); (case a20 => k_is); (case l20 => k_is); (case c20 => k_is); (case k20 => k_is); (case z_isinstance => k_is); (case z_int => k_is); (case z_bool => k_is); (case z_range => k_is); (case z_len => k_is); (case z_min => k_is); (case z_max => k_is); (case z_sorted => k_is); (case z_list => k_is); (case z_tuple => k_is); (case z_enumerate => k_is); (case z_str => k_is); (case m_KINDS => k_is); (case t_KINDS => k_is); (case m_FEWEST => k_is); (case m_MOST => k_is)
