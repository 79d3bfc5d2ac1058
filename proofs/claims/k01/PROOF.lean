import PyProof.Rows.All
import Wide.All
import OpenK.AllK
import Wide.FinOn
import HandS.ForMost
import HandS.ForExc
import HandS.Deep
import HandS.IsInst
import KE.SortData
import HandS.TupLe
import HandS.TupAny
import HandS.TupMul
import HandS.Wide
import KE.DataEq
import HandS.Conv
import HandS.SetFor
import HandS.Dict
import HandS.Style
import HandS.Text
import PyProof.ReprLen
import PySem.Challenge.RW_wintold_k01_what_is_a_league
set_option Elab.async false
set_option linter.all false
set_option maxRecDepth 100000
set_option maxHeartbeats 4000000
namespace T
open PySem PySem.Spec PyProof.Rows L2
/-! ### data as trees -/
inductive D where
  | non | bl (b : Bool) | int (i : Int) | str (x : Str)
  | tup (xs : List D) | scr (ns : List Int) | lst (o : Bool) (xs : List D) | dic (o : Bool) (ks vs : List D) | obj (o : Bool) (C : Nat) (ns : List Str) (vs : List D)

mutual
@[simp] def frz : D → D
  | .non => .non
  | .bl b => .bl b
  | .int i => .int i
  | .str x => .str x
  | .tup xs => .tup (frzL xs)
  | .scr ns => .scr ns
  | .lst _ xs => .lst false (frzL xs)
  | .dic _ ks vs => .dic false ks (frzL vs)
  | .obj _ C ns vs => .obj false C ns (frzL vs)
@[simp] def frzL : List D → List D
  | [] => []
  | x :: xs => frz x :: frzL xs
end
mutual
/-- no list, no dict, no object within -/
@[simp] def flat : D → Bool
  | .tup xs => flatL xs
  | .lst _ _ => false
  | .dic _ _ _ => false
  | .obj _ _ _ _ => false
  | _ => true
@[simp] def flatL : List D → Bool
  | [] => true
  | x :: xs => flat x && flatL xs
end
mutual
/-- each list, dict, object within is owned -/
@[simp] def ownd : D → Bool
  | .tup xs => owndL xs
  | .lst o xs => o && owndL xs
  | .dic o _ vs => o && owndL vs
  | .obj o _ _ vs => o && owndL vs
  | _ => true
@[simp] def owndL : List D → Bool
  | [] => true
  | x :: xs => ownd x && owndL xs
end
theorem frzL_map : ∀ xs : List D, frzL xs = xs.map frz
  | [] => rfl
  | x :: xs => by simp only [frzL, frzL_map xs, List.map_cons]
mutual
theorem frz_frz : ∀ d : D, frz (frz d) = frz d
  | .non | .bl _ | .int _ | .str _ | .scr _ => rfl
  | .tup xs => by simp only [frz, frzL_frzL xs]
  | .lst _ xs => by simp only [frz, frzL_frzL xs]
  | .dic _ _ vs => by simp only [frz, frzL_frzL vs]
  | .obj _ _ _ vs => by simp only [frz, frzL_frzL vs]
theorem frzL_frzL : ∀ xs : List D, frzL (frzL xs) = frzL xs
  | [] => rfl
  | x :: xs => by simp only [frzL, frz_frz x, frzL_frzL xs]
end
mutual
theorem frz_flat : ∀ d : D, flat d = true → frz d = d
  | .non, _ | .bl _, _ | .int _, _ | .str _, _ | .scr _, _ => rfl
  | .tup xs, h => by simp only [flat] at h; simp only [frz, frzL_flat xs h]
  | .lst _ xs, h => by simp [flat] at h
  | .dic _ _ vs, h => by simp [flat] at h
  | .obj _ _ _ vs, h => by simp [flat] at h
theorem frzL_flat : ∀ xs : List D, flatL xs = true → frzL xs = xs
  | [], _ => rfl
  | x :: xs, h => by
    simp only [flatL, Bool.and_eq_true] at h
    simp only [frzL, frz_flat x h.1, frzL_flat xs h.2]
end
/-! ### what stands at an address -/
def dKey : Key → D
  | .inl i => .int i
  | .inr x => .str x
/-- the object u is a dict with these keys (as data) and these values -/
def DicAt (u : HO) (ks : List D) (vs : List V) : Prop :=
  (∃ kvs : List (Key × V), u = .dK kvs ∧ kvs.map (fun p => dKey p.1) = ks ∧ kvs.map (·.2) = vs) ∨
  (∃ kvs : List (List Key × V), u = .dT kvs ∧ D.non :: kvs.map (fun p => D.tup (p.1.map dKey)) = ks ∧ kvs.map (·.2) = vs)
theorem DicAt.mut {u : HO} {ks : List D} {vs : List V} (h : DicAt u ks vs) : Mut (some u) := by
  rcases h with ⟨kvs, rfl, _⟩ | ⟨kvs, rfl, _⟩ <;> trivial
/-- the script, as it stands at the law's entry -/
def ScrAt (K : PySem.W.Frag) (H : Hp) (a : Addr) (ns : List Int) : Prop := (∃ o, H a = some (.frz o (.lst (ns.map V.int)))) ∨
  ∃ (o : Obj) (its : Array Value) (n : Nat), K.lookup a = some o ∧ o.cls = .type "list" ∧ o.dict = none ∧ o.data = .seq its n ∧ its.size ≤ sizeLine ∧ Vals (ns.map V.int) its.toList
theorem ScrAt.sq {K : PySem.W.Frag} {H : Hp} {a : Addr} {ns : List Int} (h : ScrAt K H a ns) : SqL K H a (ns.map V.int) := h.imp (fun ⟨o, e⟩ => .inr ⟨o, e⟩) id
mutual
/-- the value v is the data d; each list, dict and object in it stands at an address of S -/
inductive Vw (K : PySem.W.Frag) (H : Hp) (S : Addr → Prop) : D → V → Prop
  | non : Vw K H S .non .non
  | bl (b : Bool) : Vw K H S (.bl b) (.bl b)
  | int (i : Int) : Vw K H S (.int i) (.int i)
  | str (x : Str) : Vw K H S (.str x) (.str x)
  | scr {a : Addr} {ns : List Int} : ScrAt K H a ns → Vw K H S (.scr ns) (.ref a)
  | tup {a : Addr} {vs : List V} {ds : List D} : SqT K H a vs → VwL K H S ds vs → Vw K H S (.tup ds) (.ref a)
  | lst {o : Bool} {a : Addr} {vs : List V} {ds : List D} : H a = some (.lst vs) → S a → VwL K H S ds vs → Vw K H S (.lst o ds) (.ref a)
  | dic {o : Bool} {a : Addr} {u : HO} {vs : List V} {ks ds : List D} : Rd H a u → S a → DicAt u ks vs → VwL K H S ds vs → Vw K H S (.dic o ks ds) (.ref a)
  | obj {o : Bool} {C dx a : Addr} {fs : List (Str × V)} {ds : List D} : H a = some (.ins C dx fs) → S a → VwL K H S ds (fs.map (·.2)) → Vw K H S (.obj o C (fs.map (·.1)) ds) (.ref a)
inductive VwL (K : PySem.W.Frag) (H : Hp) (S : Addr → Prop) : List D → List V → Prop
  | nil : VwL K H S [] []
  | cons {d : D} {v : V} {ds : List D} {vs : List V} : Vw K H S d v → VwL K H S ds vs → VwL K H S (d :: ds) (v :: vs)
end
mutual
/-- the same, and the owned ones stand at the addresses os (each once, in order), the others at addresses of U -/
inductive Rp (K : PySem.W.Frag) (H : Hp) (U : Addr → Prop) : D → V → List Addr → Prop
  | non : Rp K H U .non .non []
  | bl (b : Bool) : Rp K H U (.bl b) (.bl b) []
  | int (i : Int) : Rp K H U (.int i) (.int i) []
  | str (x : Str) : Rp K H U (.str x) (.str x) []
  | scr {a : Addr} {ns : List Int} : ScrAt K H a ns → Rp K H U (.scr ns) (.ref a) []
  | tup {a : Addr} {vs : List V} {ds : List D} {os : List Addr} : SqT K H a vs → RpL K H U ds vs os → Rp K H U (.tup ds) (.ref a) os
  | lstO {a : Addr} {vs : List V} {ds : List D} {os : List Addr} : H a = some (.lst vs) → RpL K H U ds vs os → Rp K H U (.lst true ds) (.ref a) (a :: os)
  | lstN {a : Addr} {vs : List V} {ds : List D} {os : List Addr} : H a = some (.lst vs) → U a → RpL K H U ds vs os → os = [] → Rp K H U (.lst false ds) (.ref a) []
  | dicO {a : Addr} {u : HO} {vs : List V} {ks ds : List D} {os : List Addr} : H a = some u → DicAt u ks vs → RpL K H U ds vs os → Rp K H U (.dic true ks ds) (.ref a) (a :: os)
  | dicN {a : Addr} {u : HO} {vs : List V} {ks ds : List D} {os : List Addr} : Rd H a u → U a → DicAt u ks vs → RpL K H U ds vs os → os = [] → Rp K H U (.dic false ks ds) (.ref a) []
  | objO {C dx a : Addr} {fs : List (Str × V)} {ds : List D} {os : List Addr} : H a = some (.ins C dx fs) → RpL K H U ds (fs.map (·.2)) os → Rp K H U (.obj true C (fs.map (·.1)) ds) (.ref a) (a :: os)
  | objN {C dx a : Addr} {fs : List (Str × V)} {ds : List D} {os : List Addr} : H a = some (.ins C dx fs) → U a → RpL K H U ds (fs.map (·.2)) os → os = [] → Rp K H U (.obj false C (fs.map (·.1)) ds) (.ref a) []
inductive RpL (K : PySem.W.Frag) (H : Hp) (U : Addr → Prop) : List D → List V → List Addr → Prop
  | nil : RpL K H U [] [] []
  | cons {d : D} {v : V} {ds : List D} {vs : List V} {o1 o2 : List Addr} : Rp K H U d v o1 → RpL K H U ds vs o2 → RpL K H U (d :: ds) (v :: vs) (o1 ++ o2)
end
section
variable {K : PySem.W.Frag} {H H' : Hp} {S S' U U' : Addr → Prop}
theorem rd_keep {a : Addr} {u : HO} (k : ∀ o, H a = some o → H' a = some o) (h : Rd H a u) : Rd H' a u := by
  rcases h with h | ⟨o, h⟩
  · exact .inl (k _ h)
  · exact .inr ⟨o, k _ h⟩
theorem rd_at {a : Addr} {u : HO} (h : Rd H a u) : ∃ o, H a = some o := by
  rcases h with h | ⟨o, h⟩
  · exact ⟨_, h⟩
  · exact ⟨_, h⟩
theorem scr_keep {a : Addr} {ns : List Int} (k : ∀ o, H a = some o → ¬ Mut (some o) → H' a = some o) (h : ScrAt K H a ns) : ScrAt K H' a ns := h.imp (fun ⟨o, e⟩ => ⟨o, k _ e fun m => m⟩) id
theorem sqt_keep {a : Addr} {vs : List V} (k : ∀ o, H a = some o → ¬ Mut (some o) → H' a = some o) (h : SqT K H a vs) : SqT K H' a vs := by
  rcases h with h | h
  · refine .inl ?_
    rcases h with h | ⟨o, h⟩
    · exact .inl (k _ h fun m => m)
    · exact .inr ⟨o, k _ h fun m => m⟩
  · exact .inr h
mutual
theorem Vw.mono (hk : ∀ a o, H a = some o → (S a ∨ ¬ Mut (some o)) → H' a = some o) (hs : ∀ a, S a → (∃ o, H a = some o) → S' a) : ∀ {d : D} {v : V}, Vw K H S d v → Vw K H' S' d v
  | _, _, .non => .non
  | _, _, .bl b => .bl b
  | _, _, .int b => .int b
  | _, _, .str b => .str b
  | _, _, .scr t => .scr (scr_keep (fun o e m => hk _ o e (.inr m)) t)
  | _, _, .tup t l => .tup (sqt_keep (fun o e m => hk _ o e (.inr m)) t) (VwL.mono hk hs l)
  | _, _, .lst r s l => .lst (hk _ _ r (.inl s)) (hs _ s ⟨_, r⟩) (VwL.mono hk hs l)
  | _, _, .dic r s t l => .dic (rd_keep (fun o e => hk _ o e (.inl s)) r) (hs _ s (rd_at r)) t (VwL.mono hk hs l)
  | _, _, .obj r s l => .obj (hk _ _ r (.inl s)) (hs _ s ⟨_, r⟩) (VwL.mono hk hs l)
theorem VwL.mono (hk : ∀ a o, H a = some o → (S a ∨ ¬ Mut (some o)) → H' a = some o) (hs : ∀ a, S a → (∃ o, H a = some o) → S' a) : ∀ {d : List D} {v : List V}, VwL K H S d v → VwL K H' S' d v
  | _, _, .nil => .nil
  | _, _, .cons h t => .cons (Vw.mono hk hs h) (VwL.mono hk hs t)
end
mutual
theorem Rp.mono {os0 : List Addr} (hk : ∀ a o, H a = some o → (U a ∨ a ∈ os0 ∨ ¬ Mut (some o)) → H' a = some o) (hs : ∀ a, U a → (∃ o, H a = some o) → U' a) : ∀ {d : D} {v : V} {os : List Addr}, (∀ a ∈ os, a ∈ os0) → Rp K H U d v os → Rp K H' U' d v os
  | _, _, _, _, .non => .non
  | _, _, _, _, .bl b => .bl b
  | _, _, _, _, .int b => .int b
  | _, _, _, _, .str b => .str b
  | _, _, _, _, .scr t => .scr (scr_keep (fun o e m => hk _ o e (.inr (.inr m))) t)
  | _, _, _, q, .tup t l => .tup (sqt_keep (fun o e m => hk _ o e (.inr (.inr m))) t) (RpL.mono hk hs q l)
  | _, _, _, q, .lstO r l => .lstO (hk _ _ r (.inr (.inl (q _ List.mem_cons_self)))) (RpL.mono hk hs (fun a m => q a (List.mem_cons_of_mem _ m)) l)
  | _, _, _, q, .lstN r s l e => .lstN (hk _ _ r (.inl s)) (hs _ s ⟨_, r⟩) (RpL.mono hk hs (fun a m => absurd m (by simp [e])) l) e
  | _, _, _, q, .dicO r t l => .dicO (hk _ _ r (.inr (.inl (q _ List.mem_cons_self)))) t (RpL.mono hk hs (fun a m => q a (List.mem_cons_of_mem _ m)) l)
  | _, _, _, q, .dicN r s t l e => .dicN (rd_keep (fun o e => hk _ o e (.inl s)) r) (hs _ s (rd_at r)) t (RpL.mono hk hs (fun a m => absurd m (by simp [e])) l) e
  | _, _, _, q, .objO r l => .objO (hk _ _ r (.inr (.inl (q _ List.mem_cons_self)))) (RpL.mono hk hs (fun a m => q a (List.mem_cons_of_mem _ m)) l)
  | _, _, _, q, .objN r s l e => .objN (hk _ _ r (.inl s)) (hs _ s ⟨_, r⟩) (RpL.mono hk hs (fun a m => absurd m (by simp [e])) l) e
theorem RpL.mono {os0 : List Addr} (hk : ∀ a o, H a = some o → (U a ∨ a ∈ os0 ∨ ¬ Mut (some o)) → H' a = some o) (hs : ∀ a, U a → (∃ o, H a = some o) → U' a) : ∀ {d : List D} {v : List V} {os : List Addr}, (∀ a ∈ os, a ∈ os0) → RpL K H U d v os → RpL K H' U' d v os
  | _, _, _, _, .nil => .nil
  | _, _, _, q, .cons h t => .cons (Rp.mono hk hs (fun a m => q a (List.mem_append_left _ m)) h) (RpL.mono hk hs (fun a m => q a (List.mem_append_right _ m)) t)
end
mutual
theorem Rp.vw : ∀ {d : D} {v : V} {os : List Addr}, (∀ a ∈ os, S a) → (∀ a, U a → S a) → Rp K H U d v os → Vw K H S d v
  | _, _, _, _, _, .non => .non
  | _, _, _, _, _, .bl b => .bl b
  | _, _, _, _, _, .int b => .int b
  | _, _, _, _, _, .str b => .str b
  | _, _, _, _, _, .scr t => .scr t
  | _, _, _, q, u, .tup t l => .tup t (RpL.vw q u l)
  | _, _, _, q, u, .lstO r l => .lst r (q _ List.mem_cons_self) (RpL.vw (fun a m => q a (List.mem_cons_of_mem _ m)) u l)
  | _, _, _, q, u, .lstN r s l e => .lst r (u _ s) (RpL.vw (fun a m => absurd m (by simp [e])) u l)
  | _, _, _, q, u, .dicO r t l => .dic (.inl r) (q _ List.mem_cons_self) t (RpL.vw (fun a m => q a (List.mem_cons_of_mem _ m)) u l)
  | _, _, _, q, u, .dicN r s t l e => .dic r (u _ s) t (RpL.vw (fun a m => absurd m (by simp [e])) u l)
  | _, _, _, q, u, .objO r l => .obj r (q _ List.mem_cons_self) (RpL.vw (fun a m => q a (List.mem_cons_of_mem _ m)) u l)
  | _, _, _, q, u, .objN r s l e => .obj r (u _ s) (RpL.vw (fun a m => absurd m (by simp [e])) u l)
theorem RpL.vw : ∀ {d : List D} {v : List V} {os : List Addr}, (∀ a ∈ os, S a) → (∀ a, U a → S a) → RpL K H U d v os → VwL K H S d v
  | _, _, _, _, _, .nil => .nil
  | _, _, _, q, u, .cons h t => .cons (Rp.vw (fun a m => q a (List.mem_append_left _ m)) u h) (RpL.vw (fun a m => q a (List.mem_append_right _ m)) u t)
end
mutual
theorem Vw.rp (hs : ∀ a, S a → U a) : ∀ {d : D} {v : V}, Vw K H S d v → Rp K H U (frz d) v []
  | _, _, .non => .non
  | _, _, .bl b => .bl b
  | _, _, .int b => .int b
  | _, _, .str b => .str b
  | _, _, .scr t => .scr t
  | _, _, .tup t l => .tup t (VwL.rp hs l)
  | _, _, .lst r s l => .lstN r (hs _ s) (VwL.rp hs l) rfl
  | _, _, .dic r s t l => .dicN r (hs _ s) t (VwL.rp hs l) rfl
  | _, _, .obj r s l => .objN r (hs _ s) (VwL.rp hs l) rfl
theorem VwL.rp (hs : ∀ a, S a → U a) : ∀ {d : List D} {v : List V}, VwL K H S d v → RpL K H U (frzL d) v []
  | _, _, .nil => .nil
  | _, _, .cons h t => .cons (o1 := []) (o2 := []) (Vw.rp hs h) (VwL.rp hs t)
end
mutual
theorem Vw.frz : ∀ {d : D} {v : V}, Vw K H S d v → Vw K H S (frz d) v
  | _, _, .non => .non
  | _, _, .bl b => .bl b
  | _, _, .int b => .int b
  | _, _, .str b => .str b
  | _, _, .scr t => .scr t
  | _, _, .tup t l => .tup t (VwL.frz l)
  | _, _, .lst r s l => .lst r s (VwL.frz l)
  | _, _, .dic r s t l => .dic r s t (VwL.frz l)
  | _, _, .obj r s l => .obj r s (VwL.frz l)
theorem VwL.frz : ∀ {d : List D} {v : List V}, VwL K H S d v → VwL K H S (frzL d) v
  | _, _, .nil => .nil
  | _, _, .cons h t => .cons (Vw.frz h) (VwL.frz t)
end
mutual
/-- what is flat leans on no address -/
theorem Vw.flat : ∀ {d : D} {v : V}, flat d = true → Vw K H S d v → Vw K H S' d v
  | _, _, _, .non => .non
  | _, _, _, .bl b => .bl b
  | _, _, _, .int b => .int b
  | _, _, _, .str b => .str b
  | _, _, _, .scr t => .scr t
  | _, _, q, .tup t l => .tup t (VwL.flat (by simpa [T.flat] using q) l)
  | _, _, q, .lst r s l => absurd q (by simp [T.flat])
  | _, _, q, .dic r s t l => absurd q (by simp [T.flat])
  | _, _, q, .obj r s l => absurd q (by simp [T.flat])
theorem VwL.flat : ∀ {d : List D} {v : List V}, flatL d = true → VwL K H S d v → VwL K H S' d v
  | _, _, _, .nil => .nil
  | _, _, q, .cons h t => .cons (Vw.flat (by simp [flatL] at q; exact q.1) h) (VwL.flat (by simp [flatL] at q; exact q.2) t)
end
mutual
/-- what is all owned leans on no other address -/
theorem Rp.anyU : ∀ {d : D} {v : V} {os : List Addr}, ownd d = true → Rp K H U d v os → Rp K H U' d v os
  | _, _, _, _, .non => .non
  | _, _, _, _, .bl b => .bl b
  | _, _, _, _, .int b => .int b
  | _, _, _, _, .str b => .str b
  | _, _, _, _, .scr t => .scr t
  | _, _, _, q, .tup t l => .tup t (RpL.anyU (by simpa [ownd] using q) l)
  | _, _, _, q, .lstO r l => .lstO r (RpL.anyU (by simpa [ownd] using q) l)
  | _, _, _, q, .lstN r s l e => absurd q (by simp [ownd])
  | _, _, _, q, .dicO r t l => .dicO r t (RpL.anyU (by simpa [ownd] using q) l)
  | _, _, _, q, .dicN r s t l e => absurd q (by simp [ownd])
  | _, _, _, q, .objO r l => .objO r (RpL.anyU (by simpa [ownd] using q) l)
  | _, _, _, q, .objN r s l e => absurd q (by simp [ownd])
theorem RpL.anyU : ∀ {d : List D} {v : List V} {os : List Addr}, owndL d = true → RpL K H U d v os → RpL K H U' d v os
  | _, _, _, _, .nil => .nil
  | _, _, _, q, .cons h t => .cons (Rp.anyU (by simp [owndL] at q; exact q.1) h) (RpL.anyU (by simp [owndL] at q; exact q.2) t)
end
theorem mut_hd {H : Hp} {a b : Addr} {o : HO} {os : List Addr} (h : H b = some o) (m : Mut (some o)) (ha : a ∈ b :: os) (r : a ∈ os → ∃ o, H a = some o ∧ Mut (some o)) : ∃ o, H a = some o ∧ Mut (some o) := by
  rcases List.mem_cons.mp ha with rfl | h'
  · exact ⟨o, h, m⟩
  · exact r h'
mutual
theorem Rp.mut : ∀ {d : D} {v : V} {os : List Addr}, Rp K H U d v os → ∀ a ∈ os, ∃ o, H a = some o ∧ Mut (some o)
  | _, _, _, .non, _, m => absurd m (by simp)
  | _, _, _, .bl b, _, m => absurd m (by simp)
  | _, _, _, .int b, _, m => absurd m (by simp)
  | _, _, _, .str b, _, m => absurd m (by simp)
  | _, _, _, .scr t, _, m => absurd m (by simp)
  | _, _, _, .tup t l, a, m => RpL.mut l a m
  | _, _, _, .lstO r l, a, m => mut_hd r trivial m (RpL.mut l a)
  | _, _, _, .lstN r s l e, _, m => absurd m (by simp)
  | _, _, _, .dicO r t l, a, m => mut_hd r t.mut m (RpL.mut l a)
  | _, _, _, .dicN r s t l e, _, m => absurd m (by simp)
  | _, _, _, .objO r l, a, m => mut_hd r trivial m (RpL.mut l a)
  | _, _, _, .objN r s l e, _, m => absurd m (by simp)
theorem RpL.mut : ∀ {d : List D} {v : List V} {os : List Addr}, RpL K H U d v os → ∀ a ∈ os, ∃ o, H a = some o ∧ Mut (some o)
  | _, _, _, .nil, _, m => absurd m (by simp)
  | _, _, _, .cons h t, a, m => (List.mem_append.mp m).elim (Rp.mut h a) (RpL.mut t a)
end
theorem VwL.length : ∀ {d : List D} {v : List V}, VwL K H S d v → d.length = v.length
  | _, _, .nil => rfl
  | _, _, .cons _ t => by simp [VwL.length t]
theorem RpL.length : ∀ {d : List D} {v : List V} {os : List Addr}, RpL K H U d v os → d.length = v.length
  | _, _, _, .nil => rfl
  | _, _, _, .cons _ t => by simp [RpL.length t]
theorem VwL.get : ∀ {d : List D} {v : List V} {i : Nat} {x : D}, VwL K H S d v → d[i]? = some x → ∃ u, v[i]? = some u ∧ Vw K H S x u
  | _, _, _, _, .nil, e => by simp at e
  | _, _, 0, _, .cons h _, e => by simp at e; subst e; exact ⟨_, rfl, h⟩
  | _, _, i + 1, x, .cons _ t, e => by
    obtain ⟨u, h1, h2⟩ := VwL.get (i := i) (x := x) t (by simpa using e)
    exact ⟨u, by simpa using h1, h2⟩
theorem VwL.append : ∀ {d d' : List D} {v v' : List V}, VwL K H S d v → VwL K H S d' v' → VwL K H S (d ++ d') (v ++ v')
  | _, _, _, _, .nil, s => s
  | _, _, _, _, .cons r t, s => .cons r (VwL.append t s)
theorem VwL.take : ∀ {d : List D} {v : List V} (n : Nat), VwL K H S d v → VwL K H S (d.take n) (v.take n)
  | _, _, 0, _ => .nil
  | _, _, _ + 1, .nil => .nil
  | _, _, n + 1, .cons r t => .cons r (VwL.take n t)
theorem VwL.drop : ∀ {d : List D} {v : List V} (n : Nat), VwL K H S d v → VwL K H S (d.drop n) (v.drop n)
  | _, _, 0, r => r
  | _, _, _ + 1, .nil => .nil
  | _, _, n + 1, .cons _ t => VwL.drop n t
theorem RpL.append : ∀ {d d' : List D} {v v' : List V} {os os' : List Addr}, RpL K H U d v os → RpL K H U d' v' os' → RpL K H U (d ++ d') (v ++ v') (os ++ os')
  | _, _, _, _, _, _, .nil, s => s
  | _, _, _, _, _, _, .cons r t, s => by
    rw [List.append_assoc]
    exact .cons r (RpL.append t s)
theorem Vw.same (e : Same H H') (h : ∀ a, S a → S' a) {d : D} {v : V} (x : Vw K H S d v) : Vw K H' S' d v := x.mono (fun a o q _ => e a o q) fun a s _ => h a s
theorem VwL.same (e : Same H H') (h : ∀ a, S a → S' a) {d : List D} {v : List V} (x : VwL K H S d v) : VwL K H' S' d v := x.mono (fun a o q _ => e a o q) fun a s _ => h a s
end
end T
namespace T
open PySem PySem.Spec PyProof.Rows L2
abbrev Env := List (Option D)
/-- slots and what they hold; os: all owned addresses -/
inductive RpG (K : PySem.W.Frag) (H : Hp) (U : Addr → Prop) : Env → L2.St → List Addr → Prop
  | nil : RpG K H U [] [] []
  | skip {G : Env} {σ : L2.St} {os : List Addr} (x : Option V) : RpG K H U G σ os → RpG K H U (none :: G) (x :: σ) os
  | cons {d : D} {v : V} {G : Env} {σ : L2.St} {o1 o2 : List Addr} : Rp K H U d v o1 → RpG K H U G σ o2 → RpG K H U (some d :: G) (some v :: σ) (o1 ++ o2)
section
variable {K : PySem.W.Frag} {H H' : Hp} {S S' U U' : Addr → Prop}
theorem RpG.mono {os0 : List Addr} (hk : ∀ a o, H a = some o → (U a ∨ a ∈ os0 ∨ ¬ Mut (some o)) → H' a = some o) (hs : ∀ a, U a → (∃ o, H a = some o) → U' a) : ∀ {G : Env} {σ : L2.St} {os : List Addr}, (∀ a ∈ os, a ∈ os0) → RpG K H U G σ os → RpG K H' U' G σ os
  | _, _, _, _, .nil => .nil
  | _, _, _, q, .skip x t => .skip x (RpG.mono hk hs q t)
  | _, _, _, q, .cons h t => .cons (Rp.mono hk hs (fun a m => q a (List.mem_append_left _ m)) h) (RpG.mono hk hs (fun a m => q a (List.mem_append_right _ m)) t)
theorem RpG.length : ∀ {G : Env} {σ : L2.St} {os : List Addr}, RpG K H U G σ os → G.length = σ.length
  | _, _, _, .nil => rfl
  | _, _, _, .skip _ t => by simp [RpG.length t]
  | _, _, _, .cons _ t => by simp [RpG.length t]
theorem RpG.mut : ∀ {G : Env} {σ : L2.St} {os : List Addr}, RpG K H U G σ os → ∀ a ∈ os, ∃ o, H a = some o ∧ Mut (some o)
  | _, _, _, .nil, _, m => absurd m (by simp)
  | _, _, _, .skip _ t, a, m => RpG.mut t a m
  | _, _, _, .cons h t, a, m => (List.mem_append.mp m).elim (Rp.mut h a) (RpG.mut t a)
/-- a slot taken out -/
theorem RpG.take : ∀ {G : Env} {σ : L2.St} {os : List Addr} {i : Nat} {d : D}, RpG K H U G σ os → G[i]? = some (some d) →
    ∃ v o1 o2, σ[i]? = some (some v) ∧ Rp K H U d v o1 ∧ RpG K H U (G.set i none) σ o2 ∧ os.Perm (o1 ++ o2)
  | _, _, _, _, _, .nil, e => by simp at e
  | _, _, _, 0, _, .skip _ _, e => by simp at e
  | _, _, _, 0, _, .cons h t, e => by
    simp at e
    subst e
    exact ⟨_, _, _, rfl, h, .skip _ t, List.Perm.refl _⟩
  | _, _, _, i + 1, d, .skip x t, e => by
    obtain ⟨v, o1, o2, h1, h2, h3, h4⟩ := RpG.take (i := i) (d := d) t (by simpa using e)
    exact ⟨v, o1, o2, by simpa using h1, h2, .skip x h3, h4⟩
  | _, _, _, i + 1, d, .cons (o1 := p1) h t, e => by
    obtain ⟨v, o1, o2, h1, h2, h3, h4⟩ := RpG.take (i := i) (d := d) t (by simpa using e)
    refine ⟨v, o1, p1 ++ o2, by simpa using h1, h2, .cons h h3, ?_⟩
    refine (List.Perm.append_left p1 h4).trans ?_
    rw [← List.append_assoc, ← List.append_assoc]
    exact List.Perm.append_right o2 List.perm_append_comm
/-- a slot forgotten -/
theorem RpG.drop : ∀ {G : Env} {σ : L2.St} {os : List Addr} (i : Nat), RpG K H U G σ os → ∃ o1 o2, RpG K H U (G.set i none) σ o2 ∧ os.Perm (o1 ++ o2)
  | _, _, _, _, .nil => ⟨[], [], .nil, List.Perm.refl _⟩
  | _, _, _, 0, .skip x t => ⟨[], _, .skip x t, List.Perm.refl _⟩
  | _, _, _, 0, .cons (o1 := p1) h t => ⟨p1, _, .skip _ t, List.Perm.refl _⟩
  | _, _, _, i + 1, .skip x t => by
    obtain ⟨o1, o2, h3, h4⟩ := RpG.drop i t
    exact ⟨o1, o2, .skip x h3, h4⟩
  | _, _, _, i + 1, .cons (o1 := p1) h t => by
    obtain ⟨o1, o2, h3, h4⟩ := RpG.drop i t
    refine ⟨o1, p1 ++ o2, .cons h h3, ?_⟩
    refine (List.Perm.append_left p1 h4).trans ?_
    rw [← List.append_assoc, ← List.append_assoc]
    exact List.Perm.append_right o2 List.perm_append_comm
/-- a free slot filled -/
theorem RpG.put : ∀ {G : Env} {σ : L2.St} {os o1 : List Addr} {i : Nat} {d : D} {v : V}, RpG K H U G σ os → G[i]? = some none → Rp K H U d v o1 →
    ∃ o2, RpG K H U (G.set i (some d)) (σ.set i (some v)) o2 ∧ o2.Perm (o1 ++ os)
  | _, _, _, _, _, _, _, .nil, e, _ => by simp at e
  | _, _, _, _, 0, _, _, .skip x t, e, r => ⟨_, .cons r t, List.Perm.refl _⟩
  | _, _, _, _, 0, _, _, .cons _ _, e, _ => by simp at e
  | _, _, _, _, i + 1, _, _, .skip x t, e, r => by
    obtain ⟨o2, h3, h4⟩ := RpG.put (i := i) t (by simpa using e) r
    exact ⟨o2, .skip x h3, h4⟩
  | _, _, _, o1, i + 1, _, _, .cons (o1 := p1) (o2 := p2) h t, e, r => by
    obtain ⟨o2, h3, h4⟩ := RpG.put (i := i) t (by simpa using e) r
    refine ⟨p1 ++ o2, .cons h h3, ?_⟩
    refine (List.Perm.append_left p1 h4).trans ?_
    rw [← List.append_assoc, ← List.append_assoc]
    exact List.Perm.append_right p2 List.perm_append_comm
theorem RpG.none_at : ∀ {G : Env} {i : Nat}, i < G.length → (G.set i none)[i]? = some none := fun {G i} h => by simp [h]
theorem set_none_set {G : Env} {i : Nat} {d : Option D} : (G.set i none).set i d = G.set i d := by simp
/-- what slots hold, as data: each list, dict and object of it at an address of S -/
def VwF (K : PySem.W.Frag) (H : Hp) (S : Addr → Prop) (G : Env) (σ : L2.St) : Prop := ∀ (i : Nat) (d : D), G[i]? = some (some d) → ∃ v, σ[i]? = some (some v) ∧ Vw K H S d v
theorem RpG.vwf {G : Env} {σ : L2.St} {os : List Addr} (hs : ∀ a ∈ os, S a) (hu : ∀ a, U a → S a) (g : RpG K H U G σ os) : VwF K H S G σ := fun i d e => by
  obtain ⟨v, o1, o2, h1, h2, _, h4⟩ := g.take e
  exact ⟨v, h1, h2.vw (fun a m => hs a (h4.mem_iff.mpr (List.mem_append_left _ m))) hu⟩
theorem VwF.same {G : Env} {σ : L2.St} (e : Same H H') (h : ∀ a, S a → S' a) (g : VwF K H S G σ) : VwF K H' S' G σ := fun i d q =>
  let ⟨v, h1, h2⟩ := g i d q
  ⟨v, h1, h2.same e h⟩
structure VwG (K : PySem.W.Frag) (H : Hp) (S : Addr → Prop) (G : Env) (σ : L2.St) : Prop where
  len : G.length = σ.length
  at' : VwF K H S G σ
theorem RpG.vw {G : Env} {σ : L2.St} {os : List Addr} (hs : ∀ a ∈ os, S a) (hu : ∀ a, U a → S a) (g : RpG K H U G σ os) : VwG K H S G σ := ⟨g.length, g.vwf hs hu⟩
theorem VwG.same {G : Env} {σ : L2.St} (e : Same H H') (h : ∀ a, S a → S' a) (g : VwG K H S G σ) : VwG K H' S' G σ := ⟨g.len, g.at'.same e h⟩
/-- the slots of is frozen -/
@[simp] def frzAt (js : List Nat) (k : Nat) : Env → Env
  | [] => []
  | d :: G => (if k ∈ js then d.map frz else d) :: frzAt js (k + 1) G
@[simp] def keepAt (js : List Nat) (k : Nat) : Env → Env
  | [] => []
  | d :: G => (if k ∈ js then d else none) :: keepAt js (k + 1) G
theorem keepAt_len (js : List Nat) : ∀ (G : Env) (k : Nat), (keepAt js k G).length = G.length
  | [], _ => rfl
  | d :: G, k => by simp [keepAt, keepAt_len js G (k + 1)]
theorem keepAt_get (js : List Nat) : ∀ (G : Env) (k i : Nat), (keepAt js k G)[i]? = (G[i]?).map fun d => if k + i ∈ js then d else none
  | [], _, _ => by simp [keepAt]
  | d :: G, k, 0 => by simp [keepAt]
  | d :: G, k, i + 1 => by
    simp only [keepAt, List.getElem?_cons_succ]
    rw [keepAt_get js G (k + 1) i]
    have e : k + 1 + i = k + (i + 1) := by omega
    rw [e]
/-- freezing: the frozen slots' addresses are let go -/
theorem RpG.freeze (js : List Nat) : ∀ {G : Env} {σ : L2.St} {os : List Addr} (k : Nat), RpG K H U G σ os →
    ∃ o1 o2, os.Perm (o1 ++ o2) ∧ (∀ U' : Addr → Prop, (∀ a, U a → U' a) → (∀ a ∈ o1, U' a) → RpG K H U' (frzAt js k G) σ o2) ∧ VwF K H (fun a => a ∈ o1 ∨ U a) (keepAt js k G) σ
  | _, _, _, k, .nil => ⟨[], [], List.Perm.refl _, fun _ _ _ => .nil, fun i d e => by simp [keepAt] at e⟩
  | _, _, _, k, .skip (G := G) x t => by
    obtain ⟨o1, o2, h1, h2, h3⟩ := RpG.freeze js (k + 1) t
    refine ⟨o1, o2, h1, fun U' hu ho => ?_, fun i d e => ?_⟩
    · unfold frzAt
      have z : (if k ∈ js then (none : Option D).map frz else none) = none := by split <;> rfl
      rw [z]
      exact .skip x (h2 U' hu ho)
    · cases i with
      | zero =>
        simp [keepAt] at e
      | succ i =>
        obtain ⟨v, q1, q2⟩ := h3 i d (by simpa [keepAt] using e)
        exact ⟨v, by simpa using q1, q2⟩
  | _, _, _, k, .cons (d := d0) (o1 := p1) (o2 := p2) h t => by
    obtain ⟨o1, o2, h1, h2, h3⟩ := RpG.freeze js (k + 1) t
    by_cases hk : k ∈ js
    · refine ⟨p1 ++ o1, o2, ?_, fun U' hu ho => ?_, fun i d e => ?_⟩
      · rw [List.append_assoc]
        exact List.Perm.append_left p1 h1
      · unfold frzAt
        rw [if_pos hk]
        exact .cons (o1 := []) ((h.vw (S := U') (fun a m => ho a (List.mem_append_left _ m)) hu).rp fun a z => z) (h2 U' hu fun a m => ho a (List.mem_append_right _ m))
      · cases i with
        | zero =>
          simp [keepAt, hk] at e
          subst e
          exact ⟨_, rfl, h.vw (fun a m => .inl (List.mem_append_left _ m)) fun a z => .inr z⟩
        | succ i =>
          obtain ⟨v, q1, q2⟩ := h3 i d (by simpa [keepAt] using e)
          exact ⟨v, by simpa using q1, q2.same (Same.refl H) fun a z => z.elim (fun m => .inl (List.mem_append_right _ m)) .inr⟩
    · refine ⟨o1, p1 ++ o2, ?_, fun U' hu ho => ?_, fun i d e => ?_⟩
      · refine (List.Perm.append_left p1 h1).trans ?_
        rw [← List.append_assoc, ← List.append_assoc]
        exact List.Perm.append_right o2 List.perm_append_comm
      · unfold frzAt
        rw [if_neg hk]
        refine .cons (h.mono (os0 := p1) (fun a o e _ => e) (fun a z _ => hu a z) fun a m => m) (h2 U' hu ho)
      · cases i with
        | zero => simp [keepAt, hk] at e
        | succ i =>
          obtain ⟨v, q1, q2⟩ := h3 i d (by simpa [keepAt] using e)
          exact ⟨v, by simpa using q1, q2⟩

/-! ### steps -/
structure Stp (H H' : Hp) (os os' : List Addr) : Prop where
  keep : ∀ a o, H a = some o → a ∉ os → H' a = some o
  new : ∀ a ∈ os', a ∈ os ∨ H a = none
  dom : ∀ a o, H a = some o → ∃ o', H' a = some o'
theorem Stp.refl (H : Hp) (os : List Addr) : Stp H H os os := ⟨fun _ _ e _ => e, fun _ m => .inl m, fun _ o e => ⟨o, e⟩⟩
theorem Stp.sub {os1 os2 : List Addr} {os : List Addr} (s : Stp H H' os os1) (h : ∀ a ∈ os2, a ∈ os1) : Stp H H' os os2 := ⟨s.keep, fun a m => s.new a (h a m), s.dom⟩
theorem Stp.free {os os' : List Addr} (s : Stp H H' os os') {a : Addr} (h : H' a = none) : H a = none := by
  cases q : H a with
  | none => rfl
  | some o =>
    obtain ⟨o', e⟩ := s.dom a o q
    rw [h] at e
    cases e
theorem Stp.trans {H1 H2 : Hp} {os os1 os2 : List Addr} (a : Stp H H1 os os1) (b : Stp H1 H2 os1 os2) : Stp H H2 os os2 := by
  refine ⟨fun c o e n => b.keep c o (a.keep c o e n) fun m => ?_, fun c m => ?_, fun c o e => ?_⟩
  · rcases a.new c m with z | z
    · exact n z
    · rw [e] at z; cases z
  · rcases b.new c m with z | z
    · exact a.new c z
    · exact .inr (a.free z)
  · obtain ⟨o', q⟩ := a.dom c o e
    exact b.dom c o' q
theorem Stp.of_same (e : Same H H') (os : List Addr) : Stp H H' os os := ⟨fun a o q _ => e a o q, fun _ m => .inl m, fun a o q => ⟨o, e a o q⟩⟩
theorem Stp.same {os : List Addr} (s : Stp H H' [] os) : Same H H' := fun a o e => s.keep a o e (by simp)
/-- more may change, more was owned -/
theorem Stp.wide {os os' o1 : List Addr} (s : Stp H H' os os') : Stp H H' (o1 ++ os) (o1 ++ os') :=
  ⟨fun a o e n => s.keep a o e fun m => n (List.mem_append_right _ m), fun a m => (List.mem_append.mp m).elim (fun z => .inl (List.mem_append_left _ z)) fun z => (s.new a z).imp (fun y => List.mem_append_right _ y) id, s.dom⟩
def Own (H : Hp) (l : List Addr) : Prop := l.Nodup ∧ ∀ a ∈ l, ∃ o, H a = some o ∧ Mut (some o)
theorem Own.nil : Own H [] := ⟨List.nodup_nil, fun _ m => absurd m (by simp)⟩
theorem Own.perm {l l' : List Addr} (h : Own H l) (p : l.Perm l') : Own H l' := ⟨p.nodup_iff.mp h.1, fun a m => h.2 a (p.mem_iff.mpr m)⟩
theorem Own.right {l l' : List Addr} (h : Own H (l ++ l')) : Own H l' := ⟨(List.nodup_append.mp h.1).2.1, fun a m => h.2 a (List.mem_append_right _ m)⟩
theorem Own.left {l l' : List Addr} (h : Own H (l ++ l')) : Own H l := ⟨(List.nodup_append.mp h.1).1, fun a m => h.2 a (List.mem_append_left _ m)⟩
theorem Own.dis {l l' : List Addr} (h : Own H (l ++ l')) {a : Addr} (m : a ∈ l) : a ∉ l' := fun m' => (List.nodup_append.mp h.1).2.2 a m a m' rfl
theorem Own.none {l : List Addr} (h : Own H l) {a : Addr} (e : H a = none) : a ∉ l := fun m => by
  obtain ⟨o, q, _⟩ := h.2 a m
  rw [e] at q
  cases q
/-- addresses that others may lean on -/
def ug (U0 : Addr → Prop) (l : List Addr) : Addr → Prop := fun a => U0 a ∧ a ∉ l
/-- the state of a body: Oo are owned by what is kept aside -/
structure Rep (K : PySem.W.Frag) (U0 : Addr → Prop) (G : Env) (σ : L2.St) (H : Hp) (Oo os : List Addr) : Prop where
  g : RpG K H (ug U0 (Oo ++ os)) G σ os
  own : Own H (Oo ++ os)
  u0 : ∀ a ∈ Oo ++ os, U0 a
  un : ∀ a, H a = none → U0 a
/-- a value beside the slots -/
theorem aside {d : D} {v : V} {U0 : Addr → Prop} {Oo os os' o1 : List Addr} (s : Stp H H' os os') (ow : Own H ((Oo ++ o1) ++ os)) (r : Rp K H (ug U0 ((Oo ++ o1) ++ os)) d v o1) : Rp K H' (ug U0 ((Oo ++ o1) ++ os')) d v o1 := by
  refine r.mono (os0 := o1) (fun a o e h => ?_) (fun a u h => ?_) fun a m => m
  · refine s.keep a o e fun m => ?_
    rcases h with h | h | h
    · exact h.2 (List.mem_append_right _ m)
    · exact ow.dis (List.mem_append_right _ h) m
    · obtain ⟨o', q, mu⟩ := ow.2 a (List.mem_append_right _ m)
      rw [e] at q; cases q
      exact h mu
  · refine ⟨u.1, fun m => ?_⟩
    obtain ⟨o, e⟩ := h
    rcases List.mem_append.mp m with z | z
    · exact u.2 (List.mem_append_left _ z)
    · rcases s.new a z with y | y
      · exact u.2 (List.mem_append_right _ y)
      · rw [e] at y; cases y
end
end T
namespace T
open PySem PySem.Spec PyProof.Rows L2
/-! ### what is read: no slot, no object changes -/
abbrev WR := Env → (D → Prop) → Prop
abbrev WT := Env → (Bool → Prop) → Prop
abbrev WA := Env → (List D → Prop) → Prop
abbrev WO := Env → (Option Int → Prop) → Prop
def gr (S : Addr → Prop) (H : Hp) : Addr → Prop := fun a => S a ∨ H a = none
theorem gr_of {S : Addr → Prop} {H : Hp} : ∀ a, S a → gr S H a := fun _ h => .inl h
theorem gr_gr {S : Addr → Prop} {H H' : Hp} (e : Same H H') : ∀ a, gr (gr S H) H' a → gr S H a := fun a h => by
  rcases h with h | h
  · exact h
  · exact .inr (e.free h)
section
variable {ι : Type} (X : ι → Cx) (K : PySem.W.Frag)
def SndR (e : Expr) (r : WR) : Prop := ∃ t : TE, (∀ i, PE (X i) e t) ∧ ∀ (G : Env) (σ : L2.St) (H : Hp) (S : Addr → Prop) (P : D → Prop) (Q : VK),
  VwG K H S G σ → r G P → (∀ d v H', P d → Same H H' → Vw K H' (gr S H) d v → Q v H') → t σ H Q
def SndT (e : Expr) (r : WT) : Prop := ∃ t : TT, (∀ i, PT (X i) e t) ∧ ∀ (G : Env) (σ : L2.St) (H : Hp) (S : Addr → Prop) (P : Bool → Prop) (Q : Bool → Hp → Prop),
  VwG K H S G σ → r G P → (∀ b H', P b → Same H H' → Q b H') → t σ H Q
def SndW (e : Expr) (r : WT) : Prop := ∃ t : TT, (∀ i, PW (X i) e t) ∧ ∀ (G : Env) (σ : L2.St) (H : Hp) (S : Addr → Prop) (P : Bool → Prop) (Q : Bool → Hp → Prop),
  VwG K H S G σ → r G P → (∀ b H', P b → Same H H' → Q b H') → t σ H Q
def SndA (es : List Expr) (r : WA) : Prop := ∃ t : TA, (∀ i, PA (X i) es t) ∧ ∀ (G : Env) (σ : L2.St) (H : Hp) (S : Addr → Prop) (P : List D → Prop) (Q : List V → Hp → Prop),
  VwG K H S G σ → r G P → (∀ ds vs H', P ds → Same H H' → VwL K H' (gr S H) ds vs → Q vs H') → t σ H Q
def SndO (e : Option Expr) (r : WO) : Prop := ∃ t : TO, (∀ i, PO (X i) e t) ∧ ∀ (G : Env) (σ : L2.St) (H : Hp) (S : Addr → Prop) (P : Option Int → Prop) (Q : Option Int → Hp → Prop),
  VwG K H S G σ → r G P → (∀ o H', P o → Same H H' → Q o H') → t σ H Q
/-- a new list, of what is viewed -/
def SndF (e : Expr) (r : WA) : Prop := ∃ t : TE, (∀ i, PE (X i) e t) ∧ ∀ (G : Env) (σ : L2.St) (H : Hp) (S : Addr → Prop) (P : List D → Prop) (Q : VK),
  VwG K H S G σ → r G P → (∀ ds vs p H', P ds → Same H H' → H' p = none → VwL K H' (gr S H) ds vs → Q (.ref p) (upd H' p (.lst vs))) → t σ H Q
end
section
variable {ι : Type} {X : ι → Cx} {K : PySem.W.Frag}
/-! names, constants -/
@[simp] def rVar (i : Nat) : WR := fun G P => match G[i]? with | some (some d) => P (frz d) | _ => False
@[simp] def rCon (d : D) : WR := fun _ P => P d
theorem r_var (i : Nat) {x : Str} {pos : Pos} (hN : ∀ j, (X j).N[i]? = some x) (hv : ∀ j, Vis (X j).env.scope x) (hd : (x == ("__debug__" : Str)) = false := by decide) (hcd : (x == ("__classdict__" : Str)) = false := by decide) :
    SndR X K (.Name x pos) (rVar i) := by
  refine ⟨tVar i, fun j => pe_var (hN j) (hv j) hd hcd, fun G σ H S P Q g r q => ?_⟩
  unfold rVar at r
  split at r
  · rename_i d e
    obtain ⟨v, h1, h2⟩ := g.at' i d e
    exact ⟨v, h1, q (frz d) v H r (Same.refl H) (h2.frz.same (Same.refl H) gr_of)⟩
  · exact r.elim
theorem r_conK {e : Expr} {d : D} {v : V} (h : ∀ j, PE (X j) e (tC v)) (hv : ∀ H S, Vw K H S d v) : SndR X K e (rCon d) :=
  ⟨tC v, h, fun G σ H S P Q g r q => q d v H r (Same.refl H) (hv H _)⟩
theorem r_int {i : Int} {j pos} : SndR X K (.Constant (.int i) j pos) (rCon (.int i)) := r_conK (fun _ => pe_int) fun _ _ => .int i
theorem r_bl {b : Bool} {j pos} : SndR X K (.Constant (.bool b) j pos) (rCon (.bl b)) := r_conK (fun _ => pe_bl) fun _ _ => .bl b
theorem r_non {j pos} : SndR X K (.Constant .none j pos) (rCon .non) := r_conK (fun _ => pe_non) fun _ _ => .non
theorem r_str {x : Str} {j pos} : SndR X K (.Constant (.str x) j pos) (rCon (.str x)) := r_conK (fun _ => pe_str) fun _ _ => .str x
/-- a constant of the module -/
theorem r_glob {x : Str} {pos : Pos} {d : D} {v : V} {u : Value} (hg : ∀ j, Gl (X j) x) (hm : ∀ j, (X j).mg x = some u) (r : RelV v u) (hv : ∀ H S, Vw K H S d v) (hd : (x == ("__debug__" : Str)) = false := by decide) : SndR X K (.Name x pos) (rCon d) :=
  r_conK (fun j => pe_glob (hg j) (hm j) r hd) hv

/-! two operands -/
def OpOk (K : PySem.W.Frag) (r : R2) (f : D → D → (D → Prop) → Prop) : Prop := ∀ (H : Hp) (S : Addr → Prop) (x y : D) (v u : V) (P : D → Prop) (Q : VK), Vw K H S x v → Vw K H S y u → f x y P →
  (∀ d z H', P d → Same H H' → Vw K H' (gr S H) d z → Q z H') → r v u H Q
@[simp] def rOp (f : D → D → (D → Prop) → Prop) (ra rb : WR) : WR := fun G P => ra G fun x => rb G fun y => f x y P
section
variable {a b : Expr} {ra rb : WR} {r : R2} {f : D → D → (D → Prop) → Prop} {pos : Pos}
theorem r_two {e : Expr} (he : ∀ ta tb, (∀ j, PE (X j) a ta) → (∀ j, PE (X j) b tb) → ∀ j, PE (X j) e (tOp r ta tb)) (ok : OpOk K r f) (ha : SndR X K a ra) (hb : SndR X K b rb) : SndR X K e (rOp f ra rb) := by
  obtain ⟨ta, a1, a2⟩ := ha
  obtain ⟨tb, b1, b2⟩ := hb
  refine ⟨tOp r ta tb, he ta tb a1 b1, fun G σ H S P Q g h q => ?_⟩
  refine a2 G σ H S _ _ g h fun x v H1 h1 s1 v1 => ?_
  refine b2 G σ H1 (gr S H) _ _ (g.same s1 gr_of) h1 fun y u H2 h2 s2 v2 => ?_
  refine ok H2 (gr S H) x y v u P Q (v1.same s2 fun _ z => z) (v2.same (Same.refl _) (gr_gr s1)) h2 fun d z H3 hp s3 hz => ?_
  exact q d z H3 hp ((s1.trans s2).trans s3) (hz.same (Same.refl _) (gr_gr (s1.trans s2)))
theorem r_bin {op : Operator} (ho : ∀ j, OpR (X j) (binaryOp op) r) (ok : OpOk K r f) (ha : SndR X K a ra) (hb : SndR X K b rb) : SndR X K (.BinOp a op b pos) (rOp f ra rb) :=
  r_two (fun ta tb h1 h2 j => pe_op (ho j) (h1 j) (h2 j)) ok ha hb
theorem r_cmp {op : CmpOp} (ho : ∀ j, OpR (X j) (compareOp op) r) (ok : OpOk K r f) (ha : SndR X K a ra) (hb : SndR X K b rb) (hm : behindInMarks op b = false) : SndR X K (.Compare a [op] [b] pos) (rOp f ra rb) :=
  r_two (fun ta tb h1 h2 j => pe_cmpR (ho j) (h1 j) (h2 j) hm) ok ha hb
theorem r_ix {r : R2} (hr : ∀ j, IxR (X j) r) (ok : OpOk K r f) (ha : SndR X K a ra) (hb : SndR X K b rb) (hs : PlainIx b) : SndR X K (.Subscript a b pos) (rOp f ra rb) :=
  r_two (fun ta tb h1 h2 j => pe_ix (hr j) (h1 j) (h2 j) hs) ok ha hb
theorem OpOk.or {r1 r2 : R2} {f1 f2 : D → D → (D → Prop) → Prop} (h1 : OpOk K r1 f1) (h2 : OpOk K r2 f2) : OpOk K (fun x y H Q => r1 x y H Q ∨ r2 x y H Q) (fun x y P => f1 x y P ∨ f2 x y P) := fun H S x y v u P Q a b h q => by
  rcases h with h | h
  · exact .inl (h1 H S x y v u P Q a b h q)
  · exact .inr (h2 H S x y v u P Q a b h q)
end
/-! tests -/
@[simp] def asB (r : WR) : WT := fun G P => r G fun d => match d with | .bl b => P b | _ => False
theorem vw_bl {H : Hp} {S : Addr → Prop} {b : Bool} {v : V} (h : Vw K H S (.bl b) v) : v = .bl b := by
  cases h
  rfl
theorem t_val {e : Expr} {r : WR} (h : SndR X K e r) (he : ∀ j whole, isTrue e (X j).env whole = (do let v ← whole; standAt e.pos; holding [v] (truthy v)) := by intro _ _; rfl) : SndT X K e (asB r) := by
  obtain ⟨t, h1, h2⟩ := h
  refine ⟨tB t, fun j => pt_val (h1 j) (he j), fun G σ H S P Q g r q => ?_⟩
  refine h2 G σ H S _ _ g r fun d v H' p s hv => ?_
  cases d with
  | bl b =>
    cases vw_bl hv
    exact ⟨b, rfl, q b H' p s⟩
  | _ => exact p.elim
theorem t_cmp {a b : Expr} {ra rb : WR} {r : R2} {f : D → D → (D → Prop) → Prop} {pos : Pos} {op : CmpOp} (ho : ∀ j, OpR (X j) (compareOp op) r) (ok : OpOk K r f) (ha : SndR X K a ra) (hb : SndR X K b rb) (hm : behindInMarks op b = false) : SndT X K (.Compare a [op] [b] pos) (asB (rOp f ra rb)) := by
  obtain ⟨ta, a1, a2⟩ := ha
  obtain ⟨tb, b1, b2⟩ := hb
  refine ⟨tTest (tOp r ta tb), fun j => pt_cmpR (ho j) (a1 j) (b1 j) hm, fun G σ H S P Q g h q => ?_⟩
  refine a2 G σ H S _ _ g h fun x v H1 h1 s1 v1 => ?_
  refine b2 G σ H1 (gr S H) _ _ (g.same s1 gr_of) h1 fun y u H2 h2 s2 v2 => ?_
  refine ok H2 (gr S H) x y v u _ _ (v1.same s2 fun _ z => z) (v2.same (Same.refl _) (gr_gr s1)) h2 fun d z H3 hp s3 hz => ?_
  cases d with
  | bl b =>
    cases vw_bl hz
    exact ⟨b, rfl, q b H3 hp ((s1.trans s2).trans s3)⟩
  | _ => exact hp.elim
@[simp] def tNotT (t : WT) : WT := fun G P => t G fun b => P (!b)
@[simp] def tAndT (t u : WT) : WT := fun G P => t G fun b => if b = true then u G P else P false
@[simp] def tOrT (t u : WT) : WT := fun G P => t G fun b => if b = true then P true else u G P
theorem t_not {e : Expr} {t : WT} {pos : Pos} (h : SndT X K e t) : SndT X K (.UnaryOp .Not e pos) (tNotT t) := by
  obtain ⟨u, h1, h2⟩ := h
  exact ⟨tNot u, fun j => pt_not (h1 j), fun G σ H S P Q g r q => h2 G σ H S _ _ g r fun b H' p s => q (!b) H' p s⟩
theorem t_w {e : Expr} {t : WT} (h : SndW X K e t) : SndT X K e t := by
  obtain ⟨u, h1, h2⟩ := h
  exact ⟨u, fun j => (h1 j).pt, h2⟩
theorem w_and1 {e : Expr} {t : WT} {pos : Pos} (h : SndT X K e t) : SndW X K (.BoolOp .And [e] pos) t := by
  obtain ⟨u, h1, h2⟩ := h
  exact ⟨u, fun j => pw_and1 (h1 j), h2⟩
theorem w_or1 {e : Expr} {t : WT} {pos : Pos} (h : SndT X K e t) : SndW X K (.BoolOp .Or [e] pos) t := by
  obtain ⟨u, h1, h2⟩ := h
  exact ⟨u, fun j => pw_or1 (h1 j), h2⟩
theorem w_and {a b : Expr} {rest : List Expr} {t u : WT} {pos : Pos} (h : SndT X K a t) (h' : SndW X K (.BoolOp .And (b :: rest) pos) u) : SndW X K (.BoolOp .And (a :: b :: rest) pos) (tAndT t u) := by
  obtain ⟨ta, a1, a2⟩ := h
  obtain ⟨tb, b1, b2⟩ := h'
  refine ⟨tAnd ta tb, fun j => pw_and (a1 j) (b1 j), fun G σ H S P Q g r q => ?_⟩
  refine a2 G σ H S _ _ g r fun c H1 p s => ?_
  cases c with
  | true => exact b2 G σ H1 (gr S H) _ _ (g.same s gr_of) p fun b H' p' s' => q b H' p' (s.trans s')
  | false => exact q false H1 p s
theorem w_or {a b : Expr} {rest : List Expr} {t u : WT} {pos : Pos} (h : SndT X K a t) (h' : SndW X K (.BoolOp .Or (b :: rest) pos) u) : SndW X K (.BoolOp .Or (a :: b :: rest) pos) (tOrT t u) := by
  obtain ⟨ta, a1, a2⟩ := h
  obtain ⟨tb, b1, b2⟩ := h'
  refine ⟨tOr ta tb, fun j => pw_or (a1 j) (b1 j), fun G σ H S P Q g r q => ?_⟩
  refine a2 G σ H S _ _ g r fun c H1 p s => ?_
  cases c with
  | true => exact q true H1 p s
  | false => exact b2 G σ H1 (gr S H) _ _ (g.same s gr_of) p fun b H' p' s' => q b H' p' (s.trans s')
/-! truth as a value -/
@[simp] def rAnd (ra rb : WR) : WR := fun G P => ra G fun d => match d with | .bl b => (if b = true then rb G P else P (.bl false)) | _ => False
@[simp] def rOr (ra rb : WR) : WR := fun G P => ra G fun d => match d with | .bl b => (if b = true then P (.bl true) else rb G P) | _ => False
@[simp] def rNot (ra : WR) : WR := fun G P => ra G fun d => match d with | .bl b => P (.bl (!b)) | _ => False
theorem r_one {e : Expr} {r : WR} {op} {pos : Pos} (h : SndR X K e r) : SndR X K (.BoolOp op [e] pos) r := by
  obtain ⟨t, h1, h2⟩ := h
  exact ⟨t, fun j => pe_one (h1 j), h2⟩
theorem r_and {a b : Expr} {rest : List Expr} {ra rb : WR} {pos : Pos} (h : SndR X K a ra) (h' : SndR X K (.BoolOp .And (b :: rest) pos) rb) : SndR X K (.BoolOp .And (a :: b :: rest) pos) (rAnd ra rb) := by
  obtain ⟨ta, a1, a2⟩ := h
  obtain ⟨tb, b1, b2⟩ := h'
  refine ⟨tAndV ta tb, fun j => pe_and (a1 j) (b1 j), fun G σ H S P Q g r q => ?_⟩
  refine a2 G σ H S _ _ g r fun d v H1 p s hv => ?_
  cases d with
  | bl c =>
    cases vw_bl hv
    refine ⟨c, rfl, ?_⟩
    cases c with
    | true => exact b2 G σ H1 (gr S H) _ _ (g.same s gr_of) p fun b v H' p' s' hv => q b v H' p' (s.trans s') (hv.same (Same.refl _) (gr_gr s))
    | false => exact q _ _ H1 p s (.bl false)
  | _ => exact p.elim
theorem r_or {a b : Expr} {rest : List Expr} {ra rb : WR} {pos : Pos} (h : SndR X K a ra) (h' : SndR X K (.BoolOp .Or (b :: rest) pos) rb) : SndR X K (.BoolOp .Or (a :: b :: rest) pos) (rOr ra rb) := by
  obtain ⟨ta, a1, a2⟩ := h
  obtain ⟨tb, b1, b2⟩ := h'
  refine ⟨tOrV ta tb, fun j => pe_or (a1 j) (b1 j), fun G σ H S P Q g r q => ?_⟩
  refine a2 G σ H S _ _ g r fun d v H1 p s hv => ?_
  cases d with
  | bl c =>
    cases vw_bl hv
    refine ⟨c, rfl, ?_⟩
    cases c with
    | true => exact q _ _ H1 p s (.bl true)
    | false => exact b2 G σ H1 (gr S H) _ _ (g.same s gr_of) p fun b v H' p' s' hv => q b v H' p' (s.trans s') (hv.same (Same.refl _) (gr_gr s))
  | _ => exact p.elim
theorem r_not {e : Expr} {r : WR} {pos : Pos} (h : SndR X K e r) : SndR X K (.UnaryOp .Not e pos) (rNot r) := by
  obtain ⟨t, h1, h2⟩ := h
  refine ⟨tNotV t, fun j => pe_not (h1 j), fun G σ H S P Q g r q => ?_⟩
  refine h2 G σ H S _ _ g r fun d v H1 p s hv => ?_
  cases d with
  | bl c =>
    cases vw_bl hv
    exact ⟨c, rfl, q _ _ H1 p s (.bl _)⟩
  | _ => exact p.elim
@[simp] def rIf (t : WT) (ra rb : WR) : WR := fun G P => t G fun b => if b = true then ra G P else rb G P
theorem r_ifexp {c a b : Expr} {t : WT} {ra rb : WR} {pos : Pos} (hc : SndT X K c t) (ha : SndR X K a ra) (hb : SndR X K b rb) : SndR X K (.IfExp c a b pos) (rIf t ra rb) := by
  obtain ⟨tc, c1, c2⟩ := hc
  obtain ⟨ta, a1, a2⟩ := ha
  obtain ⟨tb, b1, b2⟩ := hb
  refine ⟨tIf tc ta tb, fun j => pe_ifExp (c1 j) (a1 j) (b1 j), fun G σ H S P Q g r q => ?_⟩
  refine c2 G σ H S _ _ g r fun c H1 p s => ?_
  cases c with
  | true => exact a2 G σ H1 (gr S H) _ _ (g.same s gr_of) p fun b v H' p' s' hv => q b v H' p' (s.trans s') (hv.same (Same.refl _) (gr_gr s))
  | false => exact b2 G σ H1 (gr S H) _ _ (g.same s gr_of) p fun b v H' p' s' hv => q b v H' p' (s.trans s') (hv.same (Same.refl _) (gr_gr s))
/-! argument lists, displays -/
@[simp] def aNil : WA := fun _ P => P []
@[simp] def aCons (r : WR) (t : WA) : WA := fun G P => r G fun d => t G fun ds => P (d :: ds)
theorem a_nil : SndA X K [] aNil := ⟨tNil, fun _ => pa_nil, fun G σ H S P Q g r q => q [] [] H r (Same.refl H) .nil⟩
theorem a_cons {e : Expr} {es : List Expr} {r : WR} {t : WA} (h : SndR X K e r) (h' : SndA X K es t) (hs : ∀ j, starEach (e :: es) (X j).env = (false, eval e (X j).env) :: starEach es (X j).env := by intro _; rfl) : SndA X K (e :: es) (aCons r t) := by
  obtain ⟨ta, a1, a2⟩ := h
  obtain ⟨tb, b1, b2⟩ := h'
  refine ⟨tCons ta tb, fun j => pa_cons (a1 j) (b1 j) (hs j), fun G σ H S P Q g r q => ?_⟩
  refine a2 G σ H S _ _ g r fun d v H1 p s hv => ?_
  refine b2 G σ H1 (gr S H) _ _ (g.same s gr_of) p fun ds vs H2 p2 s2 hvs => ?_
  exact q _ _ H2 p2 (s.trans s2) (.cons (hv.same s2 fun _ z => z) (hvs.same (Same.refl _) (gr_gr s)))
theorem small_line {n : Nat} (h : n ≤ 100000) : n ≤ sizeLine := Nat.le_trans h (by rw [sizeLine_eq]; decide)
theorem small_lt {n : Nat} (h : n ≤ 100000) : n < sizeLine := Nat.lt_of_le_of_lt h (by rw [sizeLine_eq]; decide)
theorem same_new {H : Hp} {p : Addr} {o : HO} (h : H p = none) : Same H (upd H p o) := fun b x e => by
  rw [upd_ne (ne_of_none e h)]
  exact e
@[simp] def rTup (t : WA) : WR := fun G P => t G fun ds => ds.length ≤ 100000 ∧ P (.tup ds)
theorem r_tup {es : List Expr} {t : WA} {x1} {pos : Pos} (h : SndA X K es t) : SndR X K (.Tuple es x1 pos) (rTup t) := by
  obtain ⟨ta, a1, a2⟩ := h
  refine ⟨tTup ta, fun j => pe_tup (a1 j), fun G σ H S P Q g r q => ?_⟩
  refine a2 G σ H S _ _ g r fun ds vs H1 p s hv => ?_
  obtain ⟨hl, p⟩ := p
  refine ⟨by rw [← hv.length]; exact small_line hl, fun a ha => ?_⟩
  refine q _ _ _ p (s.trans (same_new ha)) (.tup (.inl (.inl upd_same)) (hv.same (same_new ha) fun _ z => z))
@[simp] def fLst (t : WA) : WA := fun G P => t G fun ds => ds.length ≤ 100000 ∧ P ds
theorem f_lst {es : List Expr} {t : WA} {pos : Pos} (h : SndA X K es t) : SndF X K (.List es pos) (fLst t) := by
  obtain ⟨ta, a1, a2⟩ := h
  refine ⟨tLst ta, fun j => pe_lst (a1 j), fun G σ H S P Q g r q => ?_⟩
  refine a2 G σ H S _ _ g r fun ds vs H1 p s hv => ?_
  obtain ⟨hl, p⟩ := p
  exact ⟨by rw [← hv.length]; exact small_line hl, fun a ha => q ds vs a H1 p s ha hv⟩
/-- a new list as data -/
@[simp] def rF (t : WA) : WR := fun G P => t G fun ds => P (.lst false ds)
theorem r_f {e : Expr} {t : WA} (h : SndF X K e t) : SndR X K e (rF t) := by
  obtain ⟨ta, a1, a2⟩ := h
  refine ⟨ta, a1, fun G σ H S P Q g r q => ?_⟩
  refine a2 G σ H S _ _ g r fun ds vs p H1 hp s hn hv => ?_
  exact q _ _ _ hp (s.trans (same_new hn)) (.lst upd_same (.inr (s.free hn)) (hv.same (same_new hn) fun _ z => z))
/-! calls of built-in functions -/
def CallOk (K : PySem.W.Frag) (r : List V → Hp → VK → Prop) (f : List D → (D → Prop) → Prop) : Prop := ∀ (H : Hp) (S : Addr → Prop) (xs : List D) (vs : List V) (P : D → Prop) (Q : VK), VwL K H S xs vs → f xs P →
  (∀ d z H', P d → Same H H' → Vw K H' (gr S H) d z → Q z H') → r vs H Q
def CallOkF (K : PySem.W.Frag) (r : List V → Hp → VK → Prop) (f : List D → (List D → Prop) → Prop) : Prop := ∀ (H : Hp) (S : Addr → Prop) (xs : List D) (vs : List V) (P : List D → Prop) (Q : VK), VwL K H S xs vs → f xs P →
  (∀ ds zs p H', P ds → Same H H' → H' p = none → VwL K H' (gr S H) ds zs → Q (.ref p) (upd H' p (.lst zs))) → r vs H Q
@[simp] def rCB (f : List D → (D → Prop) → Prop) (t : WA) : WR := fun G P => t G fun ds => f ds P
@[simp] def fCB (f : List D → (List D → Prop) → Prop) (t : WA) : WA := fun G P => t G fun ds => f ds P
section
variable {e : Expr} {es : List Expr} {x : Str} {p pos : Pos} {Ty id : String} {r : List V → Hp → VK → Prop} {f : List D → (D → Prop) → Prop} {ff : List D → (List D → Prop) → Prop} {t : WA}
theorem cb_core {e' : Expr} (he : ∀ ta, (∀ j, PA (X j) (e :: es) ta) → ∀ j, PE (X j) e' (tCB r ta)) (ok : CallOk K r f) (h : SndA X K (e :: es) t) : SndR X K e' (rCB f t) := by
  obtain ⟨ta, a1, a2⟩ := h
  refine ⟨tCB r ta, he ta a1, fun G σ H S P Q g h q => ?_⟩
  refine a2 G σ H S _ _ g h fun ds vs H1 h1 s1 v1 => ?_
  exact ok H1 (gr S H) ds vs P Q v1 h1 fun d z H2 hp s2 hz => q d z H2 hp (s1.trans s2) (hz.same (Same.refl _) (gr_gr s1))
theorem cb_coreF {e' : Expr} (he : ∀ ta, (∀ j, PA (X j) (e :: es) ta) → ∀ j, PE (X j) e' (tCB r ta)) (ok : CallOkF K r ff) (h : SndA X K (e :: es) t) : SndF X K e' (fCB ff t) := by
  obtain ⟨ta, a1, a2⟩ := h
  refine ⟨tCB r ta, he ta a1, fun G σ H S P Q g h q => ?_⟩
  refine a2 G σ H S _ _ g h fun ds vs H1 h1 s1 v1 => ?_
  exact ok H1 (gr S H) ds vs P Q v1 h1 fun ds zs p H2 hp s2 hn hz => q ds zs p H2 hp (s1.trans s2) hn (hz.same (Same.refl _) (gr_gr s1))
theorem r_callB (hc : ∀ j, CallR (X j) (.builtin id) r) (ok : CallOk K r f) (hg : ∀ j, Gl (X j) x) (hm : ∀ j, (X j).mg x = none) (hv : bootBuiltins x = some (.builtin id)) (h : SndA X K (e :: es) t) (hn : x ≠ "__name__" := by decide) (hdb : (x == ("__debug__" : Str)) = false := by decide)
    (hs : ∀ j, starEach (e :: es) (X j).env = (false, eval e (X j).env) :: starEach es (X j).env := by intro _; rfl) (hpl : ∀ j, (backTo pos (starEach es (X j).env)).any (·.1) = false := by intro _; rfl) : SndR X K (.Call (.Name x p) (e :: es) [] pos) (rCB f t) :=
  cb_core (fun ta h j => pe_callB (hc j) (hg j) (hm j) hv (h j) hn hdb (hs j) (hpl j)) ok h
theorem r_callTy (hc : ∀ j, CallR (X j) (.type Ty) r) (ok : CallOk K r f) (hg : ∀ j, Gl (X j) x) (hm : ∀ j, (X j).mg x = none) (hv : bootBuiltins x = some (.type Ty)) (h : SndA X K (e :: es) t) (hn : x ≠ "__name__" := by decide) (hdb : (x == ("__debug__" : Str)) = false := by decide)
    (hs : ∀ j, starEach (e :: es) (X j).env = (false, eval e (X j).env) :: starEach es (X j).env := by intro _; rfl) (hpl : ∀ j, (backTo pos (starEach es (X j).env)).any (·.1) = false := by intro _; rfl) : SndR X K (.Call (.Name x p) (e :: es) [] pos) (rCB f t) :=
  cb_core (fun ta h j => pe_callTy (hc j) (hg j) (hm j) hv (h j) hn hdb (hs j) (hpl j)) ok h
theorem f_callB (hc : ∀ j, CallR (X j) (.builtin id) r) (ok : CallOkF K r ff) (hg : ∀ j, Gl (X j) x) (hm : ∀ j, (X j).mg x = none) (hv : bootBuiltins x = some (.builtin id)) (h : SndA X K (e :: es) t) (hn : x ≠ "__name__" := by decide) (hdb : (x == ("__debug__" : Str)) = false := by decide)
    (hs : ∀ j, starEach (e :: es) (X j).env = (false, eval e (X j).env) :: starEach es (X j).env := by intro _; rfl) (hpl : ∀ j, (backTo pos (starEach es (X j).env)).any (·.1) = false := by intro _; rfl) : SndF X K (.Call (.Name x p) (e :: es) [] pos) (fCB ff t) :=
  cb_coreF (fun ta h j => pe_callB (hc j) (hg j) (hm j) hv (h j) hn hdb (hs j) (hpl j)) ok h
theorem f_callTy (hc : ∀ j, CallR (X j) (.type Ty) r) (ok : CallOkF K r ff) (hg : ∀ j, Gl (X j) x) (hm : ∀ j, (X j).mg x = none) (hv : bootBuiltins x = some (.type Ty)) (h : SndA X K (e :: es) t) (hn : x ≠ "__name__" := by decide) (hdb : (x == ("__debug__" : Str)) = false := by decide)
    (hs : ∀ j, starEach (e :: es) (X j).env = (false, eval e (X j).env) :: starEach es (X j).env := by intro _; rfl) (hpl : ∀ j, (backTo pos (starEach es (X j).env)).any (·.1) = false := by intro _; rfl) : SndF X K (.Call (.Name x p) (e :: es) [] pos) (fCB ff t) :=
  cb_coreF (fun ta h j => pe_callTy (hc j) (hg j) (hm j) hv (h j) hn hdb (hs j) (hpl j)) ok h
end
/-! slices -/
@[simp] def oNone : WO := fun _ P => P none
@[simp] def oSome (r : WR) : WO := fun G P => r G fun d => match d with | .int i => P (some i) | _ => False
theorem o_none : SndO X K none oNone := ⟨tNoPart, fun _ => po_none, fun G σ H S P Q g r q => q none H r (Same.refl H)⟩
theorem o_some {e : Expr} {r : WR} (h : SndR X K e r) : SndO X K (some e) (oSome r) := by
  obtain ⟨ta, a1, a2⟩ := h
  refine ⟨tPart ta, fun j => po_some (a1 j), fun G σ H S P Q g r q => ?_⟩
  refine a2 G σ H S _ _ g r fun d v H1 p s hv => ?_
  cases d with
  | int i =>
    cases hv
    exact ⟨i, rfl, q _ H1 p s⟩
  | _ => exact p.elim
def cutD {α : Type} (xs : List α) (lo hi : Option Int) : List α := (xs.drop (HT.sIx xs.length 0 lo)).take (HT.sIx xs.length xs.length hi - HT.sIx xs.length 0 lo)
theorem cut_vw {H : Hp} {S : Addr → Prop} {ds : List D} {vs : List V} (h : VwL K H S ds vs) (lo hi : Option Int) : VwL K H S (cutD ds lo hi) (cutV vs lo hi) := by
  unfold cutD cutV
  rw [← h.length]
  exact (h.drop _).take _
theorem vw_ints {H : Hp} {S : Addr → Prop} : ∀ ns : List Int, VwL K H S (ns.map .int) (ns.map V.int)
  | [] => .nil
  | n :: ns => .cons (.int n) (vw_ints ns)
def SlOk (K : PySem.W.Frag) (r : V → Option Int → Option Int → Hp → VK → Prop) (f : D → Option Int → Option Int → (D → Prop) → Prop) : Prop := ∀ (H : Hp) (S : Addr → Prop) (x : D) (v : V) (lo hi : Option Int) (P : D → Prop) (Q : VK), Vw K H S x v → f x lo hi P →
  (∀ d z H', P d → Same H H' → Vw K H' (gr S H) d z → Q z H') → r v lo hi H Q
@[simp] def rSl (f : D → Option Int → Option Int → (D → Prop) → Prop) (r : WR) (lo hi : WO) : WR := fun G P => r G fun x => lo G fun l => hi G fun u => f x l u P
theorem sl_core {r : V → Option Int → Option Int → Hp → VK → Prop} {e : Expr} {lo hi : Option Expr} {ra : WR} {wl wh : WO} {pos p2 : Pos} {C : V → Hp → D → Option Int → Option Int → Prop} (hr : ∀ j, SlR (X j) r) (he : SndR X K e ra) (hl : SndO X K lo wl) (hh : SndO X K hi wh) :
    ∃ t : TE, (∀ j, PE (X j) (.Subscript e (.Slice lo hi none p2) pos) t) ∧ ∀ (G : Env) (σ : L2.St) (H : Hp) (S : Addr → Prop) (P : D → Option Int → Option Int → Prop) (Q : VK), VwG K H S G σ → (ra G fun x => wl G fun l => wh G fun u => P x l u) →
      (∀ x l u v H', P x l u → Same H H' → Vw K H' (gr S H) x v → r v l u H' Q) → t σ H Q := by
  obtain ⟨ta, a1, a2⟩ := he
  obtain ⟨tl, b1, b2⟩ := hl
  obtain ⟨th, c1, c2⟩ := hh
  refine ⟨tSl r ta tl th, fun j => pe_slice (hr j) (a1 j) (b1 j) (c1 j), fun G σ H S P Q g h q => ?_⟩
  refine a2 G σ H S _ _ g h fun x v H1 h1 s1 v1 => ?_
  refine b2 G σ H1 (gr S H) _ _ (g.same s1 gr_of) h1 fun l H2 h2 s2 => ?_
  refine c2 G σ H2 (gr S H) _ _ (g.same (s1.trans s2) gr_of) h2 fun u H3 h3 s3 => ?_
  exact q x l u v H3 h3 ((s1.trans s2).trans s3) (v1.same (s2.trans s3) fun _ z => z)
@[simp] def fSlL (r : WR) (lo hi : WO) : WA := fun G P => r G fun x => lo G fun l => hi G fun u => match x with | .lst _ xs => P (cutD xs l u) | .scr ns => P (cutD (ns.map .int) l u) | _ => False
theorem f_slL {e : Expr} {lo hi : Option Expr} {ra : WR} {wl wh : WO} {pos p2 : Pos} (hK : ∀ j, (X j).K = K) (he : SndR X K e ra) (hl : SndO X K lo wl) (hh : SndO X K hi wh) : SndF X K (.Subscript e (.Slice lo hi none p2) pos) (fSlL ra wl wh) := by
  obtain ⟨t, h1, h2⟩ := sl_core (C := fun _ _ _ _ _ => True) (r := rSlL K) (pos := pos) (p2 := p2) (fun j => hK j ▸ sl_list) he hl hh
  refine ⟨t, h1, fun G σ H S P Q g h q => ?_⟩
  refine h2 G σ H S _ _ g h fun x l u v H1 p s hv => ?_
  cases hv with
  | lst rd sa hl => exact ⟨_, _, rfl, .inl (Or.inl rd), fun a ha => q _ _ a H1 p s ha (cut_vw hl l u)⟩
  | scr t => exact ⟨_, _, rfl, t.sq, fun a ha => q _ _ a H1 p s ha (cut_vw (vw_ints _) l u)⟩
  | _ => exact p.elim
/-- a tuple's slice (not the whole) or a text's -/
@[simp] def rSlT (r : WR) (lo hi : WO) : WR := fun G P => r G fun x => lo G fun l => hi G fun u => match x with
  | .tup xs => ¬ (HT.sIx xs.length 0 l = 0 ∧ HT.sIx xs.length xs.length u = xs.length) ∧ P (.tup (cutD xs l u))
  | _ => False
theorem r_slT {e : Expr} {lo hi : Option Expr} {ra : WR} {wl wh : WO} {pos p2 : Pos} (hK : ∀ j, (X j).K = K) (he : SndR X K e ra) (hl : SndO X K lo wl) (hh : SndO X K hi wh) : SndR X K (.Subscript e (.Slice lo hi none p2) pos) (rSlT ra wl wh) := by
  obtain ⟨t, h1, h2⟩ := sl_core (C := fun _ _ _ _ _ => True) (r := L2.rSlT K) (pos := pos) (p2 := p2) (fun j => hK j ▸ sl_tup) he hl hh
  refine ⟨t, h1, fun G σ H S P Q g h q => ?_⟩
  refine h2 G σ H S _ _ g h fun x l u v H1 p s hv => ?_
  cases hv with
  | tup sq hl =>
    refine ⟨_, _, rfl, sq, by rw [← hl.length]; exact p.1, fun a ha => ?_⟩
    exact q _ _ _ p.2 (s.trans (same_new ha)) (.tup (.inl (.inl upd_same)) ((cut_vw hl l u).same (same_new ha) fun _ z => z))
  | _ => exact p.elim
@[simp] def rSlS (r : WR) (lo hi : WO) : WR := fun G P => r G fun x => lo G fun l => hi G fun u => match x with
  | .str z => z.length ≤ 100000 ∧ P (.str (cutS z l u))
  | _ => False
theorem r_slS {e : Expr} {lo hi : Option Expr} {ra : WR} {wl wh : WO} {pos p2 : Pos} (he : SndR X K e ra) (hl : SndO X K lo wl) (hh : SndO X K hi wh) : SndR X K (.Subscript e (.Slice lo hi none p2) pos) (rSlS ra wl wh) := by
  obtain ⟨t, h1, h2⟩ := sl_core (C := fun _ _ _ _ _ => True) (r := L2.rSlS) (pos := pos) (p2 := p2) (fun j => sl_str) he hl hh
  refine ⟨t, h1, fun G σ H S P Q g h q => ?_⟩
  refine h2 G σ H S _ _ g h fun x l u v H1 p s hv => ?_
  cases hv with
  | str z => exact ⟨_, rfl, small_line p.1, q _ _ H1 p.2 s (.str _)⟩
  | _ => exact p.elim
end
end T
namespace T
open PySem PySem.Spec PyProof.Rows L2
section
variable {K : PySem.W.Frag} {U0 : Addr → Prop} {G : Env} {σ : L2.St} {H H' : Hp} {Oo os o2 : List Addr} {d : D} {v : V}
theorem ug_sub {l l' : List Addr} (h : ∀ a ∈ l', a ∈ l) : ∀ a, ug U0 l a → ug U0 l' a := fun a u => ⟨u.1, fun m => u.2 (h a m)⟩
/-- what was kept aside is let go -/
theorem Rep.less (r : Rep K U0 G σ H (Oo ++ o2) os) : Rep K U0 G σ H Oo os := by
  have hs : ∀ a ∈ Oo ++ os, a ∈ (Oo ++ o2) ++ os := fun a m => by
    rcases List.mem_append.mp m with z | z
    · exact List.mem_append_left _ (List.mem_append_left _ z)
    · exact List.mem_append_right _ z
  refine ⟨r.g.mono (os0 := os) (fun a o e _ => e) (fun a u _ => ug_sub hs a u) fun a m => m, ?_, fun a m => r.u0 a (hs a m), r.un⟩
  refine ⟨?_, fun a m => r.own.2 a (hs a m)⟩
  have h := r.own.1
  rw [List.append_assoc] at h
  obtain ⟨h1, h2, h3⟩ := List.nodup_append.mp h
  exact List.nodup_append.mpr ⟨h1, (List.nodup_append.mp h2).2.1, fun a m b m' => h3 a m b (List.mem_append_right _ m')⟩
/-- a value let go: it is frozen -/
theorem frozen (r : Rep K U0 G σ H (Oo ++ o2) os) (h : Rp K H (ug U0 ((Oo ++ o2) ++ os)) d v o2) : Rp K H (ug U0 (Oo ++ os)) (frz d) v [] := by
  have hs : ∀ a ∈ Oo ++ os, a ∈ (Oo ++ o2) ++ os := fun a m => by
    rcases List.mem_append.mp m with z | z
    · exact List.mem_append_left _ (List.mem_append_left _ z)
    · exact List.mem_append_right _ z
  refine (h.vw (S := ug U0 (Oo ++ os)) (fun a m => ⟨r.u0 a (List.mem_append_left _ (List.mem_append_right _ m)), fun q => ?_⟩) (ug_sub hs)).rp fun a z => z
  have nd := r.own.1
  rw [List.append_assoc] at nd
  obtain ⟨_, h2, h3⟩ := List.nodup_append.mp nd
  rcases List.mem_append.mp q with z | z
  · exact h3 a z a (List.mem_append_left _ m) rfl
  · exact (List.nodup_append.mp h2).2.2 a m a z rfl
theorem Rep.same (r : Rep K U0 G σ H Oo os) (e : Same H H') : Rep K U0 G σ H' Oo os :=
  ⟨r.g.mono (os0 := os) (fun a o q _ => e a o q) (fun a u _ => u) fun a m => m, ⟨r.own.1, fun a m => let ⟨o, q, mu⟩ := r.own.2 a m; ⟨o, e a o q, mu⟩⟩, r.u0, fun a h => r.un a (e.free h)⟩
/-- what is viewed of the slots leans on what they lean on -/
theorem Rep.vw (r : Rep K U0 G σ H Oo os) : VwG K H (fun a => ug U0 Oo a) G σ := by
  refine r.g.vw (fun a m => ⟨r.u0 a (List.mem_append_right _ m), fun q => r.own.dis q m⟩) (ug_sub fun a m => List.mem_append_left _ m)
/-- a slot filled by what was kept aside -/
theorem Rep.set (i : Nat) (r : Rep K U0 G σ H (Oo ++ o2) os) (h : Rp K H (ug U0 ((Oo ++ o2) ++ os)) d v o2) : ∃ os', Rep K U0 (G.set i (some d)) (σ.set i (some v)) H Oo os' ∧ ∀ a ∈ os', a ∈ o2 ++ os := by
  have len := r.g.length
  by_cases hi : i < G.length
  · obtain ⟨p1, p2, g1, pm⟩ := r.g.drop i
    obtain ⟨os', g2, pm2⟩ := g1.put (v := v) (d := d) (o1 := o2) (RpG.none_at hi) h
    rw [set_none_set] at g2
    have m2 : ∀ a ∈ os', a ∈ o2 ++ os := fun a m => by
      rcases List.mem_append.mp (pm2.mem_iff.mp m) with z | z
      · exact List.mem_append_left _ z
      · exact List.mem_append_right _ (pm.mem_iff.mpr (List.mem_append_right _ z))
    have hs : ∀ a ∈ Oo ++ os', a ∈ (Oo ++ o2) ++ os := fun a m => by
      rw [List.append_assoc]
      rcases List.mem_append.mp m with z | z
      · exact List.mem_append_left _ z
      · exact List.mem_append_right _ (m2 a z)
    refine ⟨os', ⟨g2.mono (os0 := os') (fun a o e _ => e) (fun a u _ => ug_sub hs a u) fun a m => m, ⟨?_, fun a m => r.own.2 a (hs a m)⟩, fun a m => r.u0 a (hs a m), r.un⟩, m2⟩
    have nd := r.own.1
    rw [List.append_assoc] at nd
    obtain ⟨h1, h2, h3⟩ := List.nodup_append.mp nd
    obtain ⟨h4, h5, h6⟩ := List.nodup_append.mp h2
    have h7 := pm.nodup_iff.mp h5
    obtain ⟨_, h8, _⟩ := List.nodup_append.mp h7
    refine List.nodup_append.mpr ⟨h1, pm2.nodup_iff.mpr (List.nodup_append.mpr ⟨h4, h8, fun a m b m' => h6 a m b (pm.mem_iff.mpr (List.mem_append_right _ m'))⟩), fun a m b m' => h3 a m b (m2 b m')⟩
  · have e1 : G.set i (some d) = G := List.set_eq_of_length_le (by omega)
    have e2 : σ.set i (some v) = σ := List.set_eq_of_length_le (by omega)
    rw [e1, e2]
    exact ⟨os, r.less, fun a m => List.mem_append_right _ m⟩
/-- a slot taken out: its value is kept aside -/
theorem Rep.take {i : Nat} (r : Rep K U0 G σ H Oo os) (e : G[i]? = some (some d)) : ∃ v o1 o2, σ[i]? = some (some v) ∧ Rep K U0 (G.set i none) σ H (Oo ++ o1) o2 ∧ Rp K H (ug U0 ((Oo ++ o1) ++ o2)) d v o1 ∧ os.Perm (o1 ++ o2) := by
  obtain ⟨v, o1, o2, h1, h2, h3, pm⟩ := r.g.take e
  have pm' : (Oo ++ os).Perm ((Oo ++ o1) ++ o2) := by
    rw [List.append_assoc]
    exact List.Perm.append_left Oo pm
  have hs : ∀ a ∈ (Oo ++ o1) ++ o2, a ∈ Oo ++ os := fun a m => pm'.mem_iff.mpr m
  exact ⟨v, o1, o2, h1, ⟨h3.mono (os0 := o2) (fun a o e _ => e) (fun a u _ => ug_sub hs a u) fun a m => m, r.own.perm pm', fun a m => r.u0 a (hs a m), r.un⟩, h2.mono (os0 := o1) (fun a o e _ => e) (fun a u _ => ug_sub hs a u) fun a m => m, pm⟩
/-- slots frozen -/
theorem Rep.freeze (js : List Nat) (r : Rep K U0 G σ H Oo os) : ∃ os', Rep K U0 (frzAt js 0 G) σ H Oo os' ∧ (∀ a ∈ os', a ∈ os) ∧ VwG K H (ug U0 (Oo ++ os')) (keepAt js 0 G) σ := by
  obtain ⟨o1, o2, pm, h1, h2⟩ := r.g.freeze js 0
  have hs : ∀ a ∈ Oo ++ o2, a ∈ Oo ++ os := fun a m => by
    rcases List.mem_append.mp m with z | z
    · exact List.mem_append_left _ z
    · exact List.mem_append_right _ (pm.mem_iff.mpr (List.mem_append_right _ z))
  obtain ⟨n1, n2, n3⟩ := List.nodup_append.mp r.own.1
  obtain ⟨m1, m2, m3⟩ := List.nodup_append.mp (pm.nodup_iff.mp n2)
  have q1 : ∀ a ∈ o1, ug U0 (Oo ++ o2) a := fun a m => ⟨r.u0 a (List.mem_append_right _ (pm.mem_iff.mpr (List.mem_append_left _ m))), fun q => by
    rcases List.mem_append.mp q with z | z
    · exact n3 a z a (pm.mem_iff.mpr (List.mem_append_left _ m)) rfl
    · exact m3 a m a z rfl⟩
  refine ⟨o2, ⟨h1 _ (fun a u => ug_sub hs a u) q1, ⟨List.nodup_append.mpr ⟨n1, m2, fun a m b m' => n3 a m b (pm.mem_iff.mpr (List.mem_append_right _ m'))⟩, fun a m => r.own.2 a (hs a m)⟩, fun a m => r.u0 a (hs a m), r.un⟩, fun a m => pm.mem_iff.mpr (List.mem_append_right _ m), ?_⟩
  exact ⟨by rw [keepAt_len]; exact r.g.length, h2.same (Same.refl H) fun a z => z.elim (q1 a) (ug_sub hs a)⟩
/-- a new owned list -/
theorem Rep.fresh {p : Addr} {ds : List D} {vs : List V} (r : Rep K U0 G σ H Oo os) (hn : H p = none) (h : VwL K H (ug U0 (Oo ++ os)) ds vs) :
    Rep K U0 G σ (upd H p (.lst vs)) (Oo ++ [p]) os ∧ Rp K (upd H p (.lst vs)) (ug U0 ((Oo ++ [p]) ++ os)) (.lst true (frzL ds)) (.ref p) [p] ∧ Stp H (upd H p (.lst vs)) os ([p] ++ os) := by
  have sm : Same H (upd H p (.lst vs)) := same_new hn
  have np : p ∉ Oo ++ os := r.own.none hn
  have r1 := r.same sm
  have gu : ∀ a, ug U0 (Oo ++ os) a → (∃ o, H a = some o) → ug U0 ((Oo ++ [p]) ++ os) a := fun a u ⟨o, e⟩ => ⟨u.1, fun m => by
    rw [List.append_assoc] at m
    rcases List.mem_append.mp m with z | z
    · exact u.2 (List.mem_append_left _ z)
    · rcases List.mem_append.mp z with y | y
      · have : a = p := by simpa using y
        subst this
        rw [hn] at e; cases e
      · exact u.2 (List.mem_append_right _ y)⟩
  have nd : (Oo ++ [p] ++ os).Nodup := by
    have h1 := r.own.1
    obtain ⟨n1, n2, n3⟩ := List.nodup_append.mp h1
    rw [List.append_assoc]
    refine List.nodup_append.mpr ⟨n1, List.nodup_append.mpr ⟨by simp, n2, fun a m b m' => ?_⟩, fun a m b m' => ?_⟩
    · have : a = p := by simpa using m
      subst this
      rintro rfl
      exact np (List.mem_append_right _ m')
    · rcases List.mem_append.mp m' with z | z
      · have : b = p := by simpa using z
        subst this
        rintro rfl
        exact np (List.mem_append_left _ m)
      · exact n3 a m b z
  refine ⟨⟨r.g.mono (os0 := os) (fun a o q _ => sm a o q) gu fun a m => m, ⟨nd, fun a m => ?_⟩, fun a m => ?_, r1.un⟩, ?_, ⟨fun a o e _ => sm a o e, fun a m => ?_, fun a o e => ⟨o, sm a o e⟩⟩⟩
  · rw [List.append_assoc] at m
    rcases List.mem_append.mp m with z | z
    · exact r1.own.2 a (List.mem_append_left _ z)
    · rcases List.mem_append.mp z with y | y
      · have : a = p := by simpa using y
        subst this
        exact ⟨_, upd_same, trivial⟩
      · exact r1.own.2 a (List.mem_append_right _ y)
  · rw [List.append_assoc] at m
    rcases List.mem_append.mp m with z | z
    · exact r.u0 a (List.mem_append_left _ z)
    · rcases List.mem_append.mp z with y | y
      · have : a = p := by simpa using y
        subst this
        exact r.un _ hn
      · exact r.u0 a (List.mem_append_right _ y)
  · exact .lstO (os := []) upd_same ((h.mono (S' := ug U0 ((Oo ++ [p]) ++ os)) (fun a o q _ => sm a o q) gu).rp fun a z => z)
  · rcases List.mem_append.mp m with z | z
    · have : a = p := by simpa using z
      subst this
      exact .inr hn
    · exact .inl z
end

/-! ### what may change the slots and what they own -/
abbrev WE := Env → (D → Env → Prop) → (Nat → Env → Prop) → Prop
abbrev WB := Env → (Bool → Env → Prop) → (Nat → Env → Prop) → Prop
abbrev WL := Env → (List D → Env → Prop) → (Nat → Env → Prop) → Prop
structure En where
  nx : Env → Prop
  rt : D → Env → Prop
  bk : Env → Prop
  ct : Env → Prop
  ex : Nat → Env → Prop
abbrev WS := En → Env → Prop
def Pn (pn : List Nat) (σ σ' : L2.St) : Prop := ∀ i ∈ pn, σ'[i]? = σ[i]?
theorem Pn.refl (pn : List Nat) (σ : L2.St) : Pn pn σ σ := fun _ _ => rfl
theorem Pn.trans {pn : List Nat} {σ σ1 σ2 : L2.St} (a : Pn pn σ σ1) (b : Pn pn σ1 σ2) : Pn pn σ σ2 := fun i m => (b i m).trans (a i m)
theorem Pn.set {pn : List Nat} {σ : L2.St} {i : Nat} {x : Option V} (h : i ∉ pn) : Pn pn σ (σ.set i x) := fun j m => by
  rw [List.getElem?_set_ne]
  rintro rfl
  exact h m
section
variable (K : PySem.W.Frag) (U0 : Addr → Prop) (Oo : List Addr)
/-- what follows an expression -/
def OkE (σ : L2.St) (H : Hp) (os : List Addr) (P : D → Env → Prop) (Q : VK) : Prop := ∀ d G v H' o2 os1, P d G → Stp H H' os (o2 ++ os1) → Rep K U0 G σ H' (Oo ++ o2) os1 → Rp K H' (ug U0 ((Oo ++ o2) ++ os1)) d v o2 → Q v H'
def OkB (σ : L2.St) (H : Hp) (os : List Addr) (P : Bool → Env → Prop) (Q : Bool → Hp → Prop) : Prop := ∀ b G H' os1, P b G → Stp H H' os os1 → Rep K U0 G σ H' Oo os1 → Q b H'
def OkL (σ : L2.St) (H : Hp) (os : List Addr) (P : List D → Env → Prop) (Q : List V → Hp → Prop) : Prop := ∀ ds G vs H' o2 os1, P ds G → Stp H H' os (o2 ++ os1) → Rep K U0 G σ H' (Oo ++ o2) os1 → RpL K H' (ug U0 ((Oo ++ o2) ++ os1)) ds vs o2 → Q vs H'
def OkX (σ : L2.St) (H : Hp) (os : List Addr) (P : Nat → Env → Prop) (W : WX) : Prop := ∀ c G H' os1, P c G → Stp H H' os os1 → Rep K U0 G σ H' Oo os1 → W (.ref c) none σ H'
/-- what follows a statement -/
def OkN (pn : List Nat) (σ : L2.St) (H : Hp) (os : List Addr) (P : Env → Prop) (Q : L2.St → Hp → Prop) : Prop := ∀ G σ' H' os1, P G → Stp H H' os os1 → Rep K U0 G σ' H' Oo os1 → Pn pn σ σ' → Q σ' H'
def OkR (pn : List Nat) (σ : L2.St) (H : Hp) (os : List Addr) (P : D → Env → Prop) (Q : VK) : Prop := ∀ d G v σ' H' o2 os1, P d G → Stp H H' os (o2 ++ os1) → Rep K U0 G σ' H' (Oo ++ o2) os1 → Rp K H' (ug U0 ((Oo ++ o2) ++ os1)) d v o2 → Pn pn σ σ' → Q v H'
def OkXS (pn : List Nat) (σ : L2.St) (H : Hp) (os : List Addr) (P : Nat → Env → Prop) (W : WX) : Prop := ∀ c G σ' H' os1, P c G → Stp H H' os os1 → Rep K U0 G σ' H' Oo os1 → Pn pn σ σ' → W (.ref c) none σ' H'
structure OkS (pn : List Nat) (W : WX) (σ : L2.St) (H : Hp) (os : List Addr) (E : En) (D : Ends) : Prop where
  nx : OkN K U0 Oo pn σ H os E.nx D.nx
  rt : OkR K U0 Oo pn σ H os E.rt D.rt
  bk : OkN K U0 Oo pn σ H os E.bk D.bk
  ct : OkN K U0 Oo pn σ H os E.ct D.ct
  ex : OkXS K U0 Oo pn σ H os E.ex W
end
section
variable {K : PySem.W.Frag} {U0 : Addr → Prop} {Oo : List Addr} {pn : List Nat} {σ σ1 : L2.St} {H H1 : Hp} {os os1 : List Addr} {W : WX}
theorem OkE.step {P : D → Env → Prop} {Q : VK} (h : OkE K U0 Oo σ H os P Q) (s : Stp H H1 os os1) : OkE K U0 Oo σ H1 os1 P Q := fun d G v H' o2 os2 p s' => h d G v H' o2 os2 p (s.trans s')
theorem OkB.step {P : Bool → Env → Prop} {Q : Bool → Hp → Prop} (h : OkB K U0 Oo σ H os P Q) (s : Stp H H1 os os1) : OkB K U0 Oo σ H1 os1 P Q := fun b G H' os2 p s' => h b G H' os2 p (s.trans s')
theorem OkX.step {P : Nat → Env → Prop} (h : OkX K U0 Oo σ H os P W) (s : Stp H H1 os os1) : OkX K U0 Oo σ H1 os1 P W := fun c G H' os2 p s' => h c G H' os2 p (s.trans s')
theorem OkN.step {P : Env → Prop} {Q : L2.St → Hp → Prop} (h : OkN K U0 Oo pn σ H os P Q) (s : Stp H H1 os os1) (n : Pn pn σ σ1) : OkN K U0 Oo pn σ1 H1 os1 P Q := fun G σ' H' os2 p s' r m => h G σ' H' os2 p (s.trans s') r (n.trans m)
theorem OkR.step {P : D → Env → Prop} {Q : VK} (h : OkR K U0 Oo pn σ H os P Q) (s : Stp H H1 os os1) (n : Pn pn σ σ1) : OkR K U0 Oo pn σ1 H1 os1 P Q := fun d G v σ' H' o2 os2 p s' r x m => h d G v σ' H' o2 os2 p (s.trans s') r x (n.trans m)
theorem OkXS.step {P : Nat → Env → Prop} (h : OkXS K U0 Oo pn σ H os P W) (s : Stp H H1 os os1) (n : Pn pn σ σ1) : OkXS K U0 Oo pn σ1 H1 os1 P W := fun c G σ' H' os2 p s' r m => h c G σ' H' os2 p (s.trans s') r (n.trans m)
theorem OkXS.here {P : Nat → Env → Prop} (h : OkXS K U0 Oo pn σ H os P W) : OkX K U0 Oo σ H os P W := fun c G H' os2 p s' r => h c G σ H' os2 p s' r (Pn.refl _ _)
theorem OkS.step {E : En} {D : Ends} (h : OkS K U0 Oo pn W σ H os E D) (s : Stp H H1 os os1) (n : Pn pn σ σ1) : OkS K U0 Oo pn W σ1 H1 os1 E D :=
  ⟨h.nx.step s n, h.rt.step s n, h.bk.step s n, h.ct.step s n, h.ex.step s n⟩
/-- an exception beside what is kept aside -/
theorem OkX.more {o1 : List Addr} {P : Nat → Env → Prop} (h : OkX K U0 Oo σ H os P W) (s : Stp H H1 os (o1 ++ os1)) : OkX K U0 (Oo ++ o1) σ H1 os1 P W := fun c G H' os2 p s' r =>
  h c G H' os2 p ((s.trans (s'.wide (o1 := o1))).sub fun a m => List.mem_append_right _ m) r.less
end
section
variable {ι : Type} (X : ι → Cx) (K : PySem.W.Frag) (W : WX)
def SndE (e : Expr) (w : WE) : Prop := ∃ t : TE, (∀ i, PE (X i) e t) ∧ ∀ (U0 : Addr → Prop) (G : Env) (σ : L2.St) (H : Hp) (Oo os : List Addr) (P : D → Env → Prop) (PX : Nat → Env → Prop) (Q : VK),
  Rep K U0 G σ H Oo os → w G P PX → OkE K U0 Oo σ H os P Q → OkX K U0 Oo σ H os PX W → t σ H Q
def SndB (e : Expr) (w : WB) : Prop := ∃ t : TT, (∀ i, PT (X i) e t) ∧ ∀ (U0 : Addr → Prop) (G : Env) (σ : L2.St) (H : Hp) (Oo os : List Addr) (P : Bool → Env → Prop) (PX : Nat → Env → Prop) (Q : Bool → Hp → Prop),
  Rep K U0 G σ H Oo os → w G P PX → OkB K U0 Oo σ H os P Q → OkX K U0 Oo σ H os PX W → t σ H Q
def SndBW (e : Expr) (w : WB) : Prop := ∃ t : TT, (∀ i, PW (X i) e t) ∧ ∀ (U0 : Addr → Prop) (G : Env) (σ : L2.St) (H : Hp) (Oo os : List Addr) (P : Bool → Env → Prop) (PX : Nat → Env → Prop) (Q : Bool → Hp → Prop),
  Rep K U0 G σ H Oo os → w G P PX → OkB K U0 Oo σ H os P Q → OkX K U0 Oo σ H os PX W → t σ H Q
def SndL (es : List Expr) (w : WL) : Prop := ∃ t : TA, (∀ i, PA (X i) es t) ∧ ∀ (U0 : Addr → Prop) (G : Env) (σ : L2.St) (H : Hp) (Oo os : List Addr) (P : List D → Env → Prop) (PX : Nat → Env → Prop) (Q : List V → Hp → Prop),
  Rep K U0 G σ H Oo os → w G P PX → OkL K U0 Oo σ H os P Q → OkX K U0 Oo σ H os PX W → t σ H Q
def SndS (pn : List Nat) (st : Stmt) (w : WS) : Prop := ∃ t : TS, (∀ i, PS (X i) st t) ∧ ∀ (U0 : Addr → Prop) (G : Env) (σ : L2.St) (H : Hp) (Oo os : List Addr) (E : En) (D : Ends),
  Rep K U0 G σ H Oo os → w E G → OkS K U0 Oo pn W σ H os E D → t D σ H
def SndSs (pn : List Nat) (sts : List Stmt) (w : WS) : Prop := ∃ t : TS, (∀ i, PSs (X i) sts t) ∧ ∀ (U0 : Addr → Prop) (G : Env) (σ : L2.St) (H : Hp) (Oo os : List Addr) (E : En) (D : Ends),
  Rep K U0 G σ H Oo os → w E G → OkS K U0 Oo pn W σ H os E D → t D σ H
end
section
variable {ι : Type} {X : ι → Cx} {K : PySem.W.Frag} {W : WX} {pn : List Nat}
/-! ### from what is read -/
@[simp] def eR (r : WR) : WE := fun G P _ => r G fun d => flat d = true ∧ P d G
@[simp] def eZ (js : List Nat) (r : WR) : WE := fun G P _ => r (keepAt js 0 G) fun d => P (frz d) (frzAt js 0 G)
@[simp] def eF (t : WA) : WE := fun G P _ => t G fun ds => flatL ds = true ∧ P (.lst true ds) G
@[simp] def eFZ (js : List Nat) (t : WA) : WE := fun G P _ => t (keepAt js 0 G) fun ds => P (.lst true (frzL ds)) (frzAt js 0 G)
@[simp] def eMov (i : Nat) : WE := fun G P _ => match G[i]? with | some (some d) => P d (G.set i none) | _ => False
theorem e_r {e : Expr} {r : WR} (h : SndR X K e r) : SndE X K W e (eR r) := by
  obtain ⟨t, h1, h2⟩ := h
  refine ⟨t, h1, fun U0 G σ H Oo os P PX Q rep w ok _ => ?_⟩
  refine h2 G σ H _ _ _ rep.vw w fun d v H' p s hv => ?_
  have r1 := rep.same s
  refine ok d G v H' [] os p.2 (Stp.of_same s os) (by rw [List.append_nil]; exact r1) ?_
  have z := (hv.flat (S' := ug U0 (Oo ++ [] ++ os)) p.1).rp (U := ug U0 (Oo ++ [] ++ os)) fun a q => q
  rw [frz_flat d p.1] at z
  exact z
theorem e_z (js : List Nat) {e : Expr} {r : WR} (h : SndR X K e r) : SndE X K W e (eZ js r) := by
  obtain ⟨t, h1, h2⟩ := h
  refine ⟨t, h1, fun U0 G σ H Oo os P PX Q rep w ok _ => ?_⟩
  obtain ⟨os', rep', sub, g⟩ := rep.freeze js
  refine h2 (keepAt js 0 G) σ H _ _ _ g w fun d v H' p s hv => ?_
  refine ok (frz d) _ v H' [] os' p ((Stp.of_same s os).sub sub) (by rw [List.append_nil]; exact rep'.same s) (hv.rp fun a q => ?_)
  rw [List.append_nil]
  rcases q with q | q
  · exact q
  · exact ⟨rep'.un a q, rep'.own.none q⟩
theorem e_f {e : Expr} {t : WA} (h : SndF X K e t) : SndE X K W e (eF t) := by
  obtain ⟨t, h1, h2⟩ := h
  refine ⟨t, h1, fun U0 G σ H Oo os P PX Q rep w ok _ => ?_⟩
  refine h2 G σ H _ _ _ rep.vw w fun ds vs p H' hp s hn hv => ?_
  obtain ⟨r1, r2, r3⟩ := (rep.same s).fresh hn (hv.flat (S' := ug U0 (Oo ++ os)) hp.1)
  rw [frzL_flat ds hp.1] at r2
  exact ok _ G _ _ [p] os hp.2 ((Stp.of_same s os).trans r3) r1 r2
theorem e_fz (js : List Nat) {e : Expr} {t : WA} (h : SndF X K e t) : SndE X K W e (eFZ js t) := by
  obtain ⟨t, h1, h2⟩ := h
  refine ⟨t, h1, fun U0 G σ H Oo os P PX Q rep w ok _ => ?_⟩
  obtain ⟨os', rep', sub, g⟩ := rep.freeze js
  refine h2 (keepAt js 0 G) σ H _ _ _ g w fun ds vs p H' hp s hn hv => ?_
  obtain ⟨r1, r2, r3⟩ := (rep'.same s).fresh hn (hv.mono (S' := ug U0 (Oo ++ os')) (fun a o q _ => q) fun a q ⟨o, e⟩ => by
    rcases q with q | q
    · exact q
    · exact ⟨rep'.un a q, rep'.own.none q⟩)
  exact ok _ _ _ _ [p] os' hp (((Stp.of_same s os).sub sub).trans r3) r1 r2
theorem e_mov (i : Nat) {x : Str} {pos : Pos} (hN : ∀ j, (X j).N[i]? = some x) (hv : ∀ j, Vis (X j).env.scope x) (hd : (x == ("__debug__" : Str)) = false := by decide) (hcd : (x == ("__classdict__" : Str)) = false := by decide) :
    SndE X K W (.Name x pos) (eMov i) := by
  refine ⟨tVar i, fun j => pe_var (hN j) (hv j) hd hcd, fun U0 G σ H Oo os P PX Q rep w ok _ => ?_⟩
  unfold eMov at w
  split at w
  · rename_i d e
    obtain ⟨v, o1, o2, h1, r1, r2, pm⟩ := rep.take e
    exact ⟨v, h1, ok d _ v H o1 o2 w ((Stp.refl H os).sub fun a m => pm.mem_iff.mpr m) r1 r2⟩
  · exact w.elim
/-! ### statements -/
theorem ss_nil : SndSs X K W pn [] (fun E G => E.nx G) := ⟨tNext, fun _ => pss_nil, fun U0 G σ H Oo os E D rep w ok => ok.nx G σ H os w (Stp.refl _ _) rep (Pn.refl _ _)⟩
@[simp] def sSeq (a b : WS) : WS := fun E G => a { E with nx := b E } G
theorem ss_cons {st : Stmt} {sts : List Stmt} {a b : WS} (h : SndS X K W pn st a) (h' : SndSs X K W pn sts b) : SndSs X K W pn (st :: sts) (sSeq a b) := by
  obtain ⟨t, h1, h2⟩ := h
  obtain ⟨u, h3, h4⟩ := h'
  refine ⟨tSeq t u, fun j => pss_cons (h1 j) (h3 j), fun U0 G σ H Oo os E D rep w ok => ?_⟩
  refine h2 U0 G σ H Oo os _ _ rep w ⟨fun G' σ' H' os1 p s r n => ?_, ok.rt, ok.bk, ok.ct, ok.ex⟩
  exact h4 U0 G' σ' H' Oo os1 E D r p (ok.step s n)
theorem ss_one {st : Stmt} {a : WS} (h : SndS X K W pn st a) : SndSs X K W pn [st] a := by
  obtain ⟨t, h1, h2⟩ := h
  exact ⟨t, fun j => pss_one (h1 j), h2⟩
theorem s_pass {pos : Pos} : SndS X K W pn (.Pass pos) (fun E G => E.nx G) := ⟨tNext, fun _ => ps_pass, fun U0 G σ H Oo os E D rep w ok => ok.nx G σ H os w (Stp.refl _ _) rep (Pn.refl _ _)⟩
theorem s_break {pos : Pos} : SndS X K W pn (.Break pos) (fun E G => E.bk G) := ⟨tBreak, fun _ => ps_break, fun U0 G σ H Oo os E D rep w ok => ok.bk G σ H os w (Stp.refl _ _) rep (Pn.refl _ _)⟩
theorem s_continue {pos : Pos} : SndS X K W pn (.Continue pos) (fun E G => E.ct G) := ⟨tCont, fun _ => ps_continue, fun U0 G σ H Oo os E D rep w ok => ok.ct G σ H os w (Stp.refl _ _) rep (Pn.refl _ _)⟩
@[simp] def sExpr (w : WE) : WS := fun E G => w G (fun _ G' => E.nx G') E.ex
theorem s_expr {e : Expr} {w : WE} {pos : Pos} (h : SndE X K W e w) (hs : ∀ j, swapsWith e none pos.line (X j).env = pure false := by intro _; rfl) : SndS X K W pn (.Expr e pos) (sExpr w) := by
  obtain ⟨t, h1, h2⟩ := h
  refine ⟨tDrop t, fun j => ps_expr (h1 j) (hs j), fun U0 G σ H Oo os E D rep w ok => ?_⟩
  exact h2 U0 G σ H Oo os _ _ _ rep w (fun d G' v H' o2 os1 p s r x => ok.nx G' σ H' os1 p (s.sub fun a m => List.mem_append_right _ m) r.less (Pn.refl _ _)) ok.ex.here
@[simp] def sRet (w : WE) : WS := fun E G => w G (fun d G' => E.rt d G') E.ex
theorem s_ret {e : Expr} {w : WE} {pos : Pos} (h : SndE X K W e w) : SndS X K W pn (.Return (some e) pos) (sRet w) := by
  obtain ⟨t, h1, h2⟩ := h
  refine ⟨tRet t, fun j => ps_ret (h1 j), fun U0 G σ H Oo os E D rep w ok => ?_⟩
  exact h2 U0 G σ H Oo os _ _ _ rep w (fun d G' v H' o2 os1 p s r x => ok.rt d G' v σ H' o2 os1 p s r x (Pn.refl _ _)) ok.ex.here
@[simp] def sSet (i : Nat) (w : WE) : WS := fun E G => w G (fun d G' => E.nx (G'.set i (some d))) E.ex
theorem s_asg {tg e : Expr} {i : Nat} {w : WE} {st : Stmt} (hi : i ∉ pn) (h : SndE X K W e w) (hp : ∀ t, (∀ j, PE (X j) e t) → ∀ j, PS (X j) st (tAsg t (gName i))) : SndS X K W pn st (sSet i w) := by
  obtain ⟨t, h1, h2⟩ := h
  refine ⟨tAsg t (gName i), hp t h1, fun U0 G σ H Oo os E D rep w ok => ?_⟩
  refine h2 U0 G σ H Oo os _ _ _ rep w (fun d G' v H' o2 os1 p s r x => ?_) ok.ex.here
  obtain ⟨os', r', sub⟩ := r.set i x
  exact ok.nx _ _ H' os' p (s.sub sub) r' (Pn.set hi)
theorem s_set (i : Nat) {x : Str} {e : Expr} {w : WE} {pos pos' : Pos} (h : SndE X K W e w) (hi : i ∉ pn := by decide) (hN : ∀ j, (X j).N.Nodup) (hn : ∀ j, (X j).N[i]? = some x := by intro _; rfl) (hx : ∀ j, Loc (X j).env.scope x)
    (hs : ∀ j, swapsWith e (some (.Name x pos')) pos.line (X j).env = pure false := by intro _; rfl) (hf : ∀ j, (X j).fn x = true ∨ (X j).env.scope.names.lookup x = some .local) : SndS X K W pn (.Assign [.Name x pos'] e pos) (sSet i w) := by
  refine s_asg (tg := .Name x pos') hi h fun t h1 j => ?_
  exact ps_set (hN j) (hn j) (hx j) (h1 j) (hs j) (hf j)
/-! tests -/
@[simp] def bT (t : WT) : WB := fun G P _ => t G fun b => P b G
@[simp] def bE (w : WE) : WB := fun G P PX => w G (fun d G' => match d with | .bl b => P b G' | _ => False) PX
theorem b_t {e : Expr} {t : WT} (h : SndT X K e t) : SndB X K W e (bT t) := by
  obtain ⟨u, h1, h2⟩ := h
  refine ⟨u, h1, fun U0 G σ H Oo os P PX Q rep w ok _ => ?_⟩
  exact h2 G σ H _ _ _ rep.vw w fun b H' p s => ok b G H' os p (Stp.of_same s os) (rep.same s)
theorem rp_bl {U : Addr → Prop} {H : Hp} {b : Bool} {v : V} {o : List Addr} (h : Rp K H U (.bl b) v o) : v = .bl b ∧ o = [] := by
  cases h
  exact ⟨rfl, rfl⟩
theorem b_e {e : Expr} {w : WE} (h : SndE X K W e w) (he : ∀ j whole, isTrue e (X j).env whole = (do let v ← whole; standAt e.pos; holding [v] (truthy v)) := by intro _ _; rfl) : SndB X K W e (bE w) := by
  obtain ⟨t, h1, h2⟩ := h
  refine ⟨tB t, fun j => pt_val (h1 j) (he j), fun U0 G σ H Oo os P PX Q rep w ok okx => ?_⟩
  refine h2 U0 G σ H Oo os _ _ _ rep w (fun d G' v H' o2 os1 p s r x => ?_) okx
  cases d with
  | bl b =>
    obtain ⟨rfl, rfl⟩ := rp_bl x
    exact ⟨b, rfl, ok b G' H' os1 p s r.less⟩
  | _ => exact p.elim
@[simp] def bNot (w : WB) : WB := fun G P PX => w G (fun b G' => P (!b) G') PX
@[simp] def bAnd (a b : WB) : WB := fun G P PX => a G (fun c G' => if c = true then b G' P PX else P false G') PX
@[simp] def bOr (a b : WB) : WB := fun G P PX => a G (fun c G' => if c = true then P true G' else b G' P PX) PX
theorem b_not {e : Expr} {w : WB} {pos : Pos} (h : SndB X K W e w) : SndB X K W (.UnaryOp .Not e pos) (bNot w) := by
  obtain ⟨t, h1, h2⟩ := h
  exact ⟨tNot t, fun j => pt_not (h1 j), fun U0 G σ H Oo os P PX Q rep w ok okx => h2 U0 G σ H Oo os _ _ _ rep w (fun b G' H' os1 p s r => ok (!b) G' H' os1 p s r) okx⟩
theorem b_w {e : Expr} {w : WB} (h : SndBW X K W e w) : SndB X K W e w := by
  obtain ⟨t, h1, h2⟩ := h
  exact ⟨t, fun j => (h1 j).pt, h2⟩
theorem bw_and1 {e : Expr} {w : WB} {pos : Pos} (h : SndB X K W e w) : SndBW X K W (.BoolOp .And [e] pos) w := by
  obtain ⟨t, h1, h2⟩ := h
  exact ⟨t, fun j => pw_and1 (h1 j), h2⟩
theorem bw_or1 {e : Expr} {w : WB} {pos : Pos} (h : SndB X K W e w) : SndBW X K W (.BoolOp .Or [e] pos) w := by
  obtain ⟨t, h1, h2⟩ := h
  exact ⟨t, fun j => pw_or1 (h1 j), h2⟩
theorem bw_and {a b : Expr} {rest : List Expr} {t u : WB} {pos : Pos} (h : SndB X K W a t) (h' : SndBW X K W (.BoolOp .And (b :: rest) pos) u) : SndBW X K W (.BoolOp .And (a :: b :: rest) pos) (bAnd t u) := by
  obtain ⟨ta, a1, a2⟩ := h
  obtain ⟨tb, b1, b2⟩ := h'
  refine ⟨tAnd ta tb, fun j => pw_and (a1 j) (b1 j), fun U0 G σ H Oo os P PX Q rep w ok okx => ?_⟩
  refine a2 U0 G σ H Oo os _ _ _ rep w (fun c G' H' os1 p s r => ?_) okx
  cases c with
  | true => exact b2 U0 G' σ H' Oo os1 _ _ _ r p (ok.step s) (okx.step s)
  | false => exact ok false G' H' os1 p s r
theorem bw_or {a b : Expr} {rest : List Expr} {t u : WB} {pos : Pos} (h : SndB X K W a t) (h' : SndBW X K W (.BoolOp .Or (b :: rest) pos) u) : SndBW X K W (.BoolOp .Or (a :: b :: rest) pos) (bOr t u) := by
  obtain ⟨ta, a1, a2⟩ := h
  obtain ⟨tb, b1, b2⟩ := h'
  refine ⟨tOr ta tb, fun j => pw_or (a1 j) (b1 j), fun U0 G σ H Oo os P PX Q rep w ok okx => ?_⟩
  refine a2 U0 G σ H Oo os _ _ _ rep w (fun c G' H' os1 p s r => ?_) okx
  cases c with
  | true => exact ok true G' H' os1 p s r
  | false => exact b2 U0 G' σ H' Oo os1 _ _ _ r p (ok.step s) (okx.step s)
@[simp] def sIf (c : WB) (a b : WS) : WS := fun E G => c G (fun k G' => if k = true then a E G' else b E G') E.ex
theorem s_if {c : Expr} {a b : List Stmt} {wc : WB} {wa wb : WS} {pos : Pos} (hc : SndB X K W c wc) (ha : SndSs X K W pn a wa) (hb : SndSs X K W pn b wb) : SndS X K W pn (.If c a b pos) (sIf wc wa wb) := by
  obtain ⟨tc, c1, c2⟩ := hc
  obtain ⟨ta, a1, a2⟩ := ha
  obtain ⟨tb, b1, b2⟩ := hb
  refine ⟨tIfS tc ta tb, fun j => ps_if (c1 j) (a1 j) (b1 j), fun U0 G σ H Oo os E D rep w ok => ?_⟩
  refine c2 U0 G σ H Oo os _ _ _ rep w (fun k G' H' os1 p s r => ?_) ok.ex.here
  cases k with
  | true => exact a2 U0 G' σ H' Oo os1 E D r p (ok.step s (Pn.refl _ _))
  | false => exact b2 U0 G' σ H' Oo os1 E D r p (ok.step s (Pn.refl _ _))
/-! ### argument lists, displays -/
@[simp] def lNil : WL := fun G P _ => P [] G
@[simp] def lCons (w : WE) (t : WL) : WL := fun G P PX => w G (fun d G' => t G' (fun ds G'' => P (d :: ds) G'') PX) PX
theorem l_nil : SndL X K W [] lNil := ⟨tNil, fun _ => pa_nil, fun U0 G σ H Oo os P PX Q rep w ok _ => ok [] G [] H [] os w (Stp.refl _ _) (by rw [List.append_nil]; exact rep) .nil⟩
theorem l_cons {e : Expr} {es : List Expr} {w : WE} {t : WL} (h : SndE X K W e w) (h' : SndL X K W es t) (hs : ∀ j, starEach (e :: es) (X j).env = (false, eval e (X j).env) :: starEach es (X j).env := by intro _; rfl) : SndL X K W (e :: es) (lCons w t) := by
  obtain ⟨ta, a1, a2⟩ := h
  obtain ⟨tb, b1, b2⟩ := h'
  refine ⟨tCons ta tb, fun j => pa_cons (a1 j) (b1 j) (hs j), fun U0 G σ H Oo os P PX Q rep w ok okx => ?_⟩
  refine a2 U0 G σ H Oo os _ _ _ rep w (fun d G1 v H1 o1 os1 p s r x => ?_) okx
  refine b2 U0 G1 σ H1 (Oo ++ o1) os1 _ _ _ r p (fun ds G2 vs H2 o2 os2 p2 s2 r2 x2 => ?_) (okx.more s)
  have st : Stp H H2 os ((o1 ++ o2) ++ os2) := by
    rw [List.append_assoc]
    exact s.trans s2.wide
  have x1 := aside s2 r.own x
  have e1 : Oo ++ o1 ++ (o2 ++ os2) = (Oo ++ (o1 ++ o2)) ++ os2 := by simp [List.append_assoc]
  have e2 : Oo ++ o1 ++ o2 = Oo ++ (o1 ++ o2) := by simp [List.append_assoc]
  rw [e1] at x1
  rw [e2] at r2 x2
  exact ok (d :: ds) G2 (v :: vs) H2 (o1 ++ o2) os2 p2 st r2 (.cons x1 x2)
end
end T
namespace T
open PySem PySem.Spec PyProof.Rows L2
/-! ### displays and operations over what may change the slots -/
section
variable {ι : Type} {X : ι → Cx} {K : PySem.W.Frag} {W : WX} {pn : List Nat}
@[simp] def eTup (t : WL) : WE := fun G P PX => t G (fun ds G' => ds.length ≤ 100000 ∧ P (.tup ds) G') PX
@[simp] def eLst (t : WL) : WE := fun G P PX => t G (fun ds G' => ds.length ≤ 100000 ∧ P (.lst true ds) G') PX
theorem stp_new {H : Hp} {p : Addr} {o : HO} {os : List Addr} (hn : H p = none) : Stp H (upd H p o) os os := Stp.of_same (same_new hn) os
theorem e_tup {es : List Expr} {t : WL} {x1} {pos : Pos} (h : SndL X K W es t) : SndE X K W (.Tuple es x1 pos) (eTup t) := by
  obtain ⟨ta, a1, a2⟩ := h
  refine ⟨tTup ta, fun j => pe_tup (a1 j), fun U0 G σ H Oo os P PX Q rep w ok okx => ?_⟩
  refine a2 U0 G σ H Oo os _ _ _ rep w (fun ds G1 vs H1 o1 os1 p s r x => ?_) okx
  refine ⟨by rw [← x.length]; exact small_line p.1, fun a ha => ?_⟩
  refine ok _ G1 _ _ o1 os1 p.2 (s.trans (stp_new ha)) (r.same (same_new ha)) (.tup (.inl (.inl upd_same)) ?_)
  exact x.mono (os0 := o1) (fun b o q _ => same_new ha b o q) (fun _ u _ => u) fun _ m => m
theorem e_lst {es : List Expr} {t : WL} {pos : Pos} (h : SndL X K W es t) : SndE X K W (.List es pos) (eLst t) := by
  obtain ⟨ta, a1, a2⟩ := h
  refine ⟨tLst ta, fun j => pe_lst (a1 j), fun U0 G σ H Oo os P PX Q rep w ok okx => ?_⟩
  refine a2 U0 G σ H Oo os _ _ _ rep w (fun ds G1 vs H1 o1 os1 p s r x => ?_) okx
  refine ⟨by rw [← x.length]; exact small_line p.1, fun a ha => ?_⟩
  have sm : Same H1 (upd H1 a (.lst vs)) := same_new ha
  have na : a ∉ (Oo ++ o1) ++ os1 := r.own.none ha
  have r1 := r.same sm
  have pm : (a :: ((Oo ++ o1) ++ os1)).Perm ((Oo ++ (a :: o1)) ++ os1) := by
    rw [List.append_assoc, List.append_assoc, List.cons_append]
    exact List.perm_middle.symm
  have gu : ∀ b, ug U0 ((Oo ++ o1) ++ os1) b → (∃ o, H1 b = some o) → ug U0 ((Oo ++ (a :: o1)) ++ os1) b := fun b u ⟨o, e⟩ => ⟨u.1, fun m => by
    rcases List.mem_cons.mp (pm.mem_iff.mpr m) with z | z
    · subst z
      rw [ha] at e; cases e
    · exact u.2 z⟩
  have ow : Own (upd H1 a (.lst vs)) (a :: ((Oo ++ o1) ++ os1)) := ⟨List.nodup_cons.mpr ⟨na, r.own.1⟩, fun b m => by
    rcases List.mem_cons.mp m with z | z
    · subst z
      exact ⟨_, upd_same, trivial⟩
    · exact r1.own.2 b z⟩
  refine ok _ G1 _ _ (a :: o1) os1 p.2 ⟨fun b o e n => sm b o (s.keep b o e n), fun b m => ?_, fun b o e => ?_⟩ ⟨?_, ow.perm pm, fun b m => ?_, r1.un⟩ (.lstO upd_same ?_)
  · rcases List.mem_cons.mp m with z | z
    · subst z
      exact .inr (s.free ha)
    · exact s.new b z
  · obtain ⟨o', q⟩ := s.dom b o e
    exact ⟨o', sm b o' q⟩
  · exact r.g.mono (os0 := os1) (fun b o q _ => sm b o q) gu fun _ m => m
  · rcases List.mem_cons.mp (pm.mem_iff.mpr m) with z | z
    · subst z
      exact r.un _ ha
    · exact r.u0 b z
  · exact x.mono (os0 := o1) (fun b o q _ => sm b o q) gu fun _ m => m
/-- what is kept aside is let go: its data leans on what others may lean on -/
theorem letgo {U0 : Addr → Prop} {G : T.Env} {σ : L2.St} {H : Hp} {Oo os o2 : List Addr} {ds : List D} {vs : List V} (r : Rep K U0 G σ H (Oo ++ o2) os) (h : RpL K H (ug U0 ((Oo ++ o2) ++ os)) ds vs o2) : VwL K H (ug U0 (Oo ++ os)) ds vs := by
  have hs : ∀ a ∈ Oo ++ os, a ∈ (Oo ++ o2) ++ os := fun a m => by
    rcases List.mem_append.mp m with z | z
    · exact List.mem_append_left _ (List.mem_append_left _ z)
    · exact List.mem_append_right _ z
  refine h.vw (S := ug U0 (Oo ++ os)) (fun a m => ⟨r.u0 a (List.mem_append_left _ (List.mem_append_right _ m)), fun q => ?_⟩) (ug_sub hs)
  have nd := r.own.1
  rw [List.append_assoc] at nd
  obtain ⟨_, h2, h3⟩ := List.nodup_append.mp nd
  rcases List.mem_append.mp q with z | z
  · exact h3 a z a (List.mem_append_left _ m) rfl
  · exact (List.nodup_append.mp h2).2.2 a m a z rfl
theorem Rep.grow {U0 : Addr → Prop} {G : T.Env} {σ : L2.St} {H H' : Hp} {Oo os : List Addr} (r : Rep K U0 G σ H Oo os) {a : Addr} (h : gr (ug U0 (Oo ++ os)) H a) : ug U0 (Oo ++ os) a := by
  rcases h with h | h
  · exact h
  · exact ⟨r.un a h, r.own.none h⟩
/-- a value that leans on what others may lean on -/
theorem OkE.view {U0 : Addr → Prop} {G : T.Env} {σ : L2.St} {H H' : Hp} {Oo os : List Addr} {P : D → T.Env → Prop} {Q : VK} {d : D} {v : V} (ok : OkE K U0 Oo σ H os P Q) (r : Rep K U0 G σ H Oo os) (s : Same H H') (h : Vw K H' (gr (ug U0 (Oo ++ os)) H) d v) (p : P (frz d) G) : Q v H' := by
  have r1 := r.same s
  refine ok (frz d) G v H' [] os p (Stp.of_same s os) (by rw [List.append_nil]; exact r1) ?_
  rw [List.append_nil]
  exact h.rp fun a z => r.grow (H' := H') z
/-- a new list that leans on what others may lean on -/
theorem OkE.viewF {U0 : Addr → Prop} {G : T.Env} {σ : L2.St} {H H' : Hp} {Oo os : List Addr} {P : D → T.Env → Prop} {Q : VK} {ds : List D} {vs : List V} {p : Addr} (ok : OkE K U0 Oo σ H os P Q) (r : Rep K U0 G σ H Oo os) (s : Same H H') (hn : H' p = none) (h : VwL K H' (gr (ug U0 (Oo ++ os)) H) ds vs)
    (pp : P (.lst true (frzL ds)) G) : Q (.ref p) (upd H' p (.lst vs)) := by
  obtain ⟨r1, r2, r3⟩ := (r.same s).fresh hn (h.mono (S' := ug U0 (Oo ++ os)) (fun a o q _ => q) fun a z _ => r.grow (H' := H') z)
  exact ok _ _ _ _ [p] os pp ((Stp.of_same s os).trans r3) r1 r2
section
variable {a b e : Expr} {wa wb : WE} {r : R2} {f : D → D → (D → Prop) → Prop} {ff : D → D → (List D → Prop) → Prop} {pos : Pos}
@[simp] def eOp (f : D → D → (D → Prop) → Prop) (wa wb : WE) : WE := fun G P PX => wa G (fun x G1 => wb G1 (fun y G2 => f (frz x) (frz y) fun d => P (frz d) G2) PX) PX
theorem e_two {e' : Expr} (he : ∀ ta tb, (∀ j, PE (X j) a ta) → (∀ j, PE (X j) b tb) → ∀ j, PE (X j) e' (tOp r ta tb)) (ok : OpOk K r f) (ha : SndE X K W a wa) (hb : SndE X K W b wb) : SndE X K W e' (eOp f wa wb) := by
  obtain ⟨ta, a1, a2⟩ := ha
  obtain ⟨tb, b1, b2⟩ := hb
  refine ⟨tOp r ta tb, he ta tb a1 b1, fun U0 G σ H Oo os P PX Q rep w ok2 okx => ?_⟩
  refine a2 U0 G σ H Oo os _ _ _ rep w (fun x G1 v H1 o1 os1 p1 s1 r1 x1 => ?_) okx
  refine b2 U0 G1 σ H1 (Oo ++ o1) os1 _ _ _ r1 p1 (fun y G2 u H2 o2 os2 p2 s2 r2 x2 => ?_) (okx.more s1)
  have z1 := aside s2 r1.own x1
  have e1 : Oo ++ o1 ++ (o2 ++ os2) = (Oo ++ (o1 ++ o2)) ++ os2 := by simp [List.append_assoc]
  have e2 : Oo ++ o1 ++ o2 = Oo ++ (o1 ++ o2) := by simp [List.append_assoc]
  rw [e1] at z1
  rw [e2] at r2 x2
  have pr : RpL K H2 (ug U0 ((Oo ++ (o1 ++ o2)) ++ os2)) [x, y] [v, u] (o1 ++ o2) := by
    have q := RpL.cons z1 (RpL.cons x2 .nil)
    simpa using q
  have vw := letgo r2 pr
  cases vw with
  | cons w1 w2 =>
    cases w2 with
    | cons w2 _ =>
      have st : Stp H H2 os os2 := (s1.trans s2.wide).sub fun c m => List.mem_append_right _ (List.mem_append_right _ m)
      exact ok H2 (ug U0 (Oo ++ os2)) _ _ v u _ Q w1.frz w2.frz p2 fun d z H3 hp s3 hz => (ok2.step st).view r2.less s3 hz hp
theorem e_bin {op : Operator} (ho : ∀ j, OpR (X j) (binaryOp op) r) (ok : OpOk K r f) (ha : SndE X K W a wa) (hb : SndE X K W b wb) : SndE X K W (.BinOp a op b pos) (eOp f wa wb) :=
  e_two (fun ta tb h1 h2 j => pe_op (ho j) (h1 j) (h2 j)) ok ha hb
theorem e_cmp {op : CmpOp} (ho : ∀ j, OpR (X j) (compareOp op) r) (ok : OpOk K r f) (ha : SndE X K W a wa) (hb : SndE X K W b wb) (hm : behindInMarks op b = false) : SndE X K W (.Compare a [op] [b] pos) (eOp f wa wb) :=
  e_two (fun ta tb h1 h2 j => pe_cmpR (ho j) (h1 j) (h2 j) hm) ok ha hb
theorem e_ix (hr : ∀ j, IxR (X j) r) (ok : OpOk K r f) (ha : SndE X K W a wa) (hb : SndE X K W b wb) (hs : PlainIx b) : SndE X K W (.Subscript a b pos) (eOp f wa wb) :=
  e_two (fun ta tb h1 h2 j => pe_ix (hr j) (h1 j) (h2 j) hs) ok ha hb
@[simp] def bOp (f : D → D → (D → Prop) → Prop) (wa wb : WE) : WB := fun G P PX => wa G (fun x G1 => wb G1 (fun y G2 => f (frz x) (frz y) fun d => match d with | .bl b => P b G2 | _ => False) PX) PX
theorem b_cmp {op : CmpOp} (ho : ∀ j, OpR (X j) (compareOp op) r) (ok : OpOk K r f) (ha : SndE X K W a wa) (hb : SndE X K W b wb) (hm : behindInMarks op b = false) : SndB X K W (.Compare a [op] [b] pos) (bOp f wa wb) := by
  obtain ⟨ta, a1, a2⟩ := ha
  obtain ⟨tb, b1, b2⟩ := hb
  refine ⟨tTest (tOp r ta tb), fun j => pt_cmpR (ho j) (a1 j) (b1 j) hm, fun U0 G σ H Oo os P PX Q rep w ok2 okx => ?_⟩
  refine a2 U0 G σ H Oo os _ _ _ rep w (fun x G1 v H1 o1 os1 p1 s1 r1 x1 => ?_) okx
  refine b2 U0 G1 σ H1 (Oo ++ o1) os1 _ _ _ r1 p1 (fun y G2 u H2 o2 os2 p2 s2 r2 x2 => ?_) (okx.more s1)
  have z1 := aside s2 r1.own x1
  have e1 : Oo ++ o1 ++ (o2 ++ os2) = (Oo ++ (o1 ++ o2)) ++ os2 := by simp [List.append_assoc]
  have e2 : Oo ++ o1 ++ o2 = Oo ++ (o1 ++ o2) := by simp [List.append_assoc]
  rw [e1] at z1
  rw [e2] at r2 x2
  have pr : RpL K H2 (ug U0 ((Oo ++ (o1 ++ o2)) ++ os2)) [x, y] [v, u] (o1 ++ o2) := by
    have q := RpL.cons z1 (RpL.cons x2 .nil)
    simpa using q
  have vw := letgo r2 pr
  cases vw with
  | cons w1 w2 =>
    cases w2 with
    | cons w2 _ =>
      have st : Stp H H2 os os2 := (s1.trans s2.wide).sub fun c m => List.mem_append_right _ (List.mem_append_right _ m)
      refine ok H2 (ug U0 (Oo ++ os2)) _ _ v u _ _ w1.frz w2.frz p2 fun d z H3 hp s3 hz => ?_
      cases d with
      | bl b =>
        cases vw_bl hz
        exact ⟨b, rfl, ok2 b G2 H3 os2 hp (st.trans (Stp.of_same s3 os2)) (r2.less.same s3)⟩
      | _ => exact hp.elim
end
@[simp] def eCB (f : List D → (D → Prop) → Prop) (t : WL) : WE := fun G P PX => t G (fun ds G' => f (frzL ds) fun d => P (frz d) G') PX
@[simp] def eCBF (f : List D → (List D → Prop) → Prop) (t : WL) : WE := fun G P PX => t G (fun ds G' => f (frzL ds) fun d => P (.lst true (frzL d)) G') PX
section
variable {e : Expr} {es : List Expr} {x : Str} {p pos : Pos} {Ty id : String} {r : List V → Hp → VK → Prop} {f : List D → (D → Prop) → Prop} {ff : List D → (List D → Prop) → Prop} {t : WL}
theorem ecb_core {e' : Expr} (he : ∀ ta, (∀ j, PA (X j) (e :: es) ta) → ∀ j, PE (X j) e' (tCB r ta)) (ok : CallOk K r f) (h : SndL X K W (e :: es) t) : SndE X K W e' (eCB f t) := by
  obtain ⟨ta, a1, a2⟩ := h
  refine ⟨tCB r ta, he ta a1, fun U0 G σ H Oo os P PX Q rep w ok2 okx => ?_⟩
  refine a2 U0 G σ H Oo os _ _ _ rep w (fun ds G1 vs H1 o1 os1 p1 s1 r1 x1 => ?_) okx
  exact ok H1 _ _ vs _ Q (letgo r1 x1).frz p1 fun d z H3 hp s3 hz => (ok2.step (s1.sub fun c m => List.mem_append_right _ m)).view r1.less s3 hz hp
theorem ecb_coreF {e' : Expr} (he : ∀ ta, (∀ j, PA (X j) (e :: es) ta) → ∀ j, PE (X j) e' (tCB r ta)) (ok : CallOkF K r ff) (h : SndL X K W (e :: es) t) : SndE X K W e' (eCBF ff t) := by
  obtain ⟨ta, a1, a2⟩ := h
  refine ⟨tCB r ta, he ta a1, fun U0 G σ H Oo os P PX Q rep w ok2 okx => ?_⟩
  refine a2 U0 G σ H Oo os _ _ _ rep w (fun ds G1 vs H1 o1 os1 p1 s1 r1 x1 => ?_) okx
  exact ok H1 _ _ vs _ Q (letgo r1 x1).frz p1 fun ds z q H3 hp s3 hn hz => (ok2.step (s1.sub fun c m => List.mem_append_right _ m)).viewF r1.less s3 hn hz hp
theorem e_callB (hc : ∀ j, CallR (X j) (.builtin id) r) (ok : CallOk K r f) (hg : ∀ j, Gl (X j) x) (hm : ∀ j, (X j).mg x = none) (hv : bootBuiltins x = some (.builtin id)) (h : SndL X K W (e :: es) t) (hn : x ≠ "__name__" := by decide) (hdb : (x == ("__debug__" : Str)) = false := by decide)
    (hs : ∀ j, starEach (e :: es) (X j).env = (false, eval e (X j).env) :: starEach es (X j).env := by intro _; rfl) (hpl : ∀ j, (backTo pos (starEach es (X j).env)).any (·.1) = false := by intro _; rfl) : SndE X K W (.Call (.Name x p) (e :: es) [] pos) (eCB f t) :=
  ecb_core (fun ta h j => pe_callB (hc j) (hg j) (hm j) hv (h j) hn hdb (hs j) (hpl j)) ok h
theorem e_callTy (hc : ∀ j, CallR (X j) (.type Ty) r) (ok : CallOk K r f) (hg : ∀ j, Gl (X j) x) (hm : ∀ j, (X j).mg x = none) (hv : bootBuiltins x = some (.type Ty)) (h : SndL X K W (e :: es) t) (hn : x ≠ "__name__" := by decide) (hdb : (x == ("__debug__" : Str)) = false := by decide)
    (hs : ∀ j, starEach (e :: es) (X j).env = (false, eval e (X j).env) :: starEach es (X j).env := by intro _; rfl) (hpl : ∀ j, (backTo pos (starEach es (X j).env)).any (·.1) = false := by intro _; rfl) : SndE X K W (.Call (.Name x p) (e :: es) [] pos) (eCB f t) :=
  ecb_core (fun ta h j => pe_callTy (hc j) (hg j) (hm j) hv (h j) hn hdb (hs j) (hpl j)) ok h
theorem e_callBF (hc : ∀ j, CallR (X j) (.builtin id) r) (ok : CallOkF K r ff) (hg : ∀ j, Gl (X j) x) (hm : ∀ j, (X j).mg x = none) (hv : bootBuiltins x = some (.builtin id)) (h : SndL X K W (e :: es) t) (hn : x ≠ "__name__" := by decide) (hdb : (x == ("__debug__" : Str)) = false := by decide)
    (hs : ∀ j, starEach (e :: es) (X j).env = (false, eval e (X j).env) :: starEach es (X j).env := by intro _; rfl) (hpl : ∀ j, (backTo pos (starEach es (X j).env)).any (·.1) = false := by intro _; rfl) : SndE X K W (.Call (.Name x p) (e :: es) [] pos) (eCBF ff t) :=
  ecb_coreF (fun ta h j => pe_callB (hc j) (hg j) (hm j) hv (h j) hn hdb (hs j) (hpl j)) ok h
theorem e_callTyF (hc : ∀ j, CallR (X j) (.type Ty) r) (ok : CallOkF K r ff) (hg : ∀ j, Gl (X j) x) (hm : ∀ j, (X j).mg x = none) (hv : bootBuiltins x = some (.type Ty)) (h : SndL X K W (e :: es) t) (hn : x ≠ "__name__" := by decide) (hdb : (x == ("__debug__" : Str)) = false := by decide)
    (hs : ∀ j, starEach (e :: es) (X j).env = (false, eval e (X j).env) :: starEach es (X j).env := by intro _; rfl) (hpl : ∀ j, (backTo pos (starEach es (X j).env)).any (·.1) = false := by intro _; rfl) : SndE X K W (.Call (.Name x p) (e :: es) [] pos) (eCBF ff t) :=
  ecb_coreF (fun ta h j => pe_callTy (hc j) (hg j) (hm j) hv (h j) hn hdb (hs j) (hpl j)) ok h
end
end
end T
namespace T
open PySem PySem.Spec PyProof.Rows L2
/-! ### calls where no repr is under way -/
structure RoomG (k : Nat) (A : Around) : Prop where
  room : Room k A
  gd : A.guards = some []
theorem RoomG.mono {j k : Nat} {A : Around} (r : RoomG k A) (h : j ≤ k) : RoomG j A := ⟨r.room.mono h, r.gd⟩
theorem RoomG.deeper {k : Nat} {A : Around} (r : RoomG (k + 1) A) (env : PySem.Env) : RoomG k (A.deeper env) := ⟨r.room.deeper env, r.gd⟩
/-- a promise of a def, kept wherever no repr is under way -/
structure FnG (P : Program) (w : World) (K : PySem.W.Frag) (mg : Str → Option Value) (base : Heap) (cx : CXT) (k : Nat) (f : Addr) (fd : FuncData) (ps : List Str) (sp : Sp) : Prop where
  len : ∀ vs H Q E, sp vs H Q E → vs.length = ps.length
  run : ∀ (A : Around) (outer : List PySem.Env) (s : Shared) (H : Hp) (args : Args) (us : List Value) (vs : List V) (Q : VK) (E : XK), RoomG k A → Env0 P w K mg base A outer s H →
    BindsTo s fd args (ps.zip us) → Vals vs us → sp vs H Q E → codeAny (model P w) A (.call (.ref f) args) (CR cx outer P w H s Q E) s
section
variable {P : Program} {w : World} {K : PySem.W.Frag} {mg : Str → Option Value} {base : Heap} {cx : CXT} {k : Nat} {f : Addr} {ps : List Str} {sp : Sp}
theorem FnG.of {fd : FuncData} (F : FnOk P w K mg base cx k f fd ps sp) : FnG P w K mg base cx k f fd ps sp := ⟨F.len, fun A outer s H args us vs Q E r => F.run A outer s H args us vs Q E r.room⟩
theorem FnG.mono {j : Nat} {fd : FuncData} (F : FnG P w K mg base cx j f fd ps sp) (h : j ≤ k) : FnG P w K mg base cx k f fd ps sp := ⟨F.len, fun A outer s H args us vs Q E r => F.run A outer s H args us vs Q E (r.mono h)⟩
theorem FnG.imp {sp' : Sp} {fd : FuncData} (F : FnG P w K mg base cx k f fd ps sp) (h : ∀ vs H Q E, sp' vs H Q E → sp vs H Q E) : FnG P w K mg base cx k f fd ps sp' :=
  ⟨fun vs H Q E q => F.len vs H Q E (h _ _ _ _ q), fun A outer s H args us vs Q E r e b v q => F.run A outer s H args us vs Q E r e b v (h _ _ _ _ q)⟩
/-- a def by its body -/
theorem fnG {x qual : Str} {st : Stmt} {fd : FuncData} {N : List Str} (F : L2.Fun K x qual st f fd) (S : FnScope N ps (defScope st)) (len : ∀ vs H Q E, sp vs H Q E → vs.length = ps.length)
    (body : ∀ (cdv : Value) (A : Around) (outer : List PySem.Env) (s : Shared) (H : Hp) (vs : List V) (Q : VK) (E : XK), RoomG k (A.deeper (envOfC qual (defScope st) s.heap.objs.size f cdv)) → sp vs H Q E →
      ∃ t, PSs (cxOf cx P w K mg base N qual (defScope st) f cdv A outer s H E) (defBody st) t ∧ t { nx := fun _ H' => Q .non H', rt := Q } (L2.start N vs) H) : FnG P w K mg base cx (k + 1) f fd ps sp := by
  obtain ⟨oc, od, kV, doc, pm, an, cdv, ct, osl, rfl, lk, hcd⟩ := F.ex
  constructor
  · exact len
  intro A outer s H args us vs Q E room e0 bnd rv q
  have stays : ∀ b o, base.get? b = some o → s.heap.get? b = some o := fun b o e => (e0.bs b o e).1
  have inK : K.In s.heap := e0.mod.kin.keeps stays
  obtain ⟨t, ht, hq⟩ := body cdv A outer s H vs Q E (room.deeper _) q
  refine codeAny_call_function room.room.depth (inK f _ lk) rfl S.co S.gen rfl (PySem.W.codeRec_of inK hcd) (bnd _ _ _ _ ?_)
  refine wpAny_newFunctionEnv_cells S.kind (fun y hy => ?_) fun env he s1 inc => ?_
  · obtain hl | hl := S.par y.1 (List.of_mem_zip (a := y.1) (b := y.2) hy).1
    · exact Or.inl hl
    · exact Or.inr ⟨hl, PySem.W.cellsFrom_some _ _ _ (Or.inl hl)⟩
  subst he
  have start : Inv (cxOf cx P w K mg base N qual (defScope st) f cdv A outer s H E) [] (L2.start N vs) H s1 := inv_start S room.room.hd e0 (len _ _ _ _ q) rv inc
  have ends : ∀ (σ' : L2.St) (H' : Hp) (v : V) (u : Value) (s' : Shared), Inv (cxOf cx P w K mg base N qual (defScope st) f cdv A outer s H E) [] σ' H' s' → RelV v u → Q v H' → CE outer P w H s Q u s' := fun σ' H' v u s' J a b =>
    ⟨v, H', J.os, J.bare, J.base, J.hok, a, b⟩
  refine ⟨(e0.mod.nolimit.keeps stays).keeps inc.toInCall.keep, codeAny_func (wpAny_mono (ht.run [] s1 _ H _ start hq) (fun fl s' z => ?_) fun _ _ z => z)⟩
  cases fl with
  | next => obtain ⟨σ', H', J, b⟩ := z; exact ends σ' H' .non .none s' J rfl b
  | ret u => obtain ⟨v, σ', H', J, a, b⟩ := z; exact ends σ' H' v u s' J a b
  | brk => exact (z.choose_spec.choose_spec.2 : False).elim
  | cont => exact (z.choose_spec.choose_spec.2 : False).elim
end
section
variable {X : Cx} {k : Nat} {f : Addr} {fd : FuncData} {ps : List Str} {sp : Sp} {x : Str} {p pos : Pos} {e : Expr} {es : List Expr} {t : TA}
theorem run_fnG {pins : List (Addr × Obj)} {σ : L2.St} {H : Hp} {s : Shared} {Q : VK} {us : List Value} {vs : List V} {E : XK} (F : FnG X.prog X.w X.K X.mg X.base (L2.CX X.prog X.w) k f fd ps sp) (hr : RoomG k X.A) (hb : Binds X.K fd ps [])
    (hx : ∀ e s', L2.CX X.prog X.w X.stack H s E e s' → X.xe e s') (I : Inv X pins σ H s) (r : Vals vs us) (h : sp vs H Q E) : wpAny (model X.prog X.w) X.A (call (.ref f) us) (EP X pins σ Q) X.xe s := by
  have b := hb s us I.kIn (by simpa [← r.length] using F.len _ _ _ _ h)
  simp only [List.append_nil] at b
  apply wpAny_call
  apply codeAny_mono (F.run X.A X.stack s H ⟨us, []⟩ us vs Q E hr I.env0 b r h)
  rintro (e | fl) s' hq
  · exact hx e s' hq
  · cases fl <;> first | exact I.after hq | exact False.elim hq
theorem pe_callG {E : L2.St → XK} (F : FnG X.prog X.w X.K X.mg X.base (L2.CX X.prog X.w) k f fd ps sp) (hr : RoomG k X.A) (hg : Gl X x) (hm : X.mg x = some (.ref f)) (hk : PySem.W.keepIn X.K (.ref f) = true) (hb : Binds X.K fd ps [])
    (hx : ∀ σ, PassesAt (L2.CX X.prog X.w) X σ (E σ)) (ha : PA X (e :: es) t) (hdb : (x == ("__debug__" : Str)) = false := by decide)
    (he : starEach (e :: es) X.env = (false, eval e X.env) :: starEach es X.env := by rfl) (hpl : (backTo pos (starEach es X.env)).any (·.1) = false := by rfl) :
    PE X (.Call (.Name x p) (e :: es) [] pos) (tCallS sp E t) := by
  constructor
  intro pins s σ H Q I h
  apply wpAny_Call_Name_kw
  refine ld_glob I hg hm (PySem.W.callWith_K (h₀ := X.base) I.ok.mod.kin hk ?_ he hpl) hdb
  refine thn (ha.run pos pins s σ H _ I h) ?_
  rintro us s1 ⟨vs, H1, I1, r, q⟩
  exact ⟨I1.kIn, run_fnG F hr hb (fun e s' z => hx σ pins H1 s1 e s' I1 z) I1 r q⟩
end
/-! ### the law's call -/
theorem law_callG {P : Program} {w : World} {K : PySem.W.Frag} {mg mb : Str → Option Value} {cx : CXT} {k : Nat} {fa a : Addr} {fd : FuncData} {x : Str} {sp : Sp} {s₁ : Shared} {vs : List Value} {ns : List Int}
    (KX : K.In s₁.heap) (hns : s₁.heap.Ns mainGlobals mg) (hmb : s₁.heap.Ns builtinsNs mb) (boot : ∀ y : Str, y ≠ "__name__" → mb y = bootBuiltins y) (lim : s₁.heap.NoLimit) (gens : s₁.gens = #[])
    (ha : s₁.heap.get? a = some { cls := .type "list", data := .seq vs.toArray }) (hi : IntsAre vs ns) (hl : ns.length ≤ sizeLine) (hr : RoomG k callerA)
    (F : ∀ base : Heap, K.In base → base.Ns mainGlobals mg → FnG P w K mg base cx k fa fd [x] sp) (bnd : ∀ (s : Shared) (u : Value), BindsTo s fd ⟨[u], []⟩ [(x, u)])
    (hsp : ∀ H : Hp, Only H → SqL K H a (ns.map V.int) → sp [.ref a] H (fun v _ => v = .bl true) fun _ _ _ => False)
    (hcx : ∀ H e s', cx [] H s₁ (fun _ _ _ => False) e s' → False) :
    codeAny (model P w) callerA (.call (.ref fa) ⟨[.ref a], []⟩) (fun r s' => r = .ok (.ret (.bool true)) ∧ OldK s₁.heap s'.heap ∧ s'.os = s₁.os ∧ AllBare s'.gens) s₁ := by
  have rv : Vals (ns.map V.int) vs := vals_ints hi
  -- the script is tracked, frozen, if it is no object of the module
  let oS : Obj := { cls := .type "list", data := .seq vs.toArray }
  obtain ⟨H, hH⟩ : ∃ H : Hp, H = fun b => if b = a ∧ K.lookup a = none then some (.frz oS (.lst (ns.map V.int))) else none := ⟨_, rfl⟩
  have H1 : ∀ b u, H b = some u → b = a ∧ K.lookup a = none ∧ u = .frz oS (.lst (ns.map V.int)) := fun b u q => by
    have q : (if b = a ∧ K.lookup a = none then some (HO.frz oS (.lst (ns.map V.int))) else none) = some u := by rw [hH] at q; exact q
    by_cases c : b = a ∧ K.lookup a = none
    · rw [if_pos c] at q
      exact ⟨c.1, c.2, (Option.some.inj q).symm⟩
    · rw [if_neg c] at q; cases q
  have only : Only H := fun b => by
    cases q : H b with
    | none => exact .inl rfl
    | some u => obtain ⟨_, _, rfl⟩ := H1 b u q; exact .inr ⟨_, _, rfl⟩
  have frzOk : ObjOk P w H s₁.heap a (.frz oS (.lst (ns.map V.int))) := ⟨ha, by simpa using hl, vs, _, rv, ha⟩
  have hok : HOk P w H s₁.heap := fun b u q => by
    obtain ⟨rfl, _, rfl⟩ := H1 b u q
    exact frzOk
  have sq : SqL K H a (ns.map V.int) := by
    cases hk : K.lookup a with
    | none => exact .inl (.inr ⟨oS, by rw [hH]; exact if_pos ⟨rfl, hk⟩⟩)
    | some o =>
      have e := KX a o hk
      rw [ha] at e
      cases e
      exact .inr ⟨_, vs.toArray, _, hk, rfl, rfl, rfl, by simpa [hi.length] using hl, by simpa using rv⟩
  -- what is known besides
  have seen : ∀ b o, s₁.heap.get? b = some o → H b = none → (hidT s₁.heap H).get? b = some o := fun b o e n => hidT_get e n
  have ns1 : ∀ (b : Addr) (m : Str → Option Value), s₁.heap.Ns b m → (hidT s₁.heap H).Ns b m := by
    rintro b m ⟨o, es, ep, e, d, r⟩
    refine ⟨o, es, ep, seen b o e ?_, d, r⟩
    cases q : H b with
    | none => rfl
    | some u =>
      obtain ⟨rfl, _⟩ := H1 b u q
      rw [ha] at e
      cases e
      cases (show Data.seq vs.toArray _ = Data.dict es ep from d)
  have inK : K.In (hidT s₁.heap H) := fun b o e => seen b o (KX b o e) (by
    cases q : H b with
    | none => rfl
    | some u =>
      obtain ⟨rfl, n, _⟩ := H1 b u q
      rw [n] at e; cases e)
  obtain ⟨mc, lim1, lim2⟩ := lim
  have hmod : Mod K mg (hidT s₁.heap H) := ⟨inK, ns1 _ _ hns, ⟨mb, ns1 _ _ hmb, boot⟩, ⟨mc, ns1 _ _ lim1, lim2⟩⟩
  have here : Env0 P w K mg (hidT s₁.heap H) callerA [] s₁ H := { frames := rfl, mod := hmod, bs := fun b o e => of_hidT e, bsz := Nat.le_of_eq (hidT_size _ _), funs := trivial, frf := fun b m => absurd (show b ∈ ([] : List Addr) from m) List.not_mem_nil, hok := hok, bare := .of_eq gens }
  apply codeAny_mono ((F _ inK (ns1 _ _ hns)).run callerA [] s₁ H ⟨[.ref a], []⟩ [.ref a] [.ref a] (fun v _ => v = .bl true) (fun _ _ _ => False) hr here (bnd s₁ (.ref a)) (.cons rfl .nil) (hsp H only sq))
  rintro (e | fl) s' h
  · exact (hcx H e s' h).elim
  cases fl with
  | ret u =>
    obtain ⟨v, H', os, bare, un, hok', r', rfl⟩ := h
    have eu : u = Value.bool true := r'
    subst eu
    refine ⟨rfl, OldK.of_keep fun b o e => ?_, os, bare⟩
    cases q : H b with
    | none => exact un.keep b o e q (fun m => absurd (show b ∈ ([] : List Addr) from m) List.not_mem_nil) List.not_mem_nil
    | some u =>
      obtain ⟨rfl, _, rfl⟩ := H1 b u q
      have e1 := (hok b _ q).1
      have e2 := (hok' b _ (un.frzs b oS _ q)).1
      rw [e] at e1
      cases e1
      exact e2
  | next => exact (h : False).elim
  | brk => exact (h : False).elim
  | cont => exact (h : False).elim
theorem walk_ofG {l : PySem.W.OpenLaw} {n k : Nat} {q : Program} {loose : List Str} {XP : (Str → Option Value) → Heap → Prop} {YP : World → Heap → Prop} {d : DefRec} {K : Params → PySem.W.Frag} {cx : World → CXT} {sp : World → Sp} {x : Str}
    (hn : l.most = some n) (hn2 : n ≤ sizeLine) (hdf : d.params.defaults = []) (hr : RoomG k callerA) (hY : ∀ (w : World) (h : Heap), YP w h → (K w.params).In h)
    (F : ∀ (w : World) (mg : Str → Option Value) (fa : Addr) (h : Heap), (K w.params).In h → h.Ns mainGlobals mg → mg d.name = some (.ref fa) → ∃ fd : FuncData, (∀ (s : Shared) (v : Value), BindsTo s fd ⟨[v], []⟩ [(x, v)]) ∧
      ∀ base : Heap, (K w.params).In base → base.Ns mainGlobals mg → FnG l.prog w (K w.params) mg base (cx w) k fa fd [x] (sp w))
    (hsp : ∀ (w : World) (H : Hp) (a : Addr) (ns : List Int), ns.length ≤ n → Only H → SqL (K w.params) H a (ns.map V.int) → sp w [.ref a] H (fun v _ => v = .bl true) fun _ _ _ => False)
    (hcx : ∀ (w : World) (H : Hp) (s : Shared) (e : Value) (s' : Shared), cx w [] H s (fun _ _ _ => False) e s' → False) : PySem.W.WalkO q loose XP YP l.row.toRowW d [] (fun f vs => PySem.call f vs) := by
  apply Att.attach_call hn hdf
  intro w s₀ s₁ mg mb fa o pm cd doc a vs ns gr y ho hd hcd hmg isl isn few nogen
  have kx := hY w _ y
  obtain ⟨fd, b, G⟩ := F w mg fa s₁.heap kx gr.T.g hmg
  exact law_callG kx gr.T.g gr.T.b gr.T.builtins gr.T.nolimit nogen isl isn (Nat.le_trans few hn2) hr G b (fun H o1 o2 => hsp w H a ns few o1 o2) (hcx w · s₁ · ·)
end T
namespace T
open PySem PySem.Spec PyProof.Rows L2
/-- what a def does: its arguments; what follows its answer and the arguments that it may change, as they are then; what follows an exception (its class) -/
abbrev FSp := List D → (D → List D → Prop) → (Nat → List D → Prop) → Prop
section
variable (K : PySem.W.Frag) (H : Hp) (S : Addr → Prop)
/-- the arguments: m tells which ones may be changed -/
inductive ArgR : List Bool → List D → List V → List Addr → Prop
  | nil : ArgR [] [] [] []
  | bor {m : List Bool} {d : D} {v : V} {ds : List D} {vs : List V} {os : List Addr} : Vw K H S d v → frz d = d → ArgR m ds vs os → ArgR (false :: m) (d :: ds) (v :: vs) os
  | mut {m : List Bool} {d : D} {v : V} {ds : List D} {vs : List V} {o1 os : List Addr} : Rp K H S d v o1 → ArgR m ds vs os → ArgR (true :: m) (d :: ds) (v :: vs) (o1 ++ os)
inductive MutR : List Bool → List V → List D → List Addr → Prop
  | nil : MutR [] [] [] []
  | bor {m : List Bool} {v : V} {ds : List D} {vs : List V} {os : List Addr} : MutR m vs ds os → MutR (false :: m) (v :: vs) ds os
  | mut {m : List Bool} {d : D} {v : V} {ds : List D} {vs : List V} {o1 os : List Addr} : Rp K H S d v o1 → MutR m vs ds os → MutR (true :: m) (v :: vs) (d :: ds) (o1 ++ os)
end
/-- the promise -/
def conc (K : PySem.W.Frag) (m : List Bool) (A : FSp) : Sp := fun vs H Q E => ∃ (S : Addr → Prop) (ds : List D) (os : List Addr) (P : D → List D → Prop) (PX : Nat → List D → Prop), (∀ a, S a → a ∉ os) ∧ ArgR K H S m ds vs os ∧ Own H os ∧ A ds P PX ∧
  (∀ d ds', P d ds' → ∀ v H' o2 o1, Stp H H' os (o2 ++ o1) → Own H' (o2 ++ o1) → MutR K H' (ug (fun a => S a ∨ a ∈ os ∨ H a = none) (o2 ++ o1)) m vs ds' o1 → Rp K H' (ug (fun a => S a ∨ a ∈ os ∨ H a = none) (o2 ++ o1)) d v o2 → Q v H') ∧
  (∀ c ds', PX c ds' → ∀ H' o1, Stp H H' os o1 → Own H' o1 → MutR K H' (ug (fun a => S a ∨ a ∈ os ∨ H a = none) o1) m vs ds' o1 → E (.ref c) none H')
/-- the changed arguments, from the slots -/
@[simp] def mutsOf : List Bool → T.Env → Option (List D)
  | [], _ => some []
  | false :: m, _ :: G => mutsOf m G
  | true :: m, some d :: G => (mutsOf m G).map (d :: ·)
  | _, _ => none
def mutIx : List Bool → Nat → List Nat
  | [], _ => []
  | false :: m, k => mutIx m (k + 1)
  | true :: m, k => k :: mutIx m (k + 1)
@[simp] def enOf (m : List Bool) (P : D → List D → Prop) (PX : Nat → List D → Prop) : En where
  nx := fun G => match mutsOf m G with | some ds => P .non ds | none => False
  rt := fun d G => match mutsOf m G with | some ds => P d ds | none => False
  bk := fun _ => False
  ct := fun _ => False
  ex := fun c G => match mutsOf m G with | some ds => PX c ds | none => False
@[simp] def env0 (ds : List D) (n : Nat) : T.Env := ds.map some ++ List.replicate (n - ds.length) none
section
variable {K : PySem.W.Frag} {H : Hp} {S U : Addr → Prop}
theorem ArgR.lens : ∀ {m : List Bool} {ds : List D} {vs : List V} {os : List Addr}, ArgR K H S m ds vs os → vs.length = m.length ∧ ds.length = m.length
  | _, _, _, _, .nil => ⟨rfl, rfl⟩
  | _, _, _, _, .bor _ _ t => by
    have h := ArgR.lens t
    exact ⟨by simp [h.1], by simp [h.2]⟩
  | _, _, _, _, .mut _ t => by
    have h := ArgR.lens t
    exact ⟨by simp [h.1], by simp [h.2]⟩
theorem rpG_none : ∀ n : Nat, RpG K H U (List.replicate n none) (List.replicate n none) []
  | 0 => .nil
  | n + 1 => .skip _ (rpG_none n)
theorem ArgR.g (hu : ∀ a, S a → U a) (n : Nat) : ∀ {m : List Bool} {ds : List D} {vs : List V} {os : List Addr}, ArgR K H S m ds vs os → RpG K H U (ds.map some ++ List.replicate n none) (vs.map some ++ List.replicate n none) os
  | _, _, _, _, .nil => rpG_none n
  | _, _, _, _, .bor h e t => by
    have r := h.rp hu
    rw [e] at r
    exact .cons (o1 := []) r (ArgR.g hu n t)
  | _, _, _, _, .mut h t => .cons (h.mono (os0 := _) (fun a o q _ => q) (fun a s _ => hu a s) fun a m => m) (ArgR.g hu n t)
theorem mut_of {H' : Hp} : ∀ {m : List Bool} {G : T.Env} {σ : L2.St} {os : List Addr} {vs : List V} {ds : List D}, RpG K H' U G σ os → mutsOf m G = some ds → vs.length = m.length → (∀ k : Nat, m[k]? = some true → σ[k]? = (vs[k]?).map some) →
    ∃ o1, MutR K H' U m vs ds o1 ∧ o1.Sublist os
  | [], _, _, _, vs, _, _, e, hl, _ => by
    have : vs = [] := List.length_eq_zero_iff.mp (by simpa using hl)
    subst this
    simp [mutsOf] at e
    subst e
    exact ⟨[], .nil, List.nil_sublist _⟩
  | b :: m, _, _, _, [], _, _, _, hl, _ => by simp at hl
  | false :: m, [], _, _, _, _, _, e, _, _ => by simp [mutsOf] at e
  | true :: m, [], _, _, _, _, _, e, _, _ => by simp [mutsOf] at e
  | false :: m, none :: G, _, _, v :: vs, ds, .skip x t, e, hl, hs => by
    obtain ⟨o1, h1, h2⟩ := mut_of t (by simpa [mutsOf] using e) (by simpa using hl) fun k hk => by simpa using hs (k + 1) (by simpa using hk)
    exact ⟨o1, .bor h1, h2⟩
  | false :: m, some d :: G, _, _, v :: vs, ds, .cons h t, e, hl, hs => by
    obtain ⟨o1, h1, h2⟩ := mut_of t (by simpa [mutsOf] using e) (by simpa using hl) fun k hk => by simpa using hs (k + 1) (by simpa using hk)
    exact ⟨o1, .bor h1, h2.trans (List.sublist_append_right _ _)⟩
  | true :: m, none :: G, _, _, _, _, _, e, _, _ => by simp [mutsOf] at e
  | true :: m, some d :: G, _, _, v :: vs, ds, .cons (v := v') (o1 := p1) h t, e, hl, hs => by
    simp only [mutsOf, Option.map_eq_some_iff] at e
    obtain ⟨ds', e1, e2⟩ := e
    obtain ⟨o1, h1, h2⟩ := mut_of t e1 (by simpa using hl) fun k hk => by simpa using hs (k + 1) (by simpa using hk)
    have ev : v' = v := by
      have z := hs 0 (by simp)
      simpa using z
    subst ev e2
    exact ⟨p1 ++ o1, .mut h h1, List.Sublist.append (List.Sublist.refl _) h2⟩
theorem mem_mutIx : ∀ {m : List Bool} {k j : Nat}, m[k]? = some true → k + j ∈ mutIx m j
  | [], k, j, h => by simp at h
  | false :: m, 0, j, h => by simp at h
  | true :: m, 0, j, h => by simp [mutIx]
  | false :: m, k + 1, j, h => by
    have z := mem_mutIx (m := m) (k := k) (j := j + 1) (by simpa using h)
    simp only [mutIx]
    have e : k + 1 + j = k + (j + 1) := by omega
    rw [e]; exact z
  | true :: m, k + 1, j, h => by
    have z := mem_mutIx (m := m) (k := k) (j := j + 1) (by simpa using h)
    simp only [mutIx]
    have e : k + 1 + j = k + (j + 1) := by omega
    rw [e]; exact List.mem_cons_of_mem _ z
end
/-- the context of a def's body -/
abbrev bx (P : Program) (w : World) (K : PySem.W.Frag) (mg : Str → Option Value) (base : Heap) (N : List Str) (qual : Str) (st : Stmt) (f : Addr) (cdv : Value) (A : Around) (outer : List PySem.Env) (s : Shared) (H : Hp) (E : XK) : Unit → Cx :=
  fun _ => cxOf (L2.CX P w) P w K mg base N qual (defScope st) f cdv A outer s H E
/-- what leaves a def -/
abbrev wx (E : XK) : WX := fun cls d _ H => E cls d H
/-- THE RULE for a def -/
theorem fn_ok {P : Program} {w : World} {K : PySem.W.Frag} {mg : Str → Option Value} {base : Heap} {x qual : Str} {st : Stmt} {f : Addr} {fd : FuncData} {N ps : List Str} {k : Nat} {m : List Bool} {A : FSp} {b : WS} (F : L2.Fun K x qual st f fd) (Sc : FnScope N ps (defScope st)) (hm : m.length = ps.length) (hN : ps.length ≤ N.length)
    (hb : ∀ (cdv : Value) (Ar : Around) (outer : List PySem.Env) (s : Shared) (H : Hp) (E : XK), RoomG k (Ar.deeper (envOfC qual (defScope st) s.heap.objs.size f cdv)) → SndSs (bx P w K mg base N qual st f cdv Ar outer s H E) K (wx E) (mutIx m 0) (defBody st) b)
    (hA : ∀ ds P PX, A ds P PX → ds.length = ps.length → b (enOf m P PX) (env0 ds N.length)) : FnG P w K mg base (L2.CX P w) (k + 1) f fd ps (conc K m A) := by
  refine fnG F Sc (fun vs H Q E h => ?_) (fun cdv Ar outer s H vs Q E hr h => ?_)
  · obtain ⟨S, ds, os, P, PX, _, ar, _⟩ := h
    rw [ar.lens.1, hm]
  · obtain ⟨S, ds, os, P, PX, hS, ar, ow, hq, hrt, hex⟩ := h
    obtain ⟨t, h1, h2⟩ := hb cdv Ar outer s H E hr
    have l1 := ar.lens.1
    have l2 := ar.lens.2
    have hb2 := hA ds _ _ hq (by rw [l2, hm])
    have ev : env0 ds N.length = ds.map some ++ List.replicate (N.length - vs.length) none := by
      unfold env0
      rw [l2, l1]
    rw [ev] at hb2
    refine ⟨t, h1 (), h2 (fun a => S a ∨ a ∈ os ∨ H a = none) _ (L2.start N vs) H [] os _ _ ⟨?_, by simpa using ow, fun a m => .inr (.inl (by simpa using m)), fun a z => .inr (.inr z)⟩ hb2 ?_⟩
    · exact ar.g (fun a s => ⟨.inl s, by simpa using hS a s⟩) _
    · -- the ends
      have pin : ∀ {σ' : L2.St}, Pn (mutIx m 0) (L2.start N vs) σ' → ∀ k : Nat, m[k]? = some true → σ'[k]? = (vs[k]?).map some := fun {σ'} pnn k hk => by
        have z := mem_mutIx (j := 0) hk
        rw [pnn k (by simpa using z)]
        unfold L2.start
        have hlt : k < (vs.map some).length := by
          rw [List.length_map, l1]
          exact (List.getElem?_eq_some_iff.mp hk).1
        rw [List.getElem?_append_left hlt, List.getElem?_map]
      refine ⟨fun G σ' H' os1 hp sp r pnn => ?_, fun d G v σ' H' o2 os1 hp sp r x pnn => ?_, fun _ _ _ _ z => z.elim, fun _ _ _ _ z => z.elim, fun c G σ' H' os1 hp sp r pnn => ?_⟩
      · simp only [enOf] at hp
        split at hp
        · rename_i ds' e
          obtain ⟨o1, q1, q2⟩ := mut_of r.g e l1 (pin pnn)
          have sb : ∀ a ∈ [] ++ o1, a ∈ os1 := fun a z => q2.subset (by simpa using z)
          refine hrt _ _ hp .non H' [] o1 (sp.sub sb) ⟨by simpa using r.own.right.1.sublist q2, fun a z => r.own.2 a (by simpa using sb a z)⟩ ?_ .non
          have gu : ∀ a, ug (fun a => S a ∨ a ∈ os ∨ H a = none) ([] ++ os1) a → ug (fun a => S a ∨ a ∈ os ∨ H a = none) ([] ++ o1) a := ug_sub fun a z => by simpa using sb a z
          exact mutR_mono gu q1
        · exact hp.elim
      · simp only [enOf] at hp
        split at hp
        · rename_i ds' e
          obtain ⟨o1, q1, q2⟩ := mut_of r.g e l1 (pin pnn)
          have sb : ∀ a ∈ o2 ++ o1, a ∈ ([] ++ o2) ++ os1 := fun a z => by
            rcases List.mem_append.mp z with y | y
            · exact List.mem_append_left _ (by simpa using y)
            · exact List.mem_append_right _ (q2.subset y)
          have gu : ∀ a, ug (fun a => S a ∨ a ∈ os ∨ H a = none) (([] ++ o2) ++ os1) a → ug (fun a => S a ∨ a ∈ os ∨ H a = none) (o2 ++ o1) a := ug_sub sb
          refine hrt _ _ hp v H' o2 o1 (sp.sub fun a z => by simpa using sb a z) ⟨?_, fun a z => r.own.2 a (sb a z)⟩ (mutR_mono gu q1) (x.mono (os0 := o2) (fun a o q _ => q) (fun a u _ => gu a u) fun a z => z)
          have nd : (o2 ++ os1).Nodup := by simpa using r.own.1
          exact nd.sublist (List.Sublist.append (List.Sublist.refl _) q2)
        · exact hp.elim
      · simp only [enOf] at hp
        split at hp
        · rename_i ds' e
          obtain ⟨o1, q1, q2⟩ := mut_of r.g e l1 (pin pnn)
          have gu : ∀ a, ug (fun a => S a ∨ a ∈ os ∨ H a = none) ([] ++ os1) a → ug (fun a => S a ∨ a ∈ os ∨ H a = none) o1 a := ug_sub fun a z => by simpa using q2.subset z
          exact hex _ _ hp H' o1 (sp.sub fun a z => q2.subset z) ⟨by simpa using r.own.right.1.sublist q2, fun a z => r.own.2 a (by simpa using q2.subset z)⟩ (mutR_mono gu q1)
        · exact hp.elim
where
  mutR_mono {K : PySem.W.Frag} {H : Hp} {U U' : Addr → Prop} (hu : ∀ a, U a → U' a) : ∀ {m : List Bool} {vs : List V} {ds : List D} {os : List Addr}, MutR K H U m vs ds os → MutR K H U' m vs ds os
  | _, _, _, _, .nil => .nil
  | _, _, _, _, .bor t => .bor (mutR_mono hu t)
  | _, _, _, _, .mut h t => .mut (h.mono (os0 := _) (fun a o q _ => q) (fun a s _ => hu a s) fun a m => m) (mutR_mono hu t)
/-! ### calls -/
section
variable {ι : Type} {X : ι → Cx} {K : PySem.W.Frag} {W : WX} {pn : List Nat}
/-- a def that stands in the module -/
structure Df (X : ι → Cx) (K : PySem.W.Frag) (x : Str) (m : List Bool) (A : FSp) : Prop where
  fn : ∃ (f : Addr) (fd : FuncData) (ps : List Str) (k : Nat), ps.length = m.length ∧ (∀ j, FnG (X j).prog (X j).w (X j).K (X j).mg (X j).base (L2.CX (X j).prog (X j).w) k f fd ps (conc K m A) ∧ RoomG k (X j).A ∧ (X j).mg x = some (.ref f) ∧ PySem.W.keepIn (X j).K (.ref f) = true ∧ Binds (X j).K fd ps [])
def allF (n : Nat) : List Bool := List.replicate n false
theorem argR_views {H : Hp} {S : Addr → Prop} : ∀ {ds : List D} {vs : List V}, VwL K H S ds vs → ArgR K H S (allF ds.length) (frzL ds) vs []
  | _, _, .nil => .nil
  | _, _, .cons h t => .bor h.frz (frz_frz _) (argR_views t)
theorem mutR_none {H : Hp} {S : Addr → Prop} : ∀ {n : Nat} {vs : List V} {ds : List D} {os : List Addr}, MutR K H S (allF n) vs ds os → ds = [] ∧ os = []
  | 0, _, _, _, .nil => ⟨rfl, rfl⟩
  | n + 1, _, _, _, .bor t => mutR_none (n := n) t
variable {x : Str} {e : Expr} {es : List Expr} {p pos : Pos} {A : FSp} {n : Nat}
/-- read alone -/
@[simp] def rCall (A : FSp) (n : Nat) (t : WA) : WR := fun G P => t G fun ds => ds.length = n ∧ A (frzL ds) (fun d _ => P (frz d)) (fun _ _ => False)
theorem r_call (F : Df X K x (allF n) A) (hg : ∀ j, Gl (X j) x) {t : WA} (h : SndA X K (e :: es) t) (hdb : (x == ("__debug__" : Str)) = false := by decide)
    (hs : ∀ j, starEach (e :: es) (X j).env = (false, eval e (X j).env) :: starEach es (X j).env := by intro _; rfl) (hpl : ∀ j, (backTo pos (starEach es (X j).env)).any (·.1) = false := by intro _; rfl) : SndR X K (.Call (.Name x p) (e :: es) [] pos) (rCall A n t) := by
  obtain ⟨f, fd, ps, k, hl, hF⟩ := F.fn
  obtain ⟨ta, a1, a2⟩ := h
  refine ⟨tCallS (conc K (allF n) A) (fun _ => E0) ta, fun j => pe_callG (hF j).1 (hF j).2.1 (hg j) (hF j).2.2.1 (hF j).2.2.2.1 (hF j).2.2.2.2 (fun σ pins H s e s' I c => passL pins σ H s e s' I c) (a1 j) hdb (hs j) (hpl j), fun G σ H S P Q g r q => ?_⟩
  refine a2 G σ H S _ _ g r fun ds vs H1 hp s hv => ?_
  obtain ⟨hn, hp⟩ := hp
  subst hn
  refine ⟨gr S H, frzL ds, [], _, _, fun a _ m => absurd m (by simp), ?_, Own.nil, hp, fun d ds' pd v H' o2 o1 st ow mu rp => ?_, fun _ _ z => z.elim⟩
  · exact argR_views hv
  · refine q (frz d) v H' pd (s.trans st.same) (rp.vw (S := gr S H) (fun a m => ?_) (fun a u => ?_)).frz
    · rcases st.new a (List.mem_append_left _ m) with z | z
      · exact absurd z (by simp)
      · exact .inr (s.free z)
    · rcases u.1 with z | z | z
      · exact z
      · exact absurd z (by simp)
      · exact .inr (s.free z)
end
end T
namespace T
open PySem PySem.Spec PyProof.Rows L2
section
variable {ι : Type} {X : ι → Cx} {K : PySem.W.Frag} {W : WX} {pn : List Nat}
/-- newly owned addresses are kept aside -/
theorem Rep.add {U0 : Addr → Prop} {G : T.Env} {σ : L2.St} {H H' : Hp} {Oo os o2 : List Addr} (r : Rep K U0 G σ H Oo os) (s : Same H H') (hf : ∀ a ∈ o2, H a = none) (ow : Own H' o2) : Rep K U0 G σ H' (Oo ++ o2) os := by
  have r1 := r.same s
  have gu : ∀ a, ug U0 (Oo ++ os) a → (∃ o, H a = some o) → ug U0 ((Oo ++ o2) ++ os) a := fun a u ⟨o, e⟩ => ⟨u.1, fun m => by
    rw [List.append_assoc] at m
    rcases List.mem_append.mp m with z | z
    · exact u.2 (List.mem_append_left _ z)
    · rcases List.mem_append.mp z with y | y
      · rw [hf a y] at e; cases e
      · exact u.2 (List.mem_append_right _ y)⟩
  obtain ⟨n1, n2, n3⟩ := List.nodup_append.mp r.own.1
  refine ⟨r.g.mono (os0 := os) (fun a o q _ => s a o q) gu fun a m => m, ⟨?_, fun a m => ?_⟩, fun a m => ?_, r1.un⟩
  · rw [List.append_assoc]
    refine List.nodup_append.mpr ⟨n1, List.nodup_append.mpr ⟨ow.1, n2, fun a m b m' e => ?_⟩, fun a m b m' e => ?_⟩
    · subst e
      exact r.own.none (hf a m) (List.mem_append_right _ m')
    · subst e
      rcases List.mem_append.mp m' with z | z
      · exact r.own.none (hf a z) (List.mem_append_left _ m)
      · exact n3 a m a z rfl
  · rw [List.append_assoc] at m
    rcases List.mem_append.mp m with z | z
    · exact r1.own.2 a (List.mem_append_left _ z)
    · rcases List.mem_append.mp z with y | y
      · exact ow.2 a y
      · exact r1.own.2 a (List.mem_append_right _ y)
  · rw [List.append_assoc] at m
    rcases List.mem_append.mp m with z | z
    · exact r.u0 a (List.mem_append_left _ z)
    · rcases List.mem_append.mp z with y | y
      · exact r.un a (hf a y)
      · exact r.u0 a (List.mem_append_right _ y)
section
variable {x : Str} {e : Expr} {es : List Expr} {p pos : Pos} {A : FSp} {n : Nat}
/-- the arguments are let go -/
@[simp] def eCallL (A : FSp) (n : Nat) (t : WL) : WE := fun G P PX => t G (fun ds G' => ds.length = n ∧ A (frzL ds) (fun d _ => P d G') (fun c _ => PX c G')) PX
theorem e_callL (tk : ∀ j, Takes (X j) W) (F : Df X K x (allF n) A) (hg : ∀ j, Gl (X j) x) {t : WL} (h : SndL X K W (e :: es) t) (hdb : (x == ("__debug__" : Str)) = false := by decide)
    (hs : ∀ j, starEach (e :: es) (X j).env = (false, eval e (X j).env) :: starEach es (X j).env := by intro _; rfl) (hpl : ∀ j, (backTo pos (starEach es (X j).env)).any (·.1) = false := by intro _; rfl) : SndE X K W (.Call (.Name x p) (e :: es) [] pos) (eCallL A n t) := by
  obtain ⟨f, fd, ps, k, hl, hF⟩ := F.fn
  obtain ⟨ta, a1, a2⟩ := h
  refine ⟨tCallS (conc K (allF n) A) (L2.WE W) ta, fun j => pe_callG (hF j).1 (hF j).2.1 (hg j) (hF j).2.2.1 (hF j).2.2.2.1 (hF j).2.2.2.2 (fun σ => passAt (tk j) σ) (a1 j) hdb (hs j) (hpl j), fun U0 G σ H Oo os P PX Q rep w ok okx => ?_⟩
  refine a2 U0 G σ H Oo os _ _ _ rep w (fun ds G1 vs H1 o1 os1 hp s r y => ?_) okx
  obtain ⟨hn, hp⟩ := hp
  subst hn
  have r1 := r.less
  have st1 : Stp H H1 os os1 := s.sub fun a m => List.mem_append_right _ m
  refine ⟨ug U0 (Oo ++ os1), frzL ds, [], _, _, fun a _ m => absurd m (by simp), argR_views (letgo r y), Own.nil, hp, fun d ds' pd v H' o2 o1' st ow mu rp => ?_, fun c ds' pd H' o1' st ow mu => ?_⟩
  · obtain ⟨_, rfl⟩ := mutR_none mu
    rw [List.append_nil] at st ow rp
    have hf : ∀ a ∈ o2, H1 a = none := fun a m => (st.new a m).elim (fun z => absurd z (by simp)) id
    have r2 := r1.add st.same hf ow
    refine ok d G1 v H' o2 os1 pd ⟨fun a o q n => st.same a o (st1.keep a o q n), fun a m => ?_, fun a o q => ?_⟩ r2 (rp.mono (os0 := o2) (fun a o q _ => q) (fun a u _ => ?_) fun a m => m)
    · rcases List.mem_append.mp m with z | z
      · exact .inr (st1.free (hf a z))
      · exact st1.new a z
    · obtain ⟨o', q'⟩ := st1.dom a o q
      exact ⟨o', st.same a o' q'⟩
    · have g : ug U0 (Oo ++ os1) a := r1.grow (H' := H') (u.1.elim .inl fun z => z.elim (fun y => absurd y (by simp)) .inr)
      refine ⟨g.1, fun m => ?_⟩
      rw [List.append_assoc] at m
      rcases List.mem_append.mp m with z | z
      · exact g.2 (List.mem_append_left _ z)
      · rcases List.mem_append.mp z with y | y
        · exact u.2 y
        · exact g.2 (List.mem_append_right _ y)
  · obtain ⟨_, rfl⟩ := mutR_none mu
    exact okx c G1 H' os1 pd (st1.trans (Stp.of_same st.same os1)) (r1.same st.same)
/-- the arguments are lent -/
@[simp] def eCallR (A : FSp) (n : Nat) (t : WA) : WE := fun G P PX => t G fun ds => ds.length = n ∧ A (frzL ds) (fun d _ => ownd d = true ∧ P d G) (fun c _ => PX c G)
theorem e_callR (tk : ∀ j, Takes (X j) W) (F : Df X K x (allF n) A) (hg : ∀ j, Gl (X j) x) {t : WA} (h : SndA X K (e :: es) t) (hdb : (x == ("__debug__" : Str)) = false := by decide)
    (hs : ∀ j, starEach (e :: es) (X j).env = (false, eval e (X j).env) :: starEach es (X j).env := by intro _; rfl) (hpl : ∀ j, (backTo pos (starEach es (X j).env)).any (·.1) = false := by intro _; rfl) : SndE X K W (.Call (.Name x p) (e :: es) [] pos) (eCallR A n t) := by
  obtain ⟨f, fd, ps, k, hl, hF⟩ := F.fn
  obtain ⟨ta, a1, a2⟩ := h
  refine ⟨tCallS (conc K (allF n) A) (L2.WE W) ta, fun j => pe_callG (hF j).1 (hF j).2.1 (hg j) (hF j).2.2.1 (hF j).2.2.2.1 (hF j).2.2.2.2 (fun σ => passAt (tk j) σ) (a1 j) hdb (hs j) (hpl j), fun U0 G σ H Oo os P PX Q rep w ok okx => ?_⟩
  refine a2 G σ H _ _ _ rep.vw w fun ds vs H1 hp s hv => ?_
  obtain ⟨hn, hp⟩ := hp
  subst hn
  have r1 := rep.same s
  refine ⟨_, frzL ds, [], _, _, fun a _ m => absurd m (by simp), argR_views hv, Own.nil, hp, fun d ds' pd v H' o2 o1' st ow mu rp => ?_, fun c ds' pd H' o1' st ow mu => ?_⟩
  · obtain ⟨_, rfl⟩ := mutR_none mu
    rw [List.append_nil] at st ow rp
    have hf : ∀ a ∈ o2, H1 a = none := fun a m => (st.new a m).elim (fun z => absurd z (by simp)) id
    have r2 := r1.add st.same hf ow
    refine ok d G v H' o2 os pd.2 ⟨fun a o q n => st.same a o (s a o q), fun a m => ?_, fun a o q => ⟨o, st.same a o (s a o q)⟩⟩ r2 (rp.anyU pd.1)
    rcases List.mem_append.mp m with z | z
    · exact .inr (s.free (hf a z))
    · exact .inl z
  · obtain ⟨_, rfl⟩ := mutR_none mu
    exact okx c G H' os pd (Stp.of_same (s.trans st.same) os) (r1.same st.same)
end
/-! ### calls that may change what they are handed -/
section
variable (K) (H : Hp) (U : Addr → Prop) (σ : L2.St)
inductive MixR : List (Option Nat) → List D → List V → List Addr → Prop
  | nil : MixR [] [] [] []
  | val {js : List (Option Nat)} {d : D} {v : V} {ds : List D} {vs : List V} {o1 os : List Addr} : Rp K H U d v o1 → MixR js ds vs os → MixR (none :: js) (d :: ds) (v :: vs) (o1 ++ os)
  | mut {js : List (Option Nat)} {i : Nat} {v : V} {ds : List D} {vs : List V} {os : List Addr} : σ[i]? = some (some v) → MixR js ds vs os → MixR (some i :: js) ds (v :: vs) os
inductive MixV : List (Option Nat) → List D → List V → Prop
  | nil : MixV [] [] []
  | val {js : List (Option Nat)} {d : D} {v : V} {ds : List D} {vs : List V} : Vw K H U d v → MixV js ds vs → MixV (none :: js) (d :: ds) (v :: vs)
  | mut {js : List (Option Nat)} {i : Nat} {v : V} {ds : List D} {vs : List V} : σ[i]? = some (some v) → MixV js ds vs → MixV (some i :: js) ds (v :: vs)
end
theorem MixR.mono {H H' : Hp} {U U' : Addr → Prop} {σ : L2.St} {os0 : List Addr} (hk : ∀ a o, H a = some o → (U a ∨ a ∈ os0 ∨ ¬ Mut (some o)) → H' a = some o) (hs : ∀ a, U a → (∃ o, H a = some o) → U' a) : ∀ {js : List (Option Nat)} {ds : List D} {vs : List V} {os : List Addr}, (∀ a ∈ os, a ∈ os0) → MixR K H U σ js ds vs os → MixR K H' U' σ js ds vs os
  | _, _, _, _, _, .nil => .nil
  | _, _, _, _, q, .val h t => .val (h.mono hk hs fun a m => q a (List.mem_append_left _ m)) (MixR.mono hk hs (fun a m => q a (List.mem_append_right _ m)) t)
  | _, _, _, _, q, .mut e t => .mut e (MixR.mono hk hs q t)
theorem MixR.vw {H : Hp} {U S : Addr → Prop} {σ : L2.St} : ∀ {js : List (Option Nat)} {ds : List D} {vs : List V} {os : List Addr}, (∀ a ∈ os, S a) → (∀ a, U a → S a) → MixR K H U σ js ds vs os → MixV K H S σ js ds vs
  | _, _, _, _, _, _, .nil => .nil
  | _, _, _, _, q, u, .val h t => .val (h.vw (fun a m => q a (List.mem_append_left _ m)) u) (MixR.vw (fun a m => q a (List.mem_append_right _ m)) u t)
  | _, _, _, _, q, u, .mut e t => .mut e (MixR.vw q u t)
def OkM (K : PySem.W.Frag) (U0 : Addr → Prop) (Oo : List Addr) (σ : L2.St) (H : Hp) (os : List Addr) (js : List (Option Nat)) (P : List D → T.Env → Prop) (Q : List V → Hp → Prop) : Prop := ∀ ds G vs H' o2 os1, P ds G → Stp H H' os (o2 ++ os1) → Rep K U0 G σ H' (Oo ++ o2) os1 → MixR K H' (ug U0 ((Oo ++ o2) ++ os1)) σ js ds vs o2 → Q vs H'
def SndM (X : ι → Cx) (K : PySem.W.Frag) (W : WX) (js : List (Option Nat)) (es : List Expr) (w : WL) : Prop := ∃ t : TA, (∀ i, PA (X i) es t) ∧ ∀ (U0 : Addr → Prop) (G : T.Env) (σ : L2.St) (H : Hp) (Oo os : List Addr) (P : List D → T.Env → Prop) (PX : Nat → T.Env → Prop) (Q : List V → Hp → Prop),
  Rep K U0 G σ H Oo os → w G P PX → OkM K U0 Oo σ H os js P Q → OkX K U0 Oo σ H os PX W → t σ H Q
theorem m_nil : SndM X K W [] [] lNil := ⟨tNil, fun _ => pa_nil, fun U0 G σ H Oo os P PX Q rep w ok _ => ok [] G [] H [] os w (Stp.refl _ _) (by rw [List.append_nil]; exact rep) .nil⟩
theorem m_val {js : List (Option Nat)} {e : Expr} {es : List Expr} {w : WE} {t : WL} (h : SndE X K W e w) (h' : SndM X K W js es t) (hs : ∀ j, starEach (e :: es) (X j).env = (false, eval e (X j).env) :: starEach es (X j).env := by intro _; rfl) : SndM X K W (none :: js) (e :: es) (lCons w t) := by
  obtain ⟨ta, a1, a2⟩ := h
  obtain ⟨tb, b1, b2⟩ := h'
  refine ⟨tCons ta tb, fun j => pa_cons (a1 j) (b1 j) (hs j), fun U0 G σ H Oo os P PX Q rep w ok okx => ?_⟩
  refine a2 U0 G σ H Oo os _ _ _ rep w (fun d G1 v H1 o1 os1 p s r x => ?_) okx
  refine b2 U0 G1 σ H1 (Oo ++ o1) os1 _ _ _ r p (fun ds G2 vs H2 o2 os2 p2 s2 r2 x2 => ?_) (okx.more s)
  have st : Stp H H2 os ((o1 ++ o2) ++ os2) := by
    rw [List.append_assoc]
    exact s.trans s2.wide
  have x1 := aside s2 r.own x
  have e1 : Oo ++ o1 ++ (o2 ++ os2) = (Oo ++ (o1 ++ o2)) ++ os2 := by simp [List.append_assoc]
  have e2 : Oo ++ o1 ++ o2 = Oo ++ (o1 ++ o2) := by simp [List.append_assoc]
  rw [e1] at x1
  rw [e2] at r2 x2
  exact ok (d :: ds) G2 (v :: vs) H2 (o1 ++ o2) os2 p2 st r2 (.val x1 x2)
def lMut (i : Nat) (t : WL) : WL := fun G P PX => match G[i]? with | some (some _) => t G P PX | _ => False
theorem m_mut (i : Nat) {js : List (Option Nat)} {x : Str} {pos : Pos} {es : List Expr} {t : WL} (h' : SndM X K W js es t) (hN : ∀ j, (X j).N[i]? = some x) (hv : ∀ j, Vis (X j).env.scope x) (hd : (x == ("__debug__" : Str)) = false := by decide) (hcd : (x == ("__classdict__" : Str)) = false := by decide)
    (hs : ∀ j, starEach (.Name x pos :: es) (X j).env = (false, eval (.Name x pos) (X j).env) :: starEach es (X j).env := by intro _; rfl) : SndM X K W (some i :: js) (.Name x pos :: es) (lMut i t) := by
  obtain ⟨tb, b1, b2⟩ := h'
  refine ⟨tCons (tVar i) tb, fun j => pa_cons (pe_var (hN j) (hv j) hd hcd) (b1 j) (hs j), fun U0 G σ H Oo os P PX Q rep w ok okx => ?_⟩
  unfold lMut at w
  split at w
  · rename_i d e
    obtain ⟨v, h1, _⟩ := rep.vw.at' i d e
    refine ⟨v, h1, ?_⟩
    refine b2 U0 G σ H Oo os _ _ _ rep w (fun ds G2 vs H2 o2 os2 p2 s2 r2 x2 => ?_) okx
    exact ok ds G2 (v :: vs) H2 o2 os2 p2 s2 r2 (.mut h1 x2)
  · exact w.elim
/-- the whole arguments, and the slots without what is handed over -/
@[simp] def fillA : List (Option Nat) → T.Env → List D → Option (List D × T.Env)
  | [], G, [] => some ([], G)
  | none :: js, G, d :: ds => (fillA js G ds).map fun q => (d :: q.1, q.2)
  | some i :: js, G, ds => match G[i]? with
    | some (some d) => (fillA js (G.set i none) ds).map fun q => (d :: q.1, q.2)
    | _ => none
  | _, _, _ => none
/-- what is handed back -/
@[simp] def putA : List (Option Nat) → T.Env → List D → T.Env
  | some i :: js, G, d :: ds => (putA js G ds).set i (some d)
  | none :: js, G, ds => putA js G ds
  | _, G, _ => G
def msk (js : List (Option Nat)) : List Bool := js.map Option.isSome
theorem take_all {H : Hp} {U : Addr → Prop} {σ : L2.St} : ∀ {js : List (Option Nat)} {G G' : T.Env} {ds full : List D} {vs : List V} {os : List Addr}, RpG K H U G σ os → MixV K H U σ js ds vs → fillA js G (frzL ds) = some (full, G') →
    ∃ om orest, ArgR K H U (msk js) full vs om ∧ RpG K H U G' σ orest ∧ os.Perm (om ++ orest) ∧ (∀ i : Nat, some i ∈ js → G'[i]? = some none) ∧ (∀ i : Nat, G[i]? = some none → G'[i]? = some none)
  | [], G, G', _, full, _, os, g, .nil, e => by
    simp [fillA, frzL] at e
    obtain ⟨rfl, rfl⟩ := e
    exact ⟨[], os, .nil, g, List.Perm.refl _, fun i m => absurd m (by simp), fun i h => h⟩
  | none :: js, G, G', d :: ds, full, v :: vs, os, g, .val h t, e => by
    simp only [frzL, fillA, Option.map_eq_some_iff] at e
    obtain ⟨⟨f2, G2⟩, e1, e2⟩ := e
    cases e2
    obtain ⟨om, orest, h1, h2, h3, h4, h5⟩ := take_all g t e1
    exact ⟨om, orest, .bor h.frz (frz_frz d) h1, h2, h3, fun i m => h4 i (by simpa using m), h5⟩
  | some i :: js, G, G', ds, full, v :: vs, os, g, .mut hv t, e => by
    simp only [fillA] at e
    split at e
    · rename_i d ed
      simp only [Option.map_eq_some_iff] at e
      obtain ⟨⟨f2, G2⟩, e1, e2⟩ := e
      cases e2
      obtain ⟨v', o1, o2, q1, q2, q3, q4⟩ := g.take ed
      rw [hv] at q1
      cases q1
      obtain ⟨om, orest, h1, h2, h3, h4, h5⟩ := take_all q3 t e1
      have hi : i < G.length := (List.getElem?_eq_some_iff.mp ed).1
      refine ⟨o1 ++ om, orest, .mut q2 h1, h2, ?_, fun k m => ?_, fun k hk => h5 k ?_⟩
      · rw [List.append_assoc]
        exact q4.trans (List.Perm.append_left o1 h3)
      · rcases List.mem_cons.mp m with z | z
        · cases z
          exact h5 _ (by simp [hi])
        · exact h4 k z
      · by_cases hki : i = k
        · subst hki
          simp [hi]
        · rw [List.getElem?_set_ne hki]
          exact hk
    · cases e
theorem put_all {H : Hp} {U : Addr → Prop} {σ : L2.St} : ∀ {js : List (Option Nat)} {G : T.Env} {ds ds' : List D} {vs : List V} {o1 orest : List Addr} {S : Addr → Prop} {H0 : Hp}, RpG K H U G σ orest → MixV K H0 S σ js ds vs → MutR K H U (msk js) vs ds' o1 → (js.filterMap id).Nodup → (∀ i : Nat, some i ∈ js → G[i]? = some none) →
    ∃ os, RpG K H U (putA js G ds') σ os ∧ os.Perm (o1 ++ orest)
  | [], G, _, _, _, _, orest, _, _, g, .nil, m, _, _ => by
    cases m
    exact ⟨orest, g, List.Perm.refl _⟩
  | none :: js, G, _, ds', _, o1, orest, _, _, g, .val h t, m, nd, hn => by
    cases m with
    | bor m => 
      simp only [putA]
      exact put_all g t m (by simpa using nd) fun i q => hn i (List.mem_cons_of_mem _ q)
  | some i :: js, G, _, ds', v :: vs, o1, orest, _, _, g, .mut hv t, m, nd, hn => by
    cases m with
    | @«mut» _ d _ ds2 _ p1 p2 h m =>
      have nd' : i ∉ js.filterMap id ∧ (js.filterMap id).Nodup := by simpa using nd
      obtain ⟨os, h1, h2⟩ := put_all g t m nd'.2 fun k q => hn k (List.mem_cons_of_mem _ q)
      have hput : ∀ {js : List (Option Nat)} {G : T.Env} {ds : List D}, i ∉ js.filterMap id → (putA js G ds)[i]? = G[i]? := by
        intro js
        induction js with
        | nil => intro G ds _; rfl
        | cons a js ih =>
          intro G ds hq
          cases a with
          | none => 
            simp only [putA]
            exact ih (by simpa using hq)
          | some k =>
            have hk : ¬ i = k ∧ i ∉ js.filterMap id := by simpa using hq
            cases ds with
            | nil => rfl
            | cons d ds =>
              simp only [putA]
              rw [List.getElem?_set_ne (fun z => hk.1 z.symm)]
              exact ih hk.2
      obtain ⟨o2, h3, h4⟩ := h1.put (v := v) (by rw [hput nd'.1]; exact hn i List.mem_cons_self) h
      have es : σ.set i (some v) = σ := by
        apply List.ext_getElem?
        intro k
        by_cases hk : i = k
        · subst hk
          rw [hv]
          obtain ⟨hlt, _⟩ := List.getElem?_eq_some_iff.mp hv
          rw [List.getElem?_set_self hlt]
        · rw [List.getElem?_set_ne hk]
      rw [es] at h3
      refine ⟨o2, h3, h4.trans ?_⟩
      rw [List.append_assoc]
      exact List.Perm.append_left p1 h2
section
variable {x : Str} {e : Expr} {es : List Expr} {p pos : Pos} {A : FSp} {js : List (Option Nat)}
@[simp] def eCallM (A : FSp) (js : List (Option Nat)) (t : WL) : WE := fun G P PX => t G (fun ds G' => match fillA js G' (frzL ds) with
  | some q => A q.1 (fun d ds' => P d (putA js q.2 ds')) (fun c ds' => PX c (putA js q.2 ds'))
  | none => False) PX
theorem e_callM (tk : ∀ j, Takes (X j) W) (F : Df X K x (msk js) A) (hg : ∀ j, Gl (X j) x) {t : WL} (h : SndM X K W js (e :: es) t) (nd : (js.filterMap id).Nodup := by decide) (hdb : (x == ("__debug__" : Str)) = false := by decide)
    (hs : ∀ j, starEach (e :: es) (X j).env = (false, eval e (X j).env) :: starEach es (X j).env := by intro _; rfl) (hpl : ∀ j, (backTo pos (starEach es (X j).env)).any (·.1) = false := by intro _; rfl) : SndE X K W (.Call (.Name x p) (e :: es) [] pos) (eCallM A js t) := by
  obtain ⟨f, fd, ps, k, hl, hF⟩ := F.fn
  obtain ⟨ta, a1, a2⟩ := h
  refine ⟨tCallS (conc K (msk js) A) (L2.WE W) ta, fun j => pe_callG (hF j).1 (hF j).2.1 (hg j) (hF j).2.2.1 (hF j).2.2.2.1 (hF j).2.2.2.2 (fun σ => passAt (tk j) σ) (a1 j) hdb (hs j) (hpl j), fun U0 G σ H Oo os P PX Q rep w ok okx => ?_⟩
  refine a2 U0 G σ H Oo os _ _ _ rep w (fun ds G1 vs H1 o1 os1 hp s r y => ?_) okx
  split at hp
  case h_2 => exact hp.elim
  rename_i q hq
  obtain ⟨full, G2⟩ := q
  -- the values are let go
  have r1 := r.less
  have st1 : Stp H H1 os os1 := s.sub fun a m => List.mem_append_right _ m
  have hsub : ∀ a ∈ Oo ++ os1, a ∈ (Oo ++ o1) ++ os1 := fun a m => by
    rcases List.mem_append.mp m with z | z
    · exact List.mem_append_left _ (List.mem_append_left _ z)
    · exact List.mem_append_right _ z
  have mv : MixV K H1 (ug U0 (Oo ++ os1)) σ js ds vs := by
    refine y.vw (fun a m => ⟨r.u0 a (List.mem_append_left _ (List.mem_append_right _ m)), fun q => ?_⟩) (ug_sub hsub)
    have nd := r.own.1
    rw [List.append_assoc] at nd
    obtain ⟨_, h2, h3⟩ := List.nodup_append.mp nd
    rcases List.mem_append.mp q with z | z
    · exact h3 a z a (List.mem_append_left _ m) rfl
    · exact (List.nodup_append.mp h2).2.2 a m a z rfl
  obtain ⟨om, orest, ar, g2, pm, hn, _⟩ := take_all r1.g mv hq
  have mo : ∀ a ∈ om, a ∈ os1 := fun a m => pm.mem_iff.mpr (List.mem_append_left _ m)
  have mr : ∀ a ∈ orest, a ∈ os1 := fun a m => pm.mem_iff.mpr (List.mem_append_right _ m)
  obtain ⟨n1, n2, n3⟩ := List.nodup_append.mp r1.own.1
  obtain ⟨n4, n5, n6⟩ := List.nodup_append.mp (pm.nodup_iff.mp n2)
  -- what holds behind the call
  have back : ∀ {H' : Hp} {o2 o1' : List Addr} {ds' : List D}, Stp H1 H' om (o2 ++ o1') → Own H' (o2 ++ o1') → MutR K H' (ug (fun a => ug U0 (Oo ++ os1) a ∨ a ∈ om ∨ H1 a = none) (o2 ++ o1')) (msk js) vs ds' o1' →
      ∃ os', Rep K U0 (putA js G2 ds') σ H' (Oo ++ o2) os' ∧ Stp H H' os (o2 ++ os') ∧ (∀ a, ug (fun a => ug U0 (Oo ++ os1) a ∨ a ∈ om ∨ H1 a = none) (o2 ++ o1') a → ug U0 ((Oo ++ o2) ++ os') a) := by
    intro H' o2 o1' ds' st ow mu
    have fr : ∀ a, a ∈ o2 ++ o1' → a ∉ Oo ∧ a ∉ orest := fun a m => by
      rcases st.new a m with z | z
      · exact ⟨fun y => n3 a y a (mo a z) rfl, fun y => n6 a z a y rfl⟩
      · exact ⟨fun y => r1.own.none z (List.mem_append_left _ y), fun y => r1.own.none z (List.mem_append_right _ (mr a y))⟩
    have base : ∀ a, ug (fun a => ug U0 (Oo ++ os1) a ∨ a ∈ om ∨ H1 a = none) (o2 ++ o1') a → U0 a ∧ a ∉ Oo ∧ a ∉ orest := fun a u => by
      rcases u.1 with z | z | z
      · exact ⟨z.1, fun y => z.2 (List.mem_append_left _ y), fun y => z.2 (List.mem_append_right _ (mr a y))⟩
      · exact ⟨r1.u0 a (List.mem_append_right _ (mo a z)), fun y => n3 a y a (mo a z) rfl, fun y => n6 a z a y rfl⟩
      · exact ⟨r1.un a z, fun y => r1.own.none z (List.mem_append_left _ y), fun y => r1.own.none z (List.mem_append_right _ (mr a y))⟩
    -- everything at one U
    have mem3 : ∀ a, a ∈ (Oo ++ o2) ++ (o1' ++ orest) → a ∈ Oo ∨ a ∈ o2 ++ o1' ∨ a ∈ orest := fun a m => by
      rcases List.mem_append.mp m with z | z
      · rcases List.mem_append.mp z with y | y
        · exact .inl y
        · exact .inr (.inl (List.mem_append_left _ y))
      · rcases List.mem_append.mp z with y | y
        · exact .inr (.inl (List.mem_append_right _ y))
        · exact .inr (.inr y)
    have gu : ∀ a, ug (fun a => ug U0 (Oo ++ os1) a ∨ a ∈ om ∨ H1 a = none) (o2 ++ o1') a → ug U0 ((Oo ++ o2) ++ (o1' ++ orest)) a := fun a u => by
      obtain ⟨b1, b2, b3⟩ := base a u
      refine ⟨b1, fun m => ?_⟩
      rcases mem3 a m with z | z | z
      · exact b2 z
      · exact u.2 z
      · exact b3 z
    have g3 : RpG K H' (ug U0 ((Oo ++ o2) ++ (o1' ++ orest))) G2 σ orest := by
      refine g2.mono (os0 := orest) (fun a o e h => ?_) (fun a u ⟨o, e⟩ => ⟨u.1, fun m => ?_⟩) fun a m => m
      · refine st.keep a o e fun m => ?_
        rcases h with h | h | h
        · exact h.2 (List.mem_append_right _ (mo a m))
        · exact n6 a m a h rfl
        · obtain ⟨o', q, mu'⟩ := r1.own.2 a (List.mem_append_right _ (mo a m))
          rw [e] at q; cases q
          exact h mu'
      · rcases mem3 a m with z | z | z
        · exact u.2 (List.mem_append_left _ z)
        · rcases st.new a z with w | w
          · exact u.2 (List.mem_append_right _ (mo a w))
          · rw [e] at w; cases w
        · exact u.2 (List.mem_append_right _ (mr a z))
    obtain ⟨os', g4, pm4⟩ := put_all g3 mv (fn_ok.mutR_mono gu mu) nd hn
    have pm5 : ((Oo ++ o2) ++ (o1' ++ orest)).Perm ((Oo ++ o2) ++ os') := List.Perm.append_left _ pm4.symm
    have hs5 : ∀ a ∈ (Oo ++ o2) ++ os', a ∈ (Oo ++ o2) ++ (o1' ++ orest) := fun a m => pm5.mem_iff.mpr m
    have keepO : ∀ a, a ∈ Oo ∨ a ∈ orest → ∃ o, H' a = some o ∧ Mut (some o) := fun a m => by
      have hin : a ∈ Oo ++ os1 := m.elim (fun z => List.mem_append_left _ z) fun z => List.mem_append_right _ (mr a z)
      obtain ⟨o, q, mu'⟩ := r1.own.2 a hin
      refine ⟨o, st.keep a o q fun z => ?_, mu'⟩
      rcases m with m | m
      · exact n3 a m a (mo a z) rfl
      · exact n6 a z a m rfl
    have ow5 : Own H' ((Oo ++ o2) ++ (o1' ++ orest)) := by
      refine ⟨?_, fun a m => ?_⟩
      · have e5 : (Oo ++ o2) ++ (o1' ++ orest) = Oo ++ ((o2 ++ o1') ++ orest) := by simp [List.append_assoc]
        rw [e5]
        refine List.nodup_append.mpr ⟨n1, List.nodup_append.mpr ⟨ow.1, n5, fun a m b m' e => ?_⟩, fun a m b m' e => ?_⟩
        · subst e
          exact (fr a m).2 m'
        · subst e
          rcases List.mem_append.mp m' with z | z
          · exact (fr a z).1 m
          · exact n3 a m a (mr a z) rfl
      · rcases mem3 a m with z | z | z
        · exact keepO a (.inl z)
        · exact ow.2 a z
        · exact keepO a (.inr z)
    refine ⟨os', ⟨g4.mono (os0 := os') (fun a o q _ => q) (fun a u _ => ug_sub hs5 a u) fun a m => m, ow5.perm pm5, fun a m => ?_, fun a h => r1.un a (st.free h)⟩, ⟨fun a o e n => ?_, fun a m => ?_, fun a o e => ?_⟩, fun a u => ug_sub hs5 a (gu a u)⟩
    · rcases mem3 a (hs5 a m) with z | z | z
      · exact r1.u0 a (List.mem_append_left _ z)
      · rcases st.new a z with w | w
        · exact r1.u0 a (List.mem_append_right _ (mo a w))
        · exact r1.un a w
      · exact r1.u0 a (List.mem_append_right _ (mr a z))
    · refine st.keep a o (st1.keep a o e n) fun z => ?_
      rcases st1.new a (mo a z) with w | w
      · exact n w
      · rw [e] at w; cases w
    · have z : a ∈ o2 ++ o1' ∨ a ∈ orest := by
        rcases List.mem_append.mp m with z | z
        · exact .inl (List.mem_append_left _ z)
        · rcases List.mem_append.mp (pm4.mem_iff.mp z) with w | w
          · exact .inl (List.mem_append_right _ w)
          · exact .inr w
      rcases z with z | z
      · rcases st.new a z with w | w
        · exact st1.new a (mo a w)
        · exact .inr (st1.free w)
      · exact st1.new a (mr a z)
    · obtain ⟨o', q⟩ := st1.dom a o e
      exact st.dom a o' q
  refine ⟨ug U0 (Oo ++ os1), full, om, _, _, fun a u m => u.2 (List.mem_append_right _ (mo a m)), ar, ⟨n4, fun a m => r1.own.2 a (List.mem_append_right _ (mo a m))⟩, hp, fun d ds' pd v H' o2 o1' st ow mu rp => ?_, fun c ds' pd H' o1' st ow mu => ?_⟩
  · obtain ⟨os', rr, ss, gu⟩ := back st ow mu
    exact ok d _ v H' o2 os' pd ss rr (rp.mono (os0 := o2) (fun a o q _ => q) (fun a u _ => gu a u) fun a m => m)
  · obtain ⟨os', rr, ss, _⟩ := back (o2 := []) st ow mu
    exact okx c _ H' os' pd ss (by rw [List.append_nil] at rr; exact rr)
end
end
end T
namespace T
open PySem PySem.Spec PyProof.Rows L2
section
variable {ι : Type} {X : ι → Cx} {K : PySem.W.Frag} {W : WX} {pn : List Nat}
/-! ### targets: what is handed to them is frozen -/
abbrev WG := D → T.Env → (T.Env → Prop) → Prop
abbrev WGs := List D → T.Env → (T.Env → Prop) → Prop
def Out (sl : List Nat) (σ σ' : L2.St) : Prop := σ'.length = σ.length ∧ ∀ i, i ∉ sl → σ'[i]? = σ[i]?
theorem Out.refl (sl : List Nat) (σ : L2.St) : Out sl σ σ := ⟨rfl, fun _ _ => rfl⟩
theorem Out.trans {s1 s2 : List Nat} {a b c : L2.St} (h : Out s1 a b) (h' : Out s2 b c) : Out (s1 ++ s2) a c := ⟨h'.1.trans h.1, fun i m => (h'.2 i fun z => m (List.mem_append_right _ z)).trans (h.2 i fun z => m (List.mem_append_left _ z))⟩
theorem out_pn {sl : List Nat} {σ σ' : L2.St} (h : Out sl σ σ') (d : ∀ i ∈ pn, i ∉ sl) : Pn pn σ σ' := fun i m => h.2 i (d i m)
theorem wipe_get (σ : L2.St) : ∀ (vs : List Nat) (i : Nat), (wipe σ vs)[i]? = if i ∈ vs then (σ[i]?).map (fun _ => none) else σ[i]?
  | [], i => by simp [wipe]
  | v :: vs, i => by
    unfold wipe
    by_cases h : v = i
    · subst h
      by_cases hl : v < (wipe σ vs).length
      · rw [List.getElem?_set_self hl]
        have : v < σ.length := by rw [wipe_length] at hl; exact hl
        simp [this]
      · rw [List.getElem?_eq_none (by simpa using hl)]
        have : σ.length ≤ v := by rw [wipe_length] at hl; omega
        simp [List.getElem?_eq_none this]
    · rw [List.getElem?_set_ne h, wipe_get σ vs i]
      simp [Ne.symm h]
theorem Out.wipe {sl vs : List Nat} {σ σ' : L2.St} (h : Out sl σ σ') (hs : ∀ i ∈ sl, i ∈ vs) : L2.wipe σ' vs = L2.wipe σ vs := by
  apply List.ext_getElem?
  intro i
  rw [wipe_get, wipe_get]
  by_cases m : i ∈ vs
  · rw [if_pos m, if_pos m]
    by_cases hl : i < σ.length
    · have h2 : i < σ'.length := by rw [h.1]; exact hl
      simp [hl, h2]
    · have h1 : σ.length ≤ i := by omega
      have h2 : σ'.length ≤ i := by rw [h.1]; exact h1
      simp [List.getElem?_eq_none h1, List.getElem?_eq_none h2]
  · rw [if_neg m, if_neg m]
    exact h.2 i fun z => m (hs i z)
def SndG (X : ι → Cx) (K : PySem.W.Frag) (sl : List Nat) (tg : Expr) (g : WG) : Prop := ∃ t : L2.TG, (∀ j, PG (X j) tg t) ∧
  (∀ (U0 : Addr → Prop) (G : T.Env) (σ : L2.St) (H : Hp) (Oo os : List Addr) (d : D) (v : V) (k : T.Env → Prop) (Q : L2.St → Hp → Prop), Rep K U0 G σ H Oo os → Vw K H (ug U0 (Oo ++ os)) d v → g d G k →
    (∀ G' σ' os', k G' → Rep K U0 G' σ' H Oo os' → (∀ a ∈ os', a ∈ os) → Out sl σ σ' → Q σ' H) → t v σ H Q) ∧
  (∀ (G : T.Env) (σ : L2.St) (H : Hp) (S : Addr → Prop) (d : D) (v : V) (k : T.Env → Prop) (Q : L2.St → Hp → Prop), VwG K H S G σ → Vw K H S d v → g d G k →
    (∀ G' σ', k G' → VwG K H S G' σ' → Out sl σ σ' → Q σ' H) → t v σ H Q)
def SndGs (X : ι → Cx) (K : PySem.W.Frag) (sl : List Nat) (tgs : List Expr) (g : WGs) : Prop := ∃ t : L2.TGs, (∀ j, PGs (X j) tgs t) ∧
  (∀ (U0 : Addr → Prop) (G : T.Env) (σ : L2.St) (H : Hp) (Oo os : List Addr) (ds : List D) (vs : List V) (k : T.Env → Prop) (Q : L2.St → Hp → Prop), Rep K U0 G σ H Oo os → VwL K H (ug U0 (Oo ++ os)) ds vs → g ds G k →
    (∀ G' σ' os', k G' → Rep K U0 G' σ' H Oo os' → (∀ a ∈ os', a ∈ os) → Out sl σ σ' → Q σ' H) → t vs σ H Q) ∧
  (∀ (G : T.Env) (σ : L2.St) (H : Hp) (S : Addr → Prop) (ds : List D) (vs : List V) (k : T.Env → Prop) (Q : L2.St → Hp → Prop), VwG K H S G σ → VwL K H S ds vs → g ds G k →
    (∀ G' σ', k G' → VwG K H S G' σ' → Out sl σ σ' → Q σ' H) → t vs σ H Q)
@[simp] def gNm (i : Nat) : WG := fun d G k => k (G.set i (some (frz d)))
theorem out_set {σ : L2.St} {i : Nat} {x : Option V} : Out [i] σ (σ.set i x) := ⟨by simp, fun j m => by rw [List.getElem?_set_ne]; rintro rfl; exact m (by simp)⟩
theorem ug_less {U0 : Addr → Prop} {l l' : List Addr} (h : ∀ a ∈ l', a ∈ l) : ∀ a, ug U0 l a → ug U0 l' a := ug_sub h
theorem g_name (i : Nat) {x : Str} {pos : Pos} (hN : ∀ j, (X j).N.Nodup) (hi : ∀ j, (X j).N[i]? = some x) (hx : ∀ j, Loc (X j).env.scope x) (hf : ∀ j, (X j).fn x = true ∨ (X j).env.scope.names.lookup x = some .local) : SndG X K [i] (.Name x pos) (gNm i) := by
  refine ⟨gName i, fun j => pg_name (hN j) (hi j) (hx j) (hf j), fun U0 G σ H Oo os d v k Q rep hv hk q => ?_, fun G σ H S d v k Q g hv hk q => ?_⟩
  · have r1 : Rp K H (ug U0 ((Oo ++ []) ++ os)) (frz d) v [] := by
      rw [List.append_nil]
      exact hv.rp fun a z => z
    have rep' : Rep K U0 G σ H (Oo ++ []) os := by rw [List.append_nil]; exact rep
    obtain ⟨os', r2, sub⟩ := rep'.set i r1
    exact q _ _ os' hk r2 (fun a m => by simpa using sub a m) out_set
  · have hl := g.len
    refine q _ _ hk ⟨by simpa using hl, fun j d' e => ?_⟩ out_set
    by_cases hji : i = j
    · subst hji
      by_cases hlt : i < G.length
      · rw [List.getElem?_set_self hlt] at e
        cases e
        refine ⟨v, ?_, hv.frz⟩
        rw [List.getElem?_set_self (by rw [← hl]; exact hlt)]
      · rw [List.getElem?_eq_none (by simpa using hlt)] at e
        cases e
    · rw [List.getElem?_set_ne hji] at e
      obtain ⟨u, h1, h2⟩ := g.at' j d' e
      exact ⟨u, by rw [List.getElem?_set_ne hji]; exact h1, h2⟩
@[simp] def gsNil : WGs := fun ds G k => ds = [] ∧ k G
@[simp] def gsCons (g : WG) (gs : WGs) : WGs := fun ds G k => match ds with | d :: r => g d G fun G' => gs r G' k | [] => False
theorem gs_nil : SndGs X K [] [] gsNil := by
  refine ⟨gNil, fun j => pgs_nil, fun U0 G σ H Oo os ds vs k Q rep hv hk q => ?_, fun G σ H S ds vs k Q g hv hk q => ?_⟩
  · obtain ⟨rfl, hk⟩ := hk
    cases hv
    exact ⟨rfl, q G σ os hk rep (fun a m => m) (Out.refl _ _)⟩
  · obtain ⟨rfl, hk⟩ := hk
    cases hv
    exact ⟨rfl, q G σ hk g (Out.refl _ _)⟩
theorem gs_cons {e : Expr} {es : List Expr} {s1 s2 : List Nat} {g : WG} {gs : WGs} (h : SndG X K s1 e g) (h' : SndGs X K s2 es gs) (mk : ∀ (t : L2.TG) (u : L2.TGs), (∀ j, PG (X j) e t) → (∀ j, PGs (X j) es u) → ∀ j, PGs (X j) (e :: es) (gCons t u)) : SndGs X K (s1 ++ s2) (e :: es) (gsCons g gs) := by
  obtain ⟨t, a1, a2, a3⟩ := h
  obtain ⟨u, b1, b2, b3⟩ := h'
  refine ⟨gCons t u, mk t u a1 b1, fun U0 G σ H Oo os ds vs k Q rep hv hk q => ?_, fun G σ H S ds vs k Q g hv hk q => ?_⟩
  · cases hv with
    | nil => exact hk.elim
    | @cons d v ds vs h1 h2 =>
      refine ⟨v, vs, rfl, ?_⟩
      refine a2 U0 G σ H Oo os d v _ _ rep h1 hk fun G' σ' os' hk' r' sub o1 => ?_
      have hsub : ∀ a ∈ Oo ++ os', a ∈ Oo ++ os := fun a m => (List.mem_append.mp m).elim (List.mem_append_left _) fun z => List.mem_append_right _ (sub a z)
      refine b2 U0 G' σ' H Oo os' ds vs _ _ r' (h2.same (Same.refl H) (ug_less hsub)) hk' fun G2 σ2 os2 hk2 r2 sub2 o2 => ?_
      exact q G2 σ2 os2 hk2 r2 (fun a m => sub a (sub2 a m)) (o1.trans o2)
  · cases hv with
    | nil => exact hk.elim
    | @cons d v ds vs h1 h2 =>
      refine ⟨v, vs, rfl, ?_⟩
      refine a3 G σ H S d v _ _ g h1 hk fun G' σ' hk' g' o1 => ?_
      refine b3 G' σ' H S ds vs _ _ g' h2 hk' fun G2 σ2 hk2 g2 o2 => ?_
      exact q G2 σ2 hk2 g2 (o1.trans o2)
@[simp] def gTp (n : Nat) (gs : WGs) : WG := fun d G k => match d with | .tup ds => ds.length = n ∧ gs ds G k | _ => False
theorem g_tup {es : List Expr} {kk : Nat} {sl : List Nat} {n : Nat} {gs : WGs} {pos : Pos} (hK : ∀ j, (X j).K = K) (h : SndGs X K sl es gs) (mk : ∀ (u : L2.TGs), (∀ j, PGs (X j) es u) → ∀ j, PG (X j) (.Tuple es kk pos) (gTup (X j).K n u)) : SndG X K sl (.Tuple es kk pos) (gTp n gs) := by
  obtain ⟨u, b1, b2, b3⟩ := h
  refine ⟨gTup K n u, fun j => by have z := mk u b1 j; rw [hK j] at z; exact z, fun U0 G σ H Oo os d v k Q rep hv hk q => ?_, fun G σ H S d v k Q g hv hk q => ?_⟩
  · cases hv with
    | tup sq hl => exact ⟨_, _, rfl, sq, by rw [← hl.length]; exact hk.1, b2 U0 G σ H Oo os _ _ _ _ rep hl hk.2 q⟩
    | _ => exact hk.elim
  · cases hv with
    | tup sq hl' => exact ⟨_, _, rfl, sq, by rw [← hl'.length]; exact hk.1, b3 G σ H S _ _ _ _ g hl' hk.2 q⟩
    | _ => exact hk.elim
/-- a, b = e -/
@[simp] def sUnp (g : WG) (w : WE) : WS := fun E G => w G (fun d G' => g d G' E.nx) E.ex
theorem s_unp {tg e : Expr} {sl : List Nat} {g : WG} {w : WE} {pos : Pos} (h : SndE X K W e w) (hg : SndG X K sl tg g) (mk : ∀ (t : TE) (u : L2.TG), (∀ j, PE (X j) e t) → (∀ j, PG (X j) tg u) → ∀ j, PS (X j) (.Assign [tg] e pos) (tAsg t u)) (hp : ∀ i ∈ pn, i ∉ sl := by decide) : SndS X K W pn (.Assign [tg] e pos) (sUnp g w) := by
  obtain ⟨t, h1, h2⟩ := h
  obtain ⟨u, g1, g2, _⟩ := hg
  refine ⟨tAsg t u, mk t u h1 g1, fun U0 G σ H Oo os E D rep w ok => ?_⟩
  refine h2 U0 G σ H Oo os _ _ _ rep w (fun d G' v H' o2 os1 p s r x => ?_) ok.ex.here
  have z := frozen r x
  have vz : Vw K H' (ug U0 (Oo ++ os1)) d v := by
    refine x.vw (fun a m => ⟨r.u0 a (List.mem_append_left _ (List.mem_append_right _ m)), fun q => ?_⟩) (ug_sub fun a m => (List.mem_append.mp m).elim (fun z => List.mem_append_left _ (List.mem_append_left _ z)) (List.mem_append_right _))
    have nd := r.own.1
    rw [List.append_assoc] at nd
    obtain ⟨_, h2, h3⟩ := List.nodup_append.mp nd
    rcases List.mem_append.mp q with z | z
    · exact h3 a z a (List.mem_append_left _ m) rfl
    · exact (List.nodup_append.mp h2).2.2 a m a z rfl
  refine g2 U0 G' σ H' Oo os1 d v _ _ r.less vz p fun G2 σ2 os2 hk r2 sub out => ?_
  exact ok.nx G2 σ2 H' os2 hk (s.sub fun a m => List.mem_append_right _ (sub a m)) r2 (out_pn out hp)
/-! ### what is walked -/
def Kp (S : Addr → Prop) (H0 H : Hp) : Prop := ∀ a o, H0 a = some o → (S a ∨ ¬ Mut (some o)) → H a = some o
def th (S : Addr → Prop) (H0 : Hp) : Addr → Prop := fun a => S a ∧ ∃ o, H0 a = some o
/-- the walk J gives the items xs as long as what stands stays -/
structure ItD (K : PySem.W.Frag) (S : Addr → Prop) (H0 : Hp) (J : It) (xs : List D) : Prop where
  go : ∀ (i : Nat) (H : Hp), Kp S H0 H → i < xs.length → J.go i H
  stop : ∀ (i : Nat) (H : Hp), Kp S H0 H → xs.length ≤ i → J.stop i H
  yld : ∀ (i : Nat) (H : Hp) (v : V) (H' : Hp) (d : D), Kp S H0 H → J.yld i H v H' → xs[i]? = some d → Same H H' ∧ Vw K H' (th S H0) d v
theorem vw_kp {S : Addr → Prop} {H0 H : Hp} (k : Kp S H0 H) {d : D} {v : V} (h : Vw K H0 S d v) : Vw K H (th S H0) d v := h.mono (fun a o e q => k a o e q) fun a s e => ⟨s, e⟩
theorem vwl_kp {S : Addr → Prop} {H0 H : Hp} (k : Kp S H0 H) {d : List D} {v : List V} (h : VwL K H0 S d v) : VwL K H (th S H0) d v := h.mono (fun a o e q => k a o e q) fun a s e => ⟨s, e⟩
theorem rd_fun {H : Hp} {a : Addr} {xs ys : List V} (h : Rd H a (.lst xs)) (h' : Rd H a (.lst ys)) : xs = ys := by
  rcases h with h | ⟨o, h⟩ <;> rcases h' with h' | ⟨o', h'⟩
  · rw [h] at h'
    cases h'
    rfl
  · rw [h] at h'
    cases h'
  · rw [h] at h'
    cases h'
  · rw [h] at h'
    cases h'
    rfl
theorem itD_list {S : Addr → Prop} {H0 : Hp} {a : Addr} {ds : List D} {vs : List V} (r : Rd H0 a (.lst vs)) (sa : S a) (h : VwL K H0 S ds vs) : ItD K S H0 (Itl K a) ds := by
  have at_ : ∀ {H : Hp}, Kp S H0 H → SqL K H a vs := fun k => .inl (rd_keep (fun o e => k a o e (.inl sa)) r)
  refine ⟨fun i H k hi => ?_, fun i H k hi => ⟨vs, at_ k, by rw [← h.length]; exact hi⟩, fun i H v H' d k y e => ?_⟩
  · have hl : i < vs.length := by rw [← h.length]; exact hi
    exact ⟨vs, vs[i], at_ k, List.getElem?_eq_getElem hl⟩
  · obtain ⟨rfl, y⟩ := y
    obtain ⟨u, h1, h2⟩ := h.get e
    have z := y vs (at_ k)
    rw [h1] at z
    cases z
    exact ⟨Same.refl _, vw_kp k h2⟩
theorem itD_tup {S : Addr → Prop} {H0 : Hp} {a : Addr} {ds : List D} {vs : List V} (r : SqT K H0 a vs) (h : VwL K H0 S ds vs) : ItD K S H0 (Itt K a) ds := by
  have at_ : ∀ {H : Hp}, Kp S H0 H → SqT K H a vs := fun k => sqt_keep (fun o e m => k a o e (.inr m)) r
  refine ⟨fun i H k hi => ?_, fun i H k hi => ⟨vs, at_ k, by rw [← h.length]; exact hi⟩, fun i H v H' d k y e => ?_⟩
  · have hl : i < vs.length := by rw [← h.length]; exact hi
    exact ⟨vs, vs[i], at_ k, List.getElem?_eq_getElem hl⟩
  · obtain ⟨rfl, y⟩ := y
    obtain ⟨u, h1, h2⟩ := h.get e
    have z := y vs (at_ k)
    rw [h1] at z
    cases z
    exact ⟨Same.refl _, vw_kp k h2⟩
def rangeD (lo : Int) (n : Nat) : List D := (List.range n).map fun (i : Nat) => .int (lo + i)
theorem rangeD_len (lo : Int) (n : Nat) : (rangeD lo n).length = n := by simp [rangeD]
theorem itD_range {S : Addr → Prop} {H0 : Hp} {lo : Int} {n : Nat} : ItD K S H0 (Itr lo n) (rangeD lo n) := by
  refine ⟨fun i H k hi => by rw [rangeD_len] at hi; exact hi, fun i H k hi => by rw [rangeD_len] at hi; exact hi, fun i H v H' d k y e => ?_⟩
  obtain ⟨rfl, rfl⟩ := y
  unfold rangeD at e
  rw [List.getElem?_map] at e
  have hi : i < n := by
    cases q : (List.range n)[i]? with
    | none => rw [q] at e; cases e
    | some z =>
      have := (List.getElem?_eq_some_iff.mp q).1
      simpa using this
  rw [List.getElem?_range hi] at e
  cases e
  exact ⟨Same.refl _, .int _⟩
def enumD (xs : List D) : List D := xs.mapIdx fun (i : Nat) d => .tup [.int i, d]
theorem enumD_get (xs : List D) (i : Nat) : (enumD xs)[i]? = (xs[i]?).map fun d => .tup [.int i, d] := by simp [enumD]
theorem itD_enum {S : Addr → Prop} {H0 : Hp} {a : Addr} {ds : List D} {vs : List V} (r : Rd H0 a (.lst vs)) (sa : S a) (h : VwL K H0 S ds vs) : ItD K S H0 (Ite K a) (enumD ds) := by
  have at_ : ∀ {H : Hp}, Kp S H0 H → SqL K H a vs := fun k => .inl (rd_keep (fun o e => k a o e (.inl sa)) r)
  refine ⟨fun i H k hi => ?_, fun i H k hi => ⟨vs, at_ k, by rw [← h.length]; simpa [enumD] using hi⟩, fun i H v H' d k y e => ?_⟩
  · have hl : i < vs.length := by rw [← h.length]; simpa [enumD] using hi
    exact ⟨vs, vs[i], at_ k, List.getElem?_eq_getElem hl⟩
  · obtain ⟨t, x, rfl, hn, rfl, y⟩ := y
    rw [enumD_get] at e
    cases q : ds[i]? with
    | none => rw [q] at e; cases e
    | some d0 =>
      rw [q] at e
      cases e
      obtain ⟨u, h1, h2⟩ := h.get q
      have z := y vs (at_ k)
      rw [h1] at z
      cases z
      exact ⟨same_new hn, .tup (.inl (.inl upd_same)) (.cons (.int _) (.cons ((vw_kp k h2).same (same_new hn) fun _ s => s) .nil))⟩
def zipD (xs ys : List D) : List D := (xs.zip ys).map fun p => .tup [p.1, p.2]
theorem itD_zip {S : Addr → Prop} {H0 : Hp} {a b : Addr} {ds es : List D} {vs us : List V} (r : Rd H0 a (.lst vs)) (sa : S a) (h : VwL K H0 S ds vs) (r' : Rd H0 b (.lst us)) (sb : S b) (h' : VwL K H0 S es us) : ItD K S H0 (Itz K a b) (zipD ds es) := by
  have at1 : ∀ {H : Hp}, Kp S H0 H → SqL K H a vs := fun k => .inl (rd_keep (fun o e => k a o e (.inl sa)) r)
  have at2 : ∀ {H : Hp}, Kp S H0 H → SqL K H b us := fun k => .inl (rd_keep (fun o e => k b o e (.inl sb)) r')
  have len : (zipD ds es).length = min vs.length us.length := by simp [zipD, h.length, h'.length]
  refine ⟨fun i H k hi => ?_, fun i H k hi => ?_, fun i H v H' d k y e => ?_⟩
  · rw [len] at hi
    have h1 : i < vs.length := by omega
    have h2 : i < us.length := by omega
    exact ⟨vs, us, vs[i], us[i], at1 k, at2 k, List.getElem?_eq_getElem h1, List.getElem?_eq_getElem h2⟩
  · rw [len] at hi
    refine ⟨vs, us, at1 k, at2 k, ?_⟩
    rcases Nat.le_total vs.length us.length with z | z
    · left; omega
    · right; omega
  · obtain ⟨t, x, y', rfl, hn, rfl, y1, y2⟩ := y
    unfold zipD at e
    rw [List.getElem?_map] at e
    cases q : (ds.zip es)[i]? with
    | none => rw [q] at e; cases e
    | some d0 =>
      rw [q] at e
      cases e
      obtain ⟨q1, q2⟩ := List.getElem?_zip_eq_some.mp q
      obtain ⟨u, h1, h2⟩ := h.get q1
      obtain ⟨u', h3, h4⟩ := h'.get q2
      have z := y1 vs (at1 k)
      have z' := y2 us (at2 k)
      rw [h1] at z
      rw [h3] at z'
      cases z
      cases z'
      exact ⟨same_new hn, .tup (.inl (.inl upd_same)) (.cons ((vw_kp k h2).same (same_new hn) fun _ s => s) (.cons ((vw_kp k h4).same (same_new hn) fun _ s => s) .nil))⟩
/-- a source, read alone -/
def SndI (X : ι → Cx) (K : PySem.W.Frag) (tg e : Expr) (r : WA) : Prop := ∃ t : TI, (∀ j, PI (X j) tg e t) ∧ ∀ (G : T.Env) (σ : L2.St) (H : Hp) (S : Addr → Prop) (P : List D → Prop) (R : It → Hp → Prop),
  VwG K H S G σ → r G P → (∀ xs J H', P xs → Same H H' → ItD K (gr S H) H' J xs → R J H') → t σ H R
/-- a source -/
def SndIE (X : ι → Cx) (K : PySem.W.Frag) (W : WX) (tg e : Expr) (w : WL) : Prop := ∃ t : TI, (∀ j, PI (X j) tg e t) ∧ ∀ (U0 : Addr → Prop) (G : T.Env) (σ : L2.St) (H : Hp) (Oo os : List Addr) (P : List D → T.Env → Prop) (PX : Nat → T.Env → Prop) (R : It → Hp → Prop),
  Rep K U0 G σ H Oo os → w G P PX → (∀ xs G' J H' os1, P xs G' → Stp H H' os os1 → Rep K U0 G' σ H' Oo os1 → ItD K (ug U0 (Oo ++ os1)) H' J xs → R J H') → OkX K U0 Oo σ H os PX W → t σ H R
@[simp] def lZ (js : List Nat) (r : WA) : WL := fun G P _ => r (keepAt js 0 G) fun xs => P xs (frzAt js 0 G)
theorem ItD.imp {S S' : Addr → Prop} {H0 : Hp} {J : It} {xs : List D} (h : ItD K S H0 J xs) (hs : ∀ a, S a → S' a) : ItD K S' H0 J xs := by
  have kp : ∀ {H : Hp}, Kp S' H0 H → Kp S H0 H := fun k a o e q => k a o e (q.imp (hs a) id)
  exact ⟨fun i H k => h.go i H (kp k), fun i H k => h.stop i H (kp k), fun i H v H' d k y e => let ⟨a, b⟩ := h.yld i H v H' d (kp k) y e; ⟨a, b.same (Same.refl _) fun c z => ⟨hs c z.1, z.2⟩⟩⟩
theorem ie_z (js : List Nat) {tg e : Expr} {r : WA} (h : SndI X K tg e r) : SndIE X K W tg e (lZ js r) := by
  obtain ⟨t, h1, h2⟩ := h
  refine ⟨t, h1, fun U0 G σ H Oo os P PX R rep w ok _ => ?_⟩
  obtain ⟨os', rep', sub, g⟩ := rep.freeze js
  refine h2 (keepAt js 0 G) σ H _ _ _ g w fun xs J H' p s it => ?_
  exact ok xs _ J H' os' p ((Stp.of_same s os).sub sub) (rep'.same s) (it.imp fun a z => rep'.grow (H' := H') z)
@[simp] def asLst (r : WR) : WA := fun G P => r G fun d => match d with | .lst _ xs => P xs | _ => False
@[simp] def asTup (r : WR) : WA := fun G P => r G fun d => match d with | .tup xs => P xs | _ => False
theorem i_list {tg e : Expr} {r : WR} (hK : ∀ j, (X j).K = K) (h : SndR X K e r) : SndI X K tg e (asLst r) := by
  obtain ⟨t, h1, h2⟩ := h
  refine ⟨iList K t, fun j => hK j ▸ pi_list (h1 j), fun G σ H S P R g w q => ?_⟩
  refine h2 G σ H S _ _ g w fun d v H' p s hv => ?_
  cases hv with
  | lst rd sa hl => exact ⟨_, rfl, ⟨_, .inl (Or.inl rd)⟩, q _ _ H' p s (itD_list (Or.inl rd) sa hl)⟩
  | _ => exact p.elim
theorem i_tup {tg e : Expr} {r : WR} (hK : ∀ j, (X j).K = K) (h : SndR X K e r) : SndI X K tg e (asTup r) := by
  obtain ⟨t, h1, h2⟩ := h
  refine ⟨iTup K t, fun j => hK j ▸ pi_tup (h1 j), fun G σ H S P R g w q => ?_⟩
  refine h2 G σ H S _ _ g w fun d v H' p s hv => ?_
  cases hv with
  | tup sq hl => exact ⟨_, rfl, ⟨_, sq⟩, q _ _ H' p s (itD_tup sq hl)⟩
  | _ => exact p.elim
/-- a list made on the way -/
@[simp] def lLst (w : WE) : WL := fun G P PX => w G (fun d G' => match d with | .lst _ xs => P (frzL xs) G' | _ => False) PX
theorem letgo1 {U0 : Addr → Prop} {G : T.Env} {σ : L2.St} {H : Hp} {Oo os o2 : List Addr} {d : D} {v : V} (r : Rep K U0 G σ H (Oo ++ o2) os) (h : Rp K H (ug U0 ((Oo ++ o2) ++ os)) d v o2) : Vw K H (ug U0 (Oo ++ os)) d v := by
  have z := letgo r (by simpa using RpL.cons h .nil : RpL K H (ug U0 ((Oo ++ o2) ++ os)) [d] [v] o2)
  cases z with
  | cons h _ => exact h
theorem ie_list {tg e : Expr} {w : WE} (hK : ∀ j, (X j).K = K) (h : SndE X K W e w) : SndIE X K W tg e (lLst w) := by
  obtain ⟨t, h1, h2⟩ := h
  refine ⟨iList K t, fun j => hK j ▸ pi_list (h1 j), fun U0 G σ H Oo os P PX R rep w ok okx => ?_⟩
  refine h2 U0 G σ H Oo os _ _ _ rep w (fun d G' v H' o2 os1 p s r x => ?_) okx
  have z := letgo1 r x
  cases z with
  | lst rd sa hl => exact ⟨_, rfl, ⟨_, .inl (Or.inl rd)⟩, ok _ G' _ H' os1 p (s.sub fun a m => List.mem_append_right _ m) r.less (itD_list (Or.inl rd) sa hl.frz)⟩
  | _ => exact p.elim
@[simp] def aRng1 (t : WA) : WA := fun G P => t G fun ds => match ds with | [.int j] => (-(2 ^ 62) ≤ j ∧ j < 2 ^ 62) ∧ P (rangeD 0 j.toNat) | _ => False
@[simp] def aRng2 (t : WA) : WA := fun G P => t G fun ds => match ds with | [.int i, .int j] => (-(2 ^ 62) ≤ i ∧ i < 2 ^ 62 ∧ -(2 ^ 62) ≤ j ∧ j < 2 ^ 62) ∧ P (rangeD i (j - i).toNat) | _ => False
theorem i_rng1 {tg a : Expr} {t : WA} {p pos : Pos} (hg : ∀ j, Gl (X j) "range") (hm : ∀ j, (X j).mg "range" = none) (h : SndA X K [a] t) (hs : ∀ j, starEach [a] (X j).env = [(false, eval a (X j).env)] := by intro _; rfl) : SndI X K tg (.Call (.Name "range" p) [a] [] pos) (aRng1 t) := by
  obtain ⟨u, h1, h2⟩ := h
  refine ⟨iRng1 u, fun j => pi_range1 (hg j) (hm j) (h1 j) (hs j), fun G σ H S P R g w q => ?_⟩
  refine h2 G σ H S _ _ g w fun ds vs H' p s hv => ?_
  split at p
  · cases hv with
    | cons h t =>
      cases t
      cases h
      exact ⟨_, rfl, p.1.1, p.1.2, q _ _ H' p.2 s itD_range⟩
  · exact p.elim
theorem i_rng2 {tg a b : Expr} {t : WA} {p pos : Pos} (hg : ∀ j, Gl (X j) "range") (hm : ∀ j, (X j).mg "range" = none) (h : SndA X K [a, b] t) (hs : ∀ j, starEach [a, b] (X j).env = [(false, eval a (X j).env), (false, eval b (X j).env)] := by intro _; rfl)
    (hs2 : ∀ j, starEach [b] (X j).env = [(false, eval b (X j).env)] := by intro _; rfl) (mk : ∀ u, (∀ j, PA (X j) [a, b] u) → ∀ j, PI (X j) tg (.Call (.Name "range" p) [a, b] [] pos) (iRng2 u)) : SndI X K tg (.Call (.Name "range" p) [a, b] [] pos) (aRng2 t) := by
  obtain ⟨u, h1, h2⟩ := h
  refine ⟨iRng2 u, mk u h1, fun G σ H S P R g w q => ?_⟩
  refine h2 G σ H S _ _ g w fun ds vs H' p s hv => ?_
  split at p
  · cases hv with
    | cons h t =>
      cases t with
      | cons h' t =>
        cases t
        cases h
        cases h'
        exact ⟨_, _, rfl, p.1, q _ _ H' p.2 s itD_range⟩
  · exact p.elim
/-- a range: nothing of it leans on the slots -/
@[simp] def lNo (r : WA) : WL := fun G P _ => r G fun xs => P xs G
theorem ie_rng {tg a : Expr} {t : WA} {p pos : Pos} (hg : ∀ j, Gl (X j) "range") (hm : ∀ j, (X j).mg "range" = none) (h : SndA X K [a] t) (hs : ∀ j, starEach [a] (X j).env = [(false, eval a (X j).env)] := by intro _; rfl) : SndIE X K W tg (.Call (.Name "range" p) [a] [] pos) (lNo (aRng1 t)) := by
  obtain ⟨u, h1, h2⟩ := h
  refine ⟨iRng1 u, fun j => pi_range1 (hg j) (hm j) (h1 j) (hs j), fun U0 G σ H Oo os P PX R rep w q _ => ?_⟩
  refine h2 G σ H _ _ _ rep.vw w fun ds vs H' p s hv => ?_
  split at p
  · cases hv with
    | cons h t =>
      cases t
      cases h
      exact ⟨_, rfl, p.1.1, p.1.2, q _ G _ H' os p.2 (Stp.of_same s os) (rep.same s) itD_range⟩
  · exact p.elim
theorem ie_rng2 {tg a b : Expr} {t : WA} {p pos : Pos} (h : SndA X K [a, b] t) (mk : ∀ u, (∀ j, PA (X j) [a, b] u) → ∀ j, PI (X j) tg (.Call (.Name "range" p) [a, b] [] pos) (iRng2 u)) : SndIE X K W tg (.Call (.Name "range" p) [a, b] [] pos) (lNo (aRng2 t)) := by
  obtain ⟨u, h1, h2⟩ := h
  refine ⟨iRng2 u, mk u h1, fun U0 G σ H Oo os P PX R rep w q _ => ?_⟩
  refine h2 G σ H _ _ _ rep.vw w fun ds vs H' p s hv => ?_
  split at p
  · cases hv with
    | cons h t =>
      cases t with
      | cons h' t =>
        cases t
        cases h
        cases h'
        exact ⟨_, _, rfl, p.1, q _ G _ H' os p.2 (Stp.of_same s os) (rep.same s) itD_range⟩
  · exact p.elim
/-- range of a number that is reckoned on the way -/
@[simp] def lRng1 (t : WL) : WL := fun G P PX => t G (fun ds G' => match ds with | [.int j] => (-(2 ^ 62) ≤ j ∧ j < 2 ^ 62) ∧ P (rangeD 0 j.toNat) G' | _ => False) PX
theorem ie_rngE {tg a : Expr} {t : WL} {p pos : Pos} (hg : ∀ j, Gl (X j) "range") (hm : ∀ j, (X j).mg "range" = none) (h : SndL X K W [a] t) (hs : ∀ j, starEach [a] (X j).env = [(false, eval a (X j).env)] := by intro _; rfl) : SndIE X K W tg (.Call (.Name "range" p) [a] [] pos) (lRng1 t) := by
  obtain ⟨u, h1, h2⟩ := h
  refine ⟨iRng1 u, fun j => pi_range1 (hg j) (hm j) (h1 j) (hs j), fun U0 G σ H Oo os P PX R rep w q okx => ?_⟩
  refine h2 U0 G σ H Oo os _ _ _ rep w (fun ds G' vs H' o2 os1 p s r x => ?_) okx
  have z := letgo r x
  split at p
  · cases z with
    | cons h t =>
      cases t
      cases h
      exact ⟨_, rfl, p.1.1, p.1.2, q _ G' _ H' os1 p.2 (s.sub fun a m => List.mem_append_right _ m) r.less itD_range⟩
  · exact p.elim
@[simp] def aEnum (t : WA) : WA := fun G P => t G fun ds => match ds with | [.lst _ xs] => P (enumD xs) | _ => False
theorem i_enum {elts : List Expr} {kk : Nat} {tpos : Pos} {a : Expr} {t : WA} {p pos : Pos} (hK : ∀ j, (X j).K = K) (hg : ∀ j, Gl (X j) "enumerate") (hm : ∀ j, (X j).mg "enumerate" = none) (h : SndA X K [a] t) (hs : ∀ j, starEach [a] (X j).env = [(false, eval a (X j).env)] := by intro _; rfl) :
    SndI X K (.Tuple elts kk tpos) (.Call (.Name "enumerate" p) [a] [] pos) (aEnum t) := by
  obtain ⟨u, h1, h2⟩ := h
  refine ⟨iEnum K u, fun j => hK j ▸ pi_enum (hg j) (hm j) (h1 j) (hs j), fun G σ H S P R g w q => ?_⟩
  refine h2 G σ H S _ _ g w fun ds vs H' p s hv => ?_
  split at p
  · cases hv with
    | cons h t =>
      cases t
      cases h with
      | lst rd sa hl => exact ⟨_, _, rfl, .inl (Or.inl rd), q _ _ H' p s (itD_enum (Or.inl rd) sa hl)⟩
  · exact p.elim
@[simp] def lEnum (t : WL) : WL := fun G P PX => t G (fun ds G' => match ds with | [.lst _ xs] => P (enumD (frzL xs)) G' | _ => False) PX
theorem ie_enum {elts : List Expr} {kk : Nat} {tpos : Pos} {a : Expr} {t : WL} {p pos : Pos} (hK : ∀ j, (X j).K = K) (hg : ∀ j, Gl (X j) "enumerate") (hm : ∀ j, (X j).mg "enumerate" = none) (h : SndL X K W [a] t) (hs : ∀ j, starEach [a] (X j).env = [(false, eval a (X j).env)] := by intro _; rfl) :
    SndIE X K W (.Tuple elts kk tpos) (.Call (.Name "enumerate" p) [a] [] pos) (lEnum t) := by
  obtain ⟨u, h1, h2⟩ := h
  refine ⟨iEnum K u, fun j => hK j ▸ pi_enum (hg j) (hm j) (h1 j) (hs j), fun U0 G σ H Oo os P PX R rep w q okx => ?_⟩
  refine h2 U0 G σ H Oo os _ _ _ rep w (fun ds G' vs H' o2 os1 p s r x => ?_) okx
  have z := letgo r x
  split at p
  · cases z with
    | cons h t =>
      cases t
      cases h with
      | lst rd sa hl => exact ⟨_, _, rfl, .inl (Or.inl rd), q _ G' _ H' os1 p (s.sub fun a m => List.mem_append_right _ m) r.less (itD_enum (Or.inl rd) sa hl.frz)⟩
  · exact p.elim
@[simp] def aZip (t : WA) : WA := fun G P => t G fun ds => match ds with | [.lst _ xs, .lst _ ys] => P (zipD xs ys) | _ => False
theorem i_zip {elts : List Expr} {kk : Nat} {tpos : Pos} {a b : Expr} {t : WA} {p pos : Pos} (hK : ∀ j, (X j).K = K) (hg : ∀ j, Gl (X j) "zip") (hm : ∀ j, (X j).mg "zip" = none) (h : SndA X K [a, b] t) (hs : ∀ j, starEach [a, b] (X j).env = (false, eval a (X j).env) :: starEach [b] (X j).env := by intro _; rfl)
    (hpl : ∀ j, (backTo pos (starEach [b] (X j).env)).any (·.1) = false := by intro _; rfl) : SndI X K (.Tuple elts kk tpos) (.Call (.Name "zip" p) [a, b] [] pos) (aZip t) := by
  obtain ⟨u, h1, h2⟩ := h
  refine ⟨iZip K u, fun j => hK j ▸ pi_zip (hg j) (hm j) (h1 j) (hs j) (hpl j), fun G σ H S P R g w q => ?_⟩
  refine h2 G σ H S _ _ g w fun ds vs H' p s hv => ?_
  split at p
  · cases hv with
    | cons h t =>
      cases t with
      | cons h' t =>
        cases t
        cases h with
        | lst rd sa hl =>
          cases h' with
          | lst rd' sa' hl' => exact ⟨_, _, _, _, rfl, .inl (Or.inl rd), .inl (Or.inl rd'), q _ _ H' p s (itD_zip (Or.inl rd) sa hl (Or.inl rd') sa' hl')⟩
  · exact p.elim
/-! ### loops -/
@[simp] def sLoop (g : WG) (b : WS) (E : En) : List D → T.Env → Prop
  | [], G => E.nx G
  | x :: xs, G => g x G fun G' => b { E with nx := sLoop g b E xs, ct := sLoop g b E xs, bk := E.nx } G'
@[simp] def sFor (src : WL) (g : WG) (b : WS) : WS := fun E G => src G (fun xs G' => sLoop g b E xs G') E.ex
theorem s_for {tg it : Expr} {body : List Stmt} {src : WL} {sl : List Nat} {g : WG} {b : WS} {pos : Pos} (hp : ∀ j, PassesOwn (model (X j).prog (X j).w) (X j).A (X j).env (X j).xe) (hc : ∀ j, (X j).calm = true) (hi : SndIE X K W tg it src) (hg : SndG X K sl tg g) (hb : SndSs X K W pn body b)
    (hpn : ∀ i ∈ pn, i ∉ sl := by decide) (hs : ∀ j x, foldedSetIterable it (X j).env x = pure x := by intro _ _; rfl) : SndS X K W pn (.For tg it body [] pos) (sFor src g b) := by
  obtain ⟨ti, i1, i2⟩ := hi
  obtain ⟨tg', g1, g2, _⟩ := hg
  obtain ⟨tb, b1, b2⟩ := hb
  refine ⟨tFor ti tg' tb, fun j => ps_for (hp j) (hc j) (i1 j) (g1 j) (b1 j) (hs j), fun U0 G σ H Oo os E D rep w ok => ?_⟩
  refine i2 U0 G σ H Oo os _ _ _ rep w (fun xs G1 J H1 os1 p s1 r1 it => ?_) ok.ex.here
  have kp : ∀ {H' : Hp} {os' : List Addr}, Stp H1 H' os1 os' → Kp (ug U0 (Oo ++ os1)) H1 H' := fun {H' os'} st a o e q => st.keep a o e fun m => by
    rcases q with q | q
    · exact q.2 (List.mem_append_right _ m)
    · obtain ⟨o', e', mu⟩ := r1.own.2 a (List.mem_append_right _ m)
      rw [e] at e'; cases e'
      exact q mu
  refine ⟨fun i m σ' H' => m = xs.length - i ∧ i ≤ xs.length ∧ ∃ G' os', Rep K U0 G' σ' H' Oo os' ∧ Stp H1 H' os1 os' ∧ Pn pn σ σ' ∧ sLoop g b E (xs.drop i) G', ⟨xs.length, by simp, Nat.zero_le _, G1, os1, r1, Stp.refl _ _, Pn.refl _ _, by simpa using p⟩, ?_⟩
  rintro i m σ' H' ⟨rfl, hi, G', os', r', st', pn', lp⟩
  by_cases hlt : i < xs.length
  · right
    have ed : xs.drop i = xs[i] :: xs.drop (i + 1) := List.drop_eq_getElem_cons hlt
    rw [ed] at lp
    simp only [sLoop] at lp
    refine ⟨it.go i H' (kp st') hlt, fun σ2 H2 => ∃ G2 os2, Rep K U0 G2 σ2 H2 Oo os2 ∧ Stp H1 H2 os1 os2 ∧ Pn pn σ σ2 ∧ sLoop g b E (xs.drop (i + 1)) G2, fun σ2 H2 ⟨G2, os2, a1, a2, a3, a4⟩ => ⟨xs.length - (i + 1), by omega, rfl, hlt, G2, os2, a1, a2, a3, a4⟩, fun v H2 y => ?_⟩
    obtain ⟨sm, hv⟩ := it.yld i H' v H2 xs[i] (kp st') y (List.getElem?_eq_getElem hlt)
    have r2 := r'.same sm
    have st2 : Stp H1 H2 os1 os' := st'.trans (Stp.of_same sm os')
    have hv2 : Vw K H2 (ug U0 (Oo ++ os')) xs[i] v := by
      refine hv.mono (fun a o e _ => e) fun a u _ => ⟨u.1.1, fun m => ?_⟩
      rcases List.mem_append.mp m with z | z
      · exact u.1.2 (List.mem_append_left _ z)
      · rcases st'.new a z with y' | y'
        · exact u.1.2 (List.mem_append_right _ y')
        · obtain ⟨o2, e2⟩ := u.2
          rw [y'] at e2
          cases e2
    refine g2 U0 G' σ' H2 Oo os' xs[i] v _ _ r2 hv2 lp fun G3 σ3 os3 lp3 r3 sub3 out3 => ?_
    have st3 : Stp H1 H2 os1 os3 := st2.sub sub3
    have pn3 : Pn pn σ σ3 := pn'.trans (out_pn out3 hpn)
    have okb := ok.step (s1.trans st3) pn3
    refine b2 U0 G3 σ3 H2 Oo os3 _ _ r3 lp3 ⟨fun G4 σ4 H4 os4 p4 s4 r4 n4 => ?_, okb.rt, ?_, fun G4 σ4 H4 os4 p4 s4 r4 n4 => ?_, okb.ex⟩
    · exact ⟨G4, os4, r4, st3.trans s4, pn3.trans n4, p4⟩
    · exact okb.nx
    · exact ⟨G4, os4, r4, st3.trans s4, pn3.trans n4, p4⟩
  · left
    have e : i = xs.length := by omega
    subst e
    rw [List.drop_length] at lp
    exact ⟨it.stop _ H' (kp st') (Nat.le_refl _), ok.nx G' σ' H' os' lp (s1.trans st') r' pn'⟩
end
end T
namespace T
open PySem PySem.Spec PyProof.Rows L2
/-- the blocks of a comprehension -/
structure BI (ι : Type) where
  j : ι
  s : Shared
  H : Hp
  C : Addr
  cl : List (Str × Addr)
  fp : List Addr
abbrev bkx {ι : Type} (X : ι → Cx) (scope : Scope) : BI ι → Cx := fun q => (X q.j).blk q.s q.H scope (compEnvC scope q.cl q.C (X q.j).env) q.fp
@[simp] def wipeE : T.Env → List Nat → T.Env
  | G, [] => G
  | G, v :: vs => (wipeE G vs).set v none
theorem wipeE_len (G : T.Env) : ∀ vs : List Nat, (wipeE G vs).length = G.length
  | [] => rfl
  | v :: vs => by unfold wipeE; rw [List.length_set, wipeE_len G vs]
theorem wipeE_get (G : T.Env) : ∀ (vs : List Nat) (i : Nat), (wipeE G vs)[i]? = if i ∈ vs then (G[i]?).map (fun _ => none) else G[i]?
  | [], i => by simp [wipeE]
  | v :: vs, i => by
    unfold wipeE
    by_cases h : v = i
    · subst h
      by_cases hl : v < (wipeE G vs).length
      · rw [List.getElem?_set_self hl]
        have : v < G.length := by rw [wipeE_len] at hl; exact hl
        simp [this]
      · rw [List.getElem?_eq_none (by simpa using hl)]
        have : G.length ≤ v := by rw [wipeE_len] at hl; omega
        simp [List.getElem?_eq_none this]
    · rw [List.getElem?_set_ne h, wipeE_get G vs i]
      simp [Ne.symm h]
section
variable {ι : Type} {X : ι → Cx} {K : PySem.W.Frag} {W : WX} {pn : List Nat}
theorem VwG.wipe {H : Hp} {S : Addr → Prop} {G : T.Env} {σ : L2.St} (g : VwG K H S G σ) (vs : List Nat) : VwG K H S (wipeE G vs) (wipe σ vs) := by
  refine ⟨by rw [wipeE_len, wipe_length]; exact g.len, fun i d e => ?_⟩
  rw [wipeE_get] at e
  by_cases m : i ∈ vs
  · rw [if_pos m] at e
    cases q : G[i]? with
    | none => rw [q] at e; cases e
    | some z => rw [q] at e; cases e
  · rw [if_neg m] at e
    obtain ⟨v, h1, h2⟩ := g.at' i d e
    exact ⟨v, by rw [wipe_get, if_neg m]; exact h1, h2⟩
/-! ### conditions of a comprehension -/
def SndTs (X : ι → Cx) (K : PySem.W.Frag) (ifs : List Expr) (r : WT) : Prop := ∃ t : TT, (∀ i, PTs (X i) ifs t) ∧ ∀ (G : T.Env) (σ : L2.St) (H : Hp) (S : Addr → Prop) (P : Bool → Prop) (Q : Bool → Hp → Prop),
  VwG K H S G σ → r G P → (∀ b H', P b → Same H H' → Q b H') → t σ H Q
@[simp] def tT : WT := fun _ P => P true
theorem ts_nil : SndTs X K [] tT := ⟨tYes, fun _ => pts_nil, fun G σ H S P Q g r q => q true H r (Same.refl H)⟩
theorem ts_one {e : Expr} {r : WT} (h : SndT X K e r) : SndTs X K [e] r := by
  obtain ⟨t, h1, h2⟩ := h
  exact ⟨t, fun j => pts_one (h1 j), h2⟩
def SndBs (X : ι → Cx) (K : PySem.W.Frag) (W : WX) (ifs : List Expr) (w : WB) : Prop := ∃ t : TT, (∀ i, PTs (X i) ifs t) ∧ ∀ (U0 : Addr → Prop) (G : T.Env) (σ : L2.St) (H : Hp) (Oo os : List Addr) (P : Bool → T.Env → Prop) (PX : Nat → T.Env → Prop) (Q : Bool → Hp → Prop),
  Rep K U0 G σ H Oo os → w G P PX → OkB K U0 Oo σ H os P Q → OkX K U0 Oo σ H os PX W → t σ H Q
@[simp] def bYes : WB := fun G P _ => P true G
theorem bs_nil : SndBs X K W [] bYes := ⟨tYes, fun _ => pts_nil, fun U0 G σ H Oo os P PX Q rep w ok _ => ok true G H os w (Stp.refl _ _) rep⟩
theorem bs_one {e : Expr} {w : WB} (h : SndB X K W e w) : SndBs X K W [e] w := by
  obtain ⟨t, h1, h2⟩ := h
  exact ⟨t, fun j => pts_one (h1 j), h2⟩
/-- the readings alone -/
def SemF (K : PySem.W.Frag) (t : TE) (r : WA) : Prop := ∀ (G : T.Env) (σ : L2.St) (H : Hp) (S : Addr → Prop) (P : List D → Prop) (Q : VK),
  VwG K H S G σ → r G P → (∀ ds vs p H', P ds → Same H H' → H' p = none → VwL K H' (gr S H) ds vs → Q (.ref p) (upd H' p (.lst vs))) → t σ H Q
def SemE (K : PySem.W.Frag) (W : WX) (t : TE) (w : WE) : Prop := ∀ (U0 : Addr → Prop) (G : T.Env) (σ : L2.St) (H : Hp) (Oo os : List Addr) (P : D → T.Env → Prop) (PX : Nat → T.Env → Prop) (Q : VK),
  Rep K U0 G σ H Oo os → w G P PX → OkE K U0 Oo σ H os P Q → OkX K U0 Oo σ H os PX W → t σ H Q
theorem semE_f {t : TE} {r : WA} (h2 : SemF K t r) : SemE K W t (eF r) := fun U0 G σ H Oo os P PX Q rep w ok _ => by
  refine h2 G σ H _ _ _ rep.vw w fun ds vs p H' hp s hn hv => ?_
  obtain ⟨r1, r2, r3⟩ := (rep.same s).fresh hn (hv.flat (S' := ug U0 (Oo ++ os)) hp.1)
  rw [frzL_flat ds hp.1] at r2
  exact ok _ G _ _ [p] os hp.2 ((Stp.of_same s os).trans r3) r1 r2
theorem semE_fz (js : List Nat) {t : TE} {r : WA} (h2 : SemF K t r) : SemE K W t (eFZ js r) := fun U0 G σ H Oo os P PX Q rep w ok _ => by
  obtain ⟨os', rep', sub, g⟩ := rep.freeze js
  refine h2 (keepAt js 0 G) σ H _ _ _ g w fun ds vs p H' hp s hn hv => ?_
  obtain ⟨r1, r2, r3⟩ := (rep'.same s).fresh hn (hv.mono (S' := ug U0 (Oo ++ os')) (fun a o q _ => q) fun a q ⟨o, e⟩ => by
    rcases q with q | q
    · exact q
    · exact ⟨rep'.un a q, rep'.own.none q⟩)
  exact ok _ _ _ _ [p] os' hp (((Stp.of_same s os).sub sub).trans r3) r1 r2
/-- the parts of a comprehension -/
def CompP (X : ι → Cx) (tg it elt : Expr) (ifs : List Expr) (scope : Scope) (vs : List Nat) (Sem : TE → Prop) : Prop := ∃ (ti : TI) (tg' : L2.TG) (tt : TT) (te : TE), (∀ j, PI (X j) tg it ti) ∧ (∀ q, PG (bkx X scope q) tg tg') ∧ (∀ q, PTs (bkx X scope q) ifs tt) ∧ (∀ q, PE (bkx X scope q) elt te) ∧ Sem (tLc ti tg' tt te vs)
theorem CompP.imp {tg it elt : Expr} {ifs : List Expr} {scope : Scope} {vs : List Nat} {A B : TE → Prop} (h : CompP X tg it elt ifs scope vs A) (f : ∀ t, A t → B t) : CompP X tg it elt ifs scope vs B := by
  obtain ⟨a, b, c, d, h1, h2, h3, h4, h5⟩ := h
  exact ⟨a, b, c, d, h1, h2, h3, h4, f _ h5⟩
theorem CompP.pe {own : List (Str × Nat)} {tg it elt : Expr} {ifs : List Expr} {scope : Scope} {pos : Pos} {A : TE → Prop} (h : CompP X tg it elt ifs scope (own.map (·.2)) A) (hc : ∀ j, (X j).calm = true) (hN : ∀ j, (X j).N.Nodup) (ok : ∀ j, BlkOk (X j).N (X j).env.scope scope own)
    (hs : ∀ j x, foldedSetIterable it (X j).env x = pure x) : ∃ t, (∀ j, PE (X j) (.ListComp elt [⟨tg, it, ifs, 0⟩] scope pos) t) ∧ A t := by
  obtain ⟨a, b, c, d, h1, h2, h3, h4, h5⟩ := h
  exact ⟨_, fun j => pe_lc (hc j) (hN j) (h1 j) (ok j) (fun s H C cl fp => h2 ⟨j, s, H, C, cl, fp⟩) (fun s H C cl fp => h3 ⟨j, s, H, C, cl, fp⟩) (fun s H C cl fp => h4 ⟨j, s, H, C, cl, fp⟩) (hs j), h5⟩
/-- y = [..], y a local -/
theorem s_setLc (i : Nat) {y : Str} {py spos pos : Pos} {own : List (Str × Nat)} {tg it elt : Expr} {ifs : List Expr} {scope : Scope} {w : WE} (h : CompP X tg it elt ifs scope (own.map (·.2)) (fun t => SemE K W t w)) (hc : ∀ j, (X j).calm = true) (hN : ∀ j, (X j).N.Nodup) (ok : ∀ j, BlkOk (X j).N (X j).env.scope scope own)
    (hy : ∀ j, (X j).N[i]? = some y) (hyl : ∀ j, (X j).env.scope.names.lookup y = some .local) (hsw : ∀ j, swapsWith (.ListComp elt [⟨tg, it, ifs, 0⟩] scope pos) (some (.Name y py)) spos.line (X j).env = pure true) (hi : i ∉ pn := by decide) (hs : ∀ j x, foldedSetIterable it (X j).env x = pure x := by intro _ _; rfl) :
    SndS X K W pn (.Assign [.Name y py] (.ListComp elt [⟨tg, it, ifs, 0⟩] scope pos) spos) (sSet i w) := by
  obtain ⟨a, b, c, d, h1, h2, h3, h4, h5⟩ := h
  refine ⟨_, fun j => ps_setLc (hc j) (hN j) (hy j) (hyl j) (hsw j) (h1 j) (ok j) (fun s H C cl fp => h2 ⟨j, s, H, C, cl, fp⟩) (fun s H C cl fp => h3 ⟨j, s, H, C, cl, fp⟩) (fun s H C cl fp => h4 ⟨j, s, H, C, cl, fp⟩) (hs j), fun U0 G σ H Oo os E De rep wv okq => ?_⟩
  refine h5 U0 G σ H Oo os _ _ _ rep wv (fun d G' v H' o2 os1 p s r x => ?_) okq.ex.here
  obtain ⟨os', r', sub⟩ := r.set i x
  exact okq.nx _ _ H' os' p (s.sub sub) r' (Pn.set hi)
/-! ### a comprehension, read alone -/
@[simp] def compR (g : WG) (c : WT) (r : WR) (G : T.Env) : List D → (List D → Prop) → Prop
  | [], P => P []
  | x :: xs, P => g x G fun G1 => c G1 fun b => if b = true then r G1 fun d => compR g c r G xs (fun ds => P (d :: ds)) else compR g c r G xs P
@[simp] def aComp (src : WA) (g : WG) (c : WT) (r : WR) (vs : List Nat) : WA := fun G P => src G fun xs => xs.length ≤ 100000 ∧ compR g c r (wipeE G vs) xs P
theorem comp_read {own : List (Str × Nat)} {tg it elt : Expr} {ifs : List Expr} {scope : Scope} {src : WA} {sl : List Nat} {g : WG} {c : WT} {r : WR} (hi : SndI X K tg it src)
    (hg : SndG (bkx X scope) K sl tg g) (ht : SndTs (bkx X scope) K ifs c) (he : SndR (bkx X scope) K elt r) (hsl : ∀ i ∈ sl, i ∈ own.map (·.2) := by decide) :
    CompP X tg it elt ifs scope (own.map (·.2)) (fun t => SemF K t (aComp src g c r (own.map (·.2)))) := by
  obtain ⟨ti, i1, i2⟩ := hi
  obtain ⟨tg', g1, _, g3⟩ := hg
  obtain ⟨tt, t1, t2⟩ := ht
  obtain ⟨te, e1, e2⟩ := he
  refine ⟨ti, tg', tt, te, i1, g1, t1, e1, fun G0 σ H S P Q vg0 w q => ?_⟩
  refine i2 G0 σ H S _ _ vg0 w fun xs J H1 p s1 it => ?_
  obtain ⟨hl, p⟩ := p
  intro D hD
  have hD0 : H D = none := s1.free hD
  have hE : ∀ a, gr S H a ∧ a ≠ D → gr S H a := fun a z => z.1
  -- slots of both of one length
  obtain ⟨G, vg, p⟩ : ∃ G : T.Env, VwG K H S G (wipe σ (own.map (·.2))) ∧ compR g c r G xs P := ⟨_, vg0.wipe _, p⟩
  have vgA : ∀ {Hc : Hp}, Same H1 Hc → VwG K Hc (fun a => gr S H a ∧ a ≠ D) G (wipe σ (own.map (·.2))) := fun {Hc} sm => ⟨vg.len, fun i d e => by
    obtain ⟨v, h1, h2⟩ := vg.at' i d e
    exact ⟨v, h1, h2.mono (fun a o e _ => sm a o (s1 a o e)) fun a z ⟨o, e⟩ => ⟨.inl z, ne_of_none e hD0⟩⟩⟩
  have sm0 : Same H1 (upd H1 D (.lst [])) := same_new hD
  refine ⟨fun i m Hc => m = xs.length - i ∧ i ≤ xs.length ∧ ∃ acc accD, Same H1 Hc ∧ Hc D = some (.lst acc) ∧ acc.length ≤ i ∧ VwL K Hc (fun a => gr S H a ∧ a ≠ D) accD acc ∧ compR g c r G (xs.drop i) (fun ds => P (accD ++ ds)), ⟨xs.length, by simp, Nat.zero_le _, [], [], sm0, upd_same, Nat.le_refl _, .nil, by simpa using p⟩, ?_⟩
  rintro i m Hc ⟨rfl, hi, acc, accD, sm, hDc, hal, hv, cp⟩
  have kp : ∀ {Hc : Hp}, Same H1 Hc → Kp (gr S H) H1 Hc := fun sm a o e _ => sm a o e
  by_cases hlt : i < xs.length
  · right
    have ed : xs.drop i = xs[i] :: xs.drop (i + 1) := List.drop_eq_getElem_cons hlt
    rw [ed] at cp
    simp only [compR] at cp
    refine ⟨it.go i Hc (kp sm) hlt, fun Hc' => ∃ acc accD, Same H1 Hc' ∧ Hc' D = some (.lst acc) ∧ acc.length ≤ i + 1 ∧ VwL K Hc' (fun a => gr S H a ∧ a ≠ D) accD acc ∧ compR g c r G (xs.drop (i + 1)) (fun ds => P (accD ++ ds)), fun Hc' h => ⟨xs.length - (i + 1), by omega, rfl, hlt, h⟩, fun v H2 y => ?_⟩
    obtain ⟨sm2, hx⟩ := it.yld i Hc v H2 xs[i] (kp sm) y (List.getElem?_eq_getElem hlt)
    have hx' : Vw K H2 (fun a => gr S H a ∧ a ≠ D) xs[i] v := hx.same (Same.refl _) fun a z => ⟨z.1, fun e => by
      obtain ⟨o, q⟩ := z.2
      rw [e, hD] at q
      cases q⟩
    refine g3 G _ H2 _ _ v _ _ (vgA (sm.trans sm2)) hx' cp fun G1 σ1 cp1 vg1 out => ⟨out.wipe hsl |>.trans ?_, ?_⟩
    · -- wiped twice
      apply List.ext_getElem?
      intro k
      rw [wipe_get, wipe_get]
      by_cases m : k ∈ own.map (·.2)
      · rw [if_pos m, if_pos m]
        cases σ[k]? <;> rfl
      · rw [if_neg m, if_neg m]
    · refine t2 G1 σ1 H2 _ _ _ vg1 cp1 fun b H3 cp3 sm3 => ?_
      have s13 : Same H1 H3 := (sm.trans sm2).trans sm3
      cases b with
      | false =>
        show ∃ acc accD, _
        rw [if_neg Bool.false_ne_true] at cp3
        exact ⟨acc, accD, s13, sm3 _ _ (sm2 _ _ hDc), by omega, hv.same (sm2.trans sm3) fun _ z => z, cp3⟩
      | true =>
        rw [if_pos rfl]
        rw [if_pos rfl] at cp3
        refine e2 G1 σ1 H3 _ _ _ (vg1.same sm3 fun _ z => z) cp3 fun d y H4 cp4 sm4 hd => ?_
        have hD4 : H4 D = some (.lst acc) := sm4 _ _ (sm3 _ _ (sm2 _ _ hDc))
        have S4 : ∀ a, gr (fun a => gr S H a ∧ a ≠ D) H3 a → gr S H a ∧ a ≠ D := fun a z => by
          rcases z with z | z
          · exact z
          · refine ⟨.inr (s1.free (s13.free z)), fun e => ?_⟩
            rw [e, sm3 _ _ (sm2 _ _ hDc)] at z
            cases z
        have up : ∀ a o, H4 a = some o → ((gr S H a ∧ a ≠ D) ∨ ¬ Mut (some o)) → (upd H4 D (.lst (acc ++ [y]))) a = some o := fun a o e h => by
          have ne : a ≠ D := by
            rcases h with h | h
            · exact h.2
            · rintro rfl
              rw [hD4] at e
              cases e
              exact h trivial
          rw [upd_ne ne]
          exact e
        refine ⟨acc, hD4, small_lt (by omega), acc ++ [y], accD ++ [d], fun a o e => ?_, upd_same, by simp; omega, ?_, ?_⟩
        · rw [upd_ne (ne_of_none e hD)]
          exact sm4 a o (s13 a o e)
        · exact VwL.append ((hv.same ((sm2.trans sm3).trans sm4) fun _ z => z).mono up fun a z _ => z) (.cons ((hd.same (Same.refl _) S4).mono up fun a z _ => z) .nil)
        · have e : (fun ds => P (accD ++ (d :: ds))) = fun ds => P (accD ++ [d] ++ ds) := by
            funext ds
            simp
          rw [← e]
          exact cp4
  · left
    have e : i = xs.length := by omega
    subst e
    rw [List.drop_length] at cp
    simp only [compR, List.append_nil] at cp
    refine ⟨it.stop _ Hc (kp sm) (Nat.le_refl _), ?_⟩
    -- the new list taken off
    have eH : upd (fun b => if b = D then none else Hc b) D (.lst acc) = Hc := by
      funext b
      unfold upd
      by_cases hb : b = D
      · subst hb
        rw [if_pos rfl]
        exact hDc.symm
      · rw [if_neg hb]
        show (if b = D then none else Hc b) = Hc b
        rw [if_neg hb]
    rw [← eH]
    refine q accD acc D _ cp (fun a o e => ?_) (if_pos rfl) (hv.mono (fun a o e h => ?_) fun a z _ => z.1)
    · have ne : a ≠ D := ne_of_none e hD0
      show (if a = D then none else Hc a) = _
      rw [if_neg ne]
      exact sm a o (s1 a o e)
    · have ne : a ≠ D := by
        rcases h with h | h
        · exact h.2
        · rintro rfl
          rw [hDc] at e
          cases e
          exact h trivial
      show (if a = D then none else Hc a) = _
      rw [if_neg ne]
      exact e
theorem f_comp {own : List (Str × Nat)} {tg it elt : Expr} {ifs : List Expr} {scope : Scope} {pos : Pos} {r : WA} (h : CompP X tg it elt ifs scope (own.map (·.2)) (fun t => SemF K t r)) (hc : ∀ j, (X j).calm = true) (hN : ∀ j, (X j).N.Nodup) (ok : ∀ j, BlkOk (X j).N (X j).env.scope scope own)
    (hs : ∀ j x, foldedSetIterable it (X j).env x = pure x := by intro _ _; rfl) : SndF X K (.ListComp elt [⟨tg, it, ifs, 0⟩] scope pos) r := h.pe hc hN ok hs
theorem e_compP {own : List (Str × Nat)} {tg it elt : Expr} {ifs : List Expr} {scope : Scope} {pos : Pos} {w : WE} (h : CompP X tg it elt ifs scope (own.map (·.2)) (fun t => SemE K W t w)) (hc : ∀ j, (X j).calm = true) (hN : ∀ j, (X j).N.Nodup) (ok : ∀ j, BlkOk (X j).N (X j).env.scope scope own)
    (hs : ∀ j x, foldedSetIterable it (X j).env x = pure x := by intro _ _; rfl) : SndE X K W (.ListComp elt [⟨tg, it, ifs, 0⟩] scope pos) w := h.pe hc hN ok hs
end
end T
namespace T
open PySem PySem.Spec PyProof.Rows L2
section
variable {ι : Type} {X : ι → Cx} {K : PySem.W.Frag} {W : WX} {pn : List Nat}
/-! ### a comprehension whose items may change the slots -/
theorem RpG.set_none {H : Hp} {U : Addr → Prop} {G : T.Env} {σ : L2.St} {os : List Addr} (g : RpG K H U G σ os) (i : Nat) (x : Option V) (h : G[i]? = some none ∨ G[i]? = none) : RpG K H U G (σ.set i x) os := by
  induction g generalizing i with
  | nil => exact .nil
  | skip y t ih =>
    cases i with
    | zero => exact .skip x t
    | succ i => exact .skip y (ih i (by simpa using h))
  | cons r t ih =>
    cases i with
    | zero => simp at h
    | succ i => exact .cons r (ih i (by simpa using h))
theorem RpG.wipe {H : Hp} {U : Addr → Prop} {G : T.Env} {σ : L2.St} : ∀ (vs : List Nat) {os : List Addr}, RpG K H U G σ os → ∃ o1 o2, RpG K H U (wipeE G vs) (wipe σ vs) o2 ∧ os.Perm (o1 ++ o2)
  | [], os, g => ⟨[], os, g, List.Perm.refl _⟩
  | v :: vs, os, g => by
    obtain ⟨o1, o2, h1, h2⟩ := RpG.wipe vs g
    obtain ⟨p1, p2, h3, h4⟩ := h1.drop v
    refine ⟨o1 ++ p1, p2, h3.set_none v none ?_, ?_⟩
    · by_cases hl : v < (wipeE G vs).length
      · left
        exact RpG.none_at hl
      · right
        exact List.getElem?_eq_none (by simpa using hl)
    · rw [List.append_assoc]
      exact h2.trans (List.Perm.append_left o1 h4)
theorem RpG.unwipe {H : Hp} {U : Addr → Prop} {G : T.Env} {σ τ : L2.St} {os : List Addr} (g : RpG K H U G τ os) (hl : σ.length = τ.length) (h : ∀ i : Nat, (∃ d, G[i]? = some (some d)) → σ[i]? = τ[i]?) : RpG K H U G σ os := by
  induction g generalizing σ with
  | nil =>
    cases σ with
    | nil => exact .nil
    | cons _ _ => simp at hl
  | skip y t ih =>
    cases σ with
    | nil => simp at hl
    | cons x σ => exact .skip x (ih (by simpa using hl) fun i q => by simpa using h (i + 1) (by simpa using q))
  | cons r t ih =>
    cases σ with
    | nil => simp at hl
    | cons x σ =>
      have e := h 0 ⟨_, rfl⟩
      simp only [List.getElem?_cons_zero, Option.some.injEq] at e
      subst e
      exact .cons r (ih (by simpa using hl) fun i q => by simpa using h (i + 1) (by simpa using q))
theorem Rep.part {U0 : Addr → Prop} {G G' : T.Env} {σ σ' : L2.St} {H : Hp} {Oo os o1 o2 : List Addr} (r : Rep K U0 G σ H Oo os) (g : ∀ U, RpG K H U G σ os → RpG K H U G' σ' o2) (pm : os.Perm (o1 ++ o2)) : Rep K U0 G' σ' H Oo o2 := by
  have hs : ∀ a ∈ Oo ++ o2, a ∈ Oo ++ os := fun a m => by
    rcases List.mem_append.mp m with z | z
    · exact List.mem_append_left _ z
    · exact List.mem_append_right _ (pm.mem_iff.mpr (List.mem_append_right _ z))
  obtain ⟨n1, n2, n3⟩ := List.nodup_append.mp r.own.1
  obtain ⟨_, m2, _⟩ := List.nodup_append.mp (pm.nodup_iff.mp n2)
  exact ⟨(g _ r.g).mono (os0 := o2) (fun a o e _ => e) (fun a u _ => ug_sub hs a u) fun a m => m, ⟨List.nodup_append.mpr ⟨n1, m2, fun a m b m' => n3 a m b (pm.mem_iff.mpr (List.mem_append_right _ m'))⟩, fun a m => r.own.2 a (hs a m)⟩, fun a m => r.u0 a (hs a m), r.un⟩
theorem Rep.wipe (vs : List Nat) {U0 : Addr → Prop} {G : T.Env} {σ : L2.St} {H : Hp} {Oo os : List Addr} (r : Rep K U0 G σ H Oo os) : ∃ os', Rep K U0 (wipeE G vs) (L2.wipe σ vs) H Oo os' ∧ ∀ a ∈ os', a ∈ os := by
  obtain ⟨o1, o2, h1, pm⟩ := r.g.wipe vs
  have hs : ∀ a ∈ Oo ++ o2, a ∈ Oo ++ os := fun a m => by
    rcases List.mem_append.mp m with z | z
    · exact List.mem_append_left _ z
    · exact List.mem_append_right _ (pm.mem_iff.mpr (List.mem_append_right _ z))
  obtain ⟨n1, n2, n3⟩ := List.nodup_append.mp r.own.1
  obtain ⟨_, m2, _⟩ := List.nodup_append.mp (pm.nodup_iff.mp n2)
  exact ⟨o2, ⟨h1.mono (os0 := o2) (fun a o e _ => e) (fun a u _ => ug_sub hs a u) fun a m => m, ⟨List.nodup_append.mpr ⟨n1, m2, fun a m b m' => n3 a m b (pm.mem_iff.mpr (List.mem_append_right _ m'))⟩, fun a m => r.own.2 a (hs a m)⟩, fun a m => r.u0 a (hs a m), r.un⟩, fun a m => pm.mem_iff.mpr (List.mem_append_right _ m)⟩
theorem Rep.unwipe {vs : List Nat} {U0 : Addr → Prop} {G : T.Env} {σ τ : L2.St} {H : Hp} {Oo os : List Addr} (r : Rep K U0 (wipeE G vs) τ H Oo os) (hw : L2.wipe σ vs = L2.wipe τ vs) (hl : σ.length = τ.length) : Rep K U0 (wipeE G vs) σ H Oo os := by
  refine ⟨r.g.unwipe hl fun i ⟨d, e⟩ => ?_, r.own, r.u0, r.un⟩
  rw [wipeE_get] at e
  by_cases m : i ∈ vs
  · rw [if_pos m] at e
    cases q : G[i]? with
    | none => rw [q] at e; cases e
    | some z => rw [q] at e; cases e
  · have z := congrArg (fun (l : L2.St) => l[i]?) hw
    simp only [wipe_get, if_neg m] at z
    exact z
def compE (g : WG) (c : WB) (w : WE) (vs : List Nat) : List D → T.Env → (List D → T.Env → Prop) → Prop
  | [], G, P => P [] G
  | x :: xs, G, P => g x G fun G1 => c G1 (fun b G2 => if b = true then w G2 (fun d G3 => compE g c w vs xs (wipeE G3 vs) fun ds G4 => P (d :: ds) G4) (fun _ _ => False) else compE g c w vs xs (wipeE G2 vs) P) (fun _ _ => False)
@[simp] def eComp (src : WL) (g : WG) (c : WB) (w : WE) (vs : List Nat) : WE := fun G P PX => src G (fun xs G1 => xs.length ≤ 100000 ∧ compE g c w vs xs (wipeE G1 vs) fun ds G2 => P (.lst true ds) G2) PX
abbrev never : WX := fun _ _ _ _ => False
theorem app_own {H : Hp} {D : Addr} {acc : List V} {y : V} : Stp H (upd H D (.lst (acc ++ [y]))) [D] [D] :=
  ⟨fun a o e n => by rw [upd_ne (by simpa using n)]; exact e, fun a m => .inl m, fun a o e => by
    by_cases h : a = D
    · subst h; exact ⟨_, upd_same⟩
    · exact ⟨o, by rw [upd_ne h]; exact e⟩⟩
theorem comp_eff {own : List (Str × Nat)} {tg it elt : Expr} {ifs : List Expr} {scope : Scope} {src : WL} {sl : List Nat} {g : WG} {c : WB} {w : WE} (hi : SndIE X K W tg it src)
    (hg : SndG (bkx X scope) K sl tg g) (ht : SndBs (bkx X scope) K never ifs c) (he : SndE (bkx X scope) K never elt w) (hsl : ∀ i ∈ sl, i ∈ own.map (·.2) := by decide) :
    CompP X tg it elt ifs scope (own.map (·.2)) (fun t => SemE K W t (eComp src g c w (own.map (·.2)))) := by
  obtain ⟨ti, i1, i2⟩ := hi
  obtain ⟨tg', g1, g2, _⟩ := hg
  obtain ⟨tt, t1, t2⟩ := ht
  obtain ⟨te, e1, e2⟩ := he
  refine ⟨ti, tg', tt, te, i1, g1, t1, e1, fun U0 G σ H Oo os P PX Q rep wv okq okx => ?_⟩
  refine i2 U0 G σ H Oo os _ _ _ rep wv (fun xs G1 J H1 os1 p s1 r1 it => ?_) okx
  obtain ⟨hl, p⟩ := p
  intro D hD
  obtain ⟨os2, r2, sub2⟩ := r1.wipe (own.map (·.2))
  obtain ⟨r3, x3, s3⟩ := r2.fresh (ds := []) (vs := []) hD .nil
  have s13 : Stp H1 (upd H1 D (.lst [])) os1 ([D] ++ os1) := by
    refine ⟨fun a o e _ => by rw [upd_ne (ne_of_none e hD)]; exact e, fun a m => ?_, fun a o e => ⟨o, by rw [upd_ne (ne_of_none e hD)]; exact e⟩⟩
    rcases List.mem_append.mp m with z | z
    · right
      have q : a = D := by simpa using z
      rw [q]
      exact hD
    · exact .inl z
  have kp : ∀ {Hc : Hp} {l : List Addr}, Stp H1 Hc os1 l → Kp (ug U0 (Oo ++ os1)) H1 Hc := fun {Hc l} st a o e q => st.keep a o e fun m => by
    rcases q with q | q
    · exact q.2 (List.mem_append_right _ m)
    · obtain ⟨o', e', mu⟩ := r1.own.2 a (List.mem_append_right _ m)
      rw [e] at e'; cases e'
      exact q mu
  have wl : (wipe σ (own.map (·.2))).length = σ.length := wipe_length _ _
  refine ⟨fun i m Hc => m = xs.length - i ∧ i ≤ xs.length ∧ ∃ acc accD oa Gc osc, Stp H1 Hc os1 ((D :: oa) ++ osc) ∧ Rep K U0 (wipeE Gc (own.map (·.2))) (wipe σ (own.map (·.2))) Hc (Oo ++ (D :: oa)) osc ∧ Hc D = some (.lst acc) ∧ acc.length ≤ i ∧ RpL K Hc (ug U0 ((Oo ++ (D :: oa)) ++ osc)) accD acc oa ∧ compE g c w (own.map (·.2)) (xs.drop i) (wipeE Gc (own.map (·.2))) (fun ds G' => P (.lst true (accD ++ ds)) G'),
    ⟨xs.length, by simp, Nat.zero_le _, [], [], [], G1, os2, (s13.sub fun a m => ?_), r3, upd_same, Nat.le_refl _, .nil, by simpa using p⟩, ?_⟩
  · rcases List.mem_append.mp m with z | z
    · exact List.mem_append_left _ z
    · exact List.mem_append_right _ (sub2 a z)
  rintro i m Hc ⟨rfl, hi, acc, accD, oa, Gc, osc, st, r, hDc, hal, ra, cp⟩
  by_cases hlt : i < xs.length
  · right
    have ed : xs.drop i = xs[i] :: xs.drop (i + 1) := List.drop_eq_getElem_cons hlt
    rw [ed] at cp
    simp only [compE] at cp
    refine ⟨it.go i Hc (kp st) hlt, fun Hc => ∃ acc accD oa Gc osc, Stp H1 Hc os1 ((D :: oa) ++ osc) ∧ Rep K U0 (wipeE Gc (own.map (·.2))) (wipe σ (own.map (·.2))) Hc (Oo ++ (D :: oa)) osc ∧ Hc D = some (.lst acc) ∧ acc.length ≤ i + 1 ∧ RpL K Hc (ug U0 ((Oo ++ (D :: oa)) ++ osc)) accD acc oa ∧ compE g c w (own.map (·.2)) (xs.drop (i + 1)) (wipeE Gc (own.map (·.2))) (fun ds G' => P (.lst true (accD ++ ds)) G'),
      fun Hc' h => ⟨xs.length - (i + 1), by omega, rfl, hlt, h⟩, fun v H2 y => ?_⟩
    obtain ⟨sm2, hx⟩ := it.yld i Hc v H2 xs[i] (kp st) y (List.getElem?_eq_getElem hlt)
    have rr2 := r.same sm2
    have st2 : Stp H1 H2 os1 ((D :: oa) ++ osc) := st.trans (Stp.of_same sm2 _)
    have hx' : Vw K H2 (ug U0 ((Oo ++ (D :: oa)) ++ osc)) xs[i] v := hx.same (Same.refl _) fun a z => ⟨z.1.1, fun m => by
      rw [List.append_assoc] at m
      rcases List.mem_append.mp m with y' | y'
      · exact z.1.2 (List.mem_append_left _ y')
      · rcases st.new a y' with w' | w'
        · exact z.1.2 (List.mem_append_right _ w')
        · obtain ⟨o, q⟩ := z.2
          rw [w'] at q
          cases q⟩
    refine g2 U0 _ _ H2 _ _ _ v _ _ rr2 hx' cp fun G3 σ3 os3 cp3 r3' sub3 out3 => ⟨(out3.wipe hsl).trans ?_, ?_⟩
    · apply List.ext_getElem?
      intro k
      rw [wipe_get, wipe_get]
      by_cases m : k ∈ own.map (·.2)
      · rw [if_pos m, if_pos m]
        cases σ[k]? <;> rfl
      · rw [if_neg m, if_neg m]
    · -- the slots at the turn's end
      have wip : ∀ {Gx : T.Env} {Hx : Hp} {Ox ox : List Addr}, Rep K U0 Gx σ3 Hx Ox ox → ∃ oy, Rep K U0 (wipeE Gx (own.map (·.2))) (wipe σ (own.map (·.2))) Hx Ox oy ∧ ∀ a ∈ oy, a ∈ ox := fun {Gx Hx Ox ox} rx => by
        obtain ⟨oy, h1, h2⟩ := rx.wipe (own.map (·.2))
        have e : L2.wipe σ3 (own.map (·.2)) = L2.wipe σ (own.map (·.2)) := by
          rw [out3.wipe hsl]
          apply List.ext_getElem?
          intro k
          rw [wipe_get, wipe_get]
          by_cases m : k ∈ own.map (·.2)
          · rw [if_pos m, if_pos m]
            cases σ[k]? <;> rfl
          · rw [if_neg m, if_neg m]
        rw [e] at h1
        exact ⟨oy, h1, h2⟩
      have ra2 : RpL K H2 (ug U0 ((Oo ++ (D :: oa)) ++ os3)) accD acc oa := ra.mono (os0 := oa) (fun a o e _ => sm2 a o e) (fun a u _ => ug_sub (fun b m => (List.mem_append.mp m).elim (List.mem_append_left _) fun z => List.mem_append_right _ (sub3 b z)) a u) fun a m => m
      have st3 : Stp H1 H2 os1 ((D :: oa) ++ os3) := st2.sub fun a m => (List.mem_append.mp m).elim (List.mem_append_left _) fun z => List.mem_append_right _ (sub3 a z)
      -- the list's items stand aside
      have keepA : ∀ {Hx : Hp} {ox : List Addr}, Stp H2 Hx os3 ox → RpL K Hx (ug U0 ((Oo ++ (D :: oa)) ++ ox)) accD acc oa ∧ Hx D = some (.lst acc) := fun {Hx ox} sx => by
        have hDo : D ∉ os3 := fun m => r3'.own.dis (List.mem_append_right _ List.mem_cons_self) m
        refine ⟨ra2.mono (os0 := oa) (fun a o e h => sx.keep a o e fun m => ?_) (fun a u ⟨o, e⟩ => ⟨u.1, fun m => ?_⟩) fun a m => m, sx.keep D _ (sm2 _ _ hDc) hDo⟩
        · rcases h with h | h | h
          · exact h.2 (List.mem_append_right _ m)
          · exact r3'.own.dis (List.mem_append_right _ (List.mem_cons_of_mem _ h)) m
          · obtain ⟨o', q, mu⟩ := r3'.own.2 a (List.mem_append_right _ m)
            rw [e] at q; cases q
            exact h mu
        · rcases List.mem_append.mp m with z | z
          · exact u.2 (List.mem_append_left _ z)
          · rcases sx.new a z with w' | w'
            · exact u.2 (List.mem_append_right _ w')
            · rw [e] at w'; cases w'
      refine t2 U0 G3 σ3 H2 _ _ _ _ _ r3' cp3 (fun b G4 H4 os4 cp4 s4 r4 => ?_) (fun _ _ _ _ z => z.elim)
      have st4 : Stp H1 H4 os1 ((D :: oa) ++ os4) := st3.trans s4.wide
      cases b with
      | false =>
        rw [if_neg Bool.false_ne_true] at cp4 ⊢
        obtain ⟨oy, ry, suby⟩ := wip r4
        obtain ⟨ra4, hD4⟩ := keepA s4
        exact ⟨acc, accD, oa, G4, oy, st4.sub fun a m => (List.mem_append.mp m).elim (List.mem_append_left _) fun z => List.mem_append_right _ (suby a z), ry, hD4, by omega, ra4.mono (os0 := oa) (fun a o e _ => e) (fun a u _ => ug_sub (fun b m => (List.mem_append.mp m).elim (List.mem_append_left _) fun z => List.mem_append_right _ (suby b z)) a u) fun a m => m, cp4⟩
      | true =>
        rw [if_pos rfl] at cp4 ⊢
        refine e2 U0 G4 σ3 H4 _ _ _ _ _ r4 cp4 (fun d G5 y H5 o5 os5 cp5 s5 r5 x5 => ?_) (fun _ _ _ _ z => z.elim)
        have s45 : Stp H2 H5 os3 (o5 ++ os5) := s4.trans s5
        obtain ⟨ra5, hD5⟩ := keepA s45
        have st5 : Stp H1 H5 os1 ((D :: oa) ++ (o5 ++ os5)) := st4.trans s5.wide
        obtain ⟨oy, ry, suby⟩ := wip r5
        have eo : (Oo ++ (D :: oa)) ++ o5 = Oo ++ (D :: (oa ++ o5)) := by simp
        rw [eo] at ry
        have sb : ∀ a ∈ (Oo ++ (D :: (oa ++ o5))) ++ oy, a ∈ (Oo ++ (D :: oa)) ++ (o5 ++ os5) := fun a m => by
          rcases List.mem_append.mp m with z | z
          · rw [← eo] at z
            rcases List.mem_append.mp z with w' | w'
            · exact List.mem_append_left _ w'
            · exact List.mem_append_right _ (List.mem_append_left _ w')
          · exact List.mem_append_right _ (List.mem_append_right _ (suby a z))
        -- append
        have hup : ∀ a o, H5 a = some o → a ≠ D → (upd H5 D (.lst (acc ++ [y]))) a = some o := fun a o e n => by rw [upd_ne n]; exact e
        have hDn : D ∉ oy := fun m => ry.own.dis (List.mem_append_right _ List.mem_cons_self) m
        have hDa : D ∉ oa ++ o5 := fun m => by
          have nd := ry.own.left.1
          obtain ⟨_, h2, _⟩ := List.nodup_append.mp nd
          exact (List.nodup_cons.mp h2).1 m
        have tupne : ∀ {a : Addr} {o : HO}, H5 a = some o → ¬ Mut (some o) → a ≠ D := fun {a o} e m z => by
          rw [z, hD5] at e
          cases e
          exact m trivial
        have r6 : Rep K U0 (wipeE G5 (own.map (·.2))) (wipe σ (own.map (·.2))) (upd H5 D (.lst (acc ++ [y]))) (Oo ++ (D :: (oa ++ o5))) oy := by
          refine ⟨ry.g.mono (os0 := oy) (fun a o e h => hup a o e ?_) (fun a u _ => u) fun a m => m, ⟨ry.own.1, fun a m => ?_⟩, ry.u0, fun a h => ry.un a ?_⟩
          · rcases h with h | h | h
            · rintro rfl
              exact h.2 (List.mem_append_left _ (List.mem_append_right _ List.mem_cons_self))
            · rintro rfl
              exact hDn h
            · exact tupne e h
          · by_cases ha : a = D
            · subst ha
              exact ⟨_, upd_same, trivial⟩
            · obtain ⟨o, e, mu⟩ := ry.own.2 a m
              exact ⟨o, hup a o e ha, mu⟩
          · by_cases ha : a = D
            · subst ha
              rw [upd_same] at h
              cases h
            · rw [upd_ne ha] at h
              exact h
        refine ⟨acc, hD5, small_lt (by omega), acc ++ [y], accD ++ [d], oa ++ o5, G5, oy, ⟨fun a o e n => ?_, fun a m => ?_, fun a o e => ?_⟩, r6, upd_same, by simp; omega, ?_, ?_⟩
        · rw [upd_ne (ne_of_none e hD)]
          exact st5.keep a o e n
        · refine st5.new a ?_
          rcases List.mem_append.mp m with z | z
          · rcases List.mem_cons.mp z with w' | w'
            · rw [w']; exact List.mem_append_left _ List.mem_cons_self
            · rcases List.mem_append.mp w' with w'' | w''
              · exact List.mem_append_left _ (List.mem_cons_of_mem _ w'')
              · exact List.mem_append_right _ (List.mem_append_left _ w'')
          · exact List.mem_append_right _ (List.mem_append_right _ (suby a z))
        · obtain ⟨o', e'⟩ := st5.dom a o e
          exact ⟨o', by rw [upd_ne (ne_of_none e hD)]; exact e'⟩
        · have a1 : RpL K H5 (ug U0 ((Oo ++ (D :: (oa ++ o5))) ++ oy)) accD acc oa := ra5.mono (os0 := oa) (fun a o e _ => e) (fun a u _ => ug_sub sb a u) fun a m => m
          have a2 : Rp K H5 (ug U0 ((Oo ++ (D :: (oa ++ o5))) ++ oy)) d y o5 := x5.mono (os0 := o5) (fun a o e _ => e) (fun a u _ => ug_sub (fun b m => by
            have z := sb b m
            rw [← List.append_assoc] at z
            exact z) a u) fun a m => m
          have a3 := a1.append (RpL.cons a2 .nil)
          rw [List.append_nil] at a3
          exact a3.mono (os0 := oa ++ o5) (fun a o e h => hup a o e (by
            rcases h with h | h | h
            · rintro rfl
              exact h.2 (List.mem_append_left _ (List.mem_append_right _ List.mem_cons_self))
            · rintro rfl
              exact hDa h
            · exact tupne e h)) (fun a u _ => u) fun a m => m
        · have e : (fun ds G' => P (.lst true (accD ++ (d :: ds))) G') = fun ds G' => P (.lst true (accD ++ [d] ++ ds)) G' := by
            funext ds G'
            simp
          rw [← e]
          exact cp5
  · left
    have e : i = xs.length := by omega
    subst e
    rw [List.drop_length] at cp
    simp only [compE, List.append_nil] at cp
    refine ⟨it.stop _ Hc (kp st) (Nat.le_refl _), ?_⟩
    have rf : Rep K U0 (wipeE Gc (own.map (·.2))) σ Hc (Oo ++ (D :: oa)) osc := r.unwipe (by
      apply List.ext_getElem?
      intro k
      rw [wipe_get, wipe_get, wipe_get]
      by_cases m : k ∈ own.map (·.2)
      · simp only [if_pos m]
        cases σ[k]? <;> rfl
      · simp only [if_neg m]) wl.symm
    exact okq _ _ (.ref D) Hc (D :: oa) osc cp (s1.trans st) rf (.lstO hDc ra)
end
end T
namespace T
open PySem PySem.Spec PyProof.Rows L2
section
variable {ι : Type} {X : ι → Cx} {K : PySem.W.Frag} {W : WX} {pn : List Nat}
theorem nodup3 {a b c : List Addr} (h : (a ++ (b ++ c)).Nodup) : a.Nodup ∧ b.Nodup ∧ c.Nodup ∧ (∀ x ∈ a, x ∉ b) ∧ (∀ x ∈ a, x ∉ c) ∧ (∀ x ∈ b, x ∉ c) := by
  obtain ⟨h1, h2, h3⟩ := List.nodup_append.mp h
  obtain ⟨h4, h5, h6⟩ := List.nodup_append.mp h2
  exact ⟨h1, h4, h5, fun x m m' => h3 x m x (List.mem_append_left _ m') rfl, fun x m m' => h3 x m x (List.mem_append_right _ m') rfl, fun x m m' => h6 x m x m' rfl⟩
/-- an owned list of a slot is written; o3 is kept aside -/
theorem Rep.write {i : Nat} {U0 : Addr → Prop} {G : T.Env} {σ : L2.St} {H : Hp} {Oo os o2 : List Addr} {xs : List D} (r : Rep K U0 G σ H (Oo ++ o2) os) (e : G[i]? = some (some (.lst true xs))) :
    ∃ p vs ox, σ[i]? = some (some (.ref p)) ∧ H p = some (.lst vs) ∧ RpL K H (ug U0 ((Oo ++ o2) ++ os)) xs vs ox ∧ (ox ++ o2).Nodup ∧
      ∀ xs' vs' ox' o3, RpL K H (ug U0 ((Oo ++ o2) ++ os)) xs' vs' ox' → (ox' ++ o3).Nodup → (∀ a ∈ ox' ++ o3, a ∈ ox ++ o2) →
        ∃ os', Rep K U0 (G.set i (some (.lst true xs'))) σ (upd H p (.lst vs')) (Oo ++ o3) os' ∧ Stp H (upd H p (.lst vs')) (o2 ++ os) (o3 ++ os') ∧
          ∀ d v, Rp K H (ug U0 ((Oo ++ o2) ++ os)) d v o3 → Rp K (upd H p (.lst vs')) (ug U0 ((Oo ++ o3) ++ os')) d v o3 := by
  obtain ⟨v, o1, orest, hv, r1, x1, pm⟩ := r.take e
  cases x1 with
  | @lstO p vs _ ox hp hx =>
    have nd0 := r1.own.1
    -- everything in one row
    have row : ((Oo ++ o2) ++ (p :: ox)) ++ orest = Oo ++ ((o2 ++ (p :: ox)) ++ orest) := by simp [List.append_assoc]
    rw [row] at nd0
    obtain ⟨n1, n2, n3, n4, n5, n6⟩ := nodup3 nd0
    have n2' : ((p :: ox) ++ o2).Nodup := (List.perm_append_comm.nodup_iff).mp n2
    obtain ⟨n7, n8⟩ := List.nodup_cons.mp (show (p :: (ox ++ o2)).Nodup from n2')
    have hall : ∀ a ∈ ((Oo ++ o2) ++ (p :: ox)) ++ orest, a ∈ (Oo ++ o2) ++ os := fun a m => by
      rcases List.mem_append.mp m with z | z
      · rcases List.mem_append.mp z with y | y
        · exact List.mem_append_left _ y
        · exact List.mem_append_right _ (pm.mem_iff.mpr (List.mem_append_left _ y))
      · exact List.mem_append_right _ (pm.mem_iff.mpr (List.mem_append_right _ z))
    have hinv : ∀ a ∈ (Oo ++ o2) ++ os, a ∈ ((Oo ++ o2) ++ (p :: ox)) ++ orest := fun a m => by
      rcases List.mem_append.mp m with z | z
      · exact List.mem_append_left _ (List.mem_append_left _ z)
      · rcases List.mem_append.mp (pm.mem_iff.mp z) with y | y
        · exact List.mem_append_left _ (List.mem_append_right _ y)
        · exact List.mem_append_right _ y
    have hx0 : RpL K H (ug U0 ((Oo ++ o2) ++ os)) xs vs ox := hx.mono (os0 := ox) (fun a o q _ => q) (fun a u _ => ug_sub hinv a u) fun a m => m
    refine ⟨p, vs, ox, hv, hp, hx0, n8, fun xs' vs' ox' o3 h' nd' sub' => ?_⟩
    have pin : p ∈ (Oo ++ o2) ++ os := hall p (List.mem_append_left _ (List.mem_append_right _ List.mem_cons_self))
    have np : p ∉ ox' ++ o3 := fun m => n7 (sub' p m)
    have hnew : ∀ a ∈ (Oo ++ o3) ++ ((p :: ox') ++ orest), a ∈ (Oo ++ o2) ++ os := fun a m => by
      have z4 : a ∈ Oo ∨ a ∈ ox' ++ o3 ∨ a = p ∨ a ∈ orest := by
        rcases List.mem_append.mp m with z | z
        · rcases List.mem_append.mp z with y | y
          · exact .inl y
          · exact .inr (.inl (List.mem_append_right _ y))
        · rcases List.mem_append.mp z with y | y
          · rcases List.mem_cons.mp y with w | w
            · exact .inr (.inr (.inl w))
            · exact .inr (.inl (List.mem_append_left _ w))
          · exact .inr (.inr (.inr y))
      rcases z4 with z | z | z | z
      · exact List.mem_append_left _ (List.mem_append_left _ z)
      · rcases List.mem_append.mp (sub' a z) with y | y
        · exact hall a (List.mem_append_left _ (List.mem_append_right _ (List.mem_cons_of_mem _ y)))
        · exact List.mem_append_left _ (List.mem_append_right _ y)
      · rw [z]; exact pin
      · exact hall a (List.mem_append_right _ z)
    have hkeep : ∀ a o, H a = some o → (ug U0 ((Oo ++ o2) ++ os) a ∨ (a ∈ orest ∨ a ∈ ox' ++ o3) ∨ ¬ Mut (some o)) → (upd H p (.lst vs')) a = some o := fun a o q h => by
      have ne : a ≠ p := by
        rintro rfl
        rcases h with h | (h | h) | h
        · exact h.2 pin
        · exact n6 _ (List.mem_append_right _ List.mem_cons_self) h
        · exact np h
        · rw [hp] at q
          cases q
          exact h trivial
      rw [upd_ne ne]
      exact q
    have gu : ∀ a, ug U0 ((Oo ++ o2) ++ os) a → ug U0 ((Oo ++ o3) ++ ((p :: ox') ++ orest)) a := ug_sub hnew
    have rest1 : RpG K (upd H p (.lst vs')) (ug U0 ((Oo ++ o3) ++ ((p :: ox') ++ orest))) (G.set i none) σ orest := by
      refine r1.g.mono (os0 := orest) (fun a o q h => hkeep a o q ?_) (fun a u _ => gu a (ug_sub hinv a u)) fun a m => m
      rcases h with h | h | h
      · exact .inl (ug_sub hinv a h)
      · exact .inr (.inl (.inl h))
      · exact .inr (.inr h)
    have new1 : Rp K (upd H p (.lst vs')) (ug U0 ((Oo ++ o3) ++ ((p :: ox') ++ orest))) (.lst true xs') (.ref p) (p :: ox') := by
      refine .lstO upd_same (h'.mono (os0 := ox') (fun a o q h => hkeep a o q ?_) (fun a u _ => gu a u) fun a m => m)
      rcases h with h | h | h
      · exact .inl h
      · exact .inr (.inl (.inr (List.mem_append_left _ h)))
      · exact .inr (.inr h)
    have hil : i < G.length := (List.getElem?_eq_some_iff.mp e).1
    obtain ⟨os', g2, pm2⟩ := rest1.put (v := .ref p) (RpG.none_at hil) new1
    rw [set_none_set] at g2
    have es : σ.set i (some (.ref p)) = σ := by
      apply List.ext_getElem?
      intro k
      by_cases hk : i = k
      · subst hk
        obtain ⟨hlt, _⟩ := List.getElem?_eq_some_iff.mp hv
        rw [List.getElem?_set_self hlt, hv]
      · rw [List.getElem?_set_ne hk]
    rw [es] at g2
    have hs5 : ∀ a ∈ (Oo ++ o3) ++ os', a ∈ (Oo ++ o3) ++ ((p :: ox') ++ orest) := fun a m => (List.mem_append.mp m).elim (List.mem_append_left _) fun z => List.mem_append_right _ (pm2.mem_iff.mp z)
    have ndn : ((Oo ++ o3) ++ ((p :: ox') ++ orest)).Nodup := by
      have e5 : (Oo ++ o3) ++ ((p :: ox') ++ orest) = Oo ++ ((o3 ++ (p :: ox')) ++ orest) := by simp [List.append_assoc]
      rw [e5]
      have q1 : (o3 ++ (p :: ox')).Nodup := by
        refine (List.perm_append_comm (l₁ := p :: ox') (l₂ := o3)).nodup_iff.mp ?_
        exact List.nodup_cons.mpr ⟨np, nd'⟩
      have q2 : ∀ a ∈ o3 ++ (p :: ox'), a ∈ o2 ++ (p :: ox) := fun a m => by
        rcases List.mem_append.mp m with z | z
        · rcases List.mem_append.mp (sub' a (List.mem_append_right _ z)) with y | y
          · exact List.mem_append_right _ (List.mem_cons_of_mem _ y)
          · exact List.mem_append_left _ y
        · rcases List.mem_cons.mp z with y | y
          · rw [y]; exact List.mem_append_right _ List.mem_cons_self
          · rcases List.mem_append.mp (sub' a (List.mem_append_left _ y)) with w | w
            · exact List.mem_append_right _ (List.mem_cons_of_mem _ w)
            · exact List.mem_append_left _ w
      refine List.nodup_append.mpr ⟨n1, List.nodup_append.mpr ⟨q1, n3, fun a m b m' q => ?_⟩, fun a m b m' q => ?_⟩
      · subst q
        exact n6 a (q2 a m) m'
      · subst q
        rcases List.mem_append.mp m' with z | z
        · exact n4 a m (q2 a z)
        · exact n5 a m z
    have ow : Own (upd H p (.lst vs')) ((Oo ++ o3) ++ os') := by
      refine ⟨?_, fun a m => ?_⟩
      · exact (List.Perm.append_left (Oo ++ o3) pm2).nodup_iff.mpr ndn
      · by_cases ha : a = p
        · subst ha
          exact ⟨_, upd_same, trivial⟩
        · obtain ⟨o, q, mu⟩ := r.own.2 a (hnew a (hs5 a m))
          exact ⟨o, by rw [upd_ne ha]; exact q, mu⟩
    refine ⟨os', ⟨g2.mono (os0 := os') (fun a o q _ => q) (fun a u _ => ug_sub hs5 a u) fun a m => m, ow, fun a m => r.u0 a (hnew a (hs5 a m)), fun a h => ?_⟩, ⟨fun a o q n => ?_, fun a m => ?_, fun a o q => ?_⟩, fun d v h => ?_⟩
    · by_cases ha : a = p
      · subst ha
        rw [upd_same] at h
        cases h
      · rw [upd_ne ha] at h
        exact r.un a h
    · rw [upd_ne]
      · exact q
      · rintro rfl
        refine n (List.mem_append_right _ (pm.mem_iff.mpr (List.mem_append_left _ List.mem_cons_self)))
    · left
      have z3 : a ∈ ox' ++ o3 ∨ a = p ∨ a ∈ orest := by
        rcases List.mem_append.mp m with z | z
        · exact .inl (List.mem_append_right _ z)
        · rcases List.mem_append.mp (pm2.mem_iff.mp z) with y | y
          · rcases List.mem_cons.mp y with w | w
            · exact .inr (.inl w)
            · exact .inl (List.mem_append_left _ w)
          · exact .inr (.inr y)
      rcases z3 with z | z | z
      · rcases List.mem_append.mp (sub' a z) with y | y
        · exact List.mem_append_right _ (pm.mem_iff.mpr (List.mem_append_left _ (List.mem_cons_of_mem _ y)))
        · exact List.mem_append_left _ y
      · rw [z]
        exact List.mem_append_right _ (pm.mem_iff.mpr (List.mem_append_left _ List.mem_cons_self))
      · exact List.mem_append_right _ (pm.mem_iff.mpr (List.mem_append_right _ z))
    · by_cases ha : a = p
      · subst ha
        exact ⟨_, upd_same⟩
      · exact ⟨o, by rw [upd_ne ha]; exact q⟩
    · refine h.mono (os0 := o3) (fun a o q h => hkeep a o q ?_) (fun a u _ => ug_sub hs5 a (gu a u)) fun a m => m
      rcases h with h | h | h
      · exact .inl h
      · exact .inr (.inl (.inr (List.mem_append_right _ h)))
      · exact .inr (.inr h)
/-! ### items of lists -/
theorem RpL.pick {H : Hp} {U : Addr → Prop} : ∀ {xs : List D} {vs : List V} {ox : List Addr} {k : Nat} {d : D}, RpL K H U xs vs ox → xs[k]? = some d → ∃ v o1 o2, vs[k]? = some v ∧ Rp K H U d v o1 ∧ RpL K H U (xs.eraseIdx k) (vs.eraseIdx k) o2 ∧ ox.Perm (o1 ++ o2)
  | _, _, _, _, _, .nil, e => by simp at e
  | _, _, _, 0, _, .cons h t, e => by
    simp at e
    subst e
    exact ⟨_, _, _, rfl, h, t, List.Perm.refl _⟩
  | _, _, _, k + 1, d, .cons (o1 := p1) h t, e => by
    obtain ⟨v, o1, o2, h1, h2, h3, h4⟩ := RpL.pick (k := k) (d := d) t (by simpa using e)
    refine ⟨v, o1, p1 ++ o2, by simpa using h1, h2, .cons h h3, ?_⟩
    refine (List.Perm.append_left p1 h4).trans ?_
    rw [← List.append_assoc, ← List.append_assoc]
    exact List.Perm.append_right o2 List.perm_append_comm
theorem RpL.set {H : Hp} {U : Addr → Prop} {d : D} {v : V} {o : List Addr} (r : Rp K H U d v o) : ∀ {xs : List D} {vs : List V} {ox : List Addr} (k : Nat), RpL K H U xs vs ox → k < xs.length → ∃ p1 o2, RpL K H U (xs.set k d) (vs.set k v) o2 ∧ (p1 ++ o2).Perm (o ++ ox)
  | _, _, _, _, .nil, hk => absurd hk (by simp)
  | _, _, _, 0, .cons (o1 := p1) (o2 := p2) h t, _ => ⟨p1, _, .cons r t, by
    rw [← List.append_assoc, ← List.append_assoc]
    exact List.Perm.append_right p2 List.perm_append_comm⟩
  | _, _, _, k + 1, .cons (o1 := q1) (o2 := q2) h t, hk => by
    obtain ⟨p1, o2, h1, h2⟩ := RpL.set r k t (by simpa using hk)
    refine ⟨p1, q1 ++ o2, .cons h h1, ?_⟩
    have a1 : (p1 ++ (q1 ++ o2)).Perm (q1 ++ (p1 ++ o2)) := by
      rw [← List.append_assoc, ← List.append_assoc]
      exact List.Perm.append_right o2 List.perm_append_comm
    have a2 : (o ++ (q1 ++ q2)).Perm (q1 ++ (o ++ q2)) := by
      rw [← List.append_assoc, ← List.append_assoc]
      exact List.Perm.append_right q2 List.perm_append_comm
    exact a1.trans ((List.Perm.append_left q1 h2).trans a2.symm)
theorem RpL.reverse {H : Hp} {U : Addr → Prop} : ∀ {xs : List D} {vs : List V} {ox : List Addr}, RpL K H U xs vs ox → ∃ o2, RpL K H U xs.reverse vs.reverse o2 ∧ o2.Perm ox
  | _, _, _, .nil => ⟨[], .nil, List.Perm.refl _⟩
  | _, _, _, .cons (o1 := p1) (o2 := p2) h t => by
    obtain ⟨o2, h1, h2⟩ := RpL.reverse t
    refine ⟨o2 ++ p1, ?_, ?_⟩
    · rw [List.reverse_cons, List.reverse_cons]
      have z := h1.append (RpL.cons h .nil)
      rw [List.append_nil] at z
      exact z
    · exact List.perm_append_comm.trans (List.Perm.append_left p1 h2)
/-! ### methods of lists that change them -/
def MutOk (K : PySem.W.Frag) (r : V → List V → Hp → VK → Prop) (f : List D → List D → (List D → D → Prop) → Prop) : Prop := ∀ (H : Hp) (U : Addr → Prop) (xs as : List D) (vs us : List V) (ox oa : List Addr) (p : Addr) (F : List D → D → Prop) (Q : VK), H p = some (.lst vs) → RpL K H U xs vs ox → RpL K H U as us oa → (ox ++ oa).Nodup → f xs as F →
  (∀ xs' d vs' z ox' o3, F xs' d → RpL K H U xs' vs' ox' → Rp K H U d z o3 → (ox' ++ o3).Nodup → (∀ a ∈ ox' ++ o3, a ∈ ox ++ oa) → Q z (upd H p (.lst vs'))) → r (.ref p) us H Q
@[simp] def lstAt (G : T.Env) (i : Nat) (P : List D → Prop) : Prop := match G[i]? with | some (some (.lst true xs)) => P xs | _ => False
theorem lstAt_get {G : T.Env} {i : Nat} {P : List D → Prop} (h : lstAt G i P) : ∃ xs, G[i]? = some (some (.lst true xs)) ∧ P xs := by
  unfold lstAt at h
  split at h
  · rename_i xs e
    exact ⟨xs, e, h⟩
  · exact h.elim
@[simp] def eMeth (i : Nat) (f : List D → List D → (List D → D → Prop) → Prop) (t : WL) : WE := fun G P PX => lstAt G i fun _ => t G (fun as G' => lstAt G' i fun xs => f xs as fun xs' d => P d (G'.set i (some (.lst true xs')))) PX
theorem e_meth (i : Nat) {e' : Expr} {es : List Expr} {r : V → List V → Hp → VK → Prop} {f : List D → List D → (List D → D → Prop) → Prop} {t : WL} (ok : MutOk K r f) (h : SndL X K W es t) (mk : ∀ ta, (∀ j, PA (X j) es ta) → ∀ j, PE (X j) e' (fun σ H Q => tVar i σ H fun x H1 => tyV K "list" x H1 ∧ ta σ H1 fun xs H2 => r x xs H2 Q)) : SndE X K W e' (eMeth i f t) := by
  obtain ⟨ta, a1, a2⟩ := h
  refine ⟨_, mk ta a1, fun U0 G σ H Oo os P PX Q rep w okq okx => ?_⟩
  obtain ⟨xs0, e0, w⟩ := lstAt_get w
  have rep0 : Rep K U0 G σ H (Oo ++ []) os := by rw [List.append_nil]; exact rep
  obtain ⟨p0, vs0, _, hv0, hp0, _⟩ := rep0.write e0
  refine ⟨.ref p0, hv0, .inl ⟨rfl, vs0, .inl (.inl hp0)⟩, ?_⟩
  refine a2 U0 G σ H Oo os _ _ _ rep w (fun as G1 us H1 oa os1 q s1 r1 x1 => ?_) okx
  obtain ⟨xs, e1, q⟩ := lstAt_get q
  obtain ⟨p, vs, ox, hv, hp, hx, nd, put⟩ := r1.write e1
  rw [hv0] at hv
  cases hv
  refine ok H1 _ xs as vs us ox oa p0 _ Q hp hx x1 nd q fun xs' d vs' z ox' o3 hF hx' hd nd' sub => ?_
  obtain ⟨os', r2, s2, back⟩ := put xs' vs' ox' o3 hx' nd' sub
  exact okq d _ z _ o3 os' hF (s1.trans s2) r2 (back d z hd)
@[simp] def mApp : List D → List D → (List D → D → Prop) → Prop := fun xs as F => match as with | [d] => xs.length < 100000 ∧ F (xs ++ [d]) .non | _ => False
theorem ok_app : MutOk K rAppend mApp := by
  intro H U xs as vs us ox oa p F Q hp hx ha nd w q
  cases ha with
  | nil => exact w.elim
  | @cons d u _ _ o1 o2 h t =>
    cases t with
    | nil =>
      refine ⟨p, vs, u, rfl, rfl, hp, small_lt (by rw [← hx.length]; exact Nat.le_of_lt w.1), ?_⟩
      refine q _ _ _ .non (ox ++ o1) [] w.2 (by simpa using hx.append (RpL.cons h .nil)) .non (by simpa using nd) (fun a m => by simpa using m)
    | cons _ _ => exact w.elim
@[simp] def mExt : List D → List D → (List D → D → Prop) → Prop := fun xs as F => match as with | [.lst _ zs] => xs.length + zs.length < 100000 ∧ F (xs ++ zs) .non | _ => False
/-- extend by a list that may be known -/
def rExt (K : PySem.W.Frag) : V → List V → Hp → VK → Prop := fun x vs H Q => ∃ l b xs zs, x = .ref l ∧ vs = [.ref b] ∧ H l = some (.lst xs) ∧ Rd H b (.lst zs) ∧ xs.length + zs.length ≤ sizeLine ∧ Q .non (upd H l (.lst (xs ++ zs)))
theorem mt_ext {Y : Cx} : MtM Y "list.extend" (rExt K) := by
  intro pins s σ H x vs v us Q I rx rv h
  obtain ⟨l, b, xs, zs, rfl, rfl, hH, hB, hz, q⟩ := h
  cases rx
  obtain ⟨u, rfl, ru⟩ := rv.one
  cases ru
  obtain ⟨_, its, n, r, hl, e⟩ := I.lstM hH
  obtain ⟨_, its2, n2, r2, e2⟩ := hB.ok I.hok
  have hl2 := r2.length
  have h2 : its.toArray.size + its2.toArray.size ≤ sizeLine := by simpa [← hl, ← hl2] using hz
  refine call_meets F.slot_list_extend ⟨_, e, rfl⟩ F.entry_list_extend (F.args_list_extend_2 _ _)
    (AutoSeq1.list_extend_list_list_0 l its.toArray n b its2.toArray n2 (by rw [notLongL h2, Bool.and_false]; exact Bool.false_ne_true) (by rw [List.size_toArray]; omega) (by omega)) ⟨e, e2, .non, _, I.lset (its' := its ++ its2) hH e (by simp) (r.append r2) (by rw [List.length_append]; exact hz), rfl, q⟩
theorem ok_ext : MutOk K (rExt K) mExt := by
  intro H U xs as vs us ox oa p F Q hp hx ha nd w q
  cases ha with
  | nil => exact w.elim
  | @cons d u _ _ o1 o2 h t =>
    cases t with
    | nil =>
      rw [List.append_nil] at nd
      cases h with
      | @lstO b zs ds oz hb hz =>
        refine ⟨p, b, vs, zs, rfl, rfl, hp, .inl hb, small_line (by rw [← hx.length, ← hz.length]; exact Nat.le_of_lt w.1), ?_⟩
        have nd2 : (ox ++ oz).Nodup := nd.sublist (List.Sublist.append (List.Sublist.refl _) (List.sublist_cons_self _ _))
        exact q _ _ _ .non (ox ++ oz) [] w.2 (hx.append hz) .non (by simpa using nd2) (fun a m => by
          rcases List.mem_append.mp (by simpa using m : a ∈ ox ++ oz) with z | z
          · exact List.mem_append_left _ z
          · exact List.mem_append_right _ (by simp [z]))
      | @lstN b zs ds oz hb hu hz ez =>
        subst ez
        refine ⟨p, b, vs, zs, rfl, rfl, hp, .inl hb, small_line (by rw [← hx.length, ← hz.length]; exact Nat.le_of_lt w.1), ?_⟩
        exact q _ _ _ .non ox [] w.2 (by simpa using hx.append hz) .non (by simpa using nd) (fun a m => by simpa using m)
      | _ => exact w.elim
    | cons _ _ => exact absurd w (by simp [mExt])
theorem ixN_lt {n : Nat} {i : Int} {k : Nat} (h : ixN n i = some k) : k < n := (ixN_seq h).2.1
@[simp] def mPop : List D → List D → (List D → D → Prop) → Prop := fun xs as F => match as with
  | [.int i] => (-(2 ^ 63) ≤ i ∧ i < 2 ^ 63) ∧ (match ixN xs.length i with | some k => (match xs[k]? with | some d => F (xs.eraseIdx k) d | none => False) | none => False)
  | _ => False
theorem ok_pop : MutOk K rPopAt mPop := by
  intro H U xs as vs us ox oa p F Q hp hx ha nd w q
  cases ha with
  | nil => exact w.elim
  | @cons d u _ _ o1 o2 h t =>
    cases t with
    | nil =>
      cases h with
      | int i =>
        obtain ⟨hb, w⟩ := w
        split at w
        · rename_i k hk
          split at w
          · rename_i d hd
            obtain ⟨v, p1, p2, h1, h2, h3, h4⟩ := hx.pick hd
            have hl := hx.length
            refine ⟨p, vs, i, k, v, rfl, rfl, hp, hb.1, hb.2, by rw [← hl]; exact (ixN_seq hk).1, h1, ?_⟩
            refine q _ _ _ v p2 p1 w h3 h2 ?_ fun a m => ?_
            · have z := h4.nodup_iff.mp (by simpa using nd : ox.Nodup)
              exact List.perm_append_comm.nodup_iff.mp z
            · exact List.mem_append_left _ (h4.mem_iff.mpr (List.perm_append_comm.mem_iff.mp m))
          · exact w.elim
        · exact w.elim
      | _ => exact w.elim
    | cons _ _ => cases d <;> exact w.elim
@[simp] def mPop0 : List D → List D → (List D → D → Prop) → Prop := fun xs as F => match as with
  | [] => (match xs[xs.length - 1]? with | some d => F (xs.eraseIdx (xs.length - 1)) d | none => False)
  | _ => False
theorem ok_pop0 : MutOk K rPop mPop0 := by
  intro H U xs as vs us ox oa p F Q hp hx ha nd w q
  cases ha with
  | nil =>
    simp only [mPop0] at w
    split at w
    · rename_i d hd
      obtain ⟨v, p1, p2, h1, h2, h3, h4⟩ := hx.pick hd
      have hl := hx.length
      refine ⟨p, vs, v, rfl, rfl, hp, by rw [← hl]; exact h1, ?_⟩
      have e : vs.dropLast = vs.eraseIdx (xs.length - 1) := by
        rw [hl, List.dropLast_eq_take, List.eraseIdx_eq_take_drop_succ]
        have : vs.length - 1 + 1 = vs.length ∨ vs.length = 0 := by omega
        rcases this with z | z
        · rw [z]; simp
        · simp [List.length_eq_zero_iff.mp z]
      rw [e]
      refine q _ _ _ v p2 p1 w h3 h2 ?_ fun a m => ?_
      · have z := h4.nodup_iff.mp (by simpa using nd : ox.Nodup)
        exact List.perm_append_comm.nodup_iff.mp z
      · exact List.mem_append_left _ (h4.mem_iff.mpr (List.perm_append_comm.mem_iff.mp m))
    · exact w.elim
  | cons h t => exact w.elim
@[simp] def mClear : List D → List D → (List D → D → Prop) → Prop := fun _ as F => match as with | [] => F [] .non | _ => False
theorem ok_clear : MutOk K rClear mClear := by
  intro H U xs as vs us ox oa p F Q hp hx ha nd w q
  cases ha with
  | nil => exact ⟨p, vs, rfl, rfl, hp, q _ _ _ .non [] [] w .nil .non (by simp) (by simp)⟩
  | cons h t => exact w.elim
@[simp] def mRev : List D → List D → (List D → D → Prop) → Prop := fun xs as F => match as with | [] => F xs.reverse .non | _ => False
theorem ok_rev : MutOk K rReverse mRev := by
  intro H U xs as vs us ox oa p F Q hp hx ha nd w q
  cases ha with
  | nil =>
    obtain ⟨o2, h1, h2⟩ := hx.reverse
    have nd' : ox.Nodup := by simpa using nd
    exact ⟨p, vs, rfl, rfl, hp, q _ _ _ .non o2 [] w h1 .non (by simpa using h2.nodup_iff.mpr nd') (fun a m => by simpa using h2.mem_iff.mp (by simpa using m))⟩
  | cons h t => exact w.elim
/-! ### x[i] = e, x[i] += e -/
@[simp] def sSetIx (i : Nat) (ri : WR) (w : WE) : WS := fun E G => w G (fun d G1 => lstAt G1 i fun xs => ri G1 fun k => match k with
  | .int n => (match ixN xs.length n with | some j => E.nx (G1.set i (some (.lst true (xs.set j d)))) | none => False)
  | _ => False) E.ex
theorem rp_int {U : Addr → Prop} {H : Hp} {b : Int} {v : V} {o : List Addr} (h : Rp K H U (.int b) v o) : v = .int b ∧ o = [] := by
  cases h
  exact ⟨rfl, rfl⟩
theorem vw_int {S : Addr → Prop} {H : Hp} {b : Int} {v : V} (h : Vw K H S (.int b) v) : v = .int b := by
  cases h
  rfl
theorem s_setix (i : Nat) {st : Stmt} {e ie : Expr} {ri : WR} {w : WE} (h : SndE X K W e w) (hi : SndR X K ie ri) (mk : ∀ t ti, (∀ j, PE (X j) e t) → (∀ j, PE (X j) ie ti) → ∀ j, PS (X j) st (tAsg t (gSub (tVar i) ti rSetL))) : SndS X K W pn st (sSetIx i ri w) := by
  obtain ⟨t, h1, h2⟩ := h
  obtain ⟨ti, b1, b2⟩ := hi
  refine ⟨_, mk t ti h1 b1, fun U0 G σ H Oo os E De rep w ok => ?_⟩
  refine h2 U0 G σ H Oo os _ _ _ rep w (fun d G1 v H1 o2 os1 q s r x => ?_) ok.ex.here
  obtain ⟨xs, e1, q⟩ := lstAt_get q
  obtain ⟨p0, _, _, hv0, _⟩ := r.write e1
  refine ⟨.ref p0, hv0, ?_⟩
  refine b2 G1 σ H1 _ _ _ r.vw q fun k vk H2 q s2 hk => ?_
  split at q
  · rename_i n
    cases vw_int hk
    split at q
    · rename_i j hj
      have r2 := r.same s2
      obtain ⟨p, vs, ox, hv, hp, hx, nd, put⟩ := r2.write e1
      rw [hv0] at hv
      cases hv
      have x2 : Rp K H2 (ug U0 ((Oo ++ o2) ++ os1)) d v o2 := x.mono (os0 := o2) (fun a o e _ => s2 a o e) (fun a u _ => u) fun a m => m
      obtain ⟨p1, o3, h3, h4⟩ := RpL.set x2 j hx (ixN_lt hj)
      have nd2 : (p1 ++ o3).Nodup := h4.nodup_iff.mpr (List.perm_append_comm.nodup_iff.mp nd)
      obtain ⟨os', r3, s3, _⟩ := put _ _ o3 [] h3 (by simpa using (List.nodup_append.mp nd2).2.1) (fun a m => by
        have z := h4.mem_iff.mp (List.mem_append_right p1 (by simpa using m : a ∈ o3))
        exact List.perm_append_comm.mem_iff.mp z)
      refine ⟨p0, vs, n, j, rfl, rfl, hp, by rw [← hx.length]; exact hj, ?_⟩
      rw [List.append_nil] at r3
      exact ok.nx _ σ _ os' q ((s.trans (Stp.of_same s2 _)).trans (by simpa using s3)) r3 (Pn.refl _ _)
    · exact q.elim
  · exact q.elim
/-- o[i] of a list -/
theorem get_list {Y : Cx} (hK : Y.K = K) : PGet Y (rIxL K) := by
  intro pins s σ H o i ov iv Q I r1 r2 h
  subst hK
  obtain ⟨p, xs, k, z, rfl, rfl, hq, he, q⟩ := h
  cases r1
  obtain ⟨t, rfl⟩ := r2
  obtain ⟨its, rv, pl, hz⟩ := I.list hq
  obtain ⟨j, h1, h2, h3, h4, h5⟩ := atI_get he
  obtain ⟨u, eu, ru⟩ := rv.get h2
  have hl := rv.length
  have hn := line63
  have fin : EP Y pins σ Q u s := ⟨z, H, I, ru, q⟩
  by_cases h0 : 0 ≤ k
  · have hj : k.toNat = j := by
      rw [seqIndex_of h0 h5] at h1
      exact Option.some.inj h1
    exact wpAny_getItem_list pl.isList h0 (by omega) (by rw [hj]; simpa using eu) fin
  · have hj : (k + (its.toArray.size : Int)).toNat = j := by
      rw [seqIndex_neg (by omega) h4] at h1
      rw [List.size_toArray, ← hl]
      exact Option.some.inj h1
    exact wpAny_getItem_list_neg pl.isList (by omega) (by rw [List.size_toArray] <;> omega) (by omega) (by rw [hj]; simpa using eu) fin
@[simp] def sAugIx (i : Nat) (f : Int → Int → Int) (ri re : WR) : WS := fun E G => lstAt G i fun xs => ri G fun k => match k with
  | .int n => (match ixN xs.length n with
    | some j => (match xs[j]? with
      | some (.int a) => re G fun y => (match y with | .int b => E.nx (G.set i (some (.lst true (xs.set j (.int (f a b)))))) | _ => False)
      | _ => False)
    | none => False)
  | _ => False
theorem s_augix (i : Nat) {st : Stmt} {e ie : Expr} {f : Int → Int → Int} {ri re : WR} (h : SndR X K e re) (hi : SndR X K ie ri) (mk : ∀ t ti, (∀ j, PE (X j) e t) → (∀ j, PE (X j) ie ti) → ∀ j, PS (X j) st (tAugS (tVar i) ti t (rIxL K) (ipI f) rSetL)) : SndS X K W pn st (sAugIx i f ri re) := by
  obtain ⟨t, h1, h2⟩ := h
  obtain ⟨ti, b1, b2⟩ := hi
  refine ⟨_, mk t ti h1 b1, fun U0 G σ H Oo os E De rep w ok => ?_⟩
  obtain ⟨xs, e1, w⟩ := lstAt_get w
  have rep0 : Rep K U0 G σ H (Oo ++ []) os := by rw [List.append_nil]; exact rep
  obtain ⟨p0, vs0, _, hv0, hp0, hx0, _⟩ := rep0.write e1
  refine ⟨.ref p0, hv0, ?_⟩
  refine b2 G σ H _ _ _ rep.vw w fun k vk H2 q s2 hk => ?_
  split at q
  case h_2 => exact q.elim
  rename_i n
  cases vw_int hk
  split at q
  case h_2 => exact q.elim
  rename_i j hj
  split at q
  case h_2 => exact q.elim
  rename_i a ha
  obtain ⟨va, pa, pb, g1, g2, _⟩ := hx0.pick ha
  obtain ⟨rfl, rfl⟩ := rp_int g2
  have hat : atI vs0 n = some (.int a) := by
    unfold atI
    rw [← hx0.length, hj]
    exact g1
  refine ⟨p0, vs0, n, .int a, rfl, rfl, .inl (.inl (s2 _ _ hp0)), hat, ?_⟩
  refine h2 G σ H2 _ _ _ (rep.vw.same s2 fun _ z => z) q fun y vy H3 q s3 hy => ?_
  split at q
  case h_2 => exact q.elim
  rename_i b
  cases vw_int hy
  refine ⟨a, b, rfl, rfl, ?_⟩
  have r3 := rep0.same (s2.trans s3)
  obtain ⟨p, vs, ox, hv, hp, hx, nd, put⟩ := r3.write e1
  rw [hv0] at hv
  cases hv
  obtain ⟨p1, o3, h3, h4⟩ := RpL.set (.int (f a b)) j hx (ixN_lt hj)
  have h4' : (p1 ++ o3).Perm ox := by simpa using h4
  have nd2 : (p1 ++ o3).Nodup := h4'.nodup_iff.mpr (by simpa using nd)
  obtain ⟨os', r4, s4, _⟩ := put _ _ o3 [] h3 (by simpa using (List.nodup_append.mp nd2).2.1) (fun a m => by
    have z := h4'.mem_iff.mp (List.mem_append_right p1 (by simpa using m : a ∈ o3))
    simpa using z)
  refine ⟨p0, vs, n, j, rfl, rfl, hp, by rw [← hx.length]; exact hj, ?_⟩
  rw [List.append_nil] at r4
  exact ok.nx _ σ _ os' q ((Stp.of_same (s2.trans s3) os).trans (by simpa using s4)) r4 (Pn.refl _ _)
/-- x += e of whole numbers -/
@[simp] def sAug (i : Nat) (f : Int → Int → Int) (w : WE) : WS := fun E G => match G[i]? with
  | some (some (.int a)) => w G (fun d G1 => match d with | .int b => E.nx (G1.set i (some (.int (f a b)))) | _ => False) E.ex
  | _ => False
theorem s_aug (i : Nat) {st : Stmt} {e : Expr} {f : Int → Int → Int} {w : WE} (h : SndE X K W e w) (mk : ∀ t, (∀ j, PE (X j) e t) → ∀ j, PS (X j) st (tAug i t (ipI f))) (hi : i ∉ pn := by decide) : SndS X K W pn st (sAug i f w) := by
  obtain ⟨t, h1, h2⟩ := h
  refine ⟨_, mk t h1, fun U0 G σ H Oo os E De rep w ok => ?_⟩
  unfold sAug at w
  split at w
  case h_2 => exact w.elim
  rename_i a e1
  obtain ⟨v, hv, hd⟩ := rep.vw.at' i _ e1
  cases vw_int hd
  refine ⟨_, hv, ?_⟩
  refine h2 U0 G σ H Oo os _ _ _ rep w (fun d G1 v H1 o2 os1 q s r x => ?_) ok.ex.here
  split at q
  case h_2 => exact q.elim
  rename_i b
  obtain ⟨rfl, rfl⟩ := rp_int x
  refine ⟨a, b, rfl, rfl, ?_⟩
  obtain ⟨os', r', sub⟩ := r.set (o2 := []) (v := .int (f a b)) i (.int (f a b))
  exact ok.nx _ _ H1 os' q ((by simpa using s : Stp H H1 os os1).sub fun a m => by simpa using sub a m) r' (Pn.set hi)
/-! ### while -/
def whl (c : WB) (b : WS) (E : En) : Nat → T.Env → Prop
  | 0, _ => False
  | n + 1, G => c G (fun k G' => if k = true then b { E with nx := whl c b E n, ct := whl c b E n, bk := E.nx } G' else E.nx G') E.ex
@[simp] def sWhile (c : WB) (b : WS) : WS := fun E G => ∃ n, whl c b E n G
theorem s_while {c : Expr} {body : List Stmt} {wc : WB} {b : WS} {pos : Pos} (hp : ∀ j, PassesOwn (model (X j).prog (X j).w) (X j).A (X j).env (X j).xe) (hc : SndB X K W c wc) (hb : SndSs X K W pn body b) : SndS X K W pn (.While c body [] pos) (sWhile wc b) := by
  obtain ⟨tc, c1, c2⟩ := hc
  obtain ⟨tb, b1, b2⟩ := hb
  refine ⟨tWhile tc tb, fun j => ps_while (hp j) (c1 j) (b1 j), fun U0 G σ H Oo os E De rep w ok => ?_⟩
  obtain ⟨n, w⟩ := w
  refine ⟨fun m σ' H' => ∃ G' os', Rep K U0 G' σ' H' Oo os' ∧ Stp H H' os os' ∧ Pn pn σ σ' ∧ whl wc b E m G', ⟨n, G, os, rep, Stp.refl _ _, Pn.refl _ _, w⟩, ?_⟩
  rintro m σ' H' ⟨G', os', r', st, pn', w'⟩
  cases m with
  | zero => exact w'.elim
  | succ m =>
    have ok' := ok.step st pn'
    refine c2 U0 G' σ' H' Oo os' _ _ _ r' w' (fun k G2 H2 os2 p s r2 => ?_) ok'.ex.here
    cases k with
    | true =>
      rw [if_pos rfl] at p ⊢
      refine ⟨fun σ3 H3 => ∃ G3 os3, Rep K U0 G3 σ3 H3 Oo os3 ∧ Stp H H3 os os3 ∧ Pn pn σ σ3 ∧ whl wc b E m G3, fun σ3 H3 h => ⟨m, Nat.lt_succ_self m, h⟩, ?_⟩
      have okb := ok'.step s (Pn.refl pn σ')
      refine b2 U0 G2 σ' H2 Oo os2 _ _ r2 p ⟨fun G4 σ4 H4 os4 p4 s4 r4 n4 => ?_, okb.rt, okb.nx, fun G4 σ4 H4 os4 p4 s4 r4 n4 => ?_, okb.ex⟩
      · exact ⟨G4, os4, r4, (st.trans s).trans s4, pn'.trans n4, p4⟩
      · exact ⟨G4, os4, r4, (st.trans s).trans s4, pn'.trans n4, p4⟩
    | false =>
      rw [if_neg Bool.false_ne_true] at p ⊢
      exact ok'.nx G2 σ' H2 os2 p s r2 (Pn.refl _ _)
end
end T
namespace T
open PySem PySem.Spec PyProof.Rows L2
section
variable {ι : Type} {X : ι → Cx} {K : PySem.W.Frag} {W : WX} {pn : List Nat}
/-! ### numbers -/
theorem ok_rI {C : Int → Int → Prop} {g : Int → Int → V} {f : D → D → (D → Prop) → Prop} {gd : Int → Int → D} (hg : ∀ i j H S, Vw K H S (gd i j) (g i j)) (hf : ∀ x y P, f x y P → ∃ i j, x = .int i ∧ y = .int j ∧ C i j ∧ P (gd i j)) : OpOk K (rI C g) f := by
  intro H S x y v u P Q hx hy h q
  obtain ⟨i, j, rfl, rfl, hc, hp⟩ := hf x y P h
  cases vw_int hx
  cases vw_int hy
  exact ⟨i, j, rfl, rfl, hc, q _ _ H hp (Same.refl H) (hg i j H _)⟩
theorem ok_rI0 {g : Int → Int → V} {f : D → D → (D → Prop) → Prop} {gd : Int → Int → D} (hg : ∀ i j H S, Vw K H S (gd i j) (g i j)) (hf : ∀ x y P, f x y P → ∃ i j, x = .int i ∧ y = .int j ∧ P (gd i j)) : OpOk K (rI0 g) f := by
  intro H S x y v u P Q hx hy h q
  obtain ⟨i, j, rfl, rfl, hp⟩ := hf x y P h
  cases vw_int hx
  cases vw_int hy
  exact ⟨i, j, rfl, rfl, q _ _ H hp (Same.refl H) (hg i j H _)⟩
/-- two whole numbers -/
@[simp] def onI (C : Int → Int → Prop) (g : Int → Int → D) : D → D → (D → Prop) → Prop := fun x y P => match x, y with | .int i, .int j => C i j ∧ P (g i j) | _, _ => False
@[simp] def onI0 (g : Int → Int → D) : D → D → (D → Prop) → Prop := fun x y P => match x, y with | .int i, .int j => P (g i j) | _, _ => False
theorem onI_of {C : Int → Int → Prop} {g : Int → Int → D} : ∀ x y P, onI C g x y P → ∃ i j, x = .int i ∧ y = .int j ∧ C i j ∧ P (g i j) := fun x y P h => by
  cases x <;> cases y <;> first | exact ⟨_, _, rfl, rfl, h.1, h.2⟩ | exact h.elim
theorem onI0_of {g : Int → Int → D} : ∀ x y P, onI0 g x y P → ∃ i j, x = .int i ∧ y = .int j ∧ P (g i j) := fun x y P h => by
  cases x <;> cases y <;> first | exact ⟨_, _, rfl, rfl, h⟩ | exact h.elim
@[simp] def subD := onI0 fun i j => .int (i - j)
@[simp] def mulD := onI CMul fun i j => .int (i * j)
@[simp] def fdivD := onI CDiv fun i j => .int (i / j)
@[simp] def modD := onI (fun _ j => 0 < j) fun i j => .int (i % j)
@[simp] def powD := onI CPow fun i j => .int (i ^ j.toNat)
@[simp] def shlD := onI CPow fun i j => .int (i * 2 ^ j.toNat)
@[simp] def shrD := onI (fun _ j => 0 ≤ j) fun i j => .int (i / 2 ^ j.toNat)
@[simp] def bandD := onI0 fun i j => .int (Builtin.bitAnd i j)
theorem ok_sub : OpOk K (rI0 fun i j => .int (i - j)) subD := ok_rI0 (gd := fun i j => .int (i - j)) (fun _ _ _ _ => .int _) onI0_of
theorem ok_mul : OpOk K (rI CMul fun i j => .int (i * j)) mulD := ok_rI (gd := fun i j => .int (i * j)) (fun _ _ _ _ => .int _) onI_of
theorem ok_fdiv : OpOk K (rI CDiv fun i j => .int (i / j)) fdivD := ok_rI (gd := fun i j => .int (i / j)) (fun _ _ _ _ => .int _) onI_of
theorem ok_mod : OpOk K (rI (fun _ j => 0 < j) fun i j => .int (i % j)) modD := ok_rI (gd := fun i j => .int (i % j)) (fun _ _ _ _ => .int _) onI_of
theorem ok_pow : OpOk K (rI CPow fun i j => .int (i ^ j.toNat)) powD := ok_rI (gd := fun i j => .int (i ^ j.toNat)) (fun _ _ _ _ => .int _) onI_of
theorem ok_shl : OpOk K (rI CPow fun i j => .int (i * 2 ^ j.toNat)) shlD := ok_rI (gd := fun i j => .int (i * 2 ^ j.toNat)) (fun _ _ _ _ => .int _) onI_of
theorem ok_shr : OpOk K (rI (fun _ j => 0 ≤ j) fun i j => .int (i / 2 ^ j.toNat)) shrD := ok_rI (gd := fun i j => .int (i / 2 ^ j.toNat)) (fun _ _ _ _ => .int _) onI_of
theorem ok_band : OpOk K (rI0 fun i j => .int (Builtin.bitAnd i j)) bandD := ok_rI0 (gd := fun i j => .int (Builtin.bitAnd i j)) (fun _ _ _ _ => .int _) onI0_of
/-! one operand -/
@[simp] def rNeg (r : WR) : WR := fun G P => r G fun d => match d with | .int i => P (.int (-i)) | _ => False
theorem r_neg {e : Expr} {r : WR} {pos : Pos} (h : SndR X K e r) : SndR X K (.UnaryOp .USub e pos) (rNeg r) := by
  obtain ⟨t, h1, h2⟩ := h
  refine ⟨tUn (rU fun i => .int (-i)) t, fun j => pe_un un_neg (h1 j), fun G σ H S P Q g w q => ?_⟩
  refine h2 G σ H S _ _ g w fun d v H' p s hv => ?_
  cases d with
  | int i =>
    cases vw_int hv
    exact ⟨i, rfl, q _ _ H' p s (.int _)⟩
  | _ => exact p.elim
/-! ### + of whole numbers, texts, lists, tuples -/
def rCatL : R2 := fun x y H Q => ∃ l b xs zs, x = .ref l ∧ y = .ref b ∧ Rd H l (.lst xs) ∧ Rd H b (.lst zs) ∧ xs.length + zs.length ≤ sizeLine ∧ ∀ p, H p = none → Q (.ref p) (upd H p (.lst (xs ++ zs)))
theorem op_catL {Y : Cx} : OpR Y (binaryOp .Add) rCatL := by
  intro pins s σ H x y v u Q I rx ry h
  obtain ⟨l, b, xs, zs, rfl, rfl, hH, hB, hz, q⟩ := h
  cases rx
  cases ry
  obtain ⟨_, its, n, r, e⟩ := hH.ok I.hok
  obtain ⟨_, its2, n2, r2, e2⟩ := hB.ok I.hok
  have hl := r.length
  have hl2 := r2.length
  refine PySem.P.add_list e e2 ?_ (by rw [List.size_toArray, List.size_toArray]; omega)
  have ea : its.toArray ++ its2.toArray = (its ++ its2).toArray := by simp
  rw [ea]
  exact ⟨.ref _, _, I.lnew (t' := s.toks) (r.append r2) (by rw [List.length_append]; exact hz), rfl, q _ I.fresh⟩
def rAddA (K : PySem.W.Frag) : R2 := fun x y H Q => (rI0 (fun i j => .int (i + j)) x y H Q ∨ (∃ i j, x = .str i ∧ y = .str j ∧ i.length + j.length ≤ sizeLine ∧ Q (.str (i ++ j)) H)) ∨ (rCatL x y H Q ∨ rCatA K x y H Q)
theorem op_addA {Y : Cx} (hK : Y.K = K) : OpR Y (binaryOp .Add) (rAddA K) := by
  subst hK
  exact (op_add.or op_add_str).or (op_catL.or op_catA)
@[simp] def addD : D → D → (D → Prop) → Prop := fun x y P => match x, y with
  | .int i, .int j => P (.int (i + j))
  | .str a, .str b => a.length + b.length ≤ 100000 ∧ P (.str (a ++ b))
  | .lst _ xs, .lst _ ys => xs.length + ys.length ≤ 100000 ∧ P (.lst false (xs ++ ys))
  | .tup xs, .tup ys => xs.length + ys.length ≤ 100000 ∧ P (.tup (xs ++ ys))
  | _, _ => False
theorem ok_add : OpOk K (rAddA K) addD := by
  intro H S x y v u P Q hx hy h q
  cases hx with
  | int i =>
    cases hy with
    | int j => exact .inl (.inl ⟨i, j, rfl, rfl, q _ _ H h (Same.refl H) (.int _)⟩)
    | _ => exact h.elim
  | str i =>
    cases hy with
    | str j => exact .inl (.inr ⟨i, j, rfl, rfl, small_line h.1, q _ _ H h.2 (Same.refl H) (.str _)⟩)
    | _ => exact h.elim
  | lst rd sa hl =>
    cases hy with
    | lst rd' sa' hl' =>
      refine .inr (.inl ⟨_, _, _, _, rfl, rfl, (Or.inl rd), (Or.inl rd'), by rw [← hl.length, ← hl'.length]; exact small_line h.1, fun p hp => ?_⟩)
      exact q _ _ _ h.2 (same_new hp) (.lst upd_same (.inr hp) ((hl.append hl').same (same_new hp) gr_of))
    | _ => exact h.elim
  | tup sq hl =>
    cases hy with
    | tup sq' hl' =>
      refine .inr (.inr ⟨_, _, _, _, rfl, rfl, sq, sq', by rw [← hl.length, ← hl'.length]; exact small_line h.1, fun e => ?_, fun _ e => ?_, fun _ _ p hp => ?_⟩)
      · subst e
        cases hl
        exact q _ _ H h.2 (Same.refl H) (.tup sq' (hl'.same (Same.refl H) gr_of))
      · subst e
        cases hl'
        refine q _ _ H h.2 (Same.refl H) (.tup sq ?_)
        rw [List.append_nil]
        exact hl.same (Same.refl H) gr_of
      · exact q _ _ _ h.2 (same_new hp) (.tup (.inl (.inl upd_same)) ((hl.append hl').same (same_new hp) gr_of))
    | _ => exact h.elim
  | _ => cases y <;> exact h.elim
/-- a + b, two lists: a new list -/
@[simp] def fCat (ra rb : WR) : WA := fun G P => ra G fun x => rb G fun y => match x, y with | .lst _ xs, .lst _ ys => xs.length + ys.length ≤ 100000 ∧ P (xs ++ ys) | _, _ => False
theorem f_cat {a b : Expr} {ra rb : WR} {pos : Pos} (ha : SndR X K a ra) (hb : SndR X K b rb) : SndF X K (.BinOp a .Add b pos) (fCat ra rb) := by
  obtain ⟨ta, a1, a2⟩ := ha
  obtain ⟨tb, b1, b2⟩ := hb
  refine ⟨tOp rCatL ta tb, fun j => pe_op op_catL (a1 j) (b1 j), fun G σ H S P Q g h q => ?_⟩
  refine a2 G σ H S _ _ g h fun x v H1 h1 s1 v1 => ?_
  refine b2 G σ H1 (gr S H) _ _ (g.same s1 gr_of) h1 fun y u H2 h2 s2 v2 => ?_
  have w1 := v1.same s2 fun _ z => z
  have w2 := v2.same (Same.refl _) (gr_gr s1)
  cases w1 with
  | lst rd sa hl =>
    cases w2 with
    | lst rd' sa' hl' =>
      exact ⟨_, _, _, _, rfl, rfl, (Or.inl rd), (Or.inl rd'), by rw [← hl.length, ← hl'.length]; exact small_line h2.1, fun p hp => q _ _ p H2 h2.2 (s1.trans s2) hp (hl.append hl')⟩
    | _ => exact h2.elim
  | _ => cases y <;> exact h2.elim
/-- the same, of what may change the slots -/
@[simp] def eCat (wa wb : WE) : WE := fun G P PX => wa G (fun x G1 => wb G1 (fun y G2 => match x, y with | .lst _ xs, .lst _ ys => xs.length + ys.length ≤ 100000 ∧ P (.lst true (frzL (xs ++ ys))) G2 | _, _ => False) PX) PX
theorem e_cat {a b : Expr} {wa wb : WE} {pos : Pos} (ha : SndE X K W a wa) (hb : SndE X K W b wb) : SndE X K W (.BinOp a .Add b pos) (eCat wa wb) := by
  obtain ⟨ta, a1, a2⟩ := ha
  obtain ⟨tb, b1, b2⟩ := hb
  refine ⟨tOp rCatL ta tb, fun j => pe_op op_catL (a1 j) (b1 j), fun U0 G σ H Oo os P PX Q rep w ok2 okx => ?_⟩
  refine a2 U0 G σ H Oo os _ _ _ rep w (fun x G1 v H1 o1 os1 p1 s1 r1 x1 => ?_) okx
  refine b2 U0 G1 σ H1 (Oo ++ o1) os1 _ _ _ r1 p1 (fun y G2 u H2 o2 os2 p2 s2 r2 x2 => ?_) (okx.more s1)
  have z1 := aside s2 r1.own x1
  have e1 : Oo ++ o1 ++ (o2 ++ os2) = (Oo ++ (o1 ++ o2)) ++ os2 := by simp [List.append_assoc]
  have e2 : Oo ++ o1 ++ o2 = Oo ++ (o1 ++ o2) := by simp [List.append_assoc]
  rw [e1] at z1
  rw [e2] at r2 x2
  have pr : RpL K H2 (ug U0 ((Oo ++ (o1 ++ o2)) ++ os2)) [x, y] [v, u] (o1 ++ o2) := by
    have q := RpL.cons z1 (RpL.cons x2 .nil)
    simpa using q
  have vw := letgo r2 pr
  cases vw with
  | cons w1 w2 =>
    cases w2 with
    | cons w2 _ =>
      have st : Stp H H2 os os2 := (s1.trans s2.wide).sub fun c m => List.mem_append_right _ (List.mem_append_right _ m)
      cases w1 with
      | lst rd sa hl =>
        cases w2 with
        | lst rd' sa' hl' =>
          refine ⟨_, _, _, _, rfl, rfl, (Or.inl rd), (Or.inl rd'), by rw [← hl.length, ← hl'.length]; exact small_line p2.1, fun p hp => ?_⟩
          exact (ok2.step st).viewF r2.less (Same.refl _) hp ((hl.append hl').same (Same.refl _) gr_of) p2.2
        | _ => exact p2.elim
      | _ => cases y <;> exact p2.elim
/-! ### * of a list by a whole number -/
theorem vals_rep_flat {xs : List D} {vs : List V} {H : Hp} {S : Addr → Prop} (h : VwL K H S xs vs) : ∀ k : Nat, VwL K H S (List.replicate k xs).flatten (List.replicate k vs).flatten
  | 0 => .nil
  | k + 1 => by
    rw [List.replicate_succ, List.replicate_succ, List.flatten_cons, List.flatten_cons]
    exact h.append (vals_rep_flat h k)
/-- [..] * n, the list made on the way -/
@[simp] def fRep (t : WA) (rb : WR) : WA := fun G P => t G fun xs => xs.length ≤ 1000 ∧ rb G fun y => match y with | .int k => (k ≤ 1000 ∧ -(2 ^ 63) ≤ k) ∧ P (List.replicate k.toNat xs).flatten | _ => False
theorem f_rep {es : List Expr} {b : Expr} {t : WA} {rb : WR} {pos p2 : Pos} (ha : SndA X K es t) (hb : SndR X K b rb) : SndF X K (.BinOp (.List es p2) .Mult b pos) (fRep t rb) := by
  obtain ⟨ta, a1, a2⟩ := ha
  obtain ⟨tb, b1, b2⟩ := hb
  refine ⟨tOp rRep (tLst ta) tb, fun j => pe_op op_rep (pe_lst (a1 j)) (b1 j), fun G σ H S P Q g h q => ?_⟩
  refine a2 G σ H S _ _ g h fun xs vs H1 h1 s1 v1 => ?_
  have hl := v1.length
  refine ⟨small_line (by rw [← hl]; exact Nat.le_trans h1.1 (by decide)), fun p hp => ?_⟩
  have sp : Same H1 (upd H1 p (.lst vs)) := same_new hp
  refine b2 G σ _ (gr S H) _ _ (g.same (s1.trans sp) gr_of) h1.2 fun y u H2 h2 s2 v2 => ?_
  cases y with
  | int k =>
    cases vw_int v2
    refine ⟨p, k, vs, rfl, rfl, s2 _ _ upd_same, h2.1.2, by have := h2.1.1; omega, ?_, fun p' hp' => ?_⟩
    · have hk : k.toNat ≤ 1000 := by have := h2.1.1; omega
      have : vs.length * k.toNat ≤ 1000 * 1000 := Nat.mul_le_mul (by rw [← hl]; exact h1.1) hk
      rw [sizeLine_eq]
      omega
    · exact q _ _ p' H2 h2.2 ((s1.trans sp).trans s2) hp' (vals_rep_flat (v1.same (sp.trans s2) fun _ z => z) _)
  | _ => exact h2.elim
/-- (..) * n -/
@[simp] def rRepT' (t : WR) (rb : WR) : WR := fun G P => t G fun x => rb G fun y => match x, y with | .tup xs, .int k => (xs ≠ [] ∧ 2 ≤ k ∧ k ≤ 1000 ∧ xs.length ≤ 1000) ∧ P (.tup (List.replicate k.toNat xs).flatten) | _, _ => False
theorem r_repT {a b : Expr} {ra rb : WR} {pos : Pos} (hK : ∀ j, (X j).K = K) (ha : SndR X K a ra) (hb : SndR X K b rb) : SndR X K (.BinOp a .Mult b pos) (rRepT' ra rb) := by
  obtain ⟨ta, a1, a2⟩ := ha
  obtain ⟨tb, b1, b2⟩ := hb
  refine ⟨tOp (rRepT K) ta tb, fun j => pe_op (hK j ▸ op_repT) (a1 j) (b1 j), fun G σ H S P Q g h q => ?_⟩
  refine a2 G σ H S _ _ g h fun x v H1 h1 s1 v1 => ?_
  refine b2 G σ H1 (gr S H) _ _ (g.same s1 gr_of) h1 fun y u H2 h2 s2 v2 => ?_
  have w1 := v1.same s2 fun _ z => z
  cases w1 with
  | tup sq hl =>
    cases y with
    | int k =>
      cases vw_int v2
      refine ⟨_, k, _, rfl, rfl, sq, ?_, h2.1.2.1, h2.1.2.2.1, by rw [← hl.length]; exact h2.1.2.2.2, fun p hp => ?_⟩
      · intro e
        subst e
        cases hl
        exact h2.1.1 rfl
      · exact q _ _ _ h2.2 ((s1.trans s2).trans (same_new hp)) (.tup (.inl (.inl upd_same)) ((vals_rep_flat hl _).same (same_new hp) fun _ z => z))
    | _ => exact h2.elim
  | _ => cases y <;> exact h2.elim
/-! ### == of data -/
mutual
def py : D → PyData
  | .non => .none
  | .bl b => .bool b
  | .int i => .int i
  | .str x => .str x
  | .scr _ => .dict []
  | .tup xs => .tuple (pyL xs)
  | .lst _ xs => .list (pyL xs)
  | .dic _ _ _ => .dict []
  | .obj _ _ _ _ => .dict []
def pyL : List D → List PyData
  | [] => []
  | x :: xs => py x :: pyL xs
end
theorem pyL_map : ∀ xs : List D, pyL xs = xs.map py
  | [] => rfl
  | x :: xs => by simp only [pyL, pyL_map xs, List.map_cons]
mutual
theorem vw_dp : ∀ {H : Hp} {S : Addr → Prop} {d : D} {v : V}, Vw K H S d v → (py d).canLay0 = true → Dp K H v (py d)
  | _, _, _, _, .non, _ => .non
  | _, _, _, _, .bl b, _ => .bl b
  | _, _, _, _, .int b, _ => .int b
  | _, _, _, _, .str b, _ => .str b
  | _, _, _, _, .scr t, h => by simp [py, PyData.canLay0] at h
  | _, _, _, _, .tup t l, h => .tup t (vwl_dp l (by simpa [py, PyData.canLay0] using h))
  | _, _, _, _, .lst r s l, h => .lst (.inl (.inl r)) (vwl_dp l (by simpa [py, PyData.canLay0] using h))
  | _, _, _, _, .dic r s t l, h => by simp [py, PyData.canLay0] at h
  | _, _, _, _, .obj r s l, h => by simp [py, PyData.canLay0] at h
theorem vwl_dp : ∀ {H : Hp} {S : Addr → Prop} {d : List D} {v : List V}, VwL K H S d v → PyData.canLayAll0 (pyL d) = true → DpAll K H v (pyL d)
  | _, _, _, _, .nil, _ => .nil
  | _, _, _, _, .cons h t, q => by
    simp only [pyL, PyData.canLayAll0, Bool.and_eq_true] at q
    exact .cons (vw_dp h q.1) (vwl_dp t q.2)
end
/-- data that may be compared -/
def shp (d : D) : Bool := SeqAt.shaped (py d)
def deq (x y : D) : Bool := PyData.eqv (py x) (py y)
@[simp] def eqD : D → D → (D → Prop) → Prop := fun x y P => shp x = true ∧ shp y = true ∧ P (.bl (deq x y))
@[simp] def neD : D → D → (D → Prop) → Prop := fun x y P => shp x = true ∧ shp y = true ∧ P (.bl (!deq x y))
theorem shp_lay {d : D} (h : shp d = true) : (py d).canLay0 = true := by
  unfold shp SeqAt.shaped at h
  simp only [Bool.and_eq_true] at h
  exact h.1
theorem ok_eq : OpOk K (rEqD K) eqD := fun H S x y v u P Q hx hy h q => ⟨py x, py y, vw_dp hx (shp_lay h.1), vw_dp hy (shp_lay h.2.1), h.1, h.2.1, q _ _ H h.2.2 (Same.refl H) (.bl _)⟩
theorem ok_ne : OpOk K (rNeD K) neD := fun H S x y v u P Q hx hy h q => ⟨py x, py y, vw_dp hx (shp_lay h.1), vw_dp hy (shp_lay h.2.1), h.1, h.2.1, q _ _ H h.2.2 (Same.refl H) (.bl _)⟩
/-- texts, whatever they are -/
@[simp] def seqD : D → D → (D → Prop) → Prop := fun x y P => match x, y with | .str a, .str b => P (.bl (decide (a = b))) | _, _ => False
/-! in -/
def mem (x : D) (xs : List D) : Bool := (pyL xs).any fun z => PyData.eqv z (py x)
def rInA (K : PySem.W.Frag) : R2 := fun x y H Q => rInD K x y H Q ∨ rIn K false x y H Q
def rNotInA (K : PySem.W.Frag) : R2 := fun x y H Q => rNotInD K x y H Q ∨ rIn K true x y H Q
@[simp] def flt (d : D) : Bool := match d with | .non | .bl _ | .int _ | .str _ => true | _ => false
@[simp] def inD : D → D → (D → Prop) → Prop := fun x y P => match y with
  | .lst _ xs => shp x = true ∧ shp y = true ∧ P (.bl (mem x xs))
  | .tup xs => flt x = true ∧ xs.all flt = true ∧ P (.bl (mem x xs))
  | _ => False
@[simp] def notInD : D → D → (D → Prop) → Prop := fun x y P => match y with
  | .lst _ xs => shp x = true ∧ shp y = true ∧ P (.bl (!mem x xs))
  | .tup xs => flt x = true ∧ xs.all flt = true ∧ P (.bl (!mem x xs))
  | _ => False
theorem flt_eqv : ∀ {H : Hp} {S : Addr → Prop} {x y : D} {v u : V}, Vw K H S x v → Vw K H S y u → flt x = true → flt y = true → flatV v = true ∧ flatV u = true ∧ eqV u v = PyData.eqv (py y) (py x) := by
  intro H S x y v u hx hy fx fy
  cases hx <;> first | (simp [flt] at fx; done) | skip
  all_goals cases hy <;> first | (simp [flt] at fy; done) | skip
  all_goals refine ⟨rfl, rfl, ?_⟩
  all_goals simp [eqV, py, PyData.eqv]
theorem flt_mem : ∀ {H : Hp} {S : Addr → Prop} {x : D} {v : V} {ys : List D} {us : List V}, Vw K H S x v → flt x = true → VwL K H S ys us → ys.all flt = true → us.all flatV = true ∧ inV v us = mem x ys
  | _, _, _, _, _, _, _, _, .nil, _ => ⟨rfl, rfl⟩
  | _, _, x, v, _, _, hx, fx, .cons h t, q => by
    simp only [List.all_cons, Bool.and_eq_true] at q
    obtain ⟨h1, h2⟩ := flt_mem hx fx t q.2
    obtain ⟨f1, f2, f3⟩ := flt_eqv hx h fx q.1
    refine ⟨by simp [f2, h1], ?_⟩
    unfold inV mem at h2 ⊢
    simp only [List.any_cons, pyL, f3, h2]
theorem ok_in : OpOk K (rInA K) inD := by
  intro H S x y v u P Q hx hy h q
  cases hy with
  | lst rd sa hl =>
    have hy' : Vw K H S (.lst _ _) (.ref _) := .lst (o := false) rd sa hl
    exact .inl ⟨_, _, vw_dp hx (shp_lay h.1), vw_dp hy' (shp_lay h.2.1), h.1, h.2.1, q _ _ H h.2.2 (Same.refl H) (.bl _)⟩
  | tup sq hl =>
    obtain ⟨h1, h2⟩ := flt_mem hx h.1 hl h.2.1
    refine .inr ⟨_, _, rfl, .inr sq, ?_, h1, ?_⟩
    · cases hx <;> first | rfl | (simp [inD, flt] at h)
    · rw [if_neg Bool.false_ne_true, h2]
      exact q _ _ H h.2.2 (Same.refl H) (.bl _)
  | _ => exact h.elim
theorem ok_notIn : OpOk K (rNotInA K) notInD := by
  intro H S x y v u P Q hx hy h q
  cases hy with
  | lst rd sa hl =>
    have hy' : Vw K H S (.lst _ _) (.ref _) := .lst (o := false) rd sa hl
    exact .inl ⟨_, _, vw_dp hx (shp_lay h.1), vw_dp hy' (shp_lay h.2.1), h.1, h.2.1, q _ _ H h.2.2 (Same.refl H) (.bl _)⟩
  | tup sq hl =>
    obtain ⟨h1, h2⟩ := flt_mem hx h.1 hl h.2.1
    refine .inr ⟨_, _, rfl, .inr sq, ?_, h1, ?_⟩
    · cases hx <;> first | rfl | (simp [notInD, flt] at h)
    · rw [if_pos rfl, h2]
      exact q _ _ H h.2.2 (Same.refl H) (.bl _)
  | _ => exact h.elim
theorem op_inA {Y : Cx} (hK : Y.K = K) (hu : Y.A.units + 65 < cLine) : OpR Y (compareOp .In) (rInA K) := by
  subst hK
  exact (op_inD hu).or op_in_seq
theorem op_notInA {Y : Cx} (hK : Y.K = K) (hu : Y.A.units + 65 < cLine) : OpR Y (compareOp .NotIn) (rNotInA K) := by
  subst hK
  exact (op_notInD hu).or op_notIn_seq
/-! is -/
@[simp] def isND : D → D → (D → Prop) → Prop := fun x y P => match y with | .non => P (.bl (match x with | .non => true | _ => false)) | .bl b => (match x with | .bl a => P (.bl (decide (a = b))) | _ => False) | _ => False
@[simp] def notND : D → D → (D → Prop) → Prop := fun x y P => match y with | .non => P (.bl (match x with | .non => false | _ => true)) | .bl b => (match x with | .bl a => P (.bl (!decide (a = b))) | _ => False) | _ => False
def rIsA : R2 := fun x y H Q => (y = .non ∧ Q (.bl (decide (x = .non))) H) ∨ ∃ a b, x = .bl a ∧ y = .bl b ∧ Q (.bl (decide (a = b))) H
def rIsNotA : R2 := fun x y H Q => (y = .non ∧ Q (.bl (!decide (x = .non))) H) ∨ ∃ a b, x = .bl a ∧ y = .bl b ∧ Q (.bl (!decide (a = b))) H
theorem op_isA {Y : Cx} : OpR Y (compareOp .Is) rIsA := op_isN.or op_is_bl
theorem op_isNotA {Y : Cx} : OpR Y (compareOp .IsNot) rIsNotA := op_notN.or op_isnot_bl
theorem ok_is : OpOk K rIsA isND := by
  intro H S x y v u P Q hx hy h q
  cases hy with
  | non => exact .inl ⟨rfl, by cases hx <;> exact q _ _ H h (Same.refl H) (.bl _)⟩
  | bl b =>
    cases hx with
    | bl a => exact .inr ⟨a, b, rfl, rfl, q _ _ H h (Same.refl H) (.bl _)⟩
    | _ => exact h.elim
  | _ => exact h.elim
theorem ok_isNot : OpOk K rIsNotA notND := by
  intro H S x y v u P Q hx hy h q
  cases hy with
  | non => exact .inl ⟨rfl, by cases hx <;> exact q _ _ H h (Same.refl H) (.bl _)⟩
  | bl b =>
    cases hx with
    | bl a => exact .inr ⟨a, b, rfl, rfl, q _ _ H h (Same.refl H) (.bl _)⟩
    | _ => exact h.elim
  | _ => exact h.elim
/-! subscripts -/
@[simp] def ixD : D → D → (D → Prop) → Prop := fun x y P => match y with
  | .int i => (match x with
    | .lst _ xs => (match atI xs i with | some d => P d | none => False)
    | .scr ns => (match atI ns i with | some d => P (.int d) | none => False)
    | .tup xs => (match atI xs i with | some d => P d | none => False)
    | .str z => z.length ≤ 100000 ∧ (match atI z.cps.toList i with | some c => P (.str ⟨#[c]⟩) | none => False)
    | _ => False)
  | _ => False
theorem atI_vw {H : Hp} {S : Addr → Prop} {ds : List D} {vs : List V} {i : Int} {d : D} (h : VwL K H S ds vs) (e : atI ds i = some d) : ∃ v, atI vs i = some v ∧ Vw K H S d v := by
  unfold atI at e ⊢
  rw [← h.length]
  cases q : ixN ds.length i with
  | none => rw [q] at e; cases e
  | some j =>
    rw [q] at e
    obtain ⟨v, h1, h2⟩ := h.get (i := j) (x := d) e
    exact ⟨v, h1, h2⟩
theorem ok_ix : OpOk K (rIx K) ixD := by
  intro H S x y v u P Q hx hy h q
  cases hy with
  | int i =>
    cases hx with
    | lst rd sa hl =>
      simp only [ixD] at h
      split at h
      · rename_i d e
        obtain ⟨z, h1, h2⟩ := atI_vw hl e
        exact .inl ⟨_, _, i, z, rfl, rfl, .inl (Or.inl rd), h1, q _ _ H h (Same.refl H) (h2.same (Same.refl H) gr_of)⟩
      · exact h.elim
    | @scr a ns t =>
      simp only [ixD] at h
      split at h
      · rename_i d e
        have e2 : atI (ns.map V.int) i = some (.int d) := by
          unfold atI at e ⊢
          rw [List.length_map]
          cases q : ixN ns.length i with
          | none => rw [q] at e; cases e
          | some j =>
            rw [q] at e
            have e' : ns[j]? = some d := e
            show (ns.map V.int)[j]? = _
            rw [List.getElem?_map, e']
            rfl
        exact .inl ⟨_, _, i, _, rfl, rfl, t.sq, e2, q _ _ H h (Same.refl H) (.int _)⟩
      · exact h.elim
    | tup sq hl =>
      simp only [ixD] at h
      split at h
      · rename_i d e
        obtain ⟨z, h1, h2⟩ := atI_vw hl e
        exact .inr (.inl ⟨_, _, i, z, rfl, rfl, sq, h1, q _ _ H h (Same.refl H) (h2.same (Same.refl H) gr_of)⟩)
      · exact h.elim
    | str z =>
      simp only [ixD] at h
      obtain ⟨hz, h⟩ := h
      split at h
      · rename_i c e
        exact .inr (.inr ⟨z, i, c, rfl, rfl, small_line hz, e, q _ _ H h (Same.refl H) (.str _)⟩)
      · exact h.elim
    | _ => exact h.elim
  | _ => exact h.elim
/-! order: whole numbers, tuples of them -/
@[simp] def asInts : List D → Option (List Int)
  | [] => some []
  | .int i :: xs => (asInts xs).map (i :: ·)
  | _ => none
theorem asInts_vw {H : Hp} {S : Addr → Prop} : ∀ {ds : List D} {vs : List V} {ns : List Int}, VwL K H S ds vs → asInts ds = some ns → vs = ns.map V.int
  | _, _, ns, .nil, e => by simp [asInts] at e; subst e; rfl
  | _, _, ns, .cons (d := d) h t, e => by
    cases d with
    | int i =>
      simp only [asInts, Option.map_eq_some_iff] at e
      obtain ⟨ms, e1, e2⟩ := e
      subst e2
      cases vw_int h
      rw [asInts_vw t e1]
      rfl
    | _ => simp [asInts] at e
/-- e: what equal ones go on with at the end; r: what unlike ones give -/
@[simp] def lexI (r : Int → Int → Bool) (z : Nat → Nat → Bool) : List Int → List Int → Bool
  | x :: xs, y :: ys => if x = y then lexI r z xs ys else r x y
  | xs, ys => z xs.length ys.length
theorem lexAt_lexI (r : Int → Int → Bool) (z : Nat → Nat → Bool) (hz : ∀ a b, z (a + 1) (b + 1) = z a b) : ∀ (ns ms : List Int) (i : Nat) (as bs : List Int), as.length = i → bs.length = i →
    Ob.lexAt (fun j => decide ((as ++ ns).getD j 0 = (bs ++ ms).getD j 0)) (fun j => r ((as ++ ns).getD j 0) ((bs ++ ms).getD j 0)) (z ns.length ms.length) i (min ns.length ms.length) = lexI r z ns ms
  | [], ms, i, as, bs, ha, hb => by simp [Ob.lexAt, lexI]
  | n :: ns, [], i, as, bs, ha, hb => by simp [Ob.lexAt, lexI]
  | n :: ns, m :: ms, i, as, bs, ha, hb => by
    have ih := lexAt_lexI r z hz ns ms (i + 1) (as ++ [n]) (bs ++ [m]) (by simp [ha]) (by simp [hb])
    simp only [List.append_assoc, List.singleton_append] at ih
    have hmin : min (n :: ns).length (m :: ms).length = min ns.length ms.length + 1 := by simp only [List.length_cons]; omega
    rw [hmin, Ob.lexAt_succ]
    have g1 : (as ++ n :: ns).getD i 0 = n := by simp [List.getD, ← ha]
    have g2 : (bs ++ m :: ms).getD i 0 = m := by simp [List.getD, ← hb]
    rw [g1, g2]
    have hz' : z (n :: ns).length (m :: ms).length = z ns.length ms.length := by
      simp only [List.length_cons]
      exact hz _ _
    rw [hz', ih]
    simp only [lexI]
    by_cases e : n = m
    · simp [e]
    · simp [e]
/-- the operators' rule for tuples of whole numbers -/
def rTupI (K : PySem.W.Frag) (r : Int → Int → Bool) (z : Nat → Nat → Bool) : R2 := fun x y H Q => ∃ (a b : Addr) (ns ms : List Int), x = .ref a ∧ y = .ref b ∧ SqT K H a (ns.map V.int) ∧ SqT K H b (ms.map V.int) ∧ Q (.bl (lexI r z ns ms)) H
theorem op_tupI {Y : Cx} {op : CmpOp} {r : Int → Int → Bool} {z : Nat → Nat → Bool} (hz : ∀ a b, z (a + 1) (b + 1) = z a b) (hi : ∀ (A : Around) (s : Shared) (a b : Int) (t u : Tok), Ob.RcOp op A s (.int a t) (.int b u) (r a b))
    (ht : ∀ (A : Around) (s : Shared) (l b : Addr) (items items2 : Array Value) (e q : Nat → Bool), s.heap.IsTuple l items → s.heap.IsTuple b items2 → A.units < cLine → (∀ j (h1 : j < items.size) (h2 : j < items2.size), SeqAt.EqAt A.in1 s items[j] items2[j] (e j)) →
      (∀ j (h1 : j < items.size) (h2 : j < items2.size), e j = false → Ob.RcOp op A.in1 s items[j] items2[j] (q j)) → Ob.RcOp op A s (.ref l) (.ref b) (Ob.lexAt e q (z items.size items2.size) 0 (min items.size items2.size)))
    (hc : ∀ (A : Around) (E : Value → Shared → Prop) (s : Shared) (v u : Value) (Q : Value → Shared → Prop), wpAny (model Y.prog Y.w) A (richCompare op v u) Q E s → wpAny (model Y.prog Y.w) A (compareOp op v u) Q E s) (hu : Y.A.units < cLine) : OpR Y (compareOp op) (rTupI Y.K r z) := by
  intro pins s σ H x y v u Q I rx ry h
  obtain ⟨a, b, ns, ms, rfl, rfl, ha, hb, q⟩ := h
  cases rx
  cases ry
  obtain ⟨its, r1, p1, _⟩ := I.tuple ha
  obtain ⟨its2, r2, p2, _⟩ := I.tuple hb
  have i1 : IntsAre its ns := Vals.ints r1
  have i2 : IntsAre its2 ms := Vals.ints r2
  have e1 : its.toArray.size = ns.length := by rw [List.size_toArray]; exact i1.length
  have e2 : its2.toArray.size = ms.length := by rw [List.size_toArray]; exact i2.length
  have at1 : ∀ j (h1 : j < its.toArray.size), ∃ t, its.toArray[j] = .int (ns.getD j 0) t := fun j h1 => PyProof.Rows.IntsAre.int_at i1 _ _ (by simp at h1; simp [h1])
  have at2 : ∀ j (h1 : j < its2.toArray.size), ∃ t, its2.toArray[j] = .int (ms.getD j 0) t := fun j h1 => PyProof.Rows.IntsAre.int_at i2 _ _ (by simp at h1; simp [h1])
  have R := ht Y.A s a b its.toArray its2.toArray (fun j => decide (ns.getD j 0 = ms.getD j 0)) (fun j => r (ns.getD j 0) (ms.getD j 0)) p1 p2 hu (fun j h1 h2 => by
    obtain ⟨t, et⟩ := at1 j h1
    obtain ⟨t', et'⟩ := at2 j h2
    rw [et, et']
    have zz : (ns.getD j 0 == ms.getD j 0) = decide (ns.getD j 0 = ms.getD j 0) := Bool.beq_eq_decide_eq _ _
    rw [← zz]
    exact SeqAt.EqAt.int_int _ _ _ _) (fun j h1 h2 _ => by
    obtain ⟨t, et⟩ := at1 j h1
    obtain ⟨t', et'⟩ := at2 j h2
    rw [et, et']
    exact hi _ _ _ _ _ _)
  rw [e1, e2] at R
  have el := lexAt_lexI r z hz ns ms 0 [] [] rfl rfl
  simp only [List.nil_append] at el
  rw [el] at R
  exact hc _ _ _ _ _ _ (R Y.prog Y.w Y.xe (EP Y pins σ Q) ⟨.bl _, H, I, rfl, q⟩)
@[simp] def ordD (f : Int → Int → Bool) (r : Int → Int → Bool) (z : Nat → Nat → Bool) : D → D → (D → Prop) → Prop := fun x y P => match x, y with
  | .int i, .int j => P (.bl (f i j))
  | .tup xs, .tup ys => (match asInts xs, asInts ys with | some ns, some ms => P (.bl (lexI r z ns ms)) | _, _ => False)
  | _, _ => False
theorem ok_ord {f r : Int → Int → Bool} {z : Nat → Nat → Bool} : OpOk K (fun x y H Q => rI0 (fun i j => .bl (f i j)) x y H Q ∨ rTupI K r z x y H Q) (ordD f r z) := by
  intro H S x y v u P Q hx hy h q
  cases hx with
  | int i =>
    cases hy with
    | int j => exact .inl ⟨i, j, rfl, rfl, q _ _ H h (Same.refl H) (.bl _)⟩
    | _ => exact h.elim
  | tup sq hl =>
    cases hy with
    | tup sq' hl' =>
      simp only [ordD] at h
      split at h
      · rename_i ns ms e1 e2
        have z1 := asInts_vw hl e1
        have z2 := asInts_vw hl' e2
        subst z1 z2
        exact .inr ⟨_, _, ns, ms, rfl, rfl, sq, sq', q _ _ H h (Same.refl H) (.bl _)⟩
      · exact h.elim
    | _ => exact h.elim
  | _ => cases y <;> exact h.elim
@[simp] def ltD := ordD (fun i j => decide (i < j)) (fun i j => decide (i < j)) (fun a b => decide (a < b))
@[simp] def leD := ordD (fun i j => decide (i ≤ j)) (fun i j => decide (i ≤ j)) (fun a b => decide (a ≤ b))
@[simp] def gtD := ordD (fun i j => decide (j < i)) (fun i j => decide (j < i)) (fun a b => decide (a > b))
@[simp] def geD := ordD (fun i j => decide (j ≤ i)) (fun i j => decide (j ≤ i)) (fun a b => decide (a ≥ b))
theorem op_ltA {Y : Cx} (hK : Y.K = K) (hu : Y.A.units < cLine) : OpR Y (compareOp .Lt) (fun x y H Q => rI0 (fun i j => .bl (decide (i < j))) x y H Q ∨ rTupI K (fun i j => decide (i < j)) (fun a b => decide (a < b)) x y H Q) := by
  subst hK
  exact op_lt.or (op_tupI (fun a b => by simp) (fun A s a b t u => Ob.RcOp.lt_int a b t u) (fun A s l b i i2 e q h1 h2 h3 h4 h5 => Ob.RcOp.tuples_lt h1 h2 h3 h4 h5) (fun A E s v u Q h => h) hu)
theorem op_leA {Y : Cx} (hK : Y.K = K) (hu : Y.A.units < cLine) : OpR Y (compareOp .LtE) (fun x y H Q => rI0 (fun i j => .bl (decide (i ≤ j))) x y H Q ∨ rTupI K (fun i j => decide (i ≤ j)) (fun a b => decide (a ≤ b)) x y H Q) := by
  subst hK
  exact op_le.or (op_tupI (fun a b => by simp) (fun A s a b t u => Ob.RcOp.le_int a b t u) (fun A s l b i i2 e q h1 h2 h3 h4 h5 => Ob.RcOp.tuples_le h1 h2 h3 h4 h5) (fun A E s v u Q h => h) hu)
theorem op_gtA {Y : Cx} (hK : Y.K = K) (hu : Y.A.units < cLine) : OpR Y (compareOp .Gt) (fun x y H Q => rI0 (fun i j => .bl (decide (j < i))) x y H Q ∨ rTupI K (fun i j => decide (j < i)) (fun a b => decide (a > b)) x y H Q) := by
  subst hK
  exact op_gt.or (op_tupI (fun a b => by simp) (fun A s a b t u => Ob.RcOp.gt_int a b t u) (fun A s l b i i2 e q h1 h2 h3 h4 h5 => Ob.RcOp.tuples_gt h1 h2 h3 h4 h5) (fun A E s v u Q h => h) hu)
theorem op_geA {Y : Cx} (hK : Y.K = K) (hu : Y.A.units < cLine) : OpR Y (compareOp .GtE) (fun x y H Q => rI0 (fun i j => .bl (decide (j ≤ i))) x y H Q ∨ rTupI K (fun i j => decide (j ≤ i)) (fun a b => decide (a ≥ b)) x y H Q) := by
  subst hK
  exact op_ge.or (op_tupI (fun a b => by simp) (fun A s a b t u => Ob.RcOp.ge_int a b t u) (fun A s l b i i2 e q h1 h2 h3 h4 h5 => Ob.RcOp.tuples_ge h1 h2 h3 h4 h5) (fun A E s v u Q h => h) hu)
/-! a < b < c -/
@[simp] def rChain (f f' : D → D → (D → Prop) → Prop) (ra rb rc : WR) : WR := fun G P => ra G fun x => rb G fun y => f x y fun d => match d with | .bl k => (if k = true then rc G fun z => f' y z P else P (.bl false)) | _ => False
theorem chain_core {r r' : R2} {f f' : D → D → (D → Prop) → Prop} {ra rb rc : WR} {ta tb tc : TE} (ok : OpOk K r f) (ok' : OpOk K r' f')
    (a2 : ∀ (G : T.Env) (σ : L2.St) (H : Hp) (S : Addr → Prop) (P : D → Prop) (Q : VK), VwG K H S G σ → ra G P → (∀ d v H', P d → Same H H' → Vw K H' (gr S H) d v → Q v H') → ta σ H Q)
    (b2 : ∀ (G : T.Env) (σ : L2.St) (H : Hp) (S : Addr → Prop) (P : D → Prop) (Q : VK), VwG K H S G σ → rb G P → (∀ d v H', P d → Same H H' → Vw K H' (gr S H) d v → Q v H') → tb σ H Q)
    (c2 : ∀ (G : T.Env) (σ : L2.St) (H : Hp) (S : Addr → Prop) (P : D → Prop) (Q : VK), VwG K H S G σ → rc G P → (∀ d v H', P d → Same H H' → Vw K H' (gr S H) d v → Q v H') → tc σ H Q)
    (G : T.Env) (σ : L2.St) (H : Hp) (S : Addr → Prop) (P : D → Prop) (Q : VK) (g : VwG K H S G σ) (h : rChain f f' ra rb rc G P) (q : ∀ d v H', P d → Same H H' → Vw K H' (gr S H) d v → Q v H') : tChain r r' ta tb tc σ H Q := by
  refine a2 G σ H S _ _ g h fun x v H1 h1 s1 v1 => ?_
  refine b2 G σ H1 (gr S H) _ _ (g.same s1 gr_of) h1 fun y u H2 h2 s2 v2 => ?_
  have w2 := v2.same (Same.refl _) (gr_gr s1)
  refine ok H2 (gr S H) x y v u _ _ (v1.same s2 fun _ z => z) w2 h2 fun d z H3 hp s3 hz => ?_
  have s13 : Same H H3 := (s1.trans s2).trans s3
  cases d with
  | bl k =>
    cases vw_bl hz
    refine ⟨k, rfl, ?_⟩
    cases k with
    | true =>
      dsimp only at hp
      rw [if_pos rfl] at hp ⊢
      refine c2 G σ H3 (gr S H) _ _ (g.same s13 gr_of) hp fun z w H4 h4 s4 v4 => ?_
      refine ok' H4 (gr S H) y z u w P Q (w2.same (s3.trans s4) fun _ z => z) (v4.same (Same.refl _) (gr_gr s13)) h4 fun d2 z2 H5 hp2 s5 hz2 => ?_
      exact q d2 z2 H5 hp2 ((s13.trans s4).trans s5) (hz2.same (Same.refl _) (gr_gr (s13.trans s4)))
    | false =>
      dsimp only at hp
      rw [if_neg Bool.false_ne_true] at hp ⊢
      exact q _ _ H3 hp s13 (.bl _)
  | _ => exact hp.elim
theorem r_chain {a b c : Expr} {op op' : CmpOp} {r r' : R2} {f f' : D → D → (D → Prop) → Prop} {ra rb rc : WR} {pos : Pos} (ho : ∀ j, OpR (X j) (compareOp op) r) (ho' : ∀ j, OpR (X j) (compareOp op') r') (ok : OpOk K r f) (ok' : OpOk K r' f') (ha : SndR X K a ra) (hb : SndR X K b rb) (hc : SndR X K c rc)
    (hm : lastMarks [op, op'] [b, c] = false := by with_unfolding_all rfl) : SndR X K (.Compare a [op, op'] [b, c] pos) (rChain f f' ra rb rc) := by
  obtain ⟨ta, a1, a2⟩ := ha
  obtain ⟨tb, b1, b2⟩ := hb
  obtain ⟨tc, c1, c2⟩ := hc
  exact ⟨tChain r r' ta tb tc, fun j => pe_chain (ho j) (ho' j) (a1 j) (b1 j) (c1 j) hm, fun G σ H S P Q g h q => chain_core ok ok' a2 b2 c2 G σ H S P Q g h q⟩
theorem t_chain {a b c : Expr} {op op' : CmpOp} {r r' : R2} {f f' : D → D → (D → Prop) → Prop} {ra rb rc : WR} {pos : Pos} (ho : ∀ j, OpR (X j) (compareOp op) r) (ho' : ∀ j, OpR (X j) (compareOp op') r') (ok : OpOk K r f) (ok' : OpOk K r' f') (ha : SndR X K a ra) (hb : SndR X K b rb) (hc : SndR X K c rc)
    (hm : lastMarks [op, op'] [b, c] = false := by with_unfolding_all rfl) : SndT X K (.Compare a [op, op'] [b, c] pos) (asB (rChain f f' ra rb rc)) := by
  obtain ⟨ta, a1, a2⟩ := ha
  obtain ⟨tb, b1, b2⟩ := hb
  obtain ⟨tc, c1, c2⟩ := hc
  refine ⟨tTest (tChain r r' ta tb tc), fun j => pt_chain (ho j) (ho' j) (a1 j) (b1 j) (c1 j) hm, fun G σ H S P Q g h q => ?_⟩
  refine chain_core ok ok' a2 b2 c2 G σ H S _ _ g h fun d v H' hp s hv => ?_
  cases d with
  | bl k =>
    cases vw_bl hv
    exact ⟨k, rfl, q k H' hp s⟩
  | _ => exact hp.elim
end
end T
namespace T
open PySem PySem.Spec PyProof.Rows PySem.W PySem.Calls
/-- rows of two whole numbers and a third that is None or a number: alike in the two, alike in all -/
def flw (w : PyData) : Prop := w = .none ∨ ∃ x, w = .int x
def Near (ds : List PyData) : Prop := ∀ d ∈ ds, ∀ d' ∈ ds, ∃ i j w i' j' w', d = .tuple [.int i, .int j, w] ∧ d' = .tuple [.int i', .int j', w'] ∧ flw w ∧ flw w' ∧ (i = i' → j = j' → w = w')
theorem Near.plain {ds : List PyData} (h : Near ds) {d : PyData} (hd : d ∈ ds) : d.plain = true := by
  obtain ⟨i, j, w, _, _, _, rfl, _, hw, _⟩ := h d hd d hd
  rcases hw with rfl | ⟨x, rfl⟩ <;> rfl
theorem near_some {h : Heap} {ds : List PyData} (hn : Near ds) {v : Value} {d : PyData} {as : List Addr} (hd : d ∈ ds) (r : Reads h v d as) : (dataKind h ds).keyOf v = some (keyToks d) := by
  have q : ∃ d, d ∈ ds ∧ ∃ as, Reads h v d as := ⟨d, hd, as, r⟩
  have e : (dataKind h ds).keyOf v = some (keyToks q.choose) := by
    show (open Classical in if q : ∃ d, d ∈ ds ∧ ∃ as, Reads h v d as then some (keyToks q.choose) else none) = _
    rw [dif_pos q]
  obtain ⟨h1, as', h2⟩ := q.choose_spec
  rw [e, SeqAt.plain_unique _ _ _ _ _ (hn.plain h1) h2 r]
theorem toks3 (i j : Int) (w : PyData) : keyToks (.tuple [.int i, .int j, w]) = .inl 1 :: .inl i :: .inl 1 :: .inl j :: .inl 1 :: (keyToks w ++ [.inl 0]) := by
  simp [keyToks, keyToksAll]
theorem lex3 (i j i' j' : Int) (w w' : PyData) (h : i = i' → j = j' → w = w') : PyProof.Rows.lexLt itemOrd (keyToks (.tuple [.int i, .int j, w])) (keyToks (.tuple [.int i', .int j', w'])) = decide (i < i' ∨ (i = i' ∧ j < j')) := by
  rw [toks3, toks3]
  by_cases e1 : i = i'
  · subst e1
    by_cases e2 : j = j'
    · subst e2
      rw [h rfl rfl]
      have := lex_irrefl (O := itemOrd) (.inl 1 :: .inl i :: .inl 1 :: .inl j :: .inl 1 :: (keyToks w' ++ [.inl 0]))
      rw [this]
      simp
    · rcases Int.lt_or_gt_of_ne e2 with h1 | h1
      · have : ¬ j' < j := by omega
        simp [PyProof.Rows.lexLt, itemLt, h1, this]
      · have : ¬ j < j' := by omega
        simp [PyProof.Rows.lexLt, itemLt, h1, this]
  · rcases Int.lt_or_gt_of_ne e1 with h1 | h1
    · have : ¬ i' < i := by omega
      simp [PyProof.Rows.lexLt, itemLt, h1, this]
    · have : ¬ i < i' := by omega
      simp [PyProof.Rows.lexLt, itemLt, h1, this, e1]
section
variable {prog : Program} {w : World} {A : Around} {s : Shared}
theorem near_at {vs : List Value} {ds : List PyData} (e : EachIs (fun v d => ∃ as, Reads s.heap v d as) vs ds) (hn : Near ds) (hu : ∀ d, d ∈ ds → A.units + d.depth < cLine) : SortsAt prog w A s (dataKind s.heap ds) vs := by
  refine ⟨fun v hv => ?_, tuples' true, ?_, fun h2 E Q hq => ?_⟩
  · obtain ⟨d, hd, as, r⟩ := e.left v hv
    exact ⟨_, near_some hn hd r⟩
  · intro E x y a b Q ha hb hq
    obtain ⟨d, as, hd, ra, rfl⟩ := dataKind_inv ha
    obtain ⟨d', as', hd', rb, rfl⟩ := dataKind_inv hb
    obtain ⟨i, j, wz, i', j', wz', rfl, rfl, f1, f2, same⟩ := hn d hd d' hd'
    have hq' : Q (PyProof.Rows.lexLt itemOrd (keyToks (.tuple [.int i, .int j, wz])) (keyToks (.tuple [.int i', .int j', wz']))) s := hq
    rw [lex3 _ _ _ _ _ _ same] at hq'
    have hroom := hu _ hd
    cases ra with
    | @tuple l o xs n _ _ h1 h2 h3 h4 =>
      cases rb with
      | @tuple l' o' xs' n' _ _ k1 k2 k3 k4 =>
        obtain ⟨v1, v2, v3, ex, t1, t2, r3⟩ : ∃ v1 v2 v3, xs.toList = [v1, v2, v3] ∧ (∃ t, v1 = .int i t) ∧ (∃ t, v2 = .int j t) ∧ ∃ as, Reads s.heap v3 wz as := by
          generalize xs.toList = L at h4
          cases h4 with
          | cons a1 a2 =>
            cases a2 with
            | cons b1 b2 =>
              cases b2 with
              | cons c1 c2 =>
                cases c2
                cases a1
                cases b1
                exact ⟨_, _, _, rfl, ⟨_, rfl⟩, ⟨_, rfl⟩, _, c1⟩
        obtain ⟨u1, u2, u3, ey, q1, q2, z3⟩ : ∃ v1 v2 v3, xs'.toList = [v1, v2, v3] ∧ (∃ t, v1 = .int i' t) ∧ (∃ t, v2 = .int j' t) ∧ ∃ as, Reads s.heap v3 wz' as := by
          generalize xs'.toList = L at k4
          cases k4 with
          | cons a1 a2 =>
            cases a2 with
            | cons b1 b2 =>
              cases b2 with
              | cons c1 c2 =>
                cases c2
                cases a1
                cases b1
                exact ⟨_, _, _, rfl, ⟨_, rfl⟩, ⟨_, rfl⟩, _, c1⟩
        obtain ⟨t1, rfl⟩ := t1
        obtain ⟨t2, rfl⟩ := t2
        obtain ⟨q1, rfl⟩ := q1
        obtain ⟨q2, rfl⟩ := q2
        have n1 : xs.size = 3 := by rw [← Array.length_toList, ex]; rfl
        have n2 : xs'.size = 3 := by rw [← Array.length_toList, ey]; rfl
        refine kat_lt h1 h3 k1 k3 ?_
        rw [ex, ey, n1, n2]
        show KatLex _ _ _ _ _ _ [(_, _), (_, _), (_, _)] 0 s
        refine kat_cons (SeqAt.EqAt.int_int i t1 i' q1 prog w _ _ ?_)
        by_cases e1 : i = i'
        · subst e1
          rw [show (i == i) = true from beq_self_eq_true i]
          refine kat_yes (kat_cons (SeqAt.EqAt.int_int j t2 j' q2 prog w _ _ ?_))
          by_cases e2 : j = j'
          · subst e2
            rw [show (j == j) = true from beq_self_eq_true j]
            have ew := same rfl rfl
            subst ew
            refine kat_yes (kat_cons ?_)
            have fin : Q (decide (3 < 3)) s := by simpa using hq'
            obtain ⟨_, r3⟩ := r3
            obtain ⟨_, z3⟩ := z3
            rcases f1 with rfl | ⟨x, rfl⟩
            · cases r3
              cases z3
              exact SeqAt.EqAt.same _ prog w _ _ (kat_yes (kat_nil fin))
            · cases r3
              cases z3
              refine SeqAt.EqAt.int_int x _ x _ prog w _ _ ?_
              rw [show (x == x) = true from beq_self_eq_true x]
              exact kat_yes (kat_nil fin)
          · rw [show (j == j') = false from beq_eq_false_iff_ne.mpr e2]
            refine kat_no (oneLt_alike (da := .int j) (db := .int j') (fun _ xs z => nomatch z) (.int _ _) (.int _ _) rfl (fun z => nomatch z) ?_ ?_)
            · have : min (PyData.depth (.int j)) (PyData.depth (.int j')) ≤ PyData.depth (.tuple [.int i, .int j, wz]) := by simp [PyData.depth, PyData.depthAll]
              omega
            · have ed : dataLt (.int j) (.int j') = decide (j < j') := by simp [dataLt, keyToks, PyProof.Rows.lexLt, itemLt]
              rw [ed]
              simpa using hq'
        · rw [show (i == i') = false from beq_eq_false_iff_ne.mpr e1]
          refine kat_no (oneLt_alike (da := .int i) (db := .int i') (fun _ xs z => nomatch z) (.int _ _) (.int _ _) rfl (fun z => nomatch z) ?_ ?_)
          · have : min (PyData.depth (.int i)) (PyData.depth (.int i')) ≤ PyData.depth (.tuple [.int i, .int j, wz]) := by simp [PyData.depth, PyData.depthAll]
            omega
          · have ed : dataLt (.int i) (.int i') = decide (i < i') := by simp [dataLt, keyToks, PyProof.Rows.lexLt, itemLt]
            rw [ed]
            simpa [e1] using hq'
  · obtain ⟨fs, t1, t2, t3⟩ := each_katTups e fun d hd => by
      obtain ⟨i, j, wz, _, _, _, rfl, _⟩ := hn d hd d hd
      exact ⟨_, _, rfl⟩
    refine kat_kind (T := .type "int") t1 (by omega) (fun f hf => ?_) (beq_self_eq_true _) hq
    obtain ⟨x, r, as, m1, m2⟩ := t3 f hf
    obtain ⟨i, j, wz, _, _, _, e1, _⟩ := hn _ m1 _ m1
    cases e1
    exact looks_reads m2
end
section
variable {β : Type} {prog : Program} {w : World} {A : Around} {E : Value → Shared → Prop} {s : Shared} {R : Value → β → Prop} {enc : β → PyData} {vs : List Value} {bs : List β}
theorem sorted_near {l : Addr} {Q : Value → Shared → Prop} (hl : s.heap.IsList l vs.toArray) (e : EachIs R vs bs) (er : EachIs (fun v b => ∃ as, Reads s.heap v (enc b) as) vs bs) (hn : Near (bs.map enc)) (hL : bs.length ≤ sizeLine)
    (hu : ∀ b, b ∈ bs → A.units + 2 + (enc b).depth < cLine) (h : ∀ out, out.length = bs.length → EachIs R out (bs.mergeSort (dataLe false enc)) → Q (.ref (s.heap.objs.size + 1)) { s with heap := sortedAll s.heap vs (List.toArray out) }) :
    wpAny (model prog w) A (call (.builtin "sorted") [.ref l]) Q E s := by
  have er' : EachIs (fun v b => ∃ as, Reads (sortingHeap (copyHeap s.heap vs) (s.heap.objs.size + 1) vs) v (enc b) as) vs bs := er.mono fun _ _ ⟨as, r⟩ => ⟨as, PyProof.Rows.Reads.keeps (fun _ _ => sorting_copy_old) r⟩
  have em := each_map (R := fun v d => ∃ as, Reads (sortingHeap (copyHeap s.heap vs) (s.heap.objs.size + 1) vs) v d as) enc er'
  refine sorted_vals hl (near_at (s := { s with heap := sortingHeap (copyHeap s.heap vs) (s.heap.objs.size + 1) vs }) em hn (bound_map hu)) (by rw [e.length]; exact hL) (h _ (by rw [sortVals_length false rfl]; exact e.length) ?_)
  exact sortVals_each (κ := dataKind _ (bs.map enc)) (fun b => keyToks (enc b)) e (each_of_map enc ((each_mem em).mono fun v d ⟨⟨as, r⟩, hd⟩ => near_some hn hd r))
end
end T
namespace T
open PySem PySem.Spec PyProof.Rows L2
section
variable {ι : Type} {X : ι → Cx} {K : PySem.W.Frag} {W : WX} {pn : List Nat}
/-! ### len, int, abs, max, min, sum -/
theorem vwl1 {H : Hp} {S : Addr → Prop} {d : D} {vs : List V} (h : VwL K H S [d] vs) : ∃ v, vs = [v] ∧ Vw K H S d v := by
  cases h with
  | cons h t =>
    cases t
    exact ⟨_, rfl, h⟩
theorem vwl2 {H : Hp} {S : Addr → Prop} {d e : D} {vs : List V} (h : VwL K H S [d, e] vs) : ∃ v u, vs = [v, u] ∧ Vw K H S d v ∧ Vw K H S e u := by
  cases h with
  | cons h t =>
    obtain ⟨u, rfl, h'⟩ := vwl1 t
    exact ⟨_, _, rfl, h, h'⟩
@[simp] def lenD : List D → (D → Prop) → Prop := fun ds P => match ds with
  | [.lst _ xs] => P (.int xs.length)
  | [.scr xs] => P (.int xs.length)
  | [.tup xs] => P (.int xs.length)
  | [.str z] => z.length ≤ 100000 ∧ P (.int z.length)
  | _ => False
def rLenA (K : PySem.W.Frag) : List V → Hp → VK → Prop := fun xs H Q => (∃ p ys, xs = [.ref p] ∧ (SqL K H p ys ∨ SqT K H p ys) ∧ Q (.int ys.length) H) ∨ ∃ z, xs = [.str z] ∧ z.length ≤ sizeLine ∧ Q (.int z.length) H
theorem c_len {Y : Cx} (hK : Y.K = K) : CallR Y (.builtin "len") (rLenA K) := by
  subst hK
  exact call_len_seq.or call_len_str
theorem ok_len : CallOk K (rLenA K) lenD := by
  intro H S xs vs P Q hv h q
  unfold lenD at h
  split at h
  · obtain ⟨v, rfl, h1⟩ := vwl1 hv
    cases h1 with
    | lst rd sa hl => exact .inl ⟨_, _, rfl, .inl (.inl (Or.inl rd)), q _ _ H h (Same.refl H) (by rw [← hl.length]; exact .int _)⟩
  · obtain ⟨v, rfl, h1⟩ := vwl1 hv
    cases h1 with
    | scr t => exact .inl ⟨_, _, rfl, .inl t.sq, by rw [List.length_map]; exact q _ _ H h (Same.refl H) (.int _)⟩
  · obtain ⟨v, rfl, h1⟩ := vwl1 hv
    cases h1 with
    | tup sq hl => exact .inl ⟨_, _, rfl, .inr sq, q _ _ H h (Same.refl H) (by rw [← hl.length]; exact .int _)⟩
  · obtain ⟨v, rfl, h1⟩ := vwl1 hv
    cases h1
    exact .inr ⟨_, rfl, small_line h.1, q _ _ H h.2 (Same.refl H) (.int _)⟩
  · exact h.elim
@[simp] def intD : List D → (D → Prop) → Prop := fun ds P => match ds with
  | [.int i] => P (.int i)
  | [.bl b] => P (.int (if b then 1 else 0))
  | _ => False
theorem ok_int : CallOk K (fun xs H Q => (∃ i, xs = [.int i] ∧ Q (.int i) H) ∨ ∃ k, xs = [.bl k] ∧ Q (.int (if k then 1 else 0)) H) intD := by
  intro H S xs vs P Q hv h q
  unfold intD at h
  split at h
  · obtain ⟨v, rfl, h1⟩ := vwl1 hv
    cases h1
    exact .inl ⟨_, rfl, q _ _ H h (Same.refl H) (.int _)⟩
  · obtain ⟨v, rfl, h1⟩ := vwl1 hv
    cases h1
    exact .inr ⟨_, rfl, q _ _ H h (Same.refl H) (.int _)⟩
  · exact h.elim
@[simp] def absD : List D → (D → Prop) → Prop := fun ds P => match ds with
  | [.int i] => P (.int (if i < 0 then -i else i))
  | _ => False
theorem ok_abs : CallOk K (fun xs H Q => ∃ i, xs = [.int i] ∧ Q (.int (if i < 0 then -i else i)) H) absD := by
  intro H S xs vs P Q hv h q
  unfold absD at h
  split at h
  · obtain ⟨v, rfl, h1⟩ := vwl1 hv
    cases h1
    exact ⟨_, rfl, q _ _ H h (Same.refl H) (.int _)⟩
  · exact h.elim
@[simp] def max2D : List D → (D → Prop) → Prop := fun ds P => match ds with
  | [.int i, .int j] => P (.int (if j > i then j else i))
  | _ => False
@[simp] def min2D : List D → (D → Prop) → Prop := fun ds P => match ds with
  | [.int i, .int j] => P (.int (if j < i then j else i))
  | _ => False
theorem ok_max2 : CallOk K (fun xs H Q => ∃ i j, xs = [.int i, .int j] ∧ Q (.int (if j > i then j else i)) H) max2D := by
  intro H S xs vs P Q hv h q
  unfold max2D at h
  split at h
  · obtain ⟨v, u, rfl, h1, h2⟩ := vwl2 hv
    cases h1
    cases h2
    exact ⟨_, _, rfl, q _ _ H h (Same.refl H) (.int _)⟩
  · exact h.elim
theorem ok_min2 : CallOk K (fun xs H Q => ∃ i j, xs = [.int i, .int j] ∧ Q (.int (if j < i then j else i)) H) min2D := by
  intro H S xs vs P Q hv h q
  unfold min2D at h
  split at h
  · obtain ⟨v, u, rfl, h1, h2⟩ := vwl2 hv
    cases h1
    cases h2
    exact ⟨_, _, rfl, q _ _ H h (Same.refl H) (.int _)⟩
  · exact h.elim
@[simp] def sumD : List D → (D → Prop) → Prop := fun ds P => match ds with
  | [.lst _ xs] => (match asInts xs with | some ns => P (.int ns.sum) | none => False)
  | _ => False
theorem ok_sum : CallOk K (rSum K) sumD := by
  intro H S xs vs P Q hv h q
  unfold sumD at h
  split at h
  · split at h
    · rename_i ns e
      obtain ⟨v, rfl, h1⟩ := vwl1 hv
      cases h1 with
      | lst rd sa hl =>
        have z := asInts_vw hl e
        subst z
        exact ⟨_, ns, rfl, .inl (Or.inl rd), q _ _ H h (Same.refl H) (.int _)⟩
    · exact h.elim
  · exact h.elim
/-- the least, the greatest of a list of whole numbers -/
def minLD : List D → (D → Prop) → Prop := fun ds P => match ds with
  | [.lst _ xs] => (match asInts xs with | some ns => 0 < ns.length ∧ ∀ m, m ∈ ns → (∀ y, y ∈ ns → m ≤ y) → P (.int m) | none => False)
  | _ => False
def maxLD : List D → (D → Prop) → Prop := fun ds P => match ds with
  | [.lst _ xs] => (match asInts xs with | some ns => 0 < ns.length ∧ ∀ m, m ∈ ns → (∀ y, y ∈ ns → y ≤ m) → P (.int m) | none => False)
  | _ => False
theorem ok_minL : CallOk K (rMin K) minLD := by
  intro H S xs vs P Q hv h q
  unfold minLD at h
  split at h
  · split at h
    · rename_i ns e
      obtain ⟨v, rfl, h1⟩ := vwl1 hv
      cases h1 with
      | lst rd sa hl =>
        have z := asInts_vw hl e
        subst z
        exact ⟨_, ns, rfl, .inl (Or.inl rd), h.1, fun m h1 h2 => q _ _ H (h.2 m h1 h2) (Same.refl H) (.int _)⟩
    · exact h.elim
  · exact h.elim
theorem ok_maxL : CallOk K (rMax K) maxLD := by
  intro H S xs vs P Q hv h q
  unfold maxLD at h
  split at h
  · split at h
    · rename_i ns e
      obtain ⟨v, rfl, h1⟩ := vwl1 hv
      cases h1 with
      | lst rd sa hl =>
        have z := asInts_vw hl e
        subst z
        exact ⟨_, ns, rfl, .inl (Or.inl rd), h.1, fun m h1 h2 => q _ _ H (h.2 m h1 h2) (Same.refl H) (.int _)⟩
    · exact h.elim
  · exact h.elim
/-! list(..), tuple(..) -/
def rListA (K : PySem.W.Frag) : List V → Hp → VK → Prop := fun xs H Q => ∃ p ys, xs = [.ref p] ∧ (SqL K H p ys ∨ SqT K H p ys) ∧ ∀ l, H l = none → Q (.ref l) (upd H l (.lst ys))
theorem c_list {Y : Cx} (hK : Y.K = K) : CallR Y (.type "list") (rListA K) := by
  subst hK
  exact call_list_of
@[simp] def listD : List D → (List D → Prop) → Prop := fun ds P => match ds with | [.lst _ xs] => P xs | [.tup xs] => P xs | _ => False
theorem ok_list : CallOkF K (rListA K) listD := by
  intro H S xs vs P Q hv h q
  unfold listD at h
  split at h
  · obtain ⟨v, rfl, h1⟩ := vwl1 hv
    cases h1 with
    | lst rd sa hl => exact ⟨_, _, rfl, .inl (.inl (Or.inl rd)), fun l hl' => q _ _ l H h (Same.refl H) hl' (hl.same (Same.refl H) gr_of)⟩
  · obtain ⟨v, rfl, h1⟩ := vwl1 hv
    cases h1 with
    | tup sq hl => exact ⟨_, _, rfl, .inr sq, fun l hl' => q _ _ l H h (Same.refl H) hl' (hl.same (Same.refl H) gr_of)⟩
  · exact h.elim
def rTupleA (K : PySem.W.Frag) : List V → Hp → VK → Prop := fun xs H Q => ∃ p ys, xs = [.ref p] ∧ ((SqL K H p ys ∧ ∀ l, H l = none → Q (.ref l) (upd H l (.tup ys))) ∨ (SqT K H p ys ∧ Q (.ref p) H))
theorem c_tuple {Y : Cx} (hK : Y.K = K) : CallR Y (.type "tuple") (rTupleA K) := by
  subst hK
  exact call_tuple_of
@[simp] def tupleD : List D → (D → Prop) → Prop := fun ds P => match ds with | [.lst _ xs] => P (.tup xs) | [.tup xs] => P (.tup xs) | _ => False
theorem ok_tuple : CallOk K (rTupleA K) tupleD := by
  intro H S xs vs P Q hv h q
  unfold tupleD at h
  split at h
  · obtain ⟨v, rfl, h1⟩ := vwl1 hv
    cases h1 with
    | lst rd sa hl => exact ⟨_, _, rfl, .inl ⟨.inl (Or.inl rd), fun l hl' => q _ _ _ h (same_new hl') (.tup (.inl (.inl upd_same)) (hl.same (same_new hl') gr_of))⟩⟩
  · obtain ⟨v, rfl, h1⟩ := vwl1 hv
    cases h1 with
    | tup sq hl => exact ⟨_, _, rfl, .inr ⟨sq, q _ _ H h (Same.refl H) (.tup sq (hl.same (Same.refl H) gr_of))⟩⟩
  · exact h.elim
/-! ### sorted of alike data -/
def sortD (xs : List D) : List D := xs.mergeSort (PySem.W.dataLe false py)
/-- what can be sorted -/
def Srtb (xs : List D) : Prop := ((PySem.W.AllAlike (xs.map py) ∧ PySem.W.Sortable (xs.map py)) ∨ Near (xs.map py)) ∧ (∀ x ∈ xs, (py x).canLay0 = true ∧ (py x).depth ≤ 64) ∧ xs.length ≤ 100000
@[simp] def sortedD : List D → (List D → Prop) → Prop := fun ds P => match ds with | [.lst _ xs] => Srtb xs ∧ P (sortD xs) | _ => False
def rSortA (K : PySem.W.Frag) : List V → Hp → VK → Prop := fun vs H Q => ∃ (a : Addr) (xs : List V) (ds : List D), vs = [V.ref a] ∧ SqL K H a xs ∧ DpAll K H xs (pyL ds) ∧ Srtb ds ∧ xs.length = ds.length ∧
  ∀ (p : Addr), H p = none → Q (.ref p) (upd H p (.lst (((ds.zip xs).mergeSort (PySem.W.dataLe false (fun b => py b.1))).map (·.2))))
theorem each_of {h : Heap} : ∀ {its : List Value} {xs : List V} {ds : List D} {as : List Addr}, Vals xs its → ReadsAll h its (pyL ds) as → xs.length = ds.length →
    PySem.W.EachIs (fun (v : Value) (b : D × V) => RelV b.2 v) its (ds.zip xs) ∧ PySem.W.EachIs (fun (v : Value) (b : D × V) => ∃ as, Reads h v (py b.1) as) its (ds.zip xs)
  | [], [], [], _, _, _, _ => ⟨.nil, .nil⟩
  | [], [], _ :: _, _, _, _, hl => by simp at hl
  | u :: us, x :: xs, [], _, _, _, hl => by simp at hl
  | u :: us, x :: xs, d :: ds, as, .cons r t, ra, hl => by
    have ra' : ReadsAll h (u :: us) (py d :: pyL ds) as := ra
    cases ra' with
    | cons h1 h2 =>
      obtain ⟨a1, a2⟩ := each_of t h2 (by simpa using hl)
      exact ⟨.cons r a1, .cons ⟨_, h1⟩ a2⟩
theorem vals_each : ∀ {out : List Value} {bs : List (D × V)}, PySem.W.EachIs (fun (v : Value) (b : D × V) => RelV b.2 v) out bs → Vals (bs.map (·.2)) out
  | _, _, .nil => .nil
  | _, _, .cons h t => .cons h (vals_each t)
theorem c_sorted {Y : Cx} (hK : Y.K = K) (hu : Y.A.units + 80 < cLine) : CallR Y (.builtin "sorted") (rSortA K) := by
  subst hK
  intro pins s σ H vs us Q I r h
  obtain ⟨a, xs, ds, rfl, hs, hd, ⟨s12, s3, s4⟩, hlen, q⟩ := h
  obtain ⟨its, rv, hl, _⟩ := I.list hs
  rw [Vals.ref1 r]
  obtain ⟨as, ra⟩ := Dp.readsAll I (pyL ds) xs its hd rv
  obtain ⟨e1, e2⟩ := each_of (h := s.heap) rv ra hlen
  have em : (ds.zip xs).map (fun b => py b.1) = ds.map py := by
    have : (ds.zip xs).map (fun b => py b.1) = ((ds.zip xs).map (·.1)).map py := by simp [List.map_map]
    rw [this, List.map_fst_zip (by omega)]
  have zl : (ds.zip xs).length = ds.length := by simp [hlen]
  rcases s12 with ⟨s1, s2⟩ | sn
  · refine PySem.W.sorted_data (enc := fun (b : D × V) => py b.1) (bs := ds.zip xs) hl.isList e1 e2 (by rw [em]; exact s1) (by rw [em]; exact s2) (by rw [zl]; exact small_line s4) (fun b hb => ?_) fun out hlo hout => ?_
    · have hm : b.1 ∈ ds := (List.of_mem_zip (show (b.1, b.2) ∈ ds.zip xs from hb)).1
      have := (s3 b.1 hm).2
      show Y.A.units + 2 + (py b.1).depth < cLine
      omega
    · obtain ⟨ep, he'⟩ := PyProof.Rows.sortedAll_at s.heap its (List.toArray out)
      have hv := vals_each hout
      have hlen2 : (((ds.zip xs).mergeSort (PySem.W.dataLe false (fun b => py b.1))).map (·.2)).length ≤ sizeLine := by
        rw [List.length_map, List.length_mergeSort, zl]
        exact small_line s4
      refine ⟨.ref (s.heap.objs.size + 1), upd H (s.heap.objs.size + 1) (.lst (((ds.zip xs).mergeSort (PySem.W.dataLe false (fun b => py b.1))).map (·.2))), I.laid (t' := s.toks) (fun _ _ => PyProof.Rows.sortedAll_old) (Nat.le_succ _) ?_, rfl, q _ (I.hok.fresh (Nat.le_succ _))⟩
      exact ⟨hlen2, out, ep, hv, by simpa using he'⟩
  · refine sorted_near (enc := fun (b : D × V) => py b.1) (bs := ds.zip xs) hl.isList e1 e2 (by rw [em]; exact sn) (by rw [zl]; exact small_line s4) (fun b hb => ?_) fun out hlo hout => ?_
    · have hm : b.1 ∈ ds := (List.of_mem_zip (show (b.1, b.2) ∈ ds.zip xs from hb)).1
      have := (s3 b.1 hm).2
      show Y.A.units + 2 + (py b.1).depth < cLine
      omega
    · obtain ⟨ep, he'⟩ := PyProof.Rows.sortedAll_at s.heap its (List.toArray out)
      have hv := vals_each hout
      have hlen2 : (((ds.zip xs).mergeSort (PySem.W.dataLe false (fun b => py b.1))).map (·.2)).length ≤ sizeLine := by
        rw [List.length_map, List.length_mergeSort, zl]
        exact small_line s4
      refine ⟨.ref (s.heap.objs.size + 1), upd H (s.heap.objs.size + 1) (.lst (((ds.zip xs).mergeSort (PySem.W.dataLe false (fun b => py b.1))).map (·.2))), I.laid (t' := s.toks) (fun _ _ => PyProof.Rows.sortedAll_old) (Nat.le_succ _) ?_, rfl, q _ (I.hok.fresh (Nat.le_succ _))⟩
      exact ⟨hlen2, out, ep, hv, by simpa using he'⟩
theorem vwl_zip {H : Hp} {S : Addr → Prop} : ∀ {ds : List D} {vs : List V}, VwL K H S ds vs → ∀ b ∈ ds.zip vs, Vw K H S b.1 b.2
  | _, _, .nil, b, m => by simp at m
  | _, _, .cons h t, b, m => by
    rcases List.mem_cons.mp (by simpa using m) with z | z
    · subst z; exact h
    · exact vwl_zip t b z
theorem vwl_of_mem {H : Hp} {S : Addr → Prop} : ∀ {bs : List (D × V)}, (∀ b ∈ bs, Vw K H S b.1 b.2) → VwL K H S (bs.map (·.1)) (bs.map (·.2))
  | [], _ => .nil
  | b :: bs, h => .cons (h b List.mem_cons_self) (vwl_of_mem fun c m => h c (List.mem_cons_of_mem _ m))
theorem sort_fst (ds : List D) (vs : List V) (hl : ds.length = vs.length) : ((ds.zip vs).mergeSort (PySem.W.dataLe false (fun b => py b.1))).map (·.1) = sortD ds := by
  unfold sortD
  have e := List.map_mergeSort (r := PySem.W.dataLe false (fun (b : D × V) => py b.1)) (s := PySem.W.dataLe false py) (f := fun (b : D × V) => b.1) (l := ds.zip vs) (fun a _ b _ => rfl)
  rw [e, List.map_fst_zip (by omega)]
theorem ok_sorted : CallOkF K (rSortA K) sortedD := by
  intro H S xs vs P Q hv h q
  unfold sortedD at h
  split at h
  · obtain ⟨v, rfl, h1⟩ := vwl1 hv
    obtain ⟨hs, h⟩ := h
    cases h1 with
    | lst rd sa hl =>
      refine ⟨_, _, _, rfl, .inl (Or.inl rd), vwl_dp hl ?_, hs, hl.length.symm, fun p hp => ?_⟩
      · have : ∀ (ys : List D), (∀ x ∈ ys, (py x).canLay0 = true ∧ (py x).depth ≤ 64) → PyData.canLayAll0 (pyL ys) = true := by
          intro ys
          induction ys with
          | nil => intro _; rfl
          | cons y ys ih =>
            intro hy
            simp only [pyL, PyData.canLayAll0, Bool.and_eq_true]
            exact ⟨(hy y List.mem_cons_self).1, ih fun x m => hy x (List.mem_cons_of_mem _ m)⟩
        exact this _ hs.2.1
      · rw [← sort_fst _ _ hl.length] at h
        refine q _ _ p H h (Same.refl H) hp (vwl_of_mem fun b m => ?_)
        have hm := (List.mergeSort_perm (_ : List (D × V)) _).mem_iff.mp m
        exact (vwl_zip hl b hm).same (Same.refl H) gr_of
  · exact h.elim
/-! ### isinstance with a built-in class -/
@[simp] def tyD : D → String
  | .non => "NoneType"
  | .bl _ => "bool"
  | .int _ => "int"
  | .str _ => "str"
  | .scr _ => "list"
  | .tup _ => "tuple"
  | .lst _ _ => "list"
  | .dic _ _ _ => "dict"
  | .obj _ _ _ _ => ""
@[simp] def isiD (c : String) (d : D) : Bool := tyD d == c || (tyD d == "bool" && c == "int")
theorem isi_kit : ∀ c ∈ ["tuple", "list", "int", "bool", "str", "dict"], ∀ t ∈ ["NoneType", "bool", "int", "str", "tuple", "list", "dict"], kitB t c = some (t == c || (t == "bool" && c == "int")) := by decide +kernel
def rIsiA (K : PySem.W.Frag) : List V → Hp → VK → Prop := fun xs H Q => rIsi K xs H Q ∨ ∃ (a : Addr) (o : Obj) (kvs : List (List Key × V)) (c : String) (b : Bool), xs = [.ref a, .ty c] ∧ H a = some (.frz o (.dT kvs)) ∧ kitB "dict" c = some b ∧ Q (.bl b) H
theorem c_isi {Y : Cx} (hK : Y.K = K) : CallR Y (.builtin "isinstance") (rIsiA K) := by
  subst hK
  intro pins s σ H xs us Q I r h
  rcases h with h | ⟨a, o, kvs, c, b, rfl, e, hb, q⟩
  · exact call_isi pins s σ H xs us Q I r h
  · obtain ⟨u1, u2, rfl, r1, r2⟩ := vals2 r
    cases (show u1 = Value.ref a from r1)
    cases (show u2 = Value.type c from r2)
    obtain ⟨_, _, _, xs, _, o', es, ep, h1, h2, _⟩ := (show ObjOk Y.prog Y.w H s.heap a (.frz o (.dT kvs)) from I.hok a _ e)
    exact PySem.W.kia_one PySem.W.kitx_dict I.kIn ⟨o', h1, h2.1⟩ (kit_ty hb) (fun z => nomatch z) fun tk => ⟨.bl b, H, I.tok tk, rfl, q⟩
theorem vw_ty {H : Hp} {S : Addr → Prop} {d : D} {v : V} (h : Vw K H S d v) (hn : tyD d ≠ "") : (TyX K H v (.type (tyD d)) ∨ ∃ a o kvs, v = .ref a ∧ H a = some (.frz o (.dT kvs)) ∧ tyD d = "dict") ∧ tyD d ∈ ["NoneType", "bool", "int", "str", "tuple", "list", "dict"] := by
  cases h with
  | non => exact ⟨.inl (.base .non), by simp [tyD]⟩
  | bl b => exact ⟨.inl (.base (.bl b)), by simp [tyD]⟩
  | int i => exact ⟨.inl (.base (.int i)), by simp [tyD]⟩
  | str x => exact ⟨.inl (.base (.str x)), by simp [tyD]⟩
  | scr t =>
    refine ⟨.inl ?_, by simp [tyD]⟩
    rcases t with ⟨o, t⟩ | ⟨o, its, n, hk, hc, _⟩
    · exact .base (.frz t)
    · exact .kList hk hc
  | tup sq hl =>
    refine ⟨.inl ?_, by simp [tyD]⟩
    rcases sq with (sq | ⟨o, sq⟩) | ⟨o, its, n, hk, hc, _⟩
    · exact .base (.tup sq)
    · exact .fTuple sq
    · exact .kTuple hk hc
  | lst rd sa hl =>
    refine ⟨.inl ?_, by simp [tyD]⟩
    exact .base (.lst rd)
  | dic rd sa t hl =>
    refine ⟨?_, by simp [tyD]⟩
    rcases t with ⟨kvs, rfl, _⟩ | ⟨kvs, rfl, _⟩
    · rcases rd with rd | ⟨o, rd⟩
      · exact .inl (.base (.dK rd))
      · exact .inl (.fDict rd)
    · rcases rd with rd | ⟨o, rd⟩
      · exact .inl (.base (.dT rd))
      · exact .inr ⟨_, o, kvs, rfl, rd, rfl⟩
  | obj r s l => exact absurd rfl hn
@[simp] def rIsi' (c : String) (r : WR) : WR := fun G P => r G fun d => tyD d ≠ "" ∧ P (.bl (isiD c d))
theorem r_isi {e : Expr} {r : WR} {c x : Str} {Ty : String} {p p2 pos : Pos} (hK : ∀ j, (X j).K = K) (h : SndR X K e r) (hx : x = "isinstance") (hg : ∀ j, Gl (X j) x) (hm : ∀ j, (X j).mg x = none) (hv : bootBuiltins x = some (.builtin "isinstance")) (hg2 : ∀ j, Gl (X j) c) (hm2 : ∀ j, (X j).mg c = none) (hv2 : bootBuiltins c = some (.type Ty)) (hT : Ty ∈ ["tuple", "list", "int", "bool", "str", "dict"])
    (hn : x ≠ "__name__" := by decide) (hdb : (x == ("__debug__" : Str)) = false := by decide) (hn2 : c ≠ "__name__" := by decide) (hdb2 : (c == ("__debug__" : Str)) = false := by decide)
    (hs : ∀ j, starEach [e, .Name c p2] (X j).env = (false, eval e (X j).env) :: starEach [.Name c p2] (X j).env := by intro _; rfl) (hs2 : ∀ j, starEach [.Name c p2] (X j).env = (false, eval (.Name c p2) (X j).env) :: starEach [] (X j).env := by intro _; rfl) (hpl : ∀ j, (backTo pos (starEach [.Name c p2] (X j).env)).any (·.1) = false := by intro _; rfl) :
    SndR X K (.Call (.Name x p) [e, .Name c p2] [] pos) (rIsi' Ty r) := by
  obtain ⟨t, h1, h2⟩ := h
  refine ⟨tCB (rIsiA K) (tCons t (tCons (tC (.ty Ty)) tNil)), fun j => pe_callB (c_isi (hK j)) (hg j) (hm j) hv (pa_cons (h1 j) (pa_cons (pe_bltn (hg2 j) (hm2 j) hv2 rfl hn2 hdb2) pa_nil (hs2 j)) (hs j)) hn hdb (hs j) (hpl j), fun G σ H S P Q g w q => ?_⟩
  refine h2 G σ H S _ _ g w fun d v H1 p s hv => ?_
  obtain ⟨hd, p⟩ := p
  obtain ⟨z, m⟩ := vw_ty hv hd
  have kb := isi_kit Ty hT (tyD d) m
  rcases z with z | ⟨a, o, kvs, rfl, e, ed⟩
  · exact .inl ⟨v, .ty Ty, _, _, isiD Ty d, rfl, .ty Ty, z, kit_ty kb, q _ _ H1 p s (.bl _)⟩
  · rw [ed] at kb
    refine .inr ⟨a, o, kvs, Ty, isiD Ty d, rfl, e, ?_, q _ _ H1 p s (.bl _)⟩
    rw [kb]
    unfold isiD
    rw [ed]
end
end T
namespace T
open PySem PySem.Spec PyProof.Rows L2
/-! ### what a def's derivation needs -/
theorem RoomG.units0 {k : Nat} {A : Around} (r : RoomG k A) : A.units < cLine := by have := r.room.un; omega
theorem RoomG.u65 {k : Nat} {A : Around} (r : RoomG k A) : A.units + 65 < cLine := by have := r.room.un; omega
theorem RoomG.u80 {k : Nat} {A : Around} (r : RoomG k A) : A.units + 80 < cLine := by have := r.room.un; omega
theorem RoomG.u64 {k : Nat} {A : Around} (r : RoomG k A) : A.units + 64 < cLine := by have := r.room.un; omega
section
variable {P : Program} {w : World} {K : PySem.W.Frag} {mg : Str → Option Value} {base : Heap} {N : List Str} {qual : Str} {st : Stmt} {f : Addr} {cdv : Value} {A : Around} {outer : List PySem.Env} {s : Shared} {H : Hp} {E : XK}
theorem bx_takes : ∀ j, Takes (bx P w K mg base N qual st f cdv A outer s H E j) (wx E) := fun _ => takes_of rfl rfl rfl rfl
theorem bx_passes : ∀ j, PassesOwn (model (bx P w K mg base N qual st f cdv A outer s H E j).prog (bx P w K mg base N qual st f cdv A outer s H E j).w) (bx P w K mg base N qual st f cdv A outer s H E j).A (bx P w K mg base N qual st f cdv A outer s H E j).env (bx P w K mg base N qual st f cdv A outer s H E j).xe :=
  fun _ => passes_of (K := fun e s'' => L2.CX P w outer H s E e s'') rfl
end
theorem bk_takes {ι : Type} {X : ι → Cx} {scope : Scope} : ∀ j, Takes (bkx X scope j) never := fun _ => takes0
/-- a def that stands in the module -/
structure Dk (P : Program) (w : World) (K : PySem.W.Frag) (mg : Str → Option Value) (base : Heap) (k : Nat) (x : Str) (m : List Bool) (A : FSp) : Prop where
  fn : ∃ (f : Addr) (fd : FuncData) (ps : List Str), ps.length = m.length ∧ FnG P w K mg base (L2.CX P w) k f fd ps (conc K m A) ∧ mg x = some (.ref f) ∧ PySem.W.keepIn K (.ref f) = true ∧ Binds K fd ps []
theorem Dk.df {P : Program} {w : World} {K : PySem.W.Frag} {mg : Str → Option Value} {base : Heap} {k k' : Nat} {x : Str} {m : List Bool} {A : FSp} {N : List Str} {qual : Str} {st : Stmt} {f : Addr} {cdv : Value} {Ar : Around} {outer : List PySem.Env} {s : Shared} {H : Hp} {E : XK}
    (D : Dk P w K mg base k x m A) (hr : RoomG k' (Ar.deeper (envOfC qual (defScope st) s.heap.objs.size f cdv))) (h : k ≤ k' := by decide) : Df (bx P w K mg base N qual st f cdv Ar outer s H E) K x m A := by
  obtain ⟨f, fd, ps, h1, h2, h3, h4, h5⟩ := D.fn
  exact ⟨f, fd, ps, k, h1, fun j => ⟨h2, hr.mono h, h3, h4, h5⟩⟩
theorem Df.bk {ι : Type} {X : ι → Cx} {K : PySem.W.Frag} {x : Str} {m : List Bool} {A : FSp} {scope : Scope} (D : Df X K x m A) : Df (bkx X scope) K x m A := by
  obtain ⟨f, fd, ps, k, h1, h2⟩ := D.fn
  exact ⟨f, fd, ps, k, h1, fun j => h2 j.j⟩
/-- a def's promise -/
theorem dk_mk {P : Program} {w : World} {K : PySem.W.Frag} {mg : Str → Option Value} {base : Heap} {x qual : Str} {st : Stmt} {f : Addr} {fd : FuncData} {N ps : List Str} {k : Nat} {m : List Bool} {A : FSp} {b : WS} (F : L2.Fun K x qual st f fd) (hmg : mg x = some (.ref f)) (hb : Binds K fd ps []) (Sc : FnScope N ps (defScope st)) (hm : m.length = ps.length) (hN : ps.length ≤ N.length)
    (sd : ∀ (cdv : Value) (Ar : Around) (outer : List PySem.Env) (s : Shared) (H : Hp) (E : XK), RoomG k (Ar.deeper (envOfC qual (defScope st) s.heap.objs.size f cdv)) → SndSs (bx P w K mg base N qual st f cdv Ar outer s H E) K (wx E) (mutIx m 0) (defBody st) b)
    (hA : ∀ ds P PX, A ds P PX → ds.length = ps.length → b (enOf m P PX) (env0 ds N.length)) : Dk P w K mg base (k + 1) x m A :=
  ⟨f, fd, ps, hm.symm, fn_ok F Sc hm hN sd hA, hmg, F.kp, hb⟩
/-- a weaker promise -/
theorem Dk.imp {P : Program} {w : World} {K : PySem.W.Frag} {mg : Str → Option Value} {base : Heap} {k : Nat} {x : Str} {m : List Bool} {A B : FSp} (D : Dk P w K mg base k x m A) (h : ∀ ds P PX, B ds P PX → A ds P PX) : Dk P w K mg base k x m B := by
  obtain ⟨f, fd, ps, h1, h2, h3⟩ := D.fn
  exact ⟨f, fd, ps, h1, h2.imp fun vs H Q E ⟨S, ds, os, p, px, a, b, c, d, e⟩ => ⟨S, ds, os, p, px, a, b, c, h _ _ _ d, e⟩, h3⟩
/-! ### rules with their answers -/
section
variable {ι : Type} {X : ι → Cx} {K : PySem.W.Frag} {W : WX} {pn : List Nat}
theorem xv (i : Nat) {x : Str} {pos : Pos} (hN : ∀ j, (X j).N[i]? = some x := by intro _; rfl) (hv : ∀ j, Vis (X j).env.scope x := by intro _; first | exact Or.inl rfl | exact Or.inr (Or.inl rfl) | exact Or.inr (Or.inr rfl)) (hd : (x == ("__debug__" : Str)) = false := by decide) (hcd : (x == ("__classdict__" : Str)) = false := by decide) :
    SndR X K (.Name x pos) (rVar i) := r_var i hN hv hd hcd
theorem xmov (i : Nat) {x : Str} {pos : Pos} (hN : ∀ j, (X j).N[i]? = some x := by intro _; rfl) (hv : ∀ j, Vis (X j).env.scope x := by intro _; first | exact Or.inl rfl | exact Or.inr (Or.inl rfl) | exact Or.inr (Or.inr rfl)) (hd : (x == ("__debug__" : Str)) = false := by decide) (hcd : (x == ("__classdict__" : Str)) = false := by decide) :
    SndE X K W (.Name x pos) (eMov i) := e_mov i hN hv hd hcd
theorem mmut (i : Nat) {js : List (Option Nat)} {x : Str} {pos : Pos} {es : List Expr} {t : WL} (h' : SndM X K W js es t) (hN : ∀ j, (X j).N[i]? = some x := by intro _; rfl) (hv : ∀ j, Vis (X j).env.scope x := by intro _; first | exact Or.inl rfl | exact Or.inr (Or.inl rfl) | exact Or.inr (Or.inr rfl)) (hd : (x == ("__debug__" : Str)) = false := by decide) (hcd : (x == ("__classdict__" : Str)) = false := by decide)
    (hs : ∀ j, starEach (.Name x pos :: es) (X j).env = (false, eval (.Name x pos) (X j).env) :: starEach es (X j).env := by intro _; rfl) : SndM X K W (some i :: js) (.Name x pos :: es) (lMut i t) := m_mut i h' hN hv hd hcd hs
theorem gnm (i : Nat) {x : Str} {pos : Pos} (hN : ∀ j, (X j).N.Nodup) (hi : ∀ j, (X j).N[i]? = some x := by intro _; rfl) (hx : ∀ j, Loc (X j).env.scope x := by intro _; first | exact Or.inl rfl | exact Or.inr rfl) (hf : ∀ j, (X j).fn x = true ∨ (X j).env.scope.names.lookup x = some .local := by intro _; first | exact Or.inl rfl | exact Or.inr rfl) : SndG X K [i] (.Name x pos) (gNm i) := g_name i hN hi hx hf
theorem sset (i : Nat) {x : Str} {e : Expr} {w : WE} {pos pos' : Pos} (hN : ∀ j, (X j).N.Nodup) (h : SndE X K W e w) (hi : i ∉ pn := by decide) (hn : ∀ j, (X j).N[i]? = some x := by intro _; rfl) (hx : ∀ j, Loc (X j).env.scope x := by intro _; first | exact Or.inl rfl | exact Or.inr rfl)
    (hs : ∀ j, swapsWith e (some (.Name x pos')) pos.line (X j).env = pure false := by intro _; rfl) (hf : ∀ j, (X j).fn x = true ∨ (X j).env.scope.names.lookup x = some .local := by intro _; first | exact Or.inl rfl | exact Or.inr rfl) : SndS X K W pn (.Assign [.Name x pos'] e pos) (sSet i w) := s_set i h hi hN hn hx hs hf
end
end T
namespace T
open PySem PySem.Spec PyProof.Rows L2
@[simp] def sNil : WS := fun E G => E.nx G
@[simp] def sPass : WS := fun E G => E.nx G
@[simp] def sBreak : WS := fun E G => E.bk G
@[simp] def leI := onI0 fun i j => .bl (decide (i ≤ j))
@[simp] def ltI := onI0 fun i j => .bl (decide (i < j))
@[simp] def sNever : WS := fun _ _ => False
section
variable {ι : Type} {X : ι → Cx} {K : PySem.W.Frag} {W : WX} {pn : List Nat}
theorem ok_le1 : OpOk K (rI0 fun i j => .bl (decide (i ≤ j))) leI := ok_rI0 (gd := fun i j => .bl (decide (i ≤ j))) (fun _ _ _ _ => .bl _) onI0_of
theorem ok_lt1 : OpOk K (rI0 fun i j => .bl (decide (i < j))) ltI := ok_rI0 (gd := fun i j => .bl (decide (i < j))) (fun _ _ _ _ => .bl _) onI0_of
/-- what is not come to -/
theorem s_never {st : Stmt} : SndS X K W pn st sNever := ⟨fun _ _ _ => False, fun _ => ⟨fun _ _ _ _ _ _ h => h.elim⟩, fun _ _ _ _ _ _ _ _ _ w _ => w.elim⟩
theorem e_meth0 (i : Nat) {e' : Expr} {r : V → List V → Hp → VK → Prop} {f : List D → List D → (List D → D → Prop) → Prop} (ok : MutOk K r f) (mk : ∀ j, PE (X j) e' (fun σ H Q => tVar i σ H fun x H1 => tyV K "list" x H1 ∧ r x [] H1 Q)) : SndE X K W e' (eMeth i f lNil) := by
  refine ⟨_, mk, fun U0 G σ H Oo os P PX Q rep w okq okx => ?_⟩
  obtain ⟨xs0, e0, w⟩ := lstAt_get w
  have rep0 : Rep K U0 G σ H (Oo ++ []) os := by rw [List.append_nil]; exact rep
  obtain ⟨xs, e1, q⟩ := lstAt_get w
  obtain ⟨p, vs, ox, hv, hp, hx, nd, put⟩ := rep0.write e1
  refine ⟨.ref p, hv, .inl ⟨rfl, vs, .inl (.inl hp)⟩, ?_⟩
  refine ok H _ xs [] vs [] ox [] p _ Q hp hx .nil nd q fun xs' d vs' z ox' o3 hF hx' hd nd' sub => ?_
  obtain ⟨os', r2, s2, back⟩ := put xs' vs' ox' o3 hx' nd' sub
  exact okq d _ z _ o3 os' hF s2 r2 (back d z hd)
/-! ### what stands behind a call that changes what it was handed -/
theorem callM_core {js : List (Option Nat)} {U0 S0 : Addr → Prop} {G1 G2 : T.Env} {σ : L2.St} {H H0 H1 H' : Hp} {Oo os os1 om orest o2 o1' : List Addr} {ds ds' : List D} {vs : List V} (r1 : Rep K U0 G1 σ H1 Oo os1) (st1 : Stp H H1 os os1) (g2 : RpG K H1 (ug U0 (Oo ++ os1)) G2 σ orest) (pm : os1.Perm (om ++ orest))
    (hn : ∀ i : Nat, some i ∈ js → G2[i]? = some none) (nd : (js.filterMap id).Nodup) (mv : MixV K H0 S0 σ js ds vs) (st : Stp H1 H' om (o2 ++ o1')) (ow : Own H' (o2 ++ o1')) (mu : MutR K H' (ug U0 ((Oo ++ o2) ++ (o1' ++ orest))) (msk js) vs ds' o1') :
    ∃ os', Rep K U0 (putA js G2 ds') σ H' (Oo ++ o2) os' ∧ Stp H H' os (o2 ++ os') ∧ (∀ a, ug U0 ((Oo ++ o2) ++ (o1' ++ orest)) a → ug U0 ((Oo ++ o2) ++ os') a) := by
  have mo : ∀ a ∈ om, a ∈ os1 := fun a m => pm.mem_iff.mpr (List.mem_append_left _ m)
  have mr : ∀ a ∈ orest, a ∈ os1 := fun a m => pm.mem_iff.mpr (List.mem_append_right _ m)
  obtain ⟨n1, n2, n3⟩ := List.nodup_append.mp r1.own.1
  obtain ⟨n4, n5, n6⟩ := List.nodup_append.mp (pm.nodup_iff.mp n2)
  have fr : ∀ a, a ∈ o2 ++ o1' → a ∉ Oo ∧ a ∉ orest := fun a m => by
    rcases st.new a m with z | z
    · exact ⟨fun y => n3 a y a (mo a z) rfl, fun y => n6 a z a y rfl⟩
    · exact ⟨fun y => r1.own.none z (List.mem_append_left _ y), fun y => r1.own.none z (List.mem_append_right _ (mr a y))⟩
  have mem3 : ∀ a, a ∈ (Oo ++ o2) ++ (o1' ++ orest) → a ∈ Oo ∨ a ∈ o2 ++ o1' ∨ a ∈ orest := fun a m => by
    rcases List.mem_append.mp m with z | z
    · rcases List.mem_append.mp z with y | y
      · exact .inl y
      · exact .inr (.inl (List.mem_append_left _ y))
    · rcases List.mem_append.mp z with y | y
      · exact .inr (.inl (List.mem_append_right _ y))
      · exact .inr (.inr y)
  have g3 : RpG K H' (ug U0 ((Oo ++ o2) ++ (o1' ++ orest))) G2 σ orest := by
    refine g2.mono (os0 := orest) (fun a o e h => ?_) (fun a u ⟨o, e⟩ => ⟨u.1, fun m => ?_⟩) fun a m => m
    · refine st.keep a o e fun m => ?_
      rcases h with h | h | h
      · exact h.2 (List.mem_append_right _ (mo a m))
      · exact n6 a m a h rfl
      · obtain ⟨o', q, mu'⟩ := r1.own.2 a (List.mem_append_right _ (mo a m))
        rw [e] at q; cases q
        exact h mu'
    · rcases mem3 a m with z | z | z
      · exact u.2 (List.mem_append_left _ z)
      · rcases st.new a z with w | w
        · exact u.2 (List.mem_append_right _ (mo a w))
        · rw [e] at w; cases w
      · exact u.2 (List.mem_append_right _ (mr a z))
  obtain ⟨os', g4, pm4⟩ := put_all g3 mv mu nd hn
  have pm5 : ((Oo ++ o2) ++ (o1' ++ orest)).Perm ((Oo ++ o2) ++ os') := List.Perm.append_left _ pm4.symm
  have hs5 : ∀ a ∈ (Oo ++ o2) ++ os', a ∈ (Oo ++ o2) ++ (o1' ++ orest) := fun a m => pm5.mem_iff.mpr m
  have keepO : ∀ a, a ∈ Oo ∨ a ∈ orest → ∃ o, H' a = some o ∧ Mut (some o) := fun a m => by
    have hin : a ∈ Oo ++ os1 := m.elim (fun z => List.mem_append_left _ z) fun z => List.mem_append_right _ (mr a z)
    obtain ⟨o, q, mu'⟩ := r1.own.2 a hin
    refine ⟨o, st.keep a o q fun z => ?_, mu'⟩
    rcases m with m | m
    · exact n3 a m a (mo a z) rfl
    · exact n6 a z a m rfl
  have ow5 : Own H' ((Oo ++ o2) ++ (o1' ++ orest)) := by
    refine ⟨?_, fun a m => ?_⟩
    · have e5 : (Oo ++ o2) ++ (o1' ++ orest) = Oo ++ ((o2 ++ o1') ++ orest) := by simp [List.append_assoc]
      rw [e5]
      refine List.nodup_append.mpr ⟨n1, List.nodup_append.mpr ⟨ow.1, n5, fun a m b m' e => ?_⟩, fun a m b m' e => ?_⟩
      · subst e
        exact (fr a m).2 m'
      · subst e
        rcases List.mem_append.mp m' with z | z
        · exact (fr a z).1 m
        · exact n3 a m a (mr a z) rfl
    · rcases mem3 a m with z | z | z
      · exact keepO a (.inl z)
      · exact ow.2 a z
      · exact keepO a (.inr z)
  refine ⟨os', ⟨g4.mono (os0 := os') (fun a o q _ => q) (fun a u _ => ug_sub hs5 a u) fun a m => m, ow5.perm pm5, fun a m => ?_, fun a h => r1.un a (st.free h)⟩, ⟨fun a o e n => ?_, fun a m => ?_, fun a o e => ?_⟩, fun a u => ug_sub hs5 a u⟩
  · rcases mem3 a (hs5 a m) with z | z | z
    · exact r1.u0 a (List.mem_append_left _ z)
    · rcases st.new a z with w | w
      · exact r1.u0 a (List.mem_append_right _ (mo a w))
      · exact r1.un a w
    · exact r1.u0 a (List.mem_append_right _ (mr a z))
  · refine st.keep a o (st1.keep a o e n) fun z => ?_
    rcases st1.new a (mo a z) with w | w
    · exact n w
    · rw [e] at w; cases w
  · have z : a ∈ o2 ++ o1' ∨ a ∈ orest := by
      rcases List.mem_append.mp m with z | z
      · exact .inl (List.mem_append_left _ z)
      · rcases List.mem_append.mp (pm4.mem_iff.mp z) with w | w
        · exact .inl (List.mem_append_right _ w)
        · exact .inr w
    rcases z with z | z
    · rcases st.new a z with w | w
      · exact st1.new a (mo a w)
      · exact .inr (st1.free w)
    · exact st1.new a (mr a z)
  · obtain ⟨o', q⟩ := st1.dom a o e
    exact st.dom a o' q
/-! ### arguments, read alone, some of them handed over -/
def SndMr (X : ι → Cx) (K : PySem.W.Frag) (js : List (Option Nat)) (es : List Expr) (w : WA) : Prop := ∃ t : TA, (∀ i, PA (X i) es t) ∧ ∀ (Gm G : T.Env) (σ : L2.St) (H : Hp) (S : Addr → Prop) (P : List D → Prop) (Q : List V → Hp → Prop),
  VwG K H S G σ → (∀ i : Nat, some i ∈ js → ∃ v, σ[i]? = some (some v)) → w G P → (∀ ds vs H', P ds → Same H H' → MixV K H' (gr S H) σ js ds vs → Q vs H') → t σ H Q
theorem MixV.same {H H' : Hp} {S S' : Addr → Prop} {σ : L2.St} (e : Same H H') (h : ∀ a, S a → S' a) : ∀ {js : List (Option Nat)} {ds : List D} {vs : List V}, MixV K H S σ js ds vs → MixV K H' S' σ js ds vs
  | _, _, _, .nil => .nil
  | _, _, _, .val r t => .val (r.same e h) (MixV.same e h t)
  | _, _, _, .mut q t => .mut q (MixV.same e h t)
theorem mr_nil : SndMr X K [] [] aNil := ⟨tNil, fun _ => pa_nil, fun Gm G σ H S P Q g hs w q => q [] [] H w (Same.refl H) .nil⟩
theorem mr_val {js : List (Option Nat)} {e : Expr} {es : List Expr} {r : WR} {t : WA} (h : SndR X K e r) (h' : SndMr X K js es t) (hs : ∀ j, starEach (e :: es) (X j).env = (false, eval e (X j).env) :: starEach es (X j).env := by intro _; rfl) : SndMr X K (none :: js) (e :: es) (aCons r t) := by
  obtain ⟨ta, a1, a2⟩ := h
  obtain ⟨tb, b1, b2⟩ := h'
  refine ⟨tCons ta tb, fun j => pa_cons (a1 j) (b1 j) (hs j), fun Gm G σ H S P Q g hs w q => ?_⟩
  refine a2 G σ H S _ _ g w fun d v H1 p s hv => ?_
  refine b2 Gm G σ H1 (gr S H) _ _ (g.same s gr_of) (fun i m => hs i (List.mem_cons_of_mem _ m)) p fun ds vs H2 p2 s2 hvs => ?_
  exact q _ _ H2 p2 (s.trans s2) (.val (hv.same s2 fun _ z => z) (hvs.same (Same.refl _) (gr_gr s)))
theorem mr_mut (i : Nat) {js : List (Option Nat)} {x : Str} {pos : Pos} {es : List Expr} {t : WA} (h' : SndMr X K js es t) (hN : ∀ j, (X j).N[i]? = some x := by intro _; rfl) (hv : ∀ j, Vis (X j).env.scope x := by intro _; first | exact Or.inl rfl | exact Or.inr (Or.inl rfl) | exact Or.inr (Or.inr rfl)) (hd : (x == ("__debug__" : Str)) = false := by decide) (hcd : (x == ("__classdict__" : Str)) = false := by decide)
    (hs : ∀ j, starEach (.Name x pos :: es) (X j).env = (false, eval (.Name x pos) (X j).env) :: starEach es (X j).env := by intro _; rfl) : SndMr X K (some i :: js) (.Name x pos :: es) t := by
  obtain ⟨tb, b1, b2⟩ := h'
  refine ⟨tCons (tVar i) tb, fun j => pa_cons (pe_var (hN j) (hv j) hd hcd) (b1 j) (hs j), fun Gm G σ H S P Q g hs w q => ?_⟩
  obtain ⟨v, hv⟩ := hs i List.mem_cons_self
  refine ⟨v, hv, ?_⟩
  exact b2 Gm G σ H S _ _ g (fun i m => hs i (List.mem_cons_of_mem _ m)) w fun ds vs H' p s m => q ds (v :: vs) H' p s (.mut hv m)
/-! the slots without what is handed over -/
@[simp] def strip : List (Option Nat) → T.Env → Option T.Env
  | [], G => some G
  | none :: js, G => strip js G
  | some i :: js, G => match G[i]? with
    | some (some _) => strip js (G.set i none)
    | _ => none
theorem MutR.anyU {H : Hp} {U U' : Addr → Prop} : ∀ {m : List Bool} {vs : List V} {ds : List D} {os : List Addr}, owndL ds = true → MutR K H U m vs ds os → MutR K H U' m vs ds os
  | _, _, _, _, _, .nil => .nil
  | _, _, _, _, q, .bor t => .bor (MutR.anyU q t)
  | _, _, _, _, q, .mut h t => .mut (h.anyU (by simp [owndL] at q; exact q.1)) (MutR.anyU (by simp [owndL] at q; exact q.2) t)
theorem strip_all {H : Hp} {U : Addr → Prop} {σ : L2.St} : ∀ {js : List (Option Nat)} {G G' : T.Env} {os : List Addr}, RpG K H U G σ os → strip js G = some G' →
    ∃ om orest, RpG K H U G' σ orest ∧ os.Perm (om ++ orest) ∧ (∀ i : Nat, some i ∈ js → G'[i]? = some none) ∧ (∀ i : Nat, G[i]? = some none → G'[i]? = some none) ∧ (∀ i : Nat, some i ∈ js → ∃ v, σ[i]? = some (some v)) ∧
      ∀ (H' : Hp) (S' : Addr → Prop) (ds : List D) (vs : List V), Same H H' → (∀ a, U a → S' a) → MixV K H' S' σ js ds vs → ∃ full, fillA js G (frzL ds) = some (full, G') ∧ ArgR K H' S' (msk js) full vs om
  | [], G, G', os, g, e => by
    simp [strip] at e
    subst e
    refine ⟨[], os, g, List.Perm.refl _, fun i m => absurd m (by simp), fun i h => h, fun i m => absurd m (by simp), fun H' S' ds vs s hu m => ?_⟩
    cases m
    exact ⟨[], rfl, .nil⟩
  | none :: js, G, G', os, g, e => by
    obtain ⟨om, orest, h1, h2, h3, h4, h5, h6⟩ := strip_all g (show strip js G = some G' from e)
    refine ⟨om, orest, h1, h2, fun i m => h3 i (by simpa using m), h4, fun i m => h5 i (by simpa using m), fun H' S' ds vs s hu m => ?_⟩
    cases m with
    | val h t =>
      obtain ⟨full, e1, e2⟩ := h6 H' S' _ _ s hu t
      exact ⟨_, by simp only [frzL, fillA, e1, Option.map_some], .bor h.frz (frz_frz _) e2⟩
  | some i :: js, G, G', os, g, e => by
    simp only [strip] at e
    split at e
    · rename_i d ed
      obtain ⟨v', o1, o2, q1, q2, q3, q4⟩ := g.take ed
      obtain ⟨om, orest, h1, h2, h3, h4, h5, h6⟩ := strip_all q3 e
      have hi : i < G.length := (List.getElem?_eq_some_iff.mp ed).1
      refine ⟨o1 ++ om, orest, h1, ?_, fun k m => ?_, fun k hk => h4 k ?_, fun k m => ?_, fun H' S' ds vs s hu m => ?_⟩
      · rw [List.append_assoc]
        exact q4.trans (List.Perm.append_left o1 h2)
      · rcases List.mem_cons.mp m with z | z
        · cases z
          exact h4 _ (by simp [hi])
        · exact h3 k z
      · by_cases hki : i = k
        · subst hki
          simp [hi]
        · rw [List.getElem?_set_ne hki]
          exact hk
      · rcases List.mem_cons.mp m with z | z
        · cases z
          exact ⟨_, q1⟩
        · exact h5 k z
      · cases m with
        | «mut» hv t =>
          rw [q1] at hv
          cases hv
          obtain ⟨full, e1, e2⟩ := h6 H' S' _ _ s hu t
          refine ⟨d :: full, by simp only [fillA, ed, e1, Option.map_some], .mut (q2.mono (os0 := o1) (fun a o e _ => s a o e) (fun a u _ => hu a u) fun a m => m) e2⟩
    · cases e
section
variable {x : Str} {e : Expr} {es : List Expr} {p pos : Pos} {A : FSp} {js : List (Option Nat)}
/-- some are handed over, the others lent: what comes back is all owned -/
@[simp] def eCallMR (A : FSp) (js : List (Option Nat)) (t : WA) : WE := fun G P PX => match strip js G with
  | some G' => t G' fun ds => match fillA js G (frzL ds) with
    | some q => A q.1 (fun d ds' => (ownd d = true ∧ owndL ds' = true) ∧ P d (putA js G' ds')) (fun c ds' => owndL ds' = true ∧ PX c (putA js G' ds'))
    | none => False
  | none => False
theorem e_callMR (tk : ∀ j, Takes (X j) W) (F : Df X K x (msk js) A) (hg : ∀ j, Gl (X j) x) {t : WA} (h : SndMr X K js (e :: es) t) (nd : (js.filterMap id).Nodup := by decide) (hdb : (x == ("__debug__" : Str)) = false := by decide)
    (hs : ∀ j, starEach (e :: es) (X j).env = (false, eval e (X j).env) :: starEach es (X j).env := by intro _; rfl) (hpl : ∀ j, (backTo pos (starEach es (X j).env)).any (·.1) = false := by intro _; rfl) : SndE X K W (.Call (.Name x p) (e :: es) [] pos) (eCallMR A js t) := by
  obtain ⟨f, fd, ps, k, hl, hF⟩ := F.fn
  obtain ⟨ta, a1, a2⟩ := h
  refine ⟨tCallS (conc K (msk js) A) (L2.WE W) ta, fun j => pe_callG (hF j).1 (hF j).2.1 (hg j) (hF j).2.2.1 (hF j).2.2.2.1 (hF j).2.2.2.2 (fun σ => passAt (tk j) σ) (a1 j) hdb (hs j) (hpl j), fun U0 G σ H Oo os P PX Q rep w ok okx => ?_⟩
  unfold eCallMR at w
  split at w
  case h_2 => exact w.elim
  rename_i G2 hG2
  obtain ⟨om, orest, g2, pm, hn, _, hsl, fin⟩ := strip_all rep.g hG2
  have nd2 := (List.nodup_append.mp rep.own.1)
  have ndp := List.nodup_append.mp (pm.nodup_iff.mp nd2.2.1)
  have mo : ∀ a ∈ om, a ∈ os := fun a m => pm.mem_iff.mpr (List.mem_append_left _ m)
  have vg : VwG K H (fun a => U0 a ∧ a ∉ om) G2 σ := g2.vw (fun a m => ⟨rep.u0 a (List.mem_append_right _ (pm.mem_iff.mpr (List.mem_append_right _ m))), fun z => ndp.2.2 a z a m rfl⟩) fun a u => ⟨u.1, fun z => u.2 (List.mem_append_right _ (mo a z))⟩
  refine a2 G G2 σ H _ _ _ vg hsl w fun ds vs H1 hp s mv => ?_
  split at hp
  case h_2 => exact hp.elim
  rename_i q hq
  obtain ⟨full, G3⟩ := q
  have hUS : ∀ a, ug U0 (Oo ++ os) a → gr (fun a => U0 a ∧ a ∉ om) H a := fun a u => .inl ⟨u.1, fun z => u.2 (List.mem_append_right _ (mo a z))⟩
  obtain ⟨full', e1, ar⟩ := fin H1 _ ds vs s hUS mv
  rw [hq] at e1
  cases e1
  have r1 := rep.same s
  have g2' : RpG K H1 (ug U0 (Oo ++ os)) G2 σ orest := g2.mono (os0 := orest) (fun a o e _ => s a o e) (fun a u _ => u) fun a m => m
  refine ⟨gr (fun a => U0 a ∧ a ∉ om) H, full, om, _, _, fun a u m => ?_, ar, ⟨ndp.1, fun a m => r1.own.2 a (List.mem_append_right _ (mo a m))⟩, hp, fun d ds' pd v H' o2 o1' st ow mu rp => ?_, fun c ds' pd H' o1' st ow mu => ?_⟩
  · rcases u with u | u
    · exact u.2 m
    · exact rep.own.none u (List.mem_append_right _ (mo a m))
  · obtain ⟨os', rr, ss, gu⟩ := callM_core r1 (Stp.of_same s os) g2' pm hn nd mv st ow (mu.anyU pd.1.2)
    exact ok d _ v H' o2 os' pd.2 ss rr (rp.anyU pd.1.1)
  · obtain ⟨os', rr, ss, _⟩ := callM_core (o2 := []) r1 (Stp.of_same s os) g2' pm hn nd mv st ow (mu.anyU pd.1)
    exact okx c _ H' os' pd.2 ss (by rw [List.append_nil] at rr; exact rr)
end
end
end T
namespace T
open PySem PySem.Spec PyProof.Rows L2
section
variable {ι : Type} {X : ι → Cx} {K : PySem.W.Frag} {W : WX} {pn : List Nat}
/-! ### a list within a slot's data -/
/-- what the items of a tuple or an owned list are -/
@[simp] def itm : D → Option (List D)
  | .tup xs => some xs
  | .lst true xs => some xs
  | _ => none
@[simp] def rebuild : D → List D → D
  | .tup _, ys => .tup ys
  | .lst _ _, ys => .lst true ys
  | d, _ => d
theorem rpL_foc {H : Hp} {U : Addr → Prop} : ∀ {xs : List D} {ws : List V} {os : List Addr} {k : Nat} {ys : List D}, RpL K H U xs ws os → xs[k]? = some (.lst true ys) →
    ∃ p vs ox pre post, ws[k]? = some (.ref p) ∧ H p = some (.lst vs) ∧ RpL K H U ys vs ox ∧ os = pre ++ ((p :: ox) ++ post) ∧
      ∀ (H' : Hp) (U' : Addr → Prop) (ys' : List D) (vs' : List V) (ox' : List Addr), H' p = some (.lst vs') → RpL K H' U' ys' vs' ox' → (∀ a o, H a = some o → (U a ∨ a ∈ pre ++ post ∨ ¬ Mut (some o)) → H' a = some o) → (∀ a, U a → (∃ o, H a = some o) → U' a) → RpL K H' U' (xs.set k (.lst true ys')) ws (pre ++ ((p :: ox') ++ post))
  | _, _, _, _, _, .nil, e => by simp at e
  | _, _, _, 0, ys, .cons (o1 := o1) (o2 := o2) h t, e => by
    simp at e
    subst e
    cases h with
    | @lstO p vs _ ox hp hx =>
      refine ⟨p, vs, ox, [], o2, rfl, hp, hx, rfl, fun H' U' ys' vs' ox' hp' hx' hk hs => ?_⟩
      exact .cons (o1 := p :: ox') (.lstO hp' hx') (t.mono (os0 := o2) (fun a o e h => hk a o e (h.imp id fun z => z.imp (fun m => by simpa using m) id)) hs fun a m => m)
  | _, _, _, k + 1, ys, .cons (o1 := o1) (o2 := o2) h t, e => by
    obtain ⟨p, vs, ox, pre, post, h1, h2, h3, h4, h5⟩ := rpL_foc (k := k) (ys := ys) t (by simpa using e)
    refine ⟨p, vs, ox, o1 ++ pre, post, by simpa using h1, h2, h3, by rw [h4, List.append_assoc], fun H' U' ys' vs' ox' hp' hx' hk hs => ?_⟩
    rw [List.append_assoc]
    refine .cons (h.mono (os0 := o1) (fun a o e h => hk a o e (h.imp id fun z => z.imp (fun m => by simp [m]) id)) hs fun a m => m) ?_
    exact h5 H' U' ys' vs' ox' hp' hx' (fun a o e h => hk a o e (h.imp id fun z => z.imp (fun m => by
      rw [List.append_assoc]
      exact List.mem_append_right _ m) id)) hs
/-- one step into a slot's data -/
theorem rp_foc {H : Hp} {U : Addr → Prop} {c : D} {v : V} {os : List Addr} {xs ys : List D} {n : Int} {k : Nat} (r : Rp K H U c v os) (hi : itm c = some xs) (hn : ixN xs.length n = some k) (e : xs[k]? = some (.lst true ys)) :
    ∃ p vs ox pre post, (∀ (Q : VK) (H1 : Hp), (∀ a o, H a = some o → H1 a = some o) → Q (.ref p) H1 → rIx K v (.int n) H1 Q) ∧ H p = some (.lst vs) ∧ RpL K H U ys vs ox ∧ os = pre ++ ((p :: ox) ++ post) ∧
      ∀ (H' : Hp) (U' : Addr → Prop) (ys' : List D) (vs' : List V) (ox' : List Addr), H' p = some (.lst vs') → RpL K H' U' ys' vs' ox' → (∀ a o, H a = some o → (U a ∨ a ∈ pre ++ post ∨ ¬ Mut (some o)) → H' a = some o) → (∀ a, U a → (∃ o, H a = some o) → U' a) → Rp K H' U' (rebuild c (xs.set k (.lst true ys'))) v (pre ++ ((p :: ox') ++ post)) := by
  cases r with
  | @tup a ws _ _ sq l =>
    cases hi
    obtain ⟨p, vs, ox, pre, post, h1, h2, h3, h4, h5⟩ := rpL_foc l e
    refine ⟨p, vs, ox, pre, post, fun Q H1 hk q => .inr (.inl ⟨a, ws, n, .ref p, rfl, rfl, sqt_keep (fun o e _ => hk _ o e) sq, ?_, q⟩), h2, h3, h4, fun H' U' ys' vs' ox' hp' hx' hk hs => ?_⟩
    · unfold atI
      rw [← l.length, hn]
      exact h1
    · exact .tup (sqt_keep (fun o e m => hk _ o e (.inr (.inr m))) sq) (h5 H' U' ys' vs' ox' hp' hx' hk hs)
  | @lstO a ws _ os2 ha l =>
    cases hi
    obtain ⟨p, vs, ox, pre, post, h1, h2, h3, h4, h5⟩ := rpL_foc l e
    refine ⟨p, vs, ox, a :: pre, post, fun Q H1 hk q => .inl ⟨a, ws, n, .ref p, rfl, rfl, .inl (.inl (hk _ _ ha)), ?_, q⟩, h2, h3, by rw [h4]; rfl, fun H' U' ys' vs' ox' hp' hx' hk hs => ?_⟩
    · unfold atI
      rw [← l.length, hn]
      exact h1
    · exact .lstO (hk _ _ ha (.inr (.inl (by simp)))) (h5 H' U' ys' vs' ox' hp' hx' (fun a o e h => hk a o e (h.imp id fun z => z.imp (fun m => by simp at m ⊢; exact .inr m) id)) hs)
  | _ => cases hi
/-! ### arguments while a slot is pinned -/
def SndLp (X : ι → Cx) (K : PySem.W.Frag) (W : WX) (i : Nat) (es : List Expr) (w : WL) : Prop := ∃ t : TA, (∀ j, PA (X j) es t) ∧ ∀ (U0 : Addr → Prop) (G : T.Env) (σ : L2.St) (H : Hp) (Oo os oi : List Addr) (d : D) (v : V) (P : List D → T.Env → Prop) (Q : List V → Hp → Prop),
  G[i]? = some (some d) → σ[i]? = some (some v) → Rp K H (ug U0 ((Oo ++ oi) ++ os)) d v oi → Rep K U0 (G.set i none) σ H (Oo ++ oi) os → w G P (fun _ _ => False) →
  (∀ ds G' vs H' o2 os1, P ds G' → Stp H H' os (o2 ++ os1) → Rep K U0 G' σ H' ((Oo ++ oi) ++ o2) os1 → RpL K H' (ug U0 (((Oo ++ oi) ++ o2) ++ os1)) ds vs o2 → Q vs H') → t σ H Q
theorem vwg_pin {U0 : Addr → Prop} {G : T.Env} {σ : L2.St} {H : Hp} {Oo os oi : List Addr} {d : D} {v : V} {i : Nat} (hg : G[i]? = some (some d)) (hv : σ[i]? = some (some v)) (r : Rp K H (ug U0 ((Oo ++ oi) ++ os)) d v oi) (rep : Rep K U0 (G.set i none) σ H (Oo ++ oi) os) : VwG K H (fun _ => True) G σ := by
  have z := rep.g.vw (S := fun _ => True) (fun _ _ => trivial) fun _ _ => trivial
  refine ⟨by simpa using z.len, fun k d' e => ?_⟩
  by_cases hk : i = k
  · subst hk
    rw [hg] at e
    cases e
    exact ⟨v, hv, r.vw (fun _ _ => trivial) fun _ _ => trivial⟩
  · exact z.at' k d' (by rw [List.getElem?_set_ne hk]; exact e)
@[simp] def lPinR (i : Nat) (t : WA) : WL := fun G P _ => t G fun ds => flatL ds = true ∧ P ds (G.set i none)
theorem lp_r (i : Nat) {es : List Expr} {t : WA} (h : SndA X K es t) : SndLp X K W i es (lPinR i t) := by
  obtain ⟨ta, a1, a2⟩ := h
  refine ⟨ta, a1, fun U0 G σ H Oo os oi d v P Q hg hv r rep w q => ?_⟩
  refine a2 G σ H _ _ _ (vwg_pin hg hv r rep) w fun ds vs H1 p s hvs => ?_
  have z := (hvs.flat (S' := ug U0 ((Oo ++ oi) ++ os)) p.1).rp (U := ug U0 (((Oo ++ oi) ++ []) ++ os)) (fun a u => by rw [List.append_nil]; exact u)
  rw [frzL_flat ds p.1] at z
  exact q ds _ vs H1 [] os p.2 (Stp.of_same s os) (by rw [List.append_nil]; exact rep.same s) z
theorem mixV_flat {H : Hp} {S S' : Addr → Prop} {σ : L2.St} : ∀ {js : List (Option Nat)} {ds : List D} {vs : List V}, flatL ds = true → MixV K H S σ js ds vs → MixV K H S' σ js ds vs
  | _, _, _, _, .nil => .nil
  | _, _, _, q, .val r t => .val (r.flat (by simp [flatL] at q; exact q.1)) (mixV_flat (by simp [flatL] at q; exact q.2) t)
  | _, _, _, q, .mut e t => .mut e (mixV_flat q t)
/-- one argument: a call that is handed some slots (not the pinned one) -/
@[simp] def lPinC (i : Nat) (A : FSp) (js : List (Option Nat)) (t : WA) : WL := fun G P _ => t G fun ds => flatL ds = true ∧ match strip js (G.set i none) with
  | some G' => (match fillA js (G.set i none) (frzL ds) with
    | some q => A q.1 (fun d ds' => P [d] (putA js G' ds')) (fun _ _ => False)
    | none => False)
  | none => False
theorem lp_call (i : Nat) {x : Str} {e : Expr} {es : List Expr} {p pos : Pos} {A : FSp} {js : List (Option Nat)} (tk : ∀ j, Takes (X j) W) (F : Df X K x (msk js) A) (hg : ∀ j, Gl (X j) x) {t : WA} (h : SndMr X K js (e :: es) t) (hjs : ∀ j ∈ js.filterMap id, ∀ (G : T.Env) (d : D), True := by intros; trivial) (nd : (js.filterMap id).Nodup := by decide) (hdb : (x == ("__debug__" : Str)) = false := by decide)
    (hs : ∀ j, starEach (e :: es) (X j).env = (false, eval e (X j).env) :: starEach es (X j).env := by intro _; rfl) (hpl : ∀ j, (backTo pos (starEach es (X j).env)).any (·.1) = false := by intro _; rfl)
    (hs2 : ∀ j, starEach [Expr.Call (.Name x p) (e :: es) [] pos] (X j).env = (false, eval (.Call (.Name x p) (e :: es) [] pos) (X j).env) :: starEach [] (X j).env := by intro _; rfl) (hsl : ∀ (G : T.Env) (σ : L2.St) (H : Hp) (S : Addr → Prop), VwG K H S G σ → ∀ k : Nat, some k ∈ js → (∃ d, G[k]? = some (some d)) → ∃ v, σ[k]? = some (some v) := by
      intro G σ H S g k _ ⟨d, e⟩
      obtain ⟨v, h, _⟩ := g.at' k d e
      exact ⟨v, h⟩) : SndLp X K W i [Expr.Call (.Name x p) (e :: es) [] pos] (fun G P PX => (∀ k : Nat, some k ∈ js → ∃ d, G[k]? = some (some d)) ∧ lPinC i A js t G P PX) := by
  obtain ⟨f, fd, ps, k, hl, hF⟩ := F.fn
  obtain ⟨ta, a1, a2⟩ := h
  refine ⟨tCons (tCallS (conc K (msk js) A) (L2.WE W) ta) tNil, fun j => pa_cons (pe_callG (hF j).1 (hF j).2.1 (hg j) (hF j).2.2.1 (hF j).2.2.2.1 (hF j).2.2.2.2 (fun σ => passAt (tk j) σ) (a1 j) hdb (hs j) (hpl j)) pa_nil (hs2 j), fun U0 G σ H Oo os oi d v P Q hgi hv r rep w q => ?_⟩
  obtain ⟨wk, w⟩ := w
  have vg := vwg_pin hgi hv r rep
  refine a2 G G σ H _ _ _ vg (fun k m => hsl G σ H _ vg k m (wk k m)) w fun ds vs H1 hp s mv => ?_
  obtain ⟨hfl, hp⟩ := hp
  split at hp
  case h_2 => exact hp.elim
  rename_i G2 hG2
  split at hp
  case h_2 => exact hp.elim
  rename_i q1 hq
  obtain ⟨full, G3⟩ := q1
  obtain ⟨om, orest, g2, pm, hn, _, _, fin⟩ := strip_all rep.g hG2
  have nd2 := (List.nodup_append.mp rep.own.1)
  have ndp := List.nodup_append.mp (pm.nodup_iff.mp nd2.2.1)
  have mo : ∀ a ∈ om, a ∈ os := fun a m => pm.mem_iff.mpr (List.mem_append_left _ m)
  have mv2 : MixV K H1 (ug U0 ((Oo ++ oi) ++ os)) σ js ds vs := mixV_flat hfl mv
  obtain ⟨full', e1, ar⟩ := fin H1 _ ds vs s (fun a u => u) mv2
  rw [hq] at e1
  cases e1
  have r1 := rep.same s
  have g2' : RpG K H1 (ug U0 ((Oo ++ oi) ++ os)) G2 σ orest := g2.mono (os0 := orest) (fun a o e _ => s a o e) (fun a u _ => u) fun a m => m
  refine ⟨ug U0 ((Oo ++ oi) ++ os), full, om, _, _, fun a u m => u.2 (List.mem_append_right _ (mo a m)), ar, ⟨ndp.1, fun a m => r1.own.2 a (List.mem_append_right _ (mo a m))⟩, hp, fun dd ds' pd v' H' o2 o1' st ow mu rp => ?_, fun c ds' pd H' o1' st ow mu => pd.elim⟩
  have base : ∀ a, ug (fun a => ug U0 ((Oo ++ oi) ++ os) a ∨ a ∈ om ∨ H1 a = none) (o2 ++ o1') a → ug U0 (((Oo ++ oi) ++ o2) ++ (o1' ++ orest)) a := fun a u => by
    have b : U0 a ∧ a ∉ (Oo ++ oi) ∧ a ∉ orest := by
      rcases u.1 with z | z | z
      · exact ⟨z.1, fun y => z.2 (List.mem_append_left _ y), fun y => z.2 (List.mem_append_right _ (pm.mem_iff.mpr (List.mem_append_right _ y)))⟩
      · exact ⟨r1.u0 a (List.mem_append_right _ (mo a z)), fun y => nd2.2.2 a y a (mo a z) rfl, fun y => ndp.2.2 a z a y rfl⟩
      · exact ⟨r1.un a z, fun y => r1.own.none z (List.mem_append_left _ y), fun y => r1.own.none z (List.mem_append_right _ (pm.mem_iff.mpr (List.mem_append_right _ y)))⟩
    refine ⟨b.1, fun m => ?_⟩
    rcases List.mem_append.mp m with z | z
    · rcases List.mem_append.mp z with y | y
      · exact b.2.1 y
      · exact u.2 (List.mem_append_left _ y)
    · rcases List.mem_append.mp z with y | y
      · exact u.2 (List.mem_append_right _ y)
      · exact b.2.2 y
  obtain ⟨os', rr, ss, gu⟩ := callM_core r1 (Stp.of_same s os) g2' pm hn nd mv2 st ow (fn_ok.mutR_mono base mu)
  refine q [dd] _ [v'] H' o2 os' pd ss rr ?_
  have z : Rp K H' (ug U0 (((Oo ++ oi) ++ o2) ++ os')) dd v' o2 := rp.mono (os0 := o2) (fun a o q _ => q) (fun a u _ => gu a (base a u)) fun a m => m
  simpa using RpL.cons z .nil
/-! ### a method of a list within a slot's data -/
@[simp] def eMethP (i : Nat) (ri : WR) (f : List D → List D → (List D → D → Prop) → Prop) (t : WL) : WE := fun G P PX => match G[i]? with
  | some (some c) => (match itm c with
    | some xs => ri G fun kd => (match kd with
      | .int n => (match ixN xs.length n with
        | some k => (match xs[k]? with
          | some (.lst true ys) => t G (fun as G' => G'[i]? = some none ∧ f ys as fun ys' d => P d (G'.set i (some (rebuild c (xs.set k (.lst true ys')))))) (fun _ _ => False)
          | _ => False)
        | none => False)
      | _ => False)
    | none => False)
  | _ => False
theorem methP_core (i : Nat) {ri : WR} {r : V → List V → Hp → VK → Prop} {f : List D → List D → (List D → D → Prop) → Prop} {t : WL} {ti : TE} {ta : TA} (ok : MutOk K r f)
    (i2 : ∀ (G : T.Env) (σ : L2.St) (H : Hp) (S : Addr → Prop) (P : D → Prop) (Q : VK), VwG K H S G σ → ri G P → (∀ d v H', P d → Same H H' → Vw K H' (gr S H) d v → Q v H') → ti σ H Q)
    (a2 : ∀ (U0 : Addr → Prop) (G : T.Env) (σ : L2.St) (H : Hp) (Oo os oi : List Addr) (d : D) (v : V) (P : List D → T.Env → Prop) (Q : List V → Hp → Prop),
      G[i]? = some (some d) → σ[i]? = some (some v) → Rp K H (ug U0 ((Oo ++ oi) ++ os)) d v oi → Rep K U0 (G.set i none) σ H (Oo ++ oi) os → t G P (fun _ _ => False) →
      (∀ ds G' vs H' o2 os1, P ds G' → Stp H H' os (o2 ++ os1) → Rep K U0 G' σ H' ((Oo ++ oi) ++ o2) os1 → RpL K H' (ug U0 (((Oo ++ oi) ++ o2) ++ os1)) ds vs o2 → Q vs H') → ta σ H Q)
    (U0 : Addr → Prop) (G : T.Env) (σ : L2.St) (H : Hp) (Oo os : List Addr) (P : D → T.Env → Prop) (PX : Nat → T.Env → Prop) (Q : VK) (rep : Rep K U0 G σ H Oo os) (w : eMethP i ri f t G P PX) (okq : OkE K U0 Oo σ H os P Q) :
    tOp (rIx K) (tVar i) ti σ H fun x H1 => tyV K "list" x H1 ∧ ta σ H1 fun xs H2 => r x xs H2 Q := by
  unfold eMethP at w
  split at w
  case h_2 => exact w.elim
  rename_i c hG
  split at w
  case h_2 => exact w.elim
  rename_i xs hxs
  obtain ⟨v, oi, orest, hv, rg, rc, pm⟩ := rep.take hG
  refine ⟨v, hv, ?_⟩
  refine i2 G σ H _ _ _ rep.vw w fun kd kv H1 p s hk => ?_
  split at p
  case h_2 => exact p.elim
  rename_i n
  cases vw_int hk
  split at p
  case h_2 => exact p.elim
  rename_i k hk2
  split at p
  case h_2 => exact p.elim
  rename_i ys hys
  have rg1 := rg.same s
  have rc1 : Rp K H1 (ug U0 ((Oo ++ oi) ++ orest)) c v oi := rc.mono (os0 := oi) (fun a o e _ => s a o e) (fun a u _ => u) fun a m => m
  obtain ⟨q0, vs, ox, pre, post, hix, hq0, hx, eo, back⟩ := rp_foc rc1 hxs hk2 hys
  refine hix _ H1 (fun a o e => e) ⟨.inl ⟨rfl, vs, .inl (.inl hq0)⟩, ?_⟩
  refine a2 U0 G σ H1 Oo orest oi c v _ _ hG hv rc1 rg1 p fun as G' us H2 o2 os1 p2 s2 r2 x2 => ?_
  obtain ⟨hn, p2⟩ := p2
  -- addresses
  have nd0 := r2.own.1
  have row : ((Oo ++ oi) ++ o2) ++ os1 = Oo ++ ((oi ++ o2) ++ os1) := by simp [List.append_assoc]
  rw [row] at nd0
  obtain ⟨n1, n2, n3, n4, n5, n6⟩ := nodup3 nd0
  have ndi := List.nodup_append.mp n2
  have hoi : ∀ a, a ∈ oi ↔ a ∈ pre ∨ a = q0 ∨ a ∈ ox ∨ a ∈ post := fun a => by rw [eo]; simp
  have q0i : q0 ∈ oi := (hoi q0).mpr (.inr (.inl rfl))
  have oxi : ∀ a ∈ ox, a ∈ oi := fun a m => (hoi a).mpr (.inr (.inr (.inl m)))
  have ndo : (pre ++ ((q0 :: ox) ++ post)).Nodup := eo ▸ ndi.1
  obtain ⟨m1, m2, m3⟩ := List.nodup_append.mp ndo
  obtain ⟨m4, m5, m6⟩ := List.nodup_append.mp m2
  obtain ⟨m7, m8⟩ := List.nodup_cons.mp m4
  -- kept from H1 to H2
  have kp : ∀ a o, H1 a = some o → a ∉ orest → H2 a = some o := s2.keep
  have ndr := rg1.own.1
  have oir : ∀ a, a ∈ oi → a ∉ orest := fun a m z => (List.nodup_append.mp ndr).2.2 a (List.mem_append_right _ m) a z rfl
  have hq2 : H2 q0 = some (.lst vs) := kp _ _ hq0 (oir q0 q0i)
  have gsub : ∀ a, ug U0 ((Oo ++ oi) ++ orest) a → (∃ o, H1 a = some o) → ug U0 (((Oo ++ oi) ++ o2) ++ os1) a := fun a u ⟨o, e⟩ => ⟨u.1, fun m => by
    have z : a ∈ (Oo ++ oi) ∨ a ∈ o2 ++ os1 := by
      rw [List.append_assoc] at m
      exact List.mem_append.mp m
    rcases z with z | z
    · exact u.2 (List.mem_append_left _ z)
    · rcases s2.new a z with y | y
      · exact u.2 (List.mem_append_right _ y)
      · rw [e] at y; cases y⟩
  have keep12 : ∀ a o, H1 a = some o → (ug U0 ((Oo ++ oi) ++ orest) a ∨ a ∈ oi ∨ ¬ Mut (some o)) → H2 a = some o := fun a o e h => by
    refine kp a o e fun m => ?_
    rcases h with h | h | h
    · exact h.2 (List.mem_append_right _ m)
    · exact oir a h m
    · obtain ⟨o', q', mu⟩ := rg1.own.2 a (List.mem_append_right _ m)
      rw [e] at q'; cases q'
      exact h mu
  have hx2 : RpL K H2 (ug U0 (((Oo ++ oi) ++ o2) ++ os1)) ys vs ox := hx.mono (os0 := ox) (fun a o e h => keep12 a o e (h.imp id fun z => z.imp (oxi a) id)) gsub fun a m => m
  have ndx : (ox ++ o2).Nodup := List.nodup_append.mpr ⟨m8, ndi.2.1, fun a m b m' e => ndi.2.2 a (oxi a m) b m' e⟩
  refine ok H2 _ ys as vs us ox o2 q0 _ Q hq2 hx2 x2 ndx p2 fun ys' d vs' z ox' o3 hF hx' hd nd' sub => ?_
  -- the write
  have memx : ∀ a ∈ ox' ++ o3, a ∈ oi ++ o2 := fun a m => by
    rcases List.mem_append.mp (sub a m) with y | y
    · exact List.mem_append_left _ (oxi a y)
    · exact List.mem_append_right _ y
  have nq : q0 ∉ ox' ++ o3 := fun m => by
    rcases List.mem_append.mp (sub q0 m) with y | y
    · exact m7 y
    · exact ndi.2.2 q0 q0i q0 y rfl
  have npre : ∀ a, a ∈ pre ++ post → a ≠ q0 ∧ a ∉ ox' ++ o3 ∧ a ∈ oi := fun a m => by
    have hin : a ∈ oi := (hoi a).mpr ((List.mem_append.mp m).elim .inl fun z => .inr (.inr (.inr z)))
    refine ⟨?_, fun y => ?_, hin⟩
    · rintro rfl
      rcases List.mem_append.mp m with y | y
      · exact m3 a y a (List.mem_append_left _ List.mem_cons_self) rfl
      · exact m6 a List.mem_cons_self a y rfl
    · rcases List.mem_append.mp (sub a y) with w | w
      · rcases List.mem_append.mp m with y' | y'
        · exact m3 a y' a (List.mem_append_left _ (List.mem_cons_of_mem _ w)) rfl
        · exact m6 a (List.mem_cons_of_mem _ w) a y' rfl
      · exact ndi.2.2 a hin a w rfl
  have allm : ∀ a, a ∈ (Oo ++ o3) ++ ((pre ++ ((q0 :: ox') ++ post)) ++ os1) → a ∈ ((Oo ++ oi) ++ o2) ++ os1 := fun a m => by
    simp only [List.mem_append, List.mem_cons] at m
    have g : a ∈ Oo ∨ a ∈ oi ++ o2 ∨ a ∈ os1 := by
      rcases m with (m | m) | ((m | ((m | m) | m)) | m)
      · exact .inl m
      · exact .inr (.inl (memx a (List.mem_append_right _ m)))
      · exact .inr (.inl (List.mem_append_left _ (npre a (List.mem_append_left _ m)).2.2))
      · rw [m]; exact .inr (.inl (List.mem_append_left _ q0i))
      · exact .inr (.inl (memx a (List.mem_append_left _ m)))
      · exact .inr (.inl (List.mem_append_left _ (npre a (List.mem_append_right _ m)).2.2))
      · exact .inr (.inr m)
    rw [row]
    rcases g with g | g | g
    · exact List.mem_append_left _ g
    · exact List.mem_append_right _ (List.mem_append_left _ g)
    · exact List.mem_append_right _ (List.mem_append_right _ g)
  have gu : ∀ a, ug U0 (((Oo ++ oi) ++ o2) ++ os1) a → ug U0 ((Oo ++ o3) ++ ((pre ++ ((q0 :: ox') ++ post)) ++ os1)) a := ug_sub allm
  have hkeep : ∀ a o, H2 a = some o → a ≠ q0 → (upd H2 q0 (.lst vs')) a = some o := fun a o e ne => by rw [upd_ne ne]; exact e
  have q0no : q0 ∉ os1 := n6 q0 (List.mem_append_left _ q0i)
  have neU : ∀ a, ug U0 (((Oo ++ oi) ++ o2) ++ os1) a → a ≠ q0 := fun a u e => u.2 (by rw [e, row]; exact List.mem_append_right _ (List.mem_append_left _ (List.mem_append_left _ q0i)))
  have neM : ∀ a o, H2 a = some o → ¬ Mut (some o) → a ≠ q0 := fun a o e h z => by
    rw [z, hq2] at e
    cases e
    exact h trivial
  have rest1 : RpG K (upd H2 q0 (.lst vs')) (ug U0 ((Oo ++ o3) ++ ((pre ++ ((q0 :: ox') ++ post)) ++ os1))) G' σ os1 := r2.g.mono (os0 := os1) (fun a o e h => hkeep a o e (by
    rcases h with h | h | h
    · exact neU a h
    · intro z; rw [z] at h; exact q0no h
    · exact neM a o e h)) (fun a u _ => gu a u) fun a m => m
  have xnew : RpL K (upd H2 q0 (.lst vs')) (ug U0 ((Oo ++ o3) ++ ((pre ++ ((q0 :: ox') ++ post)) ++ os1))) ys' vs' ox' := hx'.mono (os0 := ox') (fun a o e h => hkeep a o e (by
    rcases h with h | h | h
    · exact neU a h
    · intro z; rw [z] at h; exact nq (List.mem_append_left _ h)
    · exact neM a o e h)) (fun a u _ => gu a u) fun a m => m
  have new1 := back (upd H2 q0 (.lst vs')) (ug U0 ((Oo ++ o3) ++ ((pre ++ ((q0 :: ox') ++ post)) ++ os1))) ys' vs' ox' upd_same xnew (fun a o e h => by
    have e2 : H2 a = some o := keep12 a o e (h.imp id fun z => z.imp (fun m => (npre a m).2.2) id)
    refine hkeep a o e2 ?_
    rcases h with h | h | h
    · intro z; rw [z] at h; exact h.2 (List.mem_append_left _ (List.mem_append_right _ q0i))
    · exact (npre a h).1
    · exact neM a o e2 h) fun a u ex => gu a (gsub a u ex)
  obtain ⟨os', g2, pm2⟩ := rest1.put (v := v) hn new1
  have es : σ.set i (some v) = σ := by
    apply List.ext_getElem?
    intro k
    by_cases hki : i = k
    · subst hki
      obtain ⟨hlt, _⟩ := List.getElem?_eq_some_iff.mp hv
      rw [List.getElem?_set_self hlt, hv]
    · rw [List.getElem?_set_ne hki]
  rw [es] at g2
  have hs5 : ∀ a ∈ (Oo ++ o3) ++ os', a ∈ (Oo ++ o3) ++ ((pre ++ ((q0 :: ox') ++ post)) ++ os1) := fun a m => (List.mem_append.mp m).elim (List.mem_append_left _) fun z => List.mem_append_right _ (pm2.mem_iff.mp z)
  have ndn : ((Oo ++ o3) ++ ((pre ++ ((q0 :: ox') ++ post)) ++ os1)).Nodup := by
    have e5 : (Oo ++ o3) ++ ((pre ++ ((q0 :: ox') ++ post)) ++ os1) = Oo ++ ((o3 ++ (pre ++ ((q0 :: ox') ++ post))) ++ os1) := by simp [List.append_assoc]
    rw [e5]
    have q1 : ((q0 :: (ox' ++ o3)) ++ (pre ++ post)).Nodup := by
      refine List.nodup_append.mpr ⟨List.nodup_cons.mpr ⟨nq, nd'⟩, ?_, fun a m b m' e => ?_⟩
      · refine List.nodup_append.mpr ⟨m1, m5, fun a m b m' e => m3 a m b (List.mem_append_right _ m') e⟩
      · subst e
        obtain ⟨y1, y2, _⟩ := npre a m'
        rcases List.mem_cons.mp m with z | z
        · exact y1 z
        · exact y2 z
    have pmm : ((q0 :: (ox' ++ o3)) ++ (pre ++ post)).Perm (o3 ++ (pre ++ ((q0 :: ox') ++ post))) := by
      refine List.perm_iff_count.mpr fun a => ?_
      simp only [List.count_append, List.count_cons]
      omega
    have q1' := pmm.nodup_iff.mp q1
    have q2 : ∀ a ∈ o3 ++ (pre ++ ((q0 :: ox') ++ post)), a ∈ oi ++ o2 := fun a m => by
      rcases List.mem_append.mp (pmm.mem_iff.mpr m) with z | z
      · rcases List.mem_cons.mp z with y | y
        · rw [y]; exact List.mem_append_left _ q0i
        · exact memx a y
      · exact List.mem_append_left _ (npre a z).2.2
    refine List.nodup_append.mpr ⟨n1, List.nodup_append.mpr ⟨q1', n3, fun a m b m' q => ?_⟩, fun a m b m' q => ?_⟩
    · subst q
      exact n6 a (q2 a m) m'
    · subst q
      rcases List.mem_append.mp m' with z | z
      · exact n4 a m (q2 a z)
      · exact n5 a m z
  have own2 : ∀ a ∈ (Oo ++ o3) ++ os', ∃ o, (upd H2 q0 (.lst vs')) a = some o ∧ Mut (some o) := fun a m => by
    by_cases ha : a = q0
    · subst ha
      exact ⟨_, upd_same, trivial⟩
    · obtain ⟨o, q, mu⟩ := r2.own.2 a (allm a (hs5 a m))
      exact ⟨o, by rw [upd_ne ha]; exact q, mu⟩
  have stA : Stp H1 (upd H2 q0 (.lst vs')) (oi ++ orest) (o3 ++ os') := by
    refine ⟨fun a o e n => ?_, fun a m => ?_, fun a o e => ?_⟩
    · have ne : a ≠ q0 := fun z => n (by rw [z]; exact List.mem_append_left _ q0i)
      rw [upd_ne ne]
      exact kp a o e fun m => n (List.mem_append_right _ m)
    · have y := hs5 a (by rw [List.append_assoc]; exact List.mem_append_right _ m)
      have z : a ∈ oi ∨ a ∈ o2 ++ os1 := by
        rcases List.mem_append.mp m with m | m
        · rcases List.mem_append.mp (memx a (List.mem_append_right _ m)) with z | z
          · exact .inl z
          · exact .inr (List.mem_append_left _ z)
        · rcases List.mem_append.mp (pm2.mem_iff.mp m) with z | z
          · simp only [List.mem_append, List.mem_cons] at z
            rcases z with z | ((z | z) | z)
            · exact .inl (npre a (List.mem_append_left _ z)).2.2
            · rw [z]; exact .inl q0i
            · rcases List.mem_append.mp (memx a (List.mem_append_left _ z)) with w | w
              · exact .inl w
              · exact .inr (List.mem_append_left _ w)
            · exact .inl (npre a (List.mem_append_right _ z)).2.2
          · exact .inr (List.mem_append_right _ z)
      rcases z with z | z
      · exact .inl (List.mem_append_left _ z)
      · exact (s2.new a z).imp (fun w => List.mem_append_right _ w) id
    · obtain ⟨o', q⟩ := s2.dom a o e
      by_cases ha : a = q0
      · subst ha
        exact ⟨_, upd_same⟩
      · exact ⟨o', by rw [upd_ne ha]; exact q⟩
  have stB : Stp H (upd H2 q0 (.lst vs')) os (o3 ++ os') := by
    refine (Stp.of_same s os).trans ?_
    refine ⟨fun a o e n => stA.keep a o e fun m => n (pm.mem_iff.mpr m), fun a m => (stA.new a m).imp (fun z => pm.mem_iff.mpr z) id, stA.dom⟩
  refine okq d _ z _ o3 os' hF stB ⟨g2.mono (os0 := os') (fun a o q _ => q) (fun a u _ => ug_sub hs5 a u) fun a m => m, ⟨?_, own2⟩, fun a m => r2.u0 a (allm a (hs5 a m)), fun a h => ?_⟩ ?_
  · exact (List.Perm.append_left (Oo ++ o3) pm2).nodup_iff.mpr ndn
  · refine r2.un a ?_
    by_cases ha : a = q0
    · subst ha
      rw [upd_same] at h
      cases h
    · rw [upd_ne ha] at h
      exact h
  · refine hd.mono (os0 := o3) (fun a o e h => hkeep a o e (by
      rcases h with h | h | h
      · exact neU a h
      · intro z; rw [z] at h; exact nq (List.mem_append_right _ h)
      · exact neM a o e h)) (fun a u _ => ug_sub hs5 a (gu a u)) fun a m => m
theorem e_methP (i : Nat) {e' : Expr} {es : List Expr} {ie : Expr} {ri : WR} {r : V → List V → Hp → VK → Prop} {f : List D → List D → (List D → D → Prop) → Prop} {t : WL} (ok : MutOk K r f) (hi : SndR X K ie ri) (h : SndLp X K W i es t)
    (mk : ∀ ti ta, (∀ j, PE (X j) ie ti) → (∀ j, PA (X j) es ta) → ∀ j, PE (X j) e' (fun σ H Q => tOp (rIx K) (tVar i) ti σ H fun x H1 => tyV K "list" x H1 ∧ ta σ H1 fun xs H2 => r x xs H2 Q)) : SndE X K W e' (eMethP i ri f t) := by
  obtain ⟨ti, i1, i2⟩ := hi
  obtain ⟨ta, a1, a2⟩ := h
  exact ⟨_, mk ti ta i1 a1, fun U0 G σ H Oo os P PX Q rep w okq okx => methP_core i ok i2 a2 U0 G σ H Oo os P PX Q rep w okq⟩
theorem e_methP0 (i : Nat) {e' ie : Expr} {ri : WR} {r : V → List V → Hp → VK → Prop} {f : List D → List D → (List D → D → Prop) → Prop} (ok : MutOk K r f) (hi : SndR X K ie ri)
    (mk : ∀ ti, (∀ j, PE (X j) ie ti) → ∀ j, PE (X j) e' (fun σ H Q => tOp (rIx K) (tVar i) ti σ H fun x H1 => tyV K "list" x H1 ∧ r x [] H1 Q)) : SndE X K W e' (eMethP i ri f (lPinR i aNil)) := by
  obtain ⟨ti, i1, i2⟩ := hi
  refine ⟨_, mk ti i1, fun U0 G σ H Oo os P PX Q rep w okq okx => ?_⟩
  refine methP_core (ta := tNil) i ok i2 (fun U0 G σ H Oo os oi d v P Q hg hv r rep w q => ?_) U0 G σ H Oo os P PX Q rep w okq
  exact q [] _ [] H [] os w.2 (Stp.refl _ _) (by rw [List.append_nil]; exact rep) .nil
end
end T
namespace T
@[simp] abbrev lPinX (i : Nat) (A : FSp) (js : List (Option Nat)) (t : WA) : WL := fun G P PX => (∀ k : Nat, some k ∈ js → ∃ d, G[k]? = some (some d)) ∧ lPinC i A js t G P PX
end T
namespace T
open PySem PySem.Spec PyProof.Rows L2
section
variable {ι : Type} {X : ι → Cx} {K : PySem.W.Frag} {W : WX} {pn : List Nat}
theorem VwG.setN {H : Hp} {S : Addr → Prop} {G : T.Env} {σ : L2.St} {i : Nat} {x : Option V} (g : VwG K H S G σ) (h : G[i]? = some none) : VwG K H S G (σ.set i x) := by
  refine ⟨by rw [List.length_set]; exact g.len, fun k d e => ?_⟩
  have ne : i ≠ k := by
    rintro rfl
    rw [h] at e
    cases e
  rw [List.getElem?_set_ne ne]
  exact g.at' k d e
/-! ### a number drawn from a deck of pools -/
/-- the deck's own rule: the pool in turn is taken from the deck, the turn goes on, the rest works at the pool -/
def wDraw (ri ra : WR) (wr : WS) : WS := fun E G => ∃ (ps : List D) (c m : Int), G = [some (.lst true [.lst true ps, .int c]), some (.int m), none, none, none] ∧
  ri G fun kd => match kd with
    | .int n => (match ixN ps.length n with
      | some k => (match ps[k]? with
        | some (.lst true ys) => ra G fun cd => (match cd with
          | .int c' => wr ⟨fun _ => False, fun d G' => ∃ r g0 g1 ys' g3 g4, d = .int r ∧ G' = [g0, g1, some (.lst true ys'), g3, g4] ∧ E.rt (.int r) [some (.lst true [.lst true (ps.set k (.lst true ys')), .int c']), none, none, none, none], fun _ => False, fun _ => False, fun _ _ => False⟩ [none, some (.int m), some (.lst true ys), none, none]
          | _ => False)
        | _ => False)
      | none => False)
    | _ => False
theorem s_draw {st1 st2 : Stmt} {rest : List Stmt} {ri ra : WR} {wr : WS} {ie ae : Expr} (hi : SndR X K ie ri) (ha : SndR X K ae ra) (hr : SndSs X K W [0, 2] rest wr)
    (mk1 : ∀ ti, (∀ j, PE (X j) ie ti) → ∀ j, PS (X j) st1 (tAsg (tOp (rIx K) (tOp (rIx K) (tVar 0) (tC (.int 0))) ti) (gName 2)))
    (mk2 : ∀ ta, (∀ j, PE (X j) ae ta) → ∀ j, PS (X j) st2 (tAsg ta (gSub (tVar 0) (tC (.int 1)) rSetL))) : SndSs X K W [0] (st1 :: st2 :: rest) (wDraw ri ra wr) := by
  obtain ⟨ti, i1, i2⟩ := hi
  obtain ⟨ta, a1, a2⟩ := ha
  obtain ⟨tr, r1, r2⟩ := hr
  refine ⟨_, fun j => pss_cons (mk1 ti i1 j) (pss_cons (mk2 ta a1 j) (r1 j)), fun U0 G σ H Oo os E De rep w ok => ?_⟩
  obtain ⟨ps, c, m, rfl, w⟩ := w
  have vg := rep.vw
  obtain ⟨g, own, u0, un⟩ := rep
  cases g with
  | cons hd g1 =>
  cases g1 with
  | cons h1 g2 =>
  cases g2 with
  | skip x2 g3 =>
  cases g3 with
  | skip x3 g4 =>
  cases g4 with
  | skip x4 g5 =>
  cases g5
  cases h1
  cases hd with
  | @lstO d _ _ _ hd1 hl =>
  cases hl with
  | cons hq hl2 =>
  cases hl2 with
  | cons hc hl3 =>
  cases hl3
  cases hc
  cases hq with
  | @lstO q ws _ op hq1 hps =>
  simp only [List.append_nil] at *
  refine ⟨.ref d, rfl, ?_⟩
  refine .inl ⟨d, _, 0, .ref q, rfl, rfl, .inl (.inl hd1), rfl, ?_⟩
  refine i2 _ _ H _ _ _ vg w fun kd kv H1 w s1 hk => ?_
  split at w
  case h_2 => exact w.elim
  rename_i n
  cases vw_int hk
  split at w
  case h_2 => exact w.elim
  rename_i k hk2
  split at w
  case h_2 => exact w.elim
  rename_i ys hys
  obtain ⟨p, vs, ox, pre, post, hws, hp, hx, eo, back⟩ := rpL_foc hps hys
  refine .inl ⟨q, ws, n, .ref p, rfl, rfl, .inl (.inl (s1 _ _ hq1)), ?_, ?_⟩
  · unfold atI
    rw [← hps.length, hk2]
    exact hws
  refine a2 _ _ H1 _ _ _ ((vg.same s1 fun _ z => z).setN (i := 2) rfl) w fun cd cv H2 w s2 hcv => ?_
  split at w
  case h_2 => exact w.elim
  rename_i c'
  cases vw_int hcv
  have s12 : Same H H2 := s1.trans s2
  refine ⟨.ref d, rfl, ⟨d, _, 1, 1, rfl, rfl, s12 _ _ hd1, rfl, ?_⟩⟩
  -- addresses
  have eos : d :: q :: op = d :: q :: (pre ++ ((p :: ox) ++ post)) := by rw [eo]
  have pmA : (Oo ++ d :: q :: op).Perm ((Oo ++ d :: q :: (pre ++ post)) ++ (p :: ox)) := by
    rw [eos]
    refine List.perm_iff_count.mpr fun a => ?_
    simp only [List.count_append, List.count_cons]
    omega
  have nd := pmA.nodup_iff.mp own.1
  obtain ⟨nA, nB, nC⟩ := List.nodup_append.mp nd
  have hdin : d ∈ Oo ++ d :: q :: (pre ++ post) := by simp
  have dp : d ∉ p :: ox := fun m => nC d hdin d m rfl
  have mp : ∀ a, a ∈ Oo ++ d :: q :: op ↔ a ∈ (Oo ++ d :: q :: (pre ++ post)) ++ (p :: ox) := fun a => pmA.mem_iff
  have eqU : ∀ a, ug U0 (Oo ++ d :: q :: op) a → ug U0 ((Oo ++ d :: q :: (pre ++ post)) ++ (p :: ox)) a := fun a u => ⟨u.1, fun z => u.2 ((mp a).mpr z)⟩
  have ho : ∀ a o, H a = some o → a ≠ d → (upd H2 d (.lst [.ref q, .int c'])) a = some o := fun a o e ne => by
    rw [upd_ne ne]
    exact s12 a o e
  have hop : ∀ a ∈ p :: ox, a ≠ d := fun a m e => dp (e ▸ m)
  have pin : ∀ a ∈ p :: ox, a ∈ Oo ++ d :: q :: op := fun a m => (mp a).mpr (List.mem_append_right _ m)
  have hx3 : RpL K (upd H2 d (.lst [.ref q, .int c'])) (ug U0 ((Oo ++ d :: q :: (pre ++ post)) ++ (p :: ox))) ys vs ox := hx.mono (os0 := ox) (fun a o e h => ho a o e (by
    rcases h with h | h | h
    · intro z; rw [z] at h; exact h.2 (by simp)
    · exact hop a (List.mem_cons_of_mem _ h)
    · intro z; rw [z, hd1] at e; cases e; exact h trivial)) (fun a u _ => eqU a u) fun a m => m
  have own3 : Own (upd H2 d (.lst [.ref q, .int c'])) ((Oo ++ d :: q :: (pre ++ post)) ++ (p :: ox)) := ⟨nd, fun a m => by
    by_cases ha : a = d
    · subst ha
      exact ⟨_, upd_same, trivial⟩
    · obtain ⟨o, e, mu⟩ := own.2 a ((mp a).mpr m)
      exact ⟨o, ho a o e ha, mu⟩⟩
  have repV : Rep K U0 [none, some (.int m), some (.lst true ys), none, none] [some (.ref d), some (.int m), some (.ref p), x3, x4] (upd H2 d (.lst [.ref q, .int c'])) (Oo ++ d :: q :: (pre ++ post)) (p :: ox) := by
    refine ⟨?_, own3, fun a z => u0 a ((mp a).mpr z), fun a z => ?_⟩
    · have z := RpG.skip (K := K) (H := upd H2 d (.lst [.ref q, .int c'])) (U := ug U0 ((Oo ++ d :: q :: (pre ++ post)) ++ (p :: ox))) (some (.ref d)) (.cons (.int m) (.cons (.lstO (ho _ _ hp (hop p List.mem_cons_self)) hx3) (.skip x3 (.skip x4 .nil))))
      simpa using z
    · by_cases ha : a = d
      · subst ha
        rw [upd_same] at z
        cases z
      · rw [upd_ne ha] at z
        exact un a (s12.free z)
  show tr De [some (.ref d), some (.int m), some (.ref p), x3, x4] (upd H2 d (.lst [.ref q, .int c']))
  refine r2 U0 _ _ _ (Oo ++ d :: q :: (pre ++ post)) (p :: ox) _ De repV w ⟨fun _ _ _ _ z => z.elim, fun dd G' v σ' H' o2 os1 pE s r x pnn => ?_, fun _ _ _ _ z => z.elim, fun _ _ _ _ z => z.elim, fun _ _ _ _ _ z => z.elim⟩
  obtain ⟨rr, g0, g1, ys', g3, g4, rfl, rfl, pE⟩ := pE
  obtain ⟨rfl, rfl⟩ := rp_int x
  rw [List.append_nil] at r
  obtain ⟨v2, oo1, orest, hv2, rrest, rp2, pm2⟩ := r.take (i := 2) (d := .lst true ys') rfl
  have e2 := pnn 2 (by simp)
  have e0 := pnn 0 (by simp)
  rw [hv2] at e2
  cases e2
  cases rp2 with
  | @lstO _ vs' _ ox' hp' hx' =>
  -- the slots
  have lσ := r.g.length
  have hσ : ∃ y1 y2 y3 y4, σ' = [some (.ref d), y1, y2, y3, y4] := by
    match σ', lσ, e0 with
    | [y0, y1, y2, y3, y4], _, e0 =>
      have : y0 = some (.ref d) := by simpa using e0
      subst this
      exact ⟨_, _, _, _, rfl⟩
  obtain ⟨y1, y2, y3, y4, rfl⟩ := hσ
  have memf : ∀ a, a ∈ Oo ++ d :: q :: (pre ++ ((p :: ox') ++ post)) → a ∈ ((Oo ++ d :: q :: (pre ++ post)) ++ (p :: ox')) := fun a z => by
    simp only [List.mem_append, List.mem_cons] at z ⊢
    rcases z with z | z | z | z | (z | z) | z <;> simp [z]
  have pmf : (Oo ++ d :: q :: (pre ++ ((p :: ox') ++ post))).Perm ((Oo ++ d :: q :: (pre ++ post)) ++ (p :: ox')) := by
    refine List.perm_iff_count.mpr fun a => ?_
    simp only [List.count_append, List.count_cons]
    omega
  have sub1 : ∀ a, a ∈ (Oo ++ d :: q :: (pre ++ post)) ++ (p :: ox') → a ∈ (Oo ++ d :: q :: (pre ++ post)) ++ os1 := fun a z => (List.mem_append.mp z).elim (List.mem_append_left _) fun y => List.mem_append_right _ (pm2.mem_iff.mpr (List.mem_append_left _ y))
  have ndF : ((Oo ++ d :: q :: (pre ++ post)) ++ (p :: ox')).Nodup := by
    have z := (List.Perm.append_left (Oo ++ d :: q :: (pre ++ post)) pm2).nodup_iff.mp r.own.1
    rw [← List.append_assoc] at z
    exact (List.nodup_append.mp z).1
  have ownF : Own H' (Oo ++ d :: q :: (pre ++ ((p :: ox') ++ post))) := ⟨pmf.nodup_iff.mpr ndF, fun a z => r.own.2 a (sub1 a (memf a z))⟩
  have kp : ∀ a o, H a = some o → a ≠ d → a ∉ p :: ox → H' a = some o := fun a o e n1 n2 => s.keep a o (ho a o e n1) n2
  have hd' : H' d = some (.lst [.ref q, .int c']) := s.keep d _ upd_same dp
  have nq : q ∉ p :: ox := fun m => nC q (by simp) q m rfl
  have ndO := (List.nodup_append.mp own.1).2.1
  have dq : q ≠ d := fun e => by
    rw [e] at ndO
    simp at ndO
  have hq' : H' q = some (.lst ws) := kp _ _ hq1 dq nq
  have uF : ∀ a, ug U0 (Oo ++ d :: q :: op) a → (∃ o, H a = some o) → ug U0 (Oo ++ d :: q :: (pre ++ ((p :: ox') ++ post))) a := fun a u ⟨o, e⟩ => ⟨u.1, fun z => by
    rcases List.mem_append.mp (memf a z) with y | y
    · exact u.2 ((mp a).mpr (List.mem_append_left _ y))
    · have z3 := s.new a (by simpa using pm2.mem_iff.mpr (List.mem_append_left _ y))
      rcases z3 with z3 | z3
      · exact u.2 (pin a z3)
      · have ne : a ≠ d := fun ee => by rw [ee, upd_same] at z3; cases z3
        rw [ho a o e ne] at z3
        cases z3⟩
  have hx'' : RpL K H' (ug U0 (Oo ++ d :: q :: (pre ++ ((p :: ox') ++ post)))) ys' vs' ox' := hx'.mono (os0 := ox') (fun a o e _ => e) (fun a u _ => ⟨u.1, fun z => u.2 (List.mem_append_left _ (memf a z))⟩) fun a m => m
  have newps := back H' (ug U0 (Oo ++ d :: q :: (pre ++ ((p :: ox') ++ post)))) ys' vs' ox' hp' hx'' (fun a o e h => by
    have h1 : a ≠ d ∧ a ∉ p :: ox := by
      rcases h with h | h | h
      · exact ⟨fun z => h.2 (by rw [z]; simp), fun z => h.2 (pin a z)⟩
      · refine ⟨fun z => ?_, fun z => nC a (by simp only [List.mem_append, List.mem_cons] at h ⊢; rcases h with h | h <;> simp [h]) a z rfl⟩
        subst z
        have z4 := (List.nodup_append.mp nA).2.1
        exact (List.nodup_cons.mp z4).1 (List.mem_cons_of_mem _ h)
      · refine ⟨fun z => by rw [z, hd1] at e; cases e; exact h trivial, fun z => ?_⟩
        obtain ⟨o', q', mu⟩ := own.2 a (pin a z)
        rw [e] at q'; cases q'
        exact h mu
    exact kp a o e h1.1 h1.2) uF
  refine ok.rt (.int rr) _ _ [some (.ref d), y1, y2, y3, y4] H' [] (d :: q :: (pre ++ ((p :: ox') ++ post))) pE ⟨fun a o e n => ?_, fun a m => ?_, fun a o e => ?_⟩ ⟨?_, by rw [List.append_nil]; exact ownF, fun a m => ?_, r.un⟩ (.int rr) (fun i m => ?_)
  · exact kp a o e (fun z => n (by rw [z]; simp)) fun z => n (by
      rw [eos]
      simp only [List.mem_append, List.mem_cons] at z ⊢
      rcases z with z | z <;> simp [z])
  · have m' : a ∈ d :: q :: (pre ++ ((p :: ox') ++ post)) := m
    rw [eos]
    simp only [List.mem_append, List.mem_cons] at m'
    have : a ∈ p :: ox' ∨ a ∈ d :: q :: (pre ++ ((p :: ox) ++ post)) := by
      rcases m' with z | z | z | (z | z) | z <;> simp [z]
    rcases this with z | z
    · rcases s.new a (by simpa using pm2.mem_iff.mpr (List.mem_append_left _ z)) with y | y
      · left
        simp only [List.mem_append, List.mem_cons] at y ⊢
        rcases y with y | y <;> simp [y]
      · right
        by_cases ha : a = d
        · subst ha; rw [upd_same] at y; cases y
        · rw [upd_ne ha] at y
          exact s12.free y
    · exact .inl z
  · by_cases ha : a = d
    · subst ha; exact ⟨_, hd'⟩
    · exact s.dom a o (ho a o e ha)
  · rw [List.append_nil]
    have z := RpG.cons (K := K) (H := H') (U := ug U0 (Oo ++ d :: q :: (pre ++ ((p :: ox') ++ post)))) (Rp.lstO hd' (.cons (.lstO hq' newps) (.cons (.int c') .nil))) (.skip y1 (.skip y2 (.skip y3 (.skip y4 .nil))))
    simpa using z
  · rw [List.append_nil] at m
    exact r.u0 a (sub1 a (memf a m))
  · have : i = 0 := by simpa using m
    subst this
    rfl
end
end T
namespace T
open PySem PySem.Spec PyProof.Rows L2
theorem frzL_len (xs : List D) : (frzL xs).length = xs.length := by rw [frzL_map, List.length_map]
/-! ### equality of data -/
def deqL (xs ys : List D) : Bool := PyData.eqvAll (pyL xs) (pyL ys)
@[simp] theorem deq_int (i j : Int) : deq (.int i) (.int j) = decide (i = j) := rfl
@[simp] theorem deq_str (i j : Str) : deq (.str i) (.str j) = decide (i = j) := rfl
@[simp] theorem deq_non : deq .non .non = true := rfl
@[simp] theorem deq_non_int (i : Int) : deq .non (.int i) = false := rfl
@[simp] theorem deq_int_non (i : Int) : deq (.int i) .non = false := rfl
@[simp] theorem deq_tup (xs ys : List D) : deq (.tup xs) (.tup ys) = deqL xs ys := rfl
@[simp] theorem deq_lst (o p : Bool) (xs ys : List D) : deq (.lst o xs) (.lst p ys) = deqL xs ys := rfl
@[simp] theorem deqL_nil : deqL [] [] = true := rfl
@[simp] theorem deqL_cons (x y : D) (xs ys : List D) : deqL (x :: xs) (y :: ys) = (deq x y && deqL xs ys) := rfl
@[simp] theorem deqL_nil_cons (y : D) (ys : List D) : deqL [] (y :: ys) = false := rfl
@[simp] theorem deqL_cons_nil (y : D) (ys : List D) : deqL (y :: ys) [] = false := rfl
/-- data without bools, dicts, objects, all of it seen from outside -/
def nb : D → Bool
  | .non => true
  | .int _ => true
  | .str _ => true
  | .tup xs => nbL xs
  | .lst o xs => !o && nbL xs
  | _ => false
where nbL : List D → Bool
  | [] => true
  | x :: xs => nb x && nbL xs
mutual
theorem deq_iff : ∀ x y : D, nb x = true → nb y = true → (deq x y = true ↔ x = y)
  | .non, y, _, hy => by cases y <;> simp_all [nb, deq, py, PyData.eqv]
  | .int i, y, _, hy => by cases y <;> simp_all [nb, deq, py, PyData.eqv]
  | .str i, y, _, hy => by cases y <;> simp_all [nb, deq, py, PyData.eqv]
  | .tup xs, y, hx, hy => by
    cases y with
    | tup ys =>
      rw [deq_tup, deqL_iff xs ys (by simpa [nb] using hx) (by simpa [nb] using hy)]
      simp
    | _ => simp_all [nb, deq, py, PyData.eqv]
  | .lst o xs, y, hx, hy => by
    cases y with
    | lst p ys =>
      simp only [nb, Bool.and_eq_true, Bool.not_eq_true'] at hx hy
      rw [deq_lst, deqL_iff xs ys hx.2 hy.2, hx.1, hy.1]
      simp
    | _ => simp_all [nb, deq, py, PyData.eqv]
  | .bl _, _, hx, _ | .scr _, _, hx, _ | .dic _ _ _, _, hx, _ | .obj _ _ _ _, _, hx, _ => by simp [nb] at hx
theorem deqL_iff : ∀ xs ys : List D, nb.nbL xs = true → nb.nbL ys = true → (deqL xs ys = true ↔ xs = ys)
  | [], [], _, _ => by simp
  | [], y :: ys, _, _ => by simp
  | x :: xs, [], _, _ => by simp
  | x :: xs, y :: ys, hx, hy => by
    simp only [nb.nbL, Bool.and_eq_true] at hx hy
    rw [deqL_cons, Bool.and_eq_true, deq_iff x y hx.1 hy.1, deqL_iff xs ys hx.2 hy.2]
    simp
end
theorem deq_self {x : D} (h : nb x = true) : deq x x = true := (deq_iff x x h h).mpr rfl
theorem deqL_self {x : List D} (h : nb.nbL x = true) : deqL x x = true := (deqL_iff x x h h).mpr rfl
theorem nbL_all : ∀ {xs : List D}, nb.nbL xs = true ↔ ∀ x ∈ xs, nb x = true
  | [] => by simp [nb.nbL]
  | x :: xs => by simp [nb.nbL, nbL_all (xs := xs)]
theorem mem_iff {x : D} {xs : List D} (h : nb x = true) (h' : nb.nbL xs = true) : mem x xs = true ↔ x ∈ xs := by
  unfold mem
  rw [pyL_map, List.any_map, List.any_eq_true]
  constructor
  · rintro ⟨z, hz, e⟩
    have := (deq_iff z x (nbL_all.mp h' z hz) h).mp e
    exact this ▸ hz
  · exact fun m => ⟨x, m, deq_self h⟩
/-! ### what may be compared -/
def okd (k : Nat) (d : D) : Prop := (py d).canLay0 = true ∧ (py d).depth ≤ k
theorem okd_shp {d : D} (h : okd 64 d) : shp d = true := by
  unfold shp SeqAt.shaped
  simp [h.1, h.2]
theorem okd_mono {k k' : Nat} {d : D} (h : okd k d) (hk : k ≤ k') : okd k' d := ⟨h.1, Nat.le_trans h.2 hk⟩
def flz (d : D) : Bool := match d with | .non | .bl _ | .int _ => true | .str x => PyData.strOk x | _ => false
theorem okd_flat0 {k : Nat} {d : D} (h : flz d = true) : okd (k + 1) d := by
  cases d <;> simp_all [flz, okd, py, PyData.canLay0, PyData.depth]
theorem okdL {k : Nat} : ∀ {xs : List D}, (∀ x ∈ xs, okd k x) → PyData.canLayAll0 (pyL xs) = true ∧ PyData.depthAll (pyL xs) ≤ k
  | [], _ => by simp [pyL, PyData.canLayAll0, PyData.depthAll]
  | x :: xs, h => by
    obtain ⟨h1, h2⟩ := okdL (xs := xs) fun y m => h y (List.mem_cons_of_mem _ m)
    obtain ⟨h3, h4⟩ := h x List.mem_cons_self
    simp only [pyL, PyData.canLayAll0, PyData.depthAll, h3, h1, Bool.and_self, true_and]
    omega
theorem okd_tup {k : Nat} {xs : List D} (h : ∀ x ∈ xs, okd k x) : okd (k + 1) (.tup xs) := by
  obtain ⟨h1, h2⟩ := okdL h
  refine ⟨by simpa [py, PyData.canLay0] using h1, ?_⟩
  simp only [py, PyData.depth]
  omega
theorem okd_lst {k : Nat} {o : Bool} {xs : List D} (h : ∀ x ∈ xs, okd k x) : okd (k + 1) (.lst o xs) := by
  obtain ⟨h1, h2⟩ := okdL h
  refine ⟨by simpa [py, PyData.canLay0] using h1, ?_⟩
  simp only [py, PyData.depth]
  omega
@[simp] theorem shp_int (i : Int) : shp (.int i) = true := rfl
@[simp] theorem shp_non : shp .non = true := rfl
@[simp] theorem shp_bl (b : Bool) : shp (.bl b) = true := rfl
@[simp] theorem shp_lnil (o : Bool) : shp (.lst o []) = true := rfl
/-! ### a comprehension, item by item -/
theorem compR_eq {g : WG} {c : WT} {r : WR} {G : T.Env} (f : D → Bool) (h : D → D) : ∀ (xs : List D) (P : List D → Prop), (∀ x ∈ xs, ∃ G1, (∀ k, g x G k = k G1) ∧ (∀ Q, c G1 Q = Q (f x)) ∧ (f x = true → ∀ A, r G1 A = A (h x))) →
    compR g c r G xs P = P ((xs.filter f).map h)
  | [], P, _ => by simp [compR]
  | x :: xs, P, hx => by
    have ih := fun P => compR_eq (g := g) (c := c) (r := r) (G := G) f h xs P fun y m => hx y (List.mem_cons_of_mem _ m)
    obtain ⟨G1, h1, h2, h3⟩ := hx x List.mem_cons_self
    simp only [compR]
    rw [h1, h2]
    by_cases e : f x = true
    · rw [if_pos e, h3 e, ih, List.filter_cons_of_pos e, List.map_cons]
    · rw [if_neg e, ih, List.filter_cons_of_neg e]
/-! ### a loop: what holds of what is done -/
theorem sLoop_inv {g : WG} {b : WS} {E : En} (I : List D → List D → T.Env → Prop) : ∀ (xs done : List D) (G : T.Env), I done xs G → (∀ done x rest G (K : T.Env → Prop), I done (x :: rest) G → (∀ G', I (done ++ [x]) rest G' → K G') → g x G fun G1 => b { E with nx := K, ct := K, bk := E.nx } G1) → (∀ done G, I done [] G → E.nx G) → sLoop g b E xs G
  | [], done, G, h, _, he => he done G h
  | x :: xs, done, G, h, hs, he => by
    simp only [sLoop]
    exact hs done x xs G _ h fun G' h' => sLoop_inv I xs (done ++ [x]) G' h' hs he
end T
namespace T
open PySem PySem.Spec PyProof.Rows L2
section
variable {ι : Type} {X : ι → Cx} {K : PySem.W.Frag} {W : WX} {pn : List Nat}
theorem vwl_rg {H : Hp} {S : Addr → Prop} (a : Int) : ∀ l : List Nat, VwL K H S (l.map fun (i : Nat) => .int (a + i)) (l.map fun (i : Nat) => V.int (a + (i : Nat)))
  | [] => .nil
  | i :: l => .cons (.int _) (vwl_rg a l)
/-- list(range(n)) -/
@[simp] def fLRg1 (r : WR) : WA := fun G P => r G fun d => match d with | .int n => (-100000 ≤ n ∧ n ≤ 100000) ∧ P (rangeD 0 n.toNat) | _ => False
theorem f_lrg1 {a : Expr} {r : WR} {p pos p2 pos2 : Pos} (hc : ∀ j, (X j).calm = true) (hg : ∀ j, Gl (X j) "list") (hm : ∀ j, (X j).mg "list" = none) (hg2 : ∀ j, Gl (X j) "range") (hm2 : ∀ j, (X j).mg "range" = none) (h : SndR X K a r)
    (na : ∀ j, starEach [a] (X j).env = (false, eval a (X j).env) :: starEach [] (X j).env := by intro _; rfl) (na2 : ∀ j, starEach [Expr.Call (.Name "range" p2) [a] [] pos2] (X j).env = (false, eval (.Call (.Name "range" p2) [a] [] pos2) (X j).env) :: starEach [] (X j).env := by intro _; rfl) :
    SndF X K (.Call (.Name "list" p) [.Call (.Name "range" p2) [a] [] pos2] [] pos) (fLRg1 r) := by
  obtain ⟨ta, a1, a2⟩ := h
  refine ⟨tLstRg (tRg1 ta), fun j => pe_listRg (hc j) (hg j) (hm j) (prg_1 (hg2 j) (hm2 j) (a1 j) (na j)) (na2 j), fun G σ H S P Q g w q => ?_⟩
  refine a2 G σ H S _ _ g w fun d v H1 p s hv => ?_
  split at p
  case h_2 => exact p.elim
  rename_i n
  cases vw_int hv
  obtain ⟨⟨b1, b2⟩, p⟩ := p
  refine ⟨n, rfl, ⟨by omega, by omega, by omega, by omega, by omega⟩, fun z hz => ?_⟩
  have e : rangeD 0 n.toNat = (List.range (n - 0).toNat).map fun (i : Nat) => .int (0 + i) := by
    rw [Int.sub_zero]
    rfl
  rw [e] at p
  exact q _ _ z H1 p s hz (vwl_rg 0 _)
end
end T
namespace T
open PySem PySem.Spec PyProof.Rows L2
/-! ### a method that only reads -/
def RMOk (K : PySem.W.Frag) (r : V → List V → Hp → VK → Prop) (f : D → List D → (D → Prop) → Prop) : Prop := ∀ (H : Hp) (S : Addr → Prop) (x : D) (v : V) (xs : List D) (vs : List V) (P : D → Prop) (Q : VK), Vw K H S x v → VwL K H S xs vs → f x xs P →
  (∀ d z H', P d → Same H H' → Vw K H' (gr S H) d z → Q z H') → r v vs H Q
def ty3 : D → String
  | .str _ => "str"
  | .scr _ => "list"
  | .lst _ _ => "list"
  | _ => ""
theorem ty3_v {K : PySem.W.Frag} {H : Hp} {S : Addr → Prop} {T : String} {x : D} {v : V} (h : Vw K H S x v) (e : ty3 x = T) (hT : T ≠ "") : tyV K T v H := by
  subst e
  cases h with
  | str x => rfl
  | scr t => exact .inl ⟨rfl, _, t.sq⟩
  | lst r s l => exact .inl ⟨rfl, _, .inl (.inl r)⟩
  | _ => exact absurd rfl hT
@[simp] def rMeth (f : D → List D → (D → Prop) → Prop) (T : String) (ro : WR) (wa : WA) : WR := fun G P => ro G fun x => ty3 x = T ∧ wa G fun ds => f x ds P
section
variable {ι : Type} {X : ι → Cx} {K : PySem.W.Frag} {W : WX}
theorem r_meth {o e' : Expr} {es : List Expr} {T : String} {r : V → List V → Hp → VK → Prop} {f : D → List D → (D → Prop) → Prop} {ro : WR} {wa : WA} (hT : T ≠ "") (ok : RMOk K r f) (ho : SndR X K o ro) (ha : SndA X K es wa)
    (mk : ∀ to ta, (∀ j, PE (X j) o to) → (∀ j, PA (X j) es ta) → ∀ j, PE (X j) e' (tBM K T r to ta)) : SndR X K e' (rMeth f T ro wa) := by
  obtain ⟨to, o1, o2⟩ := ho
  obtain ⟨ta, a1, a2⟩ := ha
  refine ⟨_, mk to ta o1 a1, fun G σ H S P Q g w q => o2 G σ H S _ _ g w fun x v H1 ⟨ht, p⟩ s1 hv => ⟨ty3_v hv ht hT, a2 G σ H1 (gr S H) _ _ (g.same s1 gr_of) p fun xs vs H2 p2 s2 hvs => ok H2 (gr (gr S H) H1) x v xs vs P Q (hv.same s2 gr_of) hvs p2 fun d z H' pd s3 hz => q d z H' pd (s1.trans (s2.trans s3)) ?_⟩⟩
  refine Vw.same (Same.refl H') (fun a h => ?_) hz
  exact gr_gr s1 a (gr_gr (s1.trans s2 |> fun z => s2) a h)
@[simp] def lcntD : D → List D → (D → Prop) → Prop := fun x ds P => match x, ds with | .lst _ xs, [.int k] => (match asInts xs with | some ns => P (.int (ns.count k : Nat)) | none => False) | _, _ => False
theorem ok_lcnt : RMOk K (rCntI K) lcntD := fun H S x v xs vs P Q hx hs h q => by
  cases hx with
  | lst r s l =>
    cases hs with
    | nil => exact h.elim
    | cons hk ht =>
      cases hk with
      | int k =>
        cases ht with
        | cons _ _ => exact h.elim
        | nil =>
          simp only [lcntD] at h
          split at h
          · rename_i ns e
            have z := asInts_vw l e
            subst z
            exact ⟨_, ns, k, rfl, rfl, .inl (.inl r), q _ _ H h (Same.refl H) (.int _)⟩
          · exact h.elim
      | _ => exact h.elim
  | _ => exact h.elim
/-- the first place of an equal one -/
def fstIx (xs : List D) (d : D) : Option Nat := xs.findIdx? fun z => deq z d
@[simp] def lixD : D → List D → (D → Prop) → Prop := fun x ds P => match x, ds with | .lst o xs, [d] => shp (.lst o xs) = true ∧ shp d = true ∧ (match fstIx xs d with | some k => P (.int (k : Nat)) | none => False) | _, _ => False
theorem ok_lix : RMOk K (rIndexD K) lixD := fun H S x v xs vs P Q hx hs h q => by
  have hx0 := hx
  cases hx with
  | lst r s l =>
    rename_i o a us ds
    cases hs with
    | nil => exact h.elim
    | cons hk ht =>
      rename_i d u ds' us'
      cases ht with
      | cons _ _ => exact h.elim
      | nil =>
        simp only [lixD] at h
        obtain ⟨h1, h2, h⟩ := h
        split at h
        · rename_i k e
          obtain ⟨hk1, hk2, hk3⟩ := List.findIdx?_eq_some_iff_getElem.mp e
          have hp : (pyL ds)[k]? = some (py ds[k]) := by rw [pyL_map]; simp [hk1]
          refine ⟨_, _, py d, pyL ds, k, py ds[k], rfl, rfl, ?_, vw_dp hk (shp_lay h2), h1, h2, hp, hk2, ?_, q _ _ H h (Same.refl H) (.int _)⟩
          · have := vw_dp hx0 (shp_lay h1)
            exact this
          · intro m z' hm hz
            rw [pyL_map] at hz
            have hm' : m < ds.length := by omega
            simp only [List.getElem?_map, List.getElem?_eq_getElem hm', Option.map_some, Option.some.injEq] at hz
            subst hz
            have := hk3 m hm
            simpa [deq] using this
        · exact h.elim
  | _ => exact h.elim
end
end T
namespace T
open PySem PySem.Spec PyProof.Rows L2
/-! ### a loop over flat things within an owned one, which is put aside meanwhile and comes back unchanged -/
def sForA (i : Nat) (src : WA) (g : WG) (b : WS) : WS := fun E G => match G[i]? with
  | some (some d) => src (keepAt [i] 0 G) fun xs => flatL xs = true ∧ sLoop g b { E with nx := fun G' => G'[i]? = some none ∧ E.nx (G'.set i (some d)) } xs (G.set i none)
  | _ => False
section
variable {ι : Type} {X : ι → Cx} {K : PySem.W.Frag} {W : WX} {pn : List Nat}
theorem Stp.up {H H' : Hp} {os os' o1 : List Addr} (s : Stp H H' os os') : Stp H H' (o1 ++ os) os' :=
  ⟨fun a o e m => s.keep a o e fun z => m (List.mem_append_right _ z), fun a m => (s.new a m).imp (fun z => List.mem_append_right _ z) id, s.dom⟩
theorem Stp.pre {H H' : Hp} {os os2 os' : List Addr} (s : Stp H H' os os') (h : ∀ a ∈ os, a ∈ os2) : Stp H H' os2 os' :=
  ⟨fun a o e m => s.keep a o e fun z => m (h a z), fun a m => (s.new a m).imp (fun z => h a z) id, s.dom⟩
theorem flatL_get {xs : List D} (h : flatL xs = true) {i : Nat} (hi : i < xs.length) : flat xs[i] = true := by
  induction xs generalizing i with
  | nil => simp at hi
  | cons x xs ih =>
    simp only [flatL, Bool.and_eq_true] at h
    cases i with
    | zero => exact h.1
    | succ i => exact ih h.2 (by simpa using hi)
theorem Rep.permO {U0 : Addr → Prop} {G : T.Env} {σ : L2.St} {H : Hp} {Oo Op os : List Addr} (e : Oo.Perm Op) (r : Rep K U0 G σ H Oo os) : Rep K U0 G σ H Op os := by
  have pm : (Oo ++ os).Perm (Op ++ os) := List.Perm.append_right os e
  exact ⟨r.g.mono (os0 := os) (fun a o e _ => e) (fun a u _ => ug_sub (fun z hz => pm.mem_iff.mpr hz) a u) fun a m => m, r.own.perm pm, fun a m => r.u0 a (pm.mem_iff.mpr m), r.un⟩
theorem s_forA (i : Nat) {tg it : Expr} {body : List Stmt} {src : WA} {sl : List Nat} {g : WG} {b : WS} {pos : Pos} (hp : ∀ j, PassesOwn (model (X j).prog (X j).w) (X j).A (X j).env (X j).xe) (hc : ∀ j, (X j).calm = true) (hi : SndI X K tg it src) (hg : SndG X K sl tg g) (hb : SndSs X K W (i :: pn) body b)
    (hpn : ∀ k ∈ i :: pn, k ∉ sl := by decide) (hip : i ∉ pn := by decide) (hs : ∀ j x, foldedSetIterable it (X j).env x = pure x := by intro _ _; rfl) : SndS X K W pn (.For tg it body [] pos) (sForA i src g b) := by
  obtain ⟨ti, i1, i2⟩ := hi
  obtain ⟨tg', g1, g2, _⟩ := hg
  obtain ⟨tb, b1, b2⟩ := hb
  refine ⟨tFor ti tg' tb, fun j => ps_for (hp j) (hc j) (i1 j) (g1 j) (b1 j) (hs j), fun U0 G σ H Oo os E D rep w ok => ?_⟩
  unfold sForA at w
  split at w
  · rename_i d hd
    obtain ⟨v, o1, o2, hv, rep2, rp, pm⟩ := rep.take hd
    have hm1 : ∀ a ∈ o1, a ∈ os := fun a m => pm.mem_iff.mpr (List.mem_append_left _ m)
    have hm2 : ∀ a ∈ o2, a ∈ os := fun a m => pm.mem_iff.mpr (List.mem_append_right _ m)
    -- what may be read: the one put aside
    have hvw : VwG K H (fun a => a ∈ o1 ∨ ug U0 ((Oo ++ o1) ++ o2) a) (keepAt [i] 0 G) σ := by
      refine ⟨by rw [keepAt_len]; exact rep.g.length, fun k dk e => ?_⟩
      rw [keepAt_get] at e
      by_cases hk : k = i
      · subst hk
        simp only [Nat.zero_add, List.mem_singleton, if_true] at e
        rw [hd] at e
        simp at e
        subst e
        exact ⟨v, hv, rp.vw (fun a m => .inl m) (fun a u => .inr u)⟩
      · have : ¬ (0 + k ∈ [i]) := by simp; omega
        simp only [this, if_false] at e
        cases q : G[k]? with
        | none => rw [q] at e; cases e
        | some z => rw [q] at e; cases e
    refine i2 (keepAt [i] 0 G) σ H _ _ _ hvw w fun xs J H1 ⟨hfl, p⟩ sm1 itd => ?_
    have r1 : Rep K U0 (G.set i none) σ H1 (Oo ++ o1) o2 := rep2.same sm1
    have own0 := rep2.own
    have rp1 : Rp K H1 (ug U0 ((Oo ++ o1) ++ o2)) d v o1 := aside (Stp.of_same sm1 o2) own0 rp
    have kp : ∀ {H' : Hp} {os' : List Addr}, Stp H1 H' o2 os' → Kp (gr (fun a => a ∈ o1 ∨ ug U0 ((Oo ++ o1) ++ o2) a) H) H1 H' := fun {H' os'} st a o e q => st.keep a o e fun m => by
      obtain ⟨o', e', mu⟩ := own0.2 a (List.mem_append_right _ m)
      rcases q with q | q
      · rcases q with q | q
        · rcases q with q | q
          · exact (own0.dis (l := Oo ++ o1) (l' := o2) (List.mem_append_right _ q)) m
          · exact q.2 (List.mem_append_right _ m)
        · rw [q] at e'; cases e'
      · obtain ⟨o3, e3, mu3⟩ := r1.own.2 a (List.mem_append_right _ m)
        rw [e] at e3; cases e3
        exact q mu3
    have back : ∀ {G' : T.Env} {σ' : L2.St} {H' : Hp} {os' : List Addr}, Rep K U0 G' σ' H' (Oo ++ o1) os' → Stp H1 H' o2 os' → Pn (i :: pn) σ σ' → G'[i]? = some none → E.nx (G'.set i (some d)) → D.nx σ' H' := by
      intro G' σ' H' os' r' st' pn' hno hnx
      have rp' := aside st' r1.own rp1
      obtain ⟨os3, r3, sub3⟩ := r'.set i rp'
      have hσ : σ'[i]? = some (some v) := (pn' i List.mem_cons_self).trans hv
      have es : σ'.set i (some v) = σ' := by
        apply List.ext_getElem?
        intro k
        by_cases e : i = k
        · subst e
          have hlt : i < σ'.length := (List.getElem?_eq_some_iff.mp hσ).1
          rw [List.getElem?_set_self hlt, hσ]
        · rw [List.getElem?_set_ne e]
      rw [es] at r3
      refine ok.nx _ σ' H' os3 hnx ?_ r3 fun k hk => pn' k (List.mem_cons_of_mem _ hk)
      have sA : Stp H H' o2 os' := (Stp.of_same sm1 o2).trans st'
      refine ⟨fun a o e m => sA.keep a o e fun z => m (hm2 a z), fun a m => ?_, sA.dom⟩
      rcases List.mem_append.mp (sub3 a m) with z | z
      · exact .inl (hm1 a z)
      · exact (sA.new a z).imp (fun q => hm2 a q) id
    refine ⟨fun k m σ' H' => m = xs.length - k ∧ k ≤ xs.length ∧ ∃ G' os', Rep K U0 G' σ' H' (Oo ++ o1) os' ∧ Stp H1 H' o2 os' ∧ Pn (i :: pn) σ σ' ∧ sLoop g b { E with nx := fun G' => G'[i]? = some none ∧ E.nx (G'.set i (some d)) } (xs.drop k) G', ⟨xs.length, by simp, Nat.zero_le _, G.set i none, o2, r1, Stp.refl _ _, Pn.refl _ _, by simpa using p⟩, ?_⟩
    rintro k m σ' H' ⟨rfl, hk, G', os', r', st', pn', lp⟩
    by_cases hlt : k < xs.length
    · right
      have ed : xs.drop k = xs[k] :: xs.drop (k + 1) := List.drop_eq_getElem_cons hlt
      rw [ed] at lp
      simp only [sLoop] at lp
      refine ⟨itd.go k H' (kp st') hlt, fun σ2 H2 => ∃ G2 os2, Rep K U0 G2 σ2 H2 (Oo ++ o1) os2 ∧ Stp H1 H2 o2 os2 ∧ Pn (i :: pn) σ σ2 ∧ sLoop g b { E with nx := fun G' => G'[i]? = some none ∧ E.nx (G'.set i (some d)) } (xs.drop (k + 1)) G2, fun σ2 H2 ⟨G2, os2, a1, a2, a3, a4⟩ => ⟨xs.length - (k + 1), by omega, rfl, hlt, G2, os2, a1, a2, a3, a4⟩, fun v' H2 y => ?_⟩
      obtain ⟨sm, hv'⟩ := itd.yld k H' v' H2 xs[k] (kp st') y (List.getElem?_eq_getElem hlt)
      have r2 := r'.same sm
      have st2 : Stp H1 H2 o2 os' := st'.trans (Stp.of_same sm os')
      have hv2 : Vw K H2 (ug U0 ((Oo ++ o1) ++ os')) xs[k] v' := hv'.flat (flatL_get hfl hlt)
      refine g2 U0 G' σ' H2 (Oo ++ o1) os' xs[k] v' _ _ r2 hv2 lp fun G3 σ3 os3 lp3 r3 sub3 out3 => ?_
      have st3 : Stp H1 H2 o2 os3 := st2.sub sub3
      have pn3 : Pn (i :: pn) σ σ3 := pn'.trans (out_pn out3 hpn)
      have up : ∀ {H4 : Hp} {os4 : List Addr}, Stp H2 H4 os3 os4 → Stp H H4 os os4 := fun {H4 os4} s4 => by
        have sA : Stp H H4 o2 os4 := (Stp.of_same sm1 o2).trans (st3.trans s4)
        exact sA.pre hm2
      refine b2 U0 G3 σ3 H2 (Oo ++ o1) os3 _ _ r3 lp3 ⟨fun G4 σ4 H4 os4 p4 s4 r4 n4 => ?_, fun d4 G4 v4 σ4 H4 o4 os4 p4 s4 r4 x4 n4 => ?_, fun G4 σ4 H4 os4 p4 s4 r4 n4 => ?_, fun G4 σ4 H4 os4 p4 s4 r4 n4 => ?_, fun c4 G4 σ4 H4 os4 p4 s4 r4 n4 => ?_⟩
      · exact ⟨G4, os4, r4, st3.trans s4, pn3.trans n4, p4⟩
      · have r5 : Rep K U0 G4 σ4 H4 (Oo ++ o4) os4 := by
          have e : ((Oo ++ o1) ++ o4).Perm ((Oo ++ o4) ++ o1) := by
            rw [List.append_assoc, List.append_assoc]
            exact List.Perm.append_left Oo List.perm_append_comm
          exact (r4.permO e).less
        refine ok.rt d4 G4 v4 σ4 H4 o4 os4 p4 (up s4) r5 ?_ fun k hk => (pn3.trans n4) k (List.mem_cons_of_mem _ hk)
        refine x4.mono (os0 := o4) (fun a o e _ => e) (fun a u _ => ug_sub (fun z hz => ?_) a u) fun a m => m
        simp only [List.mem_append] at hz ⊢
        rcases hz with (hz | hz) | hz
        · exact .inl (.inl (.inl hz))
        · exact .inl (.inr hz)
        · exact .inr hz
      · exact back r4 (st3.trans s4) (pn3.trans n4) p4.1 p4.2
      · exact ⟨G4, os4, r4, st3.trans s4, pn3.trans n4, p4⟩
      · exact ok.ex c4 G4 σ4 H4 os4 p4 (up s4) r4.less fun k hk => (pn3.trans n4) k (List.mem_cons_of_mem _ hk)
    · left
      have e : k = xs.length := by omega
      subst e
      rw [List.drop_length] at lp
      exact ⟨itd.stop _ H' (kp st') (Nat.le_refl _), back r' st' pn' lp.1 lp.2⟩
  · exact w.elim
end
end T
namespace T
open PySem PySem.Spec PyProof.Rows L2
/-! ### dicts whose keys are tuples of ints and texts -/
def kD (k : List Key) : D := .tup (k.map dKey)
def dcT (o : Bool) (kvs : List (List Key × D)) : D := .dic o (.non :: kvs.map fun p => kD p.1) (kvs.map (·.2))
def valE (kvs : List (List Key × D)) (k : List Key) : Option D := (kvs.find? fun kv => decide (kv.1 = k)).map (·.2)
def putE (kvs : List (List Key × D)) (k : List Key) (d : D) : List (List Key × D) :=
  if (kvs.any fun kv => decide (kv.1 = k)) = true then kvs.map (fun kv => if kv.1 = k then (kv.1, d) else kv) else kvs ++ [(k, d)]
theorem dKey_inj {a b : Key} (e : dKey a = dKey b) : a = b := by
  cases a <;> cases b <;> simp [dKey] at e <;> rw [e]
theorem dKeys_inj : ∀ {a b : List Key}, a.map dKey = b.map dKey → a = b
  | [], [], _ => rfl
  | [], _ :: _, e => by simp at e
  | _ :: _, [], e => by simp at e
  | x :: xs, y :: ys, e => by
    rw [List.map_cons, List.map_cons] at e
    injection e with e1 e2
    rw [dKey_inj e1, dKeys_inj e2]
theorem kD_inj {a b : List Key} (e : kD a = kD b) : a = b := by
  unfold kD at e
  injection e with e
  exact dKeys_inj e
theorem kDs_inj {κ μ : Type} : ∀ {a : List (List Key × κ)} {b : List (List Key × μ)}, a.map (fun p => kD p.1) = b.map (fun p => kD p.1) → a.map (·.1) = b.map (·.1)
  | [], [], _ => rfl
  | [], _ :: _, e => by simp at e
  | _ :: _, [], e => by simp at e
  | x :: xs, y :: ys, e => by
    rw [List.map_cons, List.map_cons] at e
    injection e with e1 e2
    rw [List.map_cons, List.map_cons, kD_inj e1, kDs_inj e2]
theorem pairs_eq {κ : Type} : ∀ {a b : List (List Key × κ)}, a.map (·.1) = b.map (·.1) → a.map (·.2) = b.map (·.2) → a = b
  | [], [], _, _ => rfl
  | [], _ :: _, e, _ => by simp at e
  | _ :: _, [], e, _ => by simp at e
  | (x, y) :: xs, (u, v) :: ys, e, f => by
    simp only [List.map_cons, List.cons.injEq] at e f
    rw [e.1, f.1, pairs_eq e.2 f.2]
theorem dcT_inj {o o' : Bool} {a b : List (List Key × D)} (e : dcT o a = dcT o' b) : o = o' ∧ a = b := by
  unfold dcT at e
  injection e with e1 e2 e3
  injection e2 with _ e2
  exact ⟨e1, pairs_eq (kDs_inj e2) e3⟩
theorem frz_dcT (o : Bool) (kvs : List (List Key × D)) : frz (dcT o kvs) = dcT false (kvs.map fun p => (p.1, frz p.2)) := by
  simp [dcT, frzL_map, Function.comp_def]
theorem dcT_nil (o : Bool) : dcT o [] = .dic o [.non] [] := rfl
/-- pairs alike -/
def PR (R : D → V → Prop) : List (List Key × D) → List (List Key × V) → Prop
  | [], [] => True
  | p :: x, q :: y => p.1 = q.1 ∧ R p.2 q.2 ∧ PR R x y
  | _, _ => False
section
variable {K : PySem.W.Frag} {H H' : Hp} {S S' U : Addr → Prop} {R : D → V → Prop}
theorem PR.of : ∀ {x : List (List Key × D)} {y : List (List Key × V)}, y.map (·.1) = x.map (·.1) → VwL K H S (x.map (·.2)) (y.map (·.2)) → PR (Vw K H S) x y
  | [], [], _, _ => trivial
  | [], _ :: _, e, _ => by simp at e
  | _ :: _, [], e, _ => by simp at e
  | p :: x, q :: y, e, h => by
    simp only [List.map_cons, List.cons.injEq] at e
    cases h with
    | cons a b => exact ⟨e.1.symm, a, PR.of e.2 b⟩
theorem PR.keys : ∀ {x : List (List Key × D)} {y : List (List Key × V)}, PR R x y → y.map (·.1) = x.map (·.1)
  | [], [], _ => rfl
  | [], _ :: _, e => e.elim
  | _ :: _, [], e => e.elim
  | p :: x, q :: y, h => by rw [List.map_cons, List.map_cons, h.1, h.2.2.keys]
theorem PR.vals : ∀ {x : List (List Key × D)} {y : List (List Key × V)}, PR (Vw K H S) x y → VwL K H S (x.map (·.2)) (y.map (·.2))
  | [], [], _ => .nil
  | [], _ :: _, e => e.elim
  | _ :: _, [], e => e.elim
  | p :: x, q :: y, h => .cons h.2.1 h.2.2.vals
theorem PR.any (k : List Key) : ∀ {x : List (List Key × D)} {y : List (List Key × V)}, PR R x y → (y.any fun kv => decide (kv.1 = k)) = x.any fun kv => decide (kv.1 = k)
  | [], [], _ => rfl
  | [], _ :: _, e => e.elim
  | _ :: _, [], e => e.elim
  | p :: x, q :: y, h => by rw [List.any_cons, List.any_cons, h.1, h.2.2.any k]
theorem PR.repl (k : List Key) {d : D} {v : V} (r : R d v) : ∀ {x : List (List Key × D)} {y : List (List Key × V)}, PR R x y → PR R (x.map fun kv => if kv.1 = k then (kv.1, d) else kv) (y.map fun kv => if kv.1 = k then (kv.1, v) else kv)
  | [], [], _ => trivial
  | [], _ :: _, e => e.elim
  | _ :: _, [], e => e.elim
  | p :: x, q :: y, h => by
    rw [List.map_cons, List.map_cons]
    by_cases e : p.1 = k
    · rw [if_pos e, if_pos (h.1.symm.trans e)]
      exact ⟨h.1, r, h.2.2.repl k r⟩
    · rw [if_neg e, if_neg fun z => e (h.1.trans z)]
      exact ⟨h.1, h.2.1, h.2.2.repl k r⟩
theorem PR.snoc (k : List Key) {d : D} {v : V} (r : R d v) : ∀ {x : List (List Key × D)} {y : List (List Key × V)}, PR R x y → PR R (x ++ [(k, d)]) (y ++ [(k, v)])
  | [], [], _ => ⟨rfl, r, trivial⟩
  | [], _ :: _, e => e.elim
  | _ :: _, [], e => e.elim
  | p :: x, q :: y, h => ⟨h.1, h.2.1, h.2.2.snoc k r⟩
theorem PR.put (k : List Key) {d : D} {v : V} (r : R d v) {x : List (List Key × D)} {y : List (List Key × V)} (h : PR R x y) : PR R (putE x k d) (putK y k v) := by
  unfold putE putK
  rw [h.any k]
  split
  · exact h.repl k r
  · exact h.snoc k r
theorem PR.get (k : List Key) : ∀ {x : List (List Key × D)} {y : List (List Key × V)}, PR R x y → (∃ d v, valE x k = some d ∧ valV y k = some v ∧ R d v) ∨ (valE x k = none ∧ valV y k = none)
  | [], [], _ => .inr ⟨rfl, rfl⟩
  | [], _ :: _, e => e.elim
  | _ :: _, [], e => e.elim
  | p :: x, q :: y, h => by
    by_cases e : p.1 = k
    · refine .inl ⟨p.2, q.2, by simp [valE, e], valV_pos (h.1.symm.trans e), h.2.1⟩
    · rcases h.2.2.get k with ⟨d, v, a, b, c⟩ | ⟨a, b⟩
      · refine .inl ⟨d, v, ?_, by rw [valV_neg fun z => e (h.1.trans z)]; exact b, c⟩
        simp only [valE, List.find?_cons, e, decide_false] at a ⊢
        exact a
      · refine .inr ⟨?_, by rw [valV_neg fun z => e (h.1.trans z)]; exact b⟩
        simp only [valE, List.find?_cons, e, decide_false] at a ⊢
        exact a
theorem PR.length : ∀ {x : List (List Key × D)} {y : List (List Key × V)}, PR R x y → y.length = x.length
  | [], [], _ => rfl
  | [], _ :: _, e => e.elim
  | _ :: _, [], e => e.elim
  | p :: x, q :: y, h => by rw [List.length_cons, List.length_cons, h.2.2.length]
theorem PR.mono {R' : D → V → Prop} (f : ∀ d v, R d v → R' d v) : ∀ {x : List (List Key × D)} {y : List (List Key × V)}, PR R x y → PR R' x y
  | [], [], _ => trivial
  | [], _ :: _, e => e.elim
  | _ :: _, [], e => e.elim
  | p :: x, q :: y, h => ⟨h.1, f _ _ h.2.1, h.2.2.mono f⟩
theorem dicAt_put {kvs : List (List Key × V)} {kds : List (List Key × D)} (h : kvs.map (·.1) = kds.map (·.1)) : DicAt (.dT kvs) (.non :: kds.map fun p => kD p.1) (kvs.map (·.2)) := by
  refine .inr ⟨kvs, rfl, ?_, rfl⟩
  congr 1
  have e1 : kvs.map (fun p => D.tup (p.1.map dKey)) = (kvs.map (·.1)).map kD := by rw [List.map_map]; rfl
  have e2 : kds.map (fun p => kD p.1) = (kds.map (·.1)).map kD := by rw [List.map_map]; rfl
  rw [e1, e2, h]
theorem dicAt_dT {u : HO} {kds : List (List Key × D)} {vs : List V} (h : DicAt u (.non :: kds.map fun p => kD p.1) vs) : ∃ kvs, u = .dT kvs ∧ kvs.map (·.1) = kds.map (·.1) ∧ vs = kvs.map (·.2) := by
  rcases h with ⟨kvs, e, h, h2⟩ | ⟨kvs, e, h, h2⟩
  · cases kvs with
    | nil => simp at h
    | cons p r =>
      rw [List.map_cons] at h
      injection h with h _
      cases q : p.1 <;> simp [dKey, q] at h
  · injection h with _ h
    exact ⟨kvs, e, kDs_inj h, h2.symm⟩
theorem vw_dcT {o : Bool} {kds : List (List Key × D)} {v : V} (h : Vw K H S (dcT o kds) v) : ∃ a kvs, v = .ref a ∧ Rd H a (.dT kvs) ∧ PR (Vw K H S) kds kvs := by
  unfold dcT at h
  cases h with
  | dic r s t l =>
    obtain ⟨kvs, rfl, e, rfl⟩ := dicAt_dT t
    exact ⟨_, kvs, rfl, r, .of e l⟩
theorem vw_key {k : Key} {v : V} (h : Vw K H S (dKey k) v) : v = kV k := by
  cases k <;> cases h <;> rfl
theorem vwL_keys : ∀ {ks : List Key} {vs : List V}, VwL K H S (ks.map dKey) vs → vs = ks.map kV
  | [], _, h => by cases h; rfl
  | k :: ks, _, h => by
    cases h with
    | cons a b => rw [List.map_cons, vw_key a, vwL_keys b]
end
/-! the key, a display of a tuple -/
abbrev WY := T.Env → (List Key → Prop) → Prop
@[simp] def yTup (t : WA) : WY := fun G P => t G fun ds => ds.length ≤ 100000 ∧ ∃ ks : List Key, ds = ks.map dKey ∧ P ks
section
variable {ι : Type} {X : ι → Cx} {K : PySem.W.Frag} {W : WX} {pn : List Nat}
def SndY (X : ι → Cx) (K : PySem.W.Frag) (e : Expr) (w : WY) : Prop := ∃ t : TE, (∀ j, PE (X j) e t) ∧ ∀ (G : T.Env) (σ : L2.St) (H : Hp) (S : Addr → Prop) (P : List Key → Prop) (Q : VK),
  VwG K H S G σ → w G P → (∀ ks p H', P ks → Same H H' → H' p = some (.tup (ks.map kV)) → Q (.ref p) H') → t σ H Q
theorem y_tup {es : List Expr} {t : WA} {x1} {pos : Pos} (h : SndA X K es t) : SndY X K (.Tuple es x1 pos) (yTup t) := by
  obtain ⟨ta, a1, a2⟩ := h
  refine ⟨tTup ta, fun j => pe_tup (a1 j), fun G σ H S P Q g r q => ?_⟩
  refine a2 G σ H S _ _ g r fun ds vs H1 p s hv => ?_
  obtain ⟨hl, ks, rfl, p⟩ := p
  have e := vwL_keys hv
  subst e
  refine ⟨by rw [List.length_map] at hl ⊢; exact small_line hl, fun a ha => ?_⟩
  exact q ks a _ p (s.trans (same_new ha)) upd_same
/-! {} -/
@[simp] def eDNew : WE := fun G P _ => P (dcT true []) G
theorem Rep.upd1 {U0 : Addr → Prop} {G : T.Env} {σ : L2.St} {H : Hp} {Oo os : List Addr} {p : Addr} {u : HO} (r : Rep K U0 G σ H Oo os) (hp : p ∈ Oo) (m : Mut (some u)) : Rep K U0 G σ (upd H p u) Oo os := by
  have dis : p ∉ os := r.own.dis hp
  obtain ⟨o0, e0, m0⟩ := r.own.2 p (List.mem_append_left _ hp)
  refine ⟨r.g.mono (os0 := os) (fun a o q h => ?_) (fun a u _ => u) fun a m => m, ⟨r.own.1, fun a h => ?_⟩, r.u0, fun a h => ?_⟩
  · rw [upd_ne]
    · exact q
    · rintro rfl
      rcases h with h | h | h
      · exact h.2 (List.mem_append_left _ hp)
      · exact dis h
      · rw [e0] at q
        cases q
        exact h m0
  · by_cases e : a = p
    · subst e
      exact ⟨_, upd_same, m⟩
    · obtain ⟨o, q, mu⟩ := r.own.2 a h
      exact ⟨o, by rw [upd_ne e]; exact q, mu⟩
  · by_cases e : a = p
    · subst e
      rw [upd_same] at h
      cases h
    · rw [upd_ne e] at h
      exact r.un a h
theorem upd_upd {H : Hp} {p : Addr} {u u' : HO} : upd (upd H p u) p u' = upd H p u' := by
  funext a
  by_cases e : a = p
  · subst e; rw [upd_same, upd_same]
  · rw [upd_ne e, upd_ne e, upd_ne e]
theorem Rep.freshO {U0 : Addr → Prop} {G : T.Env} {σ : L2.St} {H : Hp} {Oo os : List Addr} {p : Addr} {u : HO} (r : Rep K U0 G σ H Oo os) (hn : H p = none) (m : Mut (some u)) : Rep K U0 G σ (upd H p u) (Oo ++ [p]) os ∧ Stp H (upd H p u) os ([p] ++ os) := by
  obtain ⟨r1, _, _⟩ := r.fresh (ds := []) (vs := []) hn .nil
  have r2 := r1.upd1 (u := u) (List.mem_append_right _ List.mem_cons_self) m
  rw [upd_upd] at r2
  refine ⟨r2, fun a o e _ => same_new hn a o e, fun a m => ?_, fun a o e => ⟨o, same_new hn a o e⟩⟩
  rcases List.mem_append.mp m with z | z
  · right
    rw [List.mem_singleton.mp z]
    exact hn
  · exact .inl z
theorem e_dnew {pos : Pos} : SndE X K W (.Dict [] [] pos) eDNew := by
  refine ⟨tDNewT, fun j => pe_dnewT, fun U0 G σ H Oo os P PX Q rep w ok _ => fun p hn => ?_⟩
  obtain ⟨r1, s1⟩ := rep.freshO (u := .dT []) hn trivial
  exact ok _ G _ _ [p] os w s1 r1 (.dicO upd_same (dicAt_put (kvs := []) (kds := []) rfl) .nil)
/-! d[k] = x, of a flat x -/
def flatKV (kvs : List (List Key × D)) : Bool := flatL (kvs.map (·.2))
@[simp] def sDPut (i : Nat) (ry : WY) (rv : WR) : WS := fun E G => ∃ kvs, G[i]? = some (some (dcT true kvs)) ∧ kvs.length < 100000 ∧ flatKV kvs = true ∧ rv G fun d => flat d = true ∧ ry G fun k => E.nx (G.set i (some (dcT true (putE kvs k d))))
theorem flatL_put {kvs : List (List Key × D)} {k : List Key} {d : D} (h : flatKV kvs = true) (hd : flat d = true) : flatKV (putE kvs k d) = true := by
  have key : ∀ kvs : List (List Key × D), flatKV kvs = true → flatKV (kvs.map fun kv => if kv.1 = k then (kv.1, d) else kv) = true ∧ flatKV (kvs ++ [(k, d)]) = true := by
    intro kvs
    induction kvs with
    | nil => intro _; simp [flatKV, hd]
    | cons p r ih =>
      intro h
      simp only [flatKV, List.map_cons, flatL, Bool.and_eq_true] at h ih
      obtain ⟨i1, i2⟩ := ih h.2
      refine ⟨?_, ?_⟩
      · simp only [flatKV, List.map_cons, flatL, Bool.and_eq_true]
        refine ⟨?_, i1⟩
        split
        · exact hd
        · exact h.1
      · simp only [flatKV, List.cons_append, List.map_cons, flatL, Bool.and_eq_true]
        exact ⟨h.1, i2⟩
  unfold putE
  split
  · exact (key kvs h).1
  · exact (key kvs h).2
theorem s_dput (i : Nat) {x : Str} {xp p1 p2 : Pos} {ie e : Expr} {ry : WY} {rv : WR} (hu : ∀ j, (X j).A.units + 65 < cLine) (hy : SndY X K ie ry) (hv : SndR X K e rv)
    (hN : ∀ j, (X j).N[i]? = some x := by intro _; rfl) (hvis : ∀ j, Vis (X j).env.scope x := by intro _; first | exact Or.inl rfl | exact Or.inr (Or.inl rfl) | exact Or.inr (Or.inr rfl)) (hd : (x == ("__debug__" : Str)) = false := by decide) (hcd : (x == ("__classdict__" : Str)) = false := by decide)
    (hs : ∀ j, swapsWith e (some (.Subscript (.Name x xp) ie p1)) p2.line (X j).env = pure false := by intro _; rfl) : SndS X K W pn (.Assign [.Subscript (.Name x xp) ie p1] e p2) (sDPut i ry rv) := by
  obtain ⟨ty, y1, y2⟩ := hy
  obtain ⟨tv, v1, v2⟩ := hv
  refine ⟨L2.sDPut (tVar i) ty tv, fun j => ps_dput (by have := hu j; omega) (pe_var (hN j) (hvis j) hd hcd) (y1 j) (v1 j) (hs j), fun U0 G σ H Oo os E D rep w ok => ?_⟩
  obtain ⟨kvs, hg, hl, hfl, w⟩ := w
  -- the dict's own address
  obtain ⟨v0, o1, o2, hv0, rep2, rp, pm⟩ := rep.take hg
  have hdic : ∃ a kvs' ox, v0 = .ref a ∧ o1 = a :: ox ∧ H a = some (.dT kvs') ∧ PR (Vw K H fun _ => False) kvs kvs' := by
    unfold dcT at rp
    cases rp with
    | dicO e t l =>
      obtain ⟨kvs', rfl, ek, rfl⟩ := dicAt_dT t
      exact ⟨_, kvs', _, rfl, rfl, e, .of ek ((l.vw (S := fun _ => True) (fun _ _ => trivial) fun _ _ => trivial).flat hfl)⟩
  obtain ⟨a, kvs', ox, rfl, rfl, ea, pr⟩ := hdic
  refine v2 G σ H _ _ _ rep.vw w fun d v H1 ⟨fd, p⟩ s1 hv => ?_
  refine ⟨.ref a, hv0, ?_⟩
  refine y2 G σ H1 _ _ _ (rep.same s1).vw p fun ks q H3 pk s3 hq => ?_
  have s13 : Same H H3 := s1.trans s3
  have ea3 : H3 a = some (.dT kvs') := s13 a _ ea
  have rep4 := (rep2.same s13).upd1 (u := .dT (putK kvs' ks v)) (List.mem_append_right _ List.mem_cons_self) trivial
  have rep5 : Rep K U0 (G.set i none) σ (upd H3 a (.dT (putK kvs' ks v))) (Oo ++ [a]) o2 := by
    have e : Oo ++ a :: ox = (Oo ++ [a]) ++ ox := by simp
    rw [e] at rep4
    exact rep4.less
  have keep : ∀ b o, H b = some o → (False ∨ ¬ Mut (some o)) → upd H3 a (.dT (putK kvs' ks v)) b = some o := fun b o e m => by
    have ne : b ≠ a := by
      rintro rfl
      rw [ea] at e
      cases e
      exact (m.resolve_left id) trivial
    rw [upd_ne ne]
    exact s13 b o e
  have keep1 : ∀ b o, H1 b = some o → (False ∨ ¬ Mut (some o)) → upd H3 a (.dT (putK kvs' ks v)) b = some o := fun b o e m => by
    have ne : b ≠ a := by
      rintro rfl
      rw [s1 _ _ ea] at e
      cases e
      exact (m.resolve_left id) trivial
    rw [upd_ne ne]
    exact s3 b o e
  have pr4 : PR (Vw K (upd H3 a (.dT (putK kvs' ks v))) (ug U0 ((Oo ++ [a]) ++ o2))) kvs kvs' := pr.mono fun d v h => Vw.mono (S := fun _ => False) keep (fun _ z _ => z.elim) h
  have hd4 : Vw K (upd H3 a (.dT (putK kvs' ks v))) (ug U0 ((Oo ++ [a]) ++ o2)) d v := Vw.mono (S := fun _ => False) keep1 (fun _ z _ => z.elim) (hv.flat fd)
  have pr5 := pr4.put ks hd4
  have rl := pr5.vals.rp (U := ug U0 ((Oo ++ [a]) ++ o2)) fun _ z => z
  rw [frzL_flat _ (flatL_put hfl fd)] at rl
  have new : Rp K (upd H3 a (.dT (putK kvs' ks v))) (ug U0 ((Oo ++ [a]) ++ o2)) (dcT true (putE kvs ks d)) (.ref a) [a] := .dicO upd_same (dicAt_put pr5.keys) rl
  obtain ⟨os', r6, sub⟩ := rep5.set i new
  have es : σ.set i (some (V.ref a)) = σ := by
    apply List.ext_getElem?
    intro k
    by_cases hk : i = k
    · subst hk
      obtain ⟨hlt, _⟩ := List.getElem?_eq_some_iff.mp hv0
      rw [List.getElem?_set_self hlt, hv0]
    · rw [List.getElem?_set_ne hk]
  rw [es, set_none_set] at r6
  have hlen : kvs'.length < sizeLine := by
    have := pr.length
    have := small_line (Nat.le_of_lt hl)
    have hs := small_line (n := 100000) (Nat.le_refl _)
    omega
  refine ⟨a, _, rfl, DPut.t ea3 hq hlen, ok.nx _ σ _ os' pk ⟨fun b o e m => ?_, fun b m => ?_, fun b o e => ?_⟩ r6 (Pn.refl _ _)⟩
  · have ne : b ≠ a := by
      rintro rfl
      exact m (pm.mem_iff.mpr (by simp))
    rw [upd_ne ne]
    exact s13 b o e
  · left
    refine pm.mem_iff.mpr ?_
    rcases List.mem_append.mp (sub b m) with z | z
    · rw [List.mem_singleton.mp z]; simp
    · simp [z]
  · by_cases e2 : b = a
    · subst e2; exact ⟨_, upd_same⟩
    · exact ⟨o, by rw [upd_ne e2]; exact s13 b o e⟩
/-! d[k], d.get(k, x) -/
@[simp] def rDGet (i : Nat) (ry : WY) : WR := fun G P => ∃ o kvs, G[i]? = some (some (dcT o kvs)) ∧ ry G fun k => ∃ d, valE kvs k = some d ∧ P (frz d)
@[simp] def rDGet2 (i : Nat) (ry : WY) (rx : WR) : WR := fun G P => ∃ o kvs, G[i]? = some (some (dcT o kvs)) ∧ ry G fun k => rx G fun x => P (((valE kvs k).map frz).getD x)
theorem r_dget2 (i : Nat) {x : Str} {xp apos cpos : Pos} {ie e : Expr} {ry : WY} {rx : WR} (hu : ∀ j, (X j).A.units + 65 < cLine) (hy : SndY X K ie ry) (hx : SndR X K e rx) (m : ∀ j, M2 (X j) (.Name x xp) "get" apos ie e cpos)
    (hN : ∀ j, (X j).N[i]? = some x := by intro _; rfl) (hvis : ∀ j, Vis (X j).env.scope x := by intro _; first | exact Or.inl rfl | exact Or.inr (Or.inl rfl) | exact Or.inr (Or.inr rfl)) (hd : (x == ("__debug__" : Str)) = false := by decide) (hcd : (x == ("__classdict__" : Str)) = false := by decide) :
    SndR X K (.Call (.Attribute (.Name x xp) "get" apos) [ie, e] [] cpos) (rDGet2 i ry rx) := by
  obtain ⟨ty, y1, y2⟩ := hy
  obtain ⟨tx, x1, x2⟩ := hx
  refine ⟨tDGet2 (tVar i) ty tx, fun j => pe_dget2 (by have := hu j; omega) (pe_var (hN j) (hvis j) hd hcd) (y1 j) (x1 j) (m j), fun G σ H S P Q g w q => ?_⟩
  obtain ⟨o, kvs, hg, w⟩ := w
  obtain ⟨v0, hv0, vw0⟩ := g.at' _ _ hg
  obtain ⟨a, kvs', rfl, rd, pr⟩ := vw_dcT vw0
  refine ⟨.ref a, hv0, a, rfl, .inr ⟨kvs', rd⟩, ?_⟩
  refine y2 G σ H S _ _ g w fun ks p H1 p1 s1 hq => x2 G σ H1 (gr S H) _ _ (g.same s1 gr_of) p1 fun d z H2 p2 s2 hz => ?_
  refine ⟨valV kvs' ks, .inr ⟨kvs', ks, p, rd_keep (fun o e => s2 _ _ (s1 _ _ e)) rd, rfl, s2 _ _ hq, rfl⟩, q _ _ H2 p2 (s1.trans s2) ?_⟩
  rcases pr.get ks with ⟨d', v', e1, e2, r⟩ | ⟨e1, e2⟩
  · rw [e1, e2]
    exact (r.same (s1.trans s2) gr_of).frz
  · rw [e1, e2]
    exact hz.same (Same.refl H2) (gr_gr s1)
theorem r_dget (i : Nat) {x : Str} {xp cpos : Pos} {ie : Expr} {ry : WY} (hu : ∀ j, (X j).A.units + 65 < cLine) (hy : SndY X K ie ry) (hs : NoSl ie)
    (hN : ∀ j, (X j).N[i]? = some x := by intro _; rfl) (hvis : ∀ j, Vis (X j).env.scope x := by intro _; first | exact Or.inl rfl | exact Or.inr (Or.inl rfl) | exact Or.inr (Or.inr rfl)) (hd : (x == ("__debug__" : Str)) = false := by decide) (hcd : (x == ("__classdict__" : Str)) = false := by decide) :
    SndR X K (.Subscript (.Name x xp) ie cpos) (rDGet i ry) := by
  obtain ⟨ty, y1, y2⟩ := hy
  refine ⟨tDGet (tVar i) ty, fun j => pe_dget (by have := hu j; omega) (pe_var (hN j) (hvis j) hd hcd) (y1 j) hs, fun G σ H S P Q g w q => ?_⟩
  obtain ⟨o, kvs, hg, w⟩ := w
  obtain ⟨v0, hv0, vw0⟩ := g.at' _ _ hg
  obtain ⟨a, kvs', rfl, rd, pr⟩ := vw_dcT vw0
  refine ⟨.ref a, hv0, ?_⟩
  refine y2 G σ H S _ _ g w fun ks p H1 p1 s1 hq => ?_
  obtain ⟨d, e1, p1⟩ := p1
  rcases pr.get ks with ⟨d', v', e2, e3, r⟩ | ⟨e2, e3⟩
  · rw [e1] at e2
    cases e2
    refine ⟨a, v', rfl, .inr ⟨kvs', ks, p, rd_keep (fun o e => s1 _ _ e) rd, rfl, hq, e3.symm⟩, q _ _ H1 p1 s1 ((r.same s1 gr_of).frz)⟩
  · rw [e1] at e2; cases e2
end
end T
namespace T
open PySem PySem.Spec PyProof.Rows L2
/-! ### a key that is read from somewhere: it stands as SqT -/
section
variable {Z : Cx} {pins : List (Addr × Obj)} {τ : L2.St} {H : Hp} {s : Shared}
theorem key_sq {b : Addr} {k : List Key} (I : Inv Z pins τ H s) (h : SqT Z.K H b (k.map kV)) : (tupleKind (mixKind Z.prog Z.w)).is s.heap k b := by
  obtain ⟨its, r, ⟨o, ho, hc, n, hd⟩, _⟩ := I.tuple h
  exact ⟨o, its.toArray, n, ho, hc, hd, by simpa using items_are r⟩
end
/-- d[y], the key y a tuple read from somewhere -/
def tGetQ (K : PySem.W.Frag) (td ty : TE) : TE := fun τ H Q => td τ H fun x H1 => ty τ H1 fun y H2 => ∃ (a b : Addr) (v : V) (tab : List (List Key × V)) (k : List Key), x = .ref a ∧ y = .ref b ∧ Rd H2 a (.dT tab) ∧ SqT K H2 b (k.map kV) ∧ valV tab k = some v ∧ Q v H2
theorem pe_getQ {Z : Cx} {oe ie : Expr} {td ty : TE} {p0 : Pos} (room : Z.A.units + 1 < cLine) (ho : PE Z oe td) (hi : PE Z ie ty) (ns : NoSl ie) : PE Z (.Subscript oe ie p0) (tGetQ Z.K td ty) := by
  constructor
  intro pins s τ H Q I run
  refine subD_of PySem.F.slot_dict_getitem.lookup ns ?_
  refine thn (ho.run pins s τ H _ I run) ?_
  rintro u s1 ⟨x, H1, I1, rx, run1⟩
  refine thn (hi.run pins s1 τ H1 _ I1 run1) ?_
  rintro c s2 ⟨y, H2, I2, ry, a, b, v, tab, k, rfl, rfl, hd, hk, hv, fin⟩
  cases (show u = Value.ref a from rx)
  cases (show c = Value.ref b from ry)
  obtain ⟨_, ns1, xs, rel, dd⟩ := dt_rd I2.hok hd
  obtain ⟨_, _, _, d1, d2, _⟩ := id dd
  obtain ⟨val, e1, e2⟩ := RelO.some_of (v := v) (o := (atKey xs k).map (·.2)) (by rw [← hv]; exact rel.val k)
  obtain ⟨pr, e3, rfl⟩ := Option.map_eq_some_iff.mp e1
  refine ⟨dd.typeIs, wpAny_getItem_heap (tupleKind_room_in1 room) (key_sq I2 hk) dd e3 ?_⟩
  exact ⟨v, H2, I2.tok _, e2, fin⟩
/-- y in d -/
def tInQ (K : PySem.W.Frag) (ty td : TE) : TE := fun τ H Q => ty τ H fun y H1 => td τ H1 fun x H2 => ∃ (a b : Addr) (tab : List (List Key × V)) (k : List Key), x = .ref a ∧ y = .ref b ∧ Rd H2 a (.dT tab) ∧ SqT K H2 b (k.map kV) ∧ Q (.bl (valV tab k).isSome) H2
theorem pc_inQ {Z : Cx} {oe ie : Expr} {td ty : TE} (room : Z.A.units + 1 < cLine) (hi : PE Z ie ty) (ho : PE Z oe td) : PC Z .In ie oe (tInQ Z.K ty td) := by
  constructor
  intro pins s τ H Q I run
  refine thn (hi.run pins s τ H _ I run) ?_
  rintro c s1 ⟨y, H1, I1, ry, run1⟩
  refine thn (ho.run pins s1 τ H1 _ I1 run1) ?_
  rintro u s2 ⟨x, H2, I2, rx, a, b, tab, k, rfl, rfl, hd, hk, fin⟩
  cases (show u = Value.ref a from rx)
  cases (show c = Value.ref b from ry)
  obtain ⟨_, ns1, xs, rel, dd⟩ := dt_rd I2.hok hd
  refine wpAny_in_heap (tupleKind_room_in1 room) (key_sq I2 hk) ns1 dd ?_
  have e := (rel.val k).isSome_eq
  rw [Option.isSome_map] at e
  rw [← e]
  exact ⟨.bl (valV tab k).isSome, H2, I2.tok _, rfl, fin⟩
end T
namespace T
open PySem PySem.Spec PyProof.Rows L2
/-! d[k], k in d: the key is read -/
@[simp] def rDGetR (i : Nat) (r : WR) : WR := fun G P => ∃ o kvs, G[i]? = some (some (dcT o kvs)) ∧ r G fun kd => ∃ k d, kd = kD k ∧ valE kvs k = some d ∧ P (frz d)
@[simp] def rDIn (i : Nat) (r : WR) : WR := fun G P => ∃ o kvs, G[i]? = some (some (dcT o kvs)) ∧ r G fun kd => ∃ k, kd = kD k ∧ P (.bl (valE kvs k).isSome)
section
variable {ι : Type} {X : ι → Cx} {K : PySem.W.Frag}
theorem vw_kD {H : Hp} {S : Addr → Prop} {k : List Key} {v : V} (h : Vw K H S (kD k) v) : ∃ b, v = .ref b ∧ SqT K H b (k.map kV) := by
  unfold kD at h
  cases h with
  | tup t l =>
    have e := vwL_keys l
    subst e
    exact ⟨_, rfl, t⟩
theorem r_dgetR (i : Nat) {x : Str} {xp cpos : Pos} {ie : Expr} {r : WR} (hu : ∀ j, (X j).A.units + 65 < cLine) (hK : ∀ j, (X j).K = K) (hy : SndR X K ie r) (hs : NoSl ie)
    (hN : ∀ j, (X j).N[i]? = some x := by intro _; rfl) (hvis : ∀ j, Vis (X j).env.scope x := by intro _; first | exact Or.inl rfl | exact Or.inr (Or.inl rfl) | exact Or.inr (Or.inr rfl)) (hd : (x == ("__debug__" : Str)) = false := by decide) (hcd : (x == ("__classdict__" : Str)) = false := by decide) :
    SndR X K (.Subscript (.Name x xp) ie cpos) (rDGetR i r) := by
  obtain ⟨ty, y1, y2⟩ := hy
  refine ⟨tGetQ K (tVar i) ty, fun j => by rw [← hK j]; exact pe_getQ (by have := hu j; omega) (pe_var (hN j) (hvis j) hd hcd) (y1 j) hs, fun G σ H S P Q g w q => ?_⟩
  obtain ⟨o, kvs, hg, w⟩ := w
  obtain ⟨v0, hv0, vw0⟩ := g.at' _ _ hg
  obtain ⟨a, kvs', rfl, rd, pr⟩ := vw_dcT vw0
  refine ⟨.ref a, hv0, y2 G σ H S _ _ g w fun kd y H1 p1 s1 hy => ?_⟩
  obtain ⟨k, d, rfl, e1, p1⟩ := p1
  obtain ⟨b, rfl, sq⟩ := vw_kD hy
  rcases pr.get k with ⟨d', v', e2, e3, rr⟩ | ⟨e2, e3⟩
  · rw [e1] at e2
    cases e2
    exact ⟨a, b, v', kvs', k, rfl, rfl, rd_keep (fun o e => s1 _ _ e) rd, sq, e3, q _ _ H1 p1 s1 ((rr.same s1 gr_of).frz)⟩
  · rw [e1] at e2; cases e2
theorem r_din (i : Nat) {x : Str} {xp cpos : Pos} {ie : Expr} {r : WR} (hu : ∀ j, (X j).A.units + 65 < cLine) (hK : ∀ j, (X j).K = K) (hy : SndR X K ie r)
    (hN : ∀ j, (X j).N[i]? = some x := by intro _; rfl) (hvis : ∀ j, Vis (X j).env.scope x := by intro _; first | exact Or.inl rfl | exact Or.inr (Or.inl rfl) | exact Or.inr (Or.inr rfl)) (hd : (x == ("__debug__" : Str)) = false := by decide) (hcd : (x == ("__classdict__" : Str)) = false := by decide) :
    SndR X K (.Compare ie [.In] [.Name x xp] cpos) (rDIn i r) := by
  obtain ⟨ty, y1, y2⟩ := hy
  refine ⟨tInQ K ty (tVar i), fun j => by rw [← hK j]; exact pe_cmp (pc_inQ (by have := hu j; omega) (y1 j) (pe_var (hN j) (hvis j) hd hcd)), fun G σ H S P Q g w q => ?_⟩
  obtain ⟨o, kvs, hg, w⟩ := w
  obtain ⟨v0, hv0, vw0⟩ := g.at' _ _ hg
  obtain ⟨a, kvs', rfl, rd, pr⟩ := vw_dcT vw0
  refine y2 G σ H S _ _ g w fun kd y H1 p1 s1 hy => ?_
  obtain ⟨k, rfl, p1⟩ := p1
  obtain ⟨b, rfl, sq⟩ := vw_kD hy
  refine ⟨.ref a, hv0, a, b, kvs', k, rfl, rfl, rd_keep (fun o e => s1 _ _ e) rd, sq, ?_⟩
  have e : (valV kvs' k).isSome = (valE kvs k).isSome := by
    rcases pr.get k with ⟨d', v', e2, e3, rr⟩ | ⟨e2, e3⟩ <;> rw [e2, e3] <;> rfl
  rw [e]
  exact q _ _ H1 p1 s1 (.bl _)
theorem t_din (i : Nat) {x : Str} {xp cpos : Pos} {ie : Expr} {r : WR} (hu : ∀ j, (X j).A.units + 65 < cLine) (hK : ∀ j, (X j).K = K) (hy : SndR X K ie r)
    (hN : ∀ j, (X j).N[i]? = some x := by intro _; rfl) (hvis : ∀ j, Vis (X j).env.scope x := by intro _; first | exact Or.inl rfl | exact Or.inr (Or.inl rfl) | exact Or.inr (Or.inr rfl)) (hd : (x == ("__debug__" : Str)) = false := by decide) (hcd : (x == ("__classdict__" : Str)) = false := by decide) :
    SndT X K (.Compare ie [.In] [.Name x xp] cpos) (asB (rDIn i r)) := by
  obtain ⟨ty, y1, y2⟩ := hy
  refine ⟨tB (tInQ K ty (tVar i)), fun j => by rw [← hK j]; exact pt_cmp (pc_inQ (by have := hu j; omega) (y1 j) (pe_var (hN j) (hvis j) hd hcd)), fun G σ H S P Q g w q => ?_⟩
  obtain ⟨o, kvs, hg, w⟩ := w
  obtain ⟨v0, hv0, vw0⟩ := g.at' _ _ hg
  obtain ⟨a, kvs', rfl, rd, pr⟩ := vw_dcT vw0
  refine y2 G σ H S _ _ g w fun kd y H1 p1 s1 hy => ?_
  obtain ⟨k, rfl, p1⟩ := p1
  obtain ⟨b, rfl, sq⟩ := vw_kD hy
  refine ⟨.ref a, hv0, a, b, kvs', k, rfl, rfl, rd_keep (fun o e => s1 _ _ e) rd, sq, ?_⟩
  have e : (valV kvs' k).isSome = (valE kvs k).isSome := by
    rcases pr.get k with ⟨d', v', e2, e3, rr⟩ | ⟨e2, e3⟩ <;> rw [e2, e3] <;> rfl
  rw [e]
  exact ⟨_, rfl, q _ H1 p1 s1⟩
end
end T
namespace T
open PySem PySem.Spec PyProof.Rows L2
mutual
theorem flat_ownd : ∀ d : D, flat d = true → ownd d = true
  | .non, _ | .bl _, _ | .int _, _ | .str _, _ | .scr _, _ => rfl
  | .tup xs, h => by simp only [flat] at h; simp only [ownd]; exact flat_owndL xs h
  | .lst _ _, h => by simp [flat] at h
  | .dic _ _ _, h => by simp [flat] at h
  | .obj _ _ _ _, h => by simp [flat] at h
theorem flat_owndL : ∀ xs : List D, flatL xs = true → owndL xs = true
  | [], _ => rfl
  | x :: xs, h => by
    simp only [flatL, Bool.and_eq_true] at h
    simp only [owndL, Bool.and_eq_true]
    exact ⟨flat_ownd x h.1, flat_owndL xs h.2⟩
end
/-- what a def told that may lean on nothing of ours -/
def newL : D → Option D
  | .lst _ xs => if flatL xs = true then some (.lst true xs) else none
  | d => if flat d = true then some d else none
theorem newL_ownd {d d' : D} (e : newL d = some d') : ownd d' = true := by
  cases d with
  | lst o xs =>
    simp only [newL] at e
    split at e
    · rename_i hf
      cases e
      simp [ownd, flat_owndL _ hf]
    · cases e
  | _ =>
    simp only [newL] at e
    split at e
    · rename_i hf
      cases e
      exact flat_ownd _ hf
    · cases e
/-- what is handed over is all owned, what is lent is flat -/
def alone : List Bool → List D → Bool
  | [], [] => true
  | false :: m, d :: ds => flat d && alone m ds
  | true :: m, d :: ds => ownd d && alone m ds
  | _, _ => false
section
variable {K : PySem.W.Frag}
theorem ArgR.alone {H : Hp} {S S' : Addr → Prop} : ∀ {m : List Bool} {ds : List D} {vs : List V} {os : List Addr}, T.alone m ds = true → ArgR K H S m ds vs os → ArgR K H S' m ds vs os
  | _, _, _, _, _, .nil => .nil
  | _, _, _, _, h, .bor v e t => by
    simp only [T.alone, Bool.and_eq_true] at h
    exact .bor (v.flat h.1) e (ArgR.alone h.2 t)
  | _, _, _, _, h, .mut r t => by
    simp only [T.alone, Bool.and_eq_true] at h
    exact .mut (r.anyU h.1) (ArgR.alone h.2 t)
theorem newL_rp {H' : Hp} {U U' : Addr → Prop} {d d' : D} {v : V} {o2 o1 : List Addr} (e : newL d = some d') (r : Rp K H' U d v o2) (ow : Own H' (o2 ++ o1)) (hu : ∀ a, U a → a ∉ o1) :
    ∃ o3, Rp K H' U' d' v o3 ∧ Own H' (o3 ++ o1) ∧ ∀ a ∈ o3, a ∈ o2 ∨ U a := by
  have other : flat d = true → d = d' → ∃ o3, Rp K H' U' d' v o3 ∧ Own H' (o3 ++ o1) ∧ ∀ a ∈ o3, a ∈ o2 ∨ U a := fun h q => by
    subst q
    exact ⟨o2, r.anyU (flat_ownd _ h), ow, fun a m => .inl m⟩
  cases d with
  | lst o xs =>
    simp only [newL] at e
    split at e
    · rename_i hf
      cases e
      cases r with
      | lstO h l => exact ⟨_, .lstO h (l.anyU (flat_owndL _ hf)), ow, fun a m => .inl m⟩
      | @lstN a vs ds os h u l q =>
        subst q
        refine ⟨[a], .lstO h (l.anyU (flat_owndL _ hf)), ⟨List.nodup_cons.mpr ⟨hu a u, ow.1⟩, fun b m => ?_⟩, fun b m => .inr ?_⟩
        · rcases List.mem_cons.mp m with z | z
          · subst z; exact ⟨_, h, trivial⟩
          · exact ow.2 b z
        · have z : b = a := by simpa using m
          subst z; exact u
    · cases e
  | _ =>
    simp only [newL] at e
    split at e
    · rename_i hf
      cases e
      exact other hf rfl
    · cases e
end
section
variable {ι : Type} {X : ι → Cx} {K : PySem.W.Frag} {W : WX} {x : Str} {e : Expr} {es : List Expr} {p pos : Pos} {A : FSp} {js : List (Option Nat)}
/-- some are handed over, the lent ones are flat: a flat list that comes back is the caller's own -/
@[simp] def eCallMF (A : FSp) (js : List (Option Nat)) (t : WA) : WE := fun G P PX => match strip js G with
  | some G' => t G' fun ds => match fillA js G (frzL ds) with
    | some q => alone (msk js) q.1 = true ∧ A q.1 (fun d ds' => owndL ds' = true ∧ match newL d with | some d' => P d' (putA js G' ds') | none => False) (fun c ds' => owndL ds' = true ∧ PX c (putA js G' ds'))
    | none => False
  | none => False
theorem e_callMF (tk : ∀ j, Takes (X j) W) (F : Df X K x (msk js) A) (hg : ∀ j, Gl (X j) x) {t : WA} (h : SndMr X K js (e :: es) t) (nd : (js.filterMap id).Nodup := by decide) (hdb : (x == ("__debug__" : Str)) = false := by decide)
    (hs : ∀ j, starEach (e :: es) (X j).env = (false, eval e (X j).env) :: starEach es (X j).env := by intro _; rfl) (hpl : ∀ j, (backTo pos (starEach es (X j).env)).any (·.1) = false := by intro _; rfl) : SndE X K W (.Call (.Name x p) (e :: es) [] pos) (eCallMF A js t) := by
  obtain ⟨f, fd, ps, k, hl, hF⟩ := F.fn
  obtain ⟨ta, a1, a2⟩ := h
  refine ⟨tCallS (conc K (msk js) A) (L2.WE W) ta, fun j => pe_callG (hF j).1 (hF j).2.1 (hg j) (hF j).2.2.1 (hF j).2.2.2.1 (hF j).2.2.2.2 (fun σ => passAt (tk j) σ) (a1 j) hdb (hs j) (hpl j), fun U0 G σ H Oo os P PX Q rep w ok okx => ?_⟩
  unfold eCallMF at w
  split at w
  case h_2 => exact w.elim
  rename_i G2 hG2
  obtain ⟨om, orest, g2, pm, hn, _, hsl, fin⟩ := strip_all rep.g hG2
  have nd2 := (List.nodup_append.mp rep.own.1)
  have ndp := List.nodup_append.mp (pm.nodup_iff.mp nd2.2.1)
  have mo : ∀ a ∈ om, a ∈ os := fun a m => pm.mem_iff.mpr (List.mem_append_left _ m)
  have vg : VwG K H (fun a => U0 a ∧ a ∉ om) G2 σ := g2.vw (fun a m => ⟨rep.u0 a (List.mem_append_right _ (pm.mem_iff.mpr (List.mem_append_right _ m))), fun z => ndp.2.2 a z a m rfl⟩) fun a u => ⟨u.1, fun z => u.2 (List.mem_append_right _ (mo a z))⟩
  refine a2 G G2 σ H _ _ _ vg hsl w fun ds vs H1 hp s mv => ?_
  split at hp
  case h_2 => exact hp.elim
  rename_i q hq
  obtain ⟨full, G3⟩ := q
  have hUS : ∀ a, ug U0 (Oo ++ os) a → gr (fun a => U0 a ∧ a ∉ om) H a := fun a u => .inl ⟨u.1, fun z => u.2 (List.mem_append_right _ (mo a z))⟩
  obtain ⟨full', e1, ar⟩ := fin H1 _ ds vs s hUS mv
  rw [hq] at e1
  cases e1
  have r1 := rep.same s
  have g2' : RpG K H1 (ug U0 (Oo ++ os)) G2 σ orest := g2.mono (os0 := orest) (fun a o e _ => s a o e) (fun a u _ => u) fun a m => m
  refine ⟨fun _ => False, full, om, _, _, fun a u => u.elim, ar.alone hp.1, ⟨ndp.1, fun a m => r1.own.2 a (List.mem_append_right _ (mo a m))⟩, hp.2, fun d ds' pd v H' o2 o1' st ow mu rp => ?_, fun c ds' pd H' o1' st ow mu => ?_⟩
  · obtain ⟨po, pd⟩ := pd
    split at pd
    case h_2 => exact pd.elim
    rename_i d' hd'
    obtain ⟨o3, rp3, ow3, sub3⟩ := newL_rp (U' := ug U0 ((Oo ++ o2) ++ (o1' ++ orest))) hd' rp ow fun a u m => u.2 (List.mem_append_right _ m)
    have st3 : Stp H1 H' om (o3 ++ o1') := ⟨st.keep, fun a m => by
      rcases List.mem_append.mp m with z | z
      · rcases sub3 a z with y | y
        · exact st.new a (List.mem_append_left _ y)
        · rcases y.1 with y' | y' | y'
          · exact y'.elim
          · exact .inl y'
          · exact .inr y'
      · exact st.new a (List.mem_append_right _ z), st.dom⟩
    obtain ⟨os', rr, ss, gu⟩ := callM_core r1 (Stp.of_same s os) g2' pm hn nd mv st3 ow3 (mu.anyU po)
    exact ok d' _ v H' o3 os' pd ss rr (rp3.anyU (newL_ownd hd'))
  · obtain ⟨os', rr, ss, _⟩ := callM_core (o2 := []) r1 (Stp.of_same s os) g2' pm hn nd mv st ow (mu.anyU pd.1)
    exact okx c _ H' os' pd.2 ss (by rw [List.append_nil] at rr; exact rr)
end
end T
namespace T
open PySem PySem.Calls PySem.Spec PyProof.Rows PyProof.V PySem.W L2
section
variable {prog : Program} {w : World} {A : Around} {E : Value → Shared → Prop} {s : Shared}
/-- what is walked is gathered -/
theorem collect_src {T : String} {r d : Addr} {n : Nat} {Pv : Nat → Value → Prop} {OK : Heap → Prop} {Q : List Value → Shared → Prop} (src : KdlSrc prog w T r d n Pv OK) (hh : A.handled = none) (ok : OK s.heap) (hn : n ≤ sizeLine)
    (q : ∀ h' tk (acc : Array Value), (∀ b u, s.heap.get? b = some u → h'.get? b = some u) → s.heap.objs.size ≤ h'.objs.size → ItemsOf Pv acc n → Q acc.toList { s with heap := h', toks := tk }) : wpAny (model prog w) A (collect (.ref r)) Q E s := by
  obtain ⟨l1, l2⟩ := src.there _ ok
  let e0 : Obj := { cls := .type "list", data := .seq ([] : List Value).toArray }
  have ok' : OK (s.heap.push e0) := src.keep _ _ ok fun b _ u e => Heap.get?_push_of_some _ e
  have at0 : (s.heap.push e0).get? s.heap.objs.size = some e0 := Heap.get?_push_size _ rfl
  have key : ∀ k : Value → Sem (List Value), (∀ h' tk (acc : Array Value) c, (∀ b u, b ≠ s.heap.objs.size → (s.heap.push e0).get? b = some u → h'.get? b = some u) → h'.get? s.heap.objs.size = some { cls := .type "list", dict := none, data := .seq acc c, slots := #[] } → ItemsOf Pv acc n →
      wpAny (model prog w) A (k (.ref s.heap.objs.size)) Q E { s with heap := h', toks := tk }) → wpAny (model prog w) A (runValue (.builtin "proto.collect" ⟨[.ref r], []⟩) >>= k) Q E s := fun k hk => by
    refine wpAny_bind (wpAny_runValue (codeAny_builtin F.entry_proto_collect ?_))
    rw [Around.under_plainId (A := A) F.plain_proto_collect _]
    show wpAny _ A.in1 (newList [] >>= fun x => again (.builtin "list.__iadd__" ⟨[x, .ref r], []⟩)) _ _ s
    refine wpAny_bind (wpAny_newObj_type (wpAny_pure ⟨plainId_quiet F.plain_list_iadd _, codeAny_builtin F.entry_list_iadd ?_⟩))
    rw [Around.under_plainId (A := A) F.plain_list_iadd _]
    show wpAny _ A.in1 (Builtin.List.listExtendWith (.ref s.heap.objs.size) (.ref r) (.ref s.heap.objs.size)) _ _ _
    exact kdl_extend (s := { s with heap := s.heap.push e0 }) (R := fun x s' => match x with | .ok (.ret v) => wpAny (model prog w) A (k v) Q E s' | .ok _ => False | .error e => E e s') src hh ok' s.heap.objs.size (Nat.ne_of_gt l1) (Nat.ne_of_gt l2) (.ref s.heap.objs.size) 0 at0 (fun h' tk acc c kp gS it => hk h' tk acc c kp gS it) hn
  unfold collect
  refine key _ fun h' tk acc c kp gS it => ?_
  show wpAny _ A (load s.heap.objs.size >>= _) _ _ _
  refine wpAny_bind (wpAny_load gS (wpAny_pure (q h' tk acc (fun b u e => ?_) (Nat.le_of_lt (Heap.lt_size gS)) it)))
  exact kp b u (Nat.ne_of_lt (Heap.lt_size e)) (Heap.get?_push_of_some _ e)
/-- sorted(d) -/
theorem sorted_src {T : String} {r d : Addr} {n : Nat} {Pv : Nat → Value → Prop} {OK : Heap → Prop} {β : Type} {enc : β → PyData} {R : Value → β → Prop} {bs : List β} {Q : Value → Shared → Prop} (src : KdlSrc prog w T r d n Pv OK) (hh : A.handled = none) (ok : OK s.heap) (hn : n ≤ sizeLine)
    (own : ∀ acc : Array Value, ItemsOf Pv acc n → EachIs R acc.toList bs ∧ EachIs (fun v b => ∃ as, Reads s.heap v (enc b) as) acc.toList bs) (hal : AllAlike (bs.map enc)) (hk : Sortable (bs.map enc)) (hL : bs.length ≤ sizeLine)
    (hu : ∀ b, b ∈ bs → A.in1.in1.units + (enc b).depth < cLine)
    (q : ∀ h' tk p out c, (∀ b u, s.heap.get? b = some u → h'.get? b = some u) → s.heap.objs.size ≤ p → h'.get? p = some (seqObj "list" (List.toArray out) c) → out.length = bs.length → EachIs R out (bs.mergeSort (dataLe false enc)) → Q (.ref p) { s with heap := h', toks := tk }) :
    wpAny (model prog w) A (call (.builtin "sorted") [.ref r]) Q E s := by
  refine call_function_entry kind_sorted plain_sorted entry_sorted (args_sorted1 _) ?_
  unfold Builtin.«sorted»
  refine wpAny_bind (m := checkCount "sorted" 1 1 _) (wpAny_pure (wpAny_bind (collect_src src hh ok hn fun h' tk acc kp sz it => ?_)))
  obtain ⟨er, ed⟩ := own acc it
  generalize acc.toList = vs at er ed
  have hv : vs.length ≤ sizeLine := by rw [er.length]; exact hL
  refine wpAny_bind (wpAny_newList ?_ hv)
  have ho : (h'.push { cls := .type "list", data := .seq vs.toArray }).get? h'.objs.size = some (seqObj "list" vs.toArray 0) := Heap.get?_push_size _ rfl
  have old : ∀ b u, s.heap.get? b = some u → b ≠ h'.objs.size ∧ (h'.push { cls := .type "list", data := .seq vs.toArray }).get? b = some u := fun b u e => ⟨Nat.ne_of_lt (Heap.lt_size (kp b u e)), Heap.get?_push_of_some _ (kp b u e)⟩
  have ed' : EachIs (fun v b => ∃ as, Reads (sortingHeap (h'.push { cls := .type "list", data := .seq vs.toArray }) h'.objs.size vs) v (enc b) as) vs bs :=
    ed.mono fun _ _ ⟨as, x⟩ => ⟨as, PyProof.Rows.Reads.keeps (fun b u e => sortingHeap_old (old b u e).1 (old b u e).2) x⟩
  refine wpAny_bind (wpAny_holding (wpAny_call_entry slot_list_sort ⟨_, ho, rfl⟩ entry_list_sort ?_ (args_list_sort _)))
  refine list_sort_vals (κ := dataKind (sortingHeap (h'.push { cls := .type "list", data := .seq vs.toArray }) h'.objs.size vs) (bs.map enc)) ho
    (SortsAt.data (each_map (R := fun v d => ∃ as, Reads (sortingHeap (h'.push { cls := .type "list", data := .seq vs.toArray }) h'.objs.size vs) v d as) enc ed') hal hk (bound_map hu)) hv ⟨_, rfl, wpAny_pure ⟨_, rfl, ?_⟩⟩
  obtain ⟨c, hc⟩ := sortedHeap_at (out := (sortVals (dataKind (sortingHeap (h'.push { cls := .type "list", data := .seq vs.toArray }) h'.objs.size vs) (bs.map enc)) false vs vs).toArray) ho
  refine q _ tk h'.objs.size _ c (fun b u e => ?_) sz hc (by rw [sortVals_length false rfl]; exact er.length) (sortVals_data false er ed' hal)
  rw [sortedHeap_old (old b u e).1 (Heap.lt_size (old b u e).2)]
  exact (old b u e).2
end
/-! ### the keys of a dict, in order -/
theorem vwl_keys' {K : PySem.W.Frag} {H : Hp} {S : Addr → Prop} : ∀ k : List Key, VwL K H S (k.map dKey) (k.map kV)
  | [] => .nil
  | .inl i :: k => .cons (.int i) (vwl_keys' k)
  | .inr x :: k => .cons (.str x) (vwl_keys' k)
/-- the tuples that are a dict's keys -/
def KeyAt (H : Hp) (ks : List (List Key)) (xs : List V) : Prop := Paired (fun k x => ∃ b, x = V.ref b ∧ H b = some (.tup (k.map kV))) ks xs
theorem KeyAt.vw {K : PySem.W.Frag} {H : Hp} {S : Addr → Prop} {ks : List (List Key)} {xs : List V} (h : KeyAt H ks xs) : VwL K H S (ks.map kD) xs := by
  unfold KeyAt at h
  induction h with
  | nil => exact .nil
  | cons a _ ih =>
    obtain ⟨b, rfl, hb⟩ := a
    exact .cons (.tup (.inl (.inl hb)) (vwl_keys' _)) ih
def rSortDA : List V → Hp → VK → Prop := fun vs H Q => ∃ (a : Addr) (kvs : List (List Key × V)), vs = [V.ref a] ∧ Rd H a (.dT kvs) ∧ Srtb (kvs.map fun p => kD p.1) ∧ (AllAlike ((kvs.map fun p => kD p.1).map py) ∧ Sortable ((kvs.map fun p => kD p.1).map py)) ∧
  ∀ (p : Addr) (xs : List V), H p = none → KeyAt H (kvs.map (·.1)) xs → Q (.ref p) (upd H p (.lst ((((kvs.map fun p => kD p.1).zip xs).mergeSort (dataLe false fun b => py b.1)).map (·.2))))
theorem c_sortedD {Y : Cx} (hc : Y.calm = true) (hu : Y.A.units + 80 < cLine) : CallR Y (.builtin "sorted") rSortDA := by
  intro pins s σ H vs us Q I r h
  obtain ⟨d, kvs, rfl, hd, ⟨_, s3, s4⟩, ⟨s1, s2⟩, q⟩ := h
  obtain ⟨u, rfl, rx⟩ := r.one
  cases rx
  obtain ⟨z, hs, ks, pr, o, es, ep, ho, hx, hdt, he, hn⟩ := (show ObjOk Y.prog Y.w H s.heap d (.dT kvs) from hd.ok I.hok)
  have l1 : es.size = ks.length := size_of_entries he
  have l2 : kvs.length = ks.length := Paired.length pr
  have l3 : es.size ≤ sizeLine := by rw [l1, ← l2]; exact small_line (by simpa using s4)
  have ka : ∀ (ks : List (List Key × Addr × Value)) (kvs : List (List Key × V)), Paired (fun (p : List Key × V) (q : List Key × Addr × Value) => p.1 = q.1 ∧ H q.2.1 = some (.tup (p.1.map kV)) ∧ RelV p.2 q.2.2) kvs ks → KeyAt H (kvs.map (·.1)) (ks.map fun x => V.ref x.2.1) := fun ks kvs pr => by
    induction pr with
    | nil => exact .nil
    | cons a _ ih => exact .cons ⟨_, rfl, a.2.1⟩ ih
  have kx := ka ks kvs pr
  generalize hxs : (ks.map fun x => V.ref x.2.1) = xs at kx
  have hl : (kvs.map fun p => kD p.1).length = xs.length := by rw [← hxs]; simpa using l2
  have em : (((kvs.map fun p => kD p.1).zip xs).map fun b => py b.1) = (kvs.map fun p => kD p.1).map py := by
    have : (((kvs.map fun p => kD p.1).zip xs).map fun b => py b.1) = (((kvs.map fun p => kD p.1).zip xs).map (·.1)).map py := by simp [List.map_map]
    rw [this, List.map_fst_zip (by omega)]
  have zl : ((kvs.map fun p => kD p.1).zip xs).length = kvs.length := by rw [List.length_zip, ← hl]; simp
  have dp : DpAll Y.K H xs (pyL (kvs.map fun p => kD p.1)) := by
    have := kx.vw (K := Y.K) (S := fun _ => True)
    rw [List.map_map] at this
    refine vwl_dp this ?_
    have go : ∀ (ys : List D), (∀ x ∈ ys, (py x).canLay0 = true ∧ (py x).depth ≤ 64) → PyData.canLayAll0 (pyL ys) = true := by
      intro ys
      induction ys with
      | nil => intro _; rfl
      | cons y ys ih => exact fun hy => by simp only [pyL, PyData.canLayAll0, Bool.and_eq_true]; exact ⟨(hy y List.mem_cons_self).1, ih fun x m => hy x (List.mem_cons_of_mem _ m)⟩
    exact go _ s3
  refine sorted_src (enc := fun (b : D × V) => py b.1) (R := fun v (b : D × V) => RelV b.2 v) (bs := (kvs.map fun p => kD p.1).zip xs) (kdl_raw hs hx hdt) (I.ok.hd hc) ho l3 (fun acc it => ?_) (by rw [em]; exact s1) (by rw [em]; exact s2) (by rw [zl]; exact small_line (by simpa using s4)) (fun b hb => ?_) fun h' tk p out c kp hp hat hlo hout => ?_
  · have ea : acc.toList = ks.map fun x => Value.ref x.2.1 := by
      refine List.ext_getElem? fun j => ?_
      have la : acc.toList.length = ks.length := by rw [Array.length_toList, it.1, l1]
      by_cases hj : j < ks.length
      · have hj' : j < acc.size := by rw [← Array.length_toList, la]; exact hj
        obtain ⟨en, hen, hv⟩ := it.2 j acc[j] (Array.getElem?_eq_getElem hj')
        have qe := entry_at he j
        rw [hen, List.getElem?_eq_getElem hj] at qe
        have e2 : en = entryOfKey (tupleKind (mixKind Y.prog Y.w)) ks[j] := Option.some.inj qe
        rw [List.getElem?_map, List.getElem?_eq_getElem hj, Array.getElem?_toList, Array.getElem?_eq_getElem hj', hv, e2]
        rfl
      · rw [List.getElem?_eq_none (by omega), List.getElem?_eq_none (by simp; omega)]
    have rv : Vals xs acc.toList := by
      rw [ea, ← hxs]
      have : ∀ l : List (List Key × Addr × Value), Vals (l.map fun x => V.ref x.2.1) (l.map fun x => Value.ref x.2.1) := fun l => by
        induction l with
        | nil => exact .nil
        | cons x l ih => exact .cons rfl ih
      exact this ks
    obtain ⟨as, ra⟩ := Dp.readsAll I _ xs acc.toList dp rv
    exact each_of rv ra hl.symm
  · have hm : b.1 ∈ kvs.map fun p => kD p.1 := (List.of_mem_zip (show (b.1, b.2) ∈ _ from hb)).1
    have := (s3 b.1 hm).2
    show Y.A.units + 1 + 1 + (py b.1).depth < cLine
    omega
  · have hv := vals_each hout
    have hlen2 : ((((kvs.map fun p => kD p.1).zip xs).mergeSort (dataLe false fun b => py b.1)).map (·.2)).length ≤ sizeLine := by
      rw [List.length_map, List.length_mergeSort, zl]
      exact small_line (by simpa using s4)
    refine ⟨.ref p, _, I.laid (t' := tk) (o := .lst ((((kvs.map fun p => kD p.1).zip xs).mergeSort (dataLe false fun b => py b.1)).map (·.2))) kp hp ?_, rfl, q p xs (I.hok.fresh hp) kx⟩
    exact ⟨hlen2, out, c, hv, hat⟩
@[simp] def sortedDD : List D → (List D → Prop) → Prop := fun ds P => match ds with
  | [.dic _ (.non :: ks) _] => Srtb ks ∧ (AllAlike (ks.map py) ∧ Sortable (ks.map py)) ∧ P (sortD ks)
  | _ => False
theorem ok_sortedDD {K : PySem.W.Frag} : CallOkF K rSortDA sortedDD := by
  intro H S xs vs P Q hv h q
  unfold sortedDD at h
  split at h
  · obtain ⟨v, rfl, h1⟩ := vwl1 hv
    obtain ⟨hs, ha, h⟩ := h
    cases h1 with
    | dic rd sa t hl =>
      rcases t with ⟨kvs, rfl, e, _⟩ | ⟨kvs, rfl, e, _⟩
      · cases kvs with
        | nil => cases e
        | cons p kvs =>
          rw [List.map_cons] at e
          injection e with e _
          cases hp : p.1 <;> rw [hp] at e <;> cases e
      · injection e with _ e
        subst e
        refine ⟨_, kvs, rfl, rd, hs, ha, fun p xs hp kx => ?_⟩
        have vx : VwL K H S (kvs.map fun p => kD p.1) xs := by
          have := kx.vw (K := K) (S := S)
          rwa [List.map_map] at this
        have h' : P (sortD (kvs.map fun p => kD p.1)) := h
        rw [← sort_fst _ _ vx.length] at h'
        refine q _ _ p H h' (Same.refl H) hp (vwl_of_mem fun b m => ?_)
        have hm := (List.mergeSort_perm (_ : List (D × V)) _).mem_iff.mp m
        exact (vwl_zip vx b hm).same (Same.refl H) gr_of
  · exact h.elim
/-! ### a < b for data that are alike, nested or not -/
def rLtX (K : PySem.W.Frag) : R2 := fun x y H Q => ∃ d e, Dp K H x d ∧ Dp K H y e ∧ alike d e = true ∧ d ≠ .none ∧ d.depth ≤ 64 ∧ Q (.bl (dataLt d e)) H
theorem op_ltX {K : PySem.W.Frag} {Y : Cx} (hK : Y.K = K) (hu : Y.A.units + 65 < cLine) : OpR Y (compareOp .Lt) (rLtX K) := by
  subst hK
  intro pins s σ H x y v u Q I rx ry h
  obtain ⟨d, e, hd, he, ha, hn, hz, q⟩ := h
  obtain ⟨as, a1⟩ := Dp.reads I d _ _ hd rx
  obtain ⟨bs, a2⟩ := Dp.reads I e _ _ he ry
  exact rcLt_alike d e Y.A s v u as bs a1 a2 ha hn (by omega) Y.prog Y.w Y.xe (EP Y pins σ Q) ⟨.bl _, H, I, rfl, q⟩
@[simp] def ltX : D → D → (D → Prop) → Prop := fun x y P => ((py x).canLay0 = true ∧ (py y).canLay0 = true ∧ alike (py x) (py y) = true ∧ py x ≠ .none ∧ (py x).depth ≤ 64) ∧ P (.bl (dataLt (py x) (py y)))
theorem ok_ltX {K : PySem.W.Frag} : OpOk K (rLtX K) ltX := fun H S x y v u P Q hx hy h q =>
  ⟨py x, py y, vw_dp hx h.1.1, vw_dp hy h.1.2.1, h.1.2.2.1, h.1.2.2.2.1, h.1.2.2.2.2, q _ _ H h.2 (Same.refl H) (.bl _)⟩
/-! ### x, y = a, b -/
section
variable {ι : Type} {X : ι → Cx} {K : PySem.W.Frag} {W : WX} {pn : List Nat}
@[simp] def sPar (i j : Nat) (t : WA) : WS := fun E G => t G fun ds => flatL ds = true ∧ match ds with
  | [d1, d2] => E.nx ((G.set i (some d1)).set j (some d2))
  | _ => False
theorem s_par (i j : Nat) {x y : Str} {a b : Expr} {t : WA} {px py pt pos pt2 : Pos} {kt k2} (h : SndA X K [a, b] t) (hc : ∀ q, (X q).calm = true) (hN : ∀ q, (X q).N.Nodup) (hi : ∀ q, (X q).N[i]? = some x := by intro _; rfl) (hj : ∀ q, (X q).N[j]? = some y := by intro _; rfl) (hij : i ≠ j := by decide)
    (hx : ∀ q, (X q).env.scope.names.lookup x = some .local := by intro _; rfl) (hy : ∀ q, (X q).env.scope.names.lookup y = some .local := by intro _; rfl)
    (hw : ∀ q, swappedStores [.Tuple [.Name x px, .Name y py] kt pt] (.Tuple [a, b] k2 pt2) (X q).env = pure (some [x, y]) := by intro _; rfl)
    (hs : ∀ q, swapsWithSole [.Tuple [.Name x px, .Name y py] kt pt] (.Tuple [a, b] k2 pt2) pos.line (X q).env = pure false := by intro _; rfl) (hpi : i ∉ pn := by decide) (hpj : j ∉ pn := by decide) :
    SndS X K W pn (.Assign [.Tuple [.Name x px, .Name y py] kt pt] (.Tuple [a, b] k2 pt2) pos) (sPar i j t) := by
  obtain ⟨ta, a1, a2⟩ := h
  refine ⟨tPar i j ta, fun q => ps_par (hc q) (hN q) (hi q) (hj q) hij (hx q) (hy q) (a1 q) (hw q) (hs q), fun U0 G σ H Oo os E De rep w ok => ?_⟩
  refine a2 G σ H _ _ _ rep.vw w fun ds vs H' p s hv => ?_
  obtain ⟨hf, p⟩ := p
  split at p
  · rename_i d1 d2
    cases hv with
    | cons h1 h2 =>
      cases h2 with
      | cons h2 h3 =>
        cases h3
        simp only [flatL, Bool.and_eq_true] at hf
        have one : ∀ {d : D} {v : V} {S S' : Addr → Prop}, flat d = true → Vw K H' S d v → Rp K H' S' d v [] := fun {d v S S'} hd hv => by
          have z := (hv.flat (S' := S') hd).rp (U := S') fun a q => q
          rwa [frz_flat d hd] at z
        have r1 : Rep K U0 G σ H' (Oo ++ []) os := by rw [List.append_nil]; exact rep.same s
        obtain ⟨os1, r2, sub1⟩ := r1.set i (one hf.1 h1)
        rw [← List.append_nil Oo] at r2
        obtain ⟨os2, r3, sub2⟩ := r2.set j (one hf.2.1 h2)
        refine ⟨_, _, rfl, ok.nx _ _ H' os2 p ((Stp.of_same s os).sub fun a m => ?_) r3 ?_⟩
        · have := sub1 a (by simpa using sub2 a m)
          simpa using this
        · intro k hk
          have n1 : i ≠ k := fun z => hpi (z ▸ hk)
          have n2 : j ≠ k := fun z => hpj (z ▸ hk)
          rw [List.getElem?_set_ne n2, List.getElem?_set_ne n1]
  · exact p.elim
end
end T
namespace T
open PySem PySem.Spec PyProof.Rows L2
/-! ### what a thing's repr is -/
def pk : Key → PyData
  | .inl i => .int i
  | .inr x => .str x
mutual
/-- the value reads as the datum; dicts with int and text keys within -/
inductive Dq (K : PySem.W.Frag) (H : Hp) : V → PyData → Prop
  | non : Dq K H .non .none
  | bl (b : Bool) : Dq K H (.bl b) (.bool b)
  | int (i : Int) : Dq K H (.int i) (.int i)
  | str (x : Str) : Dq K H (.str x) (.str x)
  | lst {a : Addr} {xs : List V} {ds : List PyData} : Rd H a (.lst xs) → DqAll K H xs ds → Dq K H (.ref a) (.list ds)
  | tup {a : Addr} {xs : List V} {ds : List PyData} : SqT K H a xs → DqAll K H xs ds → Dq K H (.ref a) (.tuple ds)
  | dicE {a : Addr} : Rd H a (.dT []) → Dq K H (.ref a) (.dict [])
  | dic {a : Addr} {kvs : List (Key × V)} {ds : List PyData} : Rd H a (.dK kvs) → DqAll K H (kvs.map (·.2)) ds → Dq K H (.ref a) (.dict ((kvs.map fun p => pk p.1).zip ds))
inductive DqAll (K : PySem.W.Frag) (H : Hp) : List V → List PyData → Prop
  | nil : DqAll K H [] []
  | cons {v : V} {vs : List V} {d : PyData} {ds : List PyData} : Dq K H v d → DqAll K H vs ds → DqAll K H (v :: vs) (d :: ds)
end
theorem DqAll.length {K : PySem.W.Frag} {H : Hp} : ∀ {vs : List V} {ds : List PyData}, DqAll K H vs ds → vs.length = ds.length
  | _, _, .nil => rfl
  | _, _, .cons _ t => by simp [DqAll.length t]
section
variable {X : Cx} {pins : List (Addr × Obj)} {σ : L2.St} {H : Hp} {s : Shared}
theorem keys_read {h : Heap} {prog : Program} {w : World} : ∀ {es : List DictEntry} {vs : List (Key × Value)}, Pairs (mixKind prog w) es vs → ReadsAll h (es.map (·.key)) (vs.map fun p => pk p.1) [] ∧ es.map (·.val) = vs.map (·.2)
  | _, _, .nil => ⟨.nil, rfl⟩
  | _, _, .cons (e := e) (kv := kv) h1 h2 t => by
    obtain ⟨q1, q2⟩ := keys_read t
    refine ⟨?_, by simp [h2, q2]⟩
    have r : Reads h e.key (pk kv.1) [] := by
      rcases keyIs_shape h1 with ⟨i, t, a, b⟩ | ⟨x, t, a, b⟩ <;> rw [a, b]
      · exact .int i t
      · exact .str x t
    exact .cons (as := []) (bs := []) r q1
theorem kv_split : ∀ {kvs : List (Key × V)} {vs : List (Key × Value)}, KV kvs vs → Vals (kvs.map (·.2)) (vs.map (·.2)) ∧ vs.map (·.1) = kvs.map (·.1)
  | _, _, .nil => ⟨.nil, rfl⟩
  | _, _, .cons a t => by
    obtain ⟨h1, h2⟩ := kv_split t
    exact ⟨.cons a.2 h1, by simp [a.1, h2]⟩
/-- the value u reads as d, and its repr is found at whatever depth it stands -/
def Rp1 (P : Program) (w : World) (h : Heap) (u : Value) (d : PyData) : Prop :=
  (∃ as, Reads h u d as) ∧ ∃ bs, ReadAtMost h d.depth bs ∧ ReprK P w bs h d.depth u d.shown
def RpA (P : Program) (w : World) (h : Heap) (us : List Value) (ds : List PyData) : Prop :=
  (∃ as, ReadsAll h us ds as) ∧ ∃ bs, ReadAtMost h (PyData.depthAll ds) bs ∧ ReprAllK P w bs h (PyData.depthAll ds) us (PyData.shownAll ds)
theorem depth_list (xs : List PyData) : (PyData.list xs).depth = PyData.depthAll xs + 1 := by simp only [PyData.depth]
theorem depth_tuple (xs : List PyData) : (PyData.tuple xs).depth = PyData.depthAll xs + 1 := by simp only [PyData.depth]
theorem depth_dict (xs : List (PyData × PyData)) : (PyData.dict xs).depth = PyData.depthKv xs + 1 := by simp only [PyData.depth]
theorem rp1_more {P : Program} {w : World} {h : Heap} {a : Addr} {d : PyData} {n : Nat} {bs : List Addr} (hd : d.depth = n + 1) (r : ∃ as, Reads h (.ref a) d as) (hb : ReadAtMost h n bs) : a ∉ bs ∧ ReadAtMost h d.depth (a :: bs) := by
  obtain ⟨as, r⟩ := r
  exact ⟨not_mem_of_deeper r (by omega) hb, ReadAtMost.cons r (by omega) hb⟩
/-- repr of it, called -/
def TpR (P : Program) (w : World) (s : Shared) (a : Addr) (d : PyData) : Prop := d.shown.length ≤ sizeLine → ∀ (A : Around) (E Q : Value → Shared → Prop), A.guards = some [] → A.units + d.depth + 1 < cLine →
  (∀ h' u tk, (∀ b o, s.heap.get? b = some o → h'.get? b = some o) → Q (.str d.shown u) { s with heap := h', toks := tk }) → wpAny (model P w) A (call (.builtin "repr") [.ref a]) Q E s
theorem rpA_list {P : Program} {w : World} {a : Addr} {o : Obj} {its : Array Value} {n : Nat} {ds : List PyData} (ho : s.heap.get? a = some o) (hc : o.cls = .type "list") (hd : o.data = .seq its n) (r : RpA P w s.heap its.toList ds) : Rp1 P w s.heap (.ref a) (.list ds) ∧ TpR P w s a (.list ds) := by
  obtain ⟨⟨as, r⟩, bs, hb, k⟩ := r
  have rr : ∃ as, Reads s.heap (.ref a) (.list ds) as := ⟨_, .list ho hc hd r⟩
  have m := rp1_more (P := P) (w := w) (depth_list ds) rr hb
  have eq1 : (PyData.list ds).shown = listText (PyData.shownAll ds) := by simp only [PyData.shown]
  unfold TpR
  refine ⟨⟨rr, a :: bs, m.2, ?_⟩, fun z A E Q hg hu hq => ?_⟩
  · rw [depth_list, eq1]
    obtain ⟨l⟩ := its
    cases l with
    | nil =>
      have kl := k.length_eq
      cases ds with
      | nil => rw [show PyData.shownAll [] = [] by simp only [PyData.shownAll], listText_nil]; exact ReprK.listEmpty ho hc hd
      | cons d ds => simp [PyData.shownAll] at kl
    | cons x l => exact ReprK.list ho hc hd m.1 (by simpa using k.length_eq) fun i y e => k.item i y (by simpa using e)
  · rw [depth_list] at hu
    rw [eq1] at hq z
    refine call_repr_slot (by omega) ⟨o, ho, hc⟩ F.slot_list_repr.toG ?_
    obtain ⟨l⟩ := its
    cases l with
    | nil =>
      have kl := k.length_eq
      cases ds with
      | nil =>
        rw [show PyData.shownAll [] = [] by simp only [PyData.shownAll], listText_nil] at hq
        exact call_list_repr_empty ⟨o, ho, hc⟩ ho hd ⟨_, _, rfl, hq s.heap _ _ fun _ _ e => e⟩
      | cons d ds => simp [PyData.shownAll] at kl
    | cons x l => exact call_list_reprK ho hc hd m.1 (by simpa using k.length_eq) (fun i y e => k.item i y (by simpa using e)) hg (fun b _ => Clear.nil b) (by show A.units + 1 + _ < cLine; omega) (fun _ _ e => e) (fun h' u tk kp => ⟨_, _, rfl, hq h' u tk kp⟩) z
theorem rpA_tup {P : Program} {w : World} {a : Addr} {o : Obj} {its : Array Value} {n : Nat} {ds : List PyData} (ho : s.heap.get? a = some o) (hc : o.cls = .type "tuple") (hd : o.data = .seq its n) (r : RpA P w s.heap its.toList ds) : Rp1 P w s.heap (.ref a) (.tuple ds) ∧ TpR P w s a (.tuple ds) := by
  obtain ⟨⟨as, r⟩, bs, hb, k⟩ := r
  have rr : ∃ as, Reads s.heap (.ref a) (.tuple ds) as := ⟨_, .tuple ho hc hd r⟩
  have m := rp1_more (P := P) (w := w) (depth_tuple ds) rr hb
  have eq1 : (PyData.tuple ds).shown = tupleText (PyData.shownAll ds) := by simp only [PyData.shown]
  unfold TpR
  refine ⟨⟨rr, a :: bs, m.2, ?_⟩, fun z A E Q hg hu hq => ?_⟩
  · rw [depth_tuple, eq1]
    exact ReprK.tuple ho hc hd m.1 k
  · rw [depth_tuple] at hu
    rw [eq1] at hq z
    exact call_repr_slot (by omega) ⟨o, ho, hc⟩ F.slot_tuple_repr (call_tuple_reprK ho hc hd m.1 k hg (fun b _ => Clear.nil b) (by show A.units + 1 + _ < cLine; omega) (fun _ _ e => e) (fun h' u tk kp => ⟨_, _, rfl, hq h' u tk kp⟩) z)
theorem rpA_dict {P : Program} {w : World} {a : Addr} {o : Obj} {es : Array DictEntry} {n : Nat} {kvs : List (PyData × PyData)} (ho : s.heap.get? a = some o) (hc : o.cls = .type "dict") (hd : o.data = .dict es n) (hs : (a == sysModules) = false)
    (r1 : RpA P w s.heap (es.toList.map (·.key)) (kvs.map (·.1))) (r2 : RpA P w s.heap (es.toList.map (·.val)) (kvs.map (·.2))) : Rp1 P w s.heap (.ref a) (.dict kvs) ∧ TpR P w s a (.dict kvs) := by
  obtain ⟨⟨as1, q1⟩, b1, m1, k1⟩ := r1
  obtain ⟨⟨as2, q2⟩, b2, m2, k2⟩ := r2
  have rr : ∃ as, Reads s.heap (.ref a) (.dict kvs) as := ⟨_, .dict ho hc hd q1 q2⟩
  have l1 := PyData.depthAll_keys_le kvs
  have l2 := PyData.depthAll_vals_le kvs
  have m := rp1_more (P := P) (w := w) (depth_dict kvs) rr ((m1.mono l1).append (m2.mono l2))
  have eq1 : (PyData.dict kvs).shown = dictText (List.zipWith (fun k v : Str => k ++ ": " ++ v) (PyData.shownAll (kvs.map (·.1))) (PyData.shownAll (kvs.map (·.2)))) := by simp only [PyData.shown, PyData.shownKv_eq]
  have kk := ReprEntriesK.of_two es.toList _ _ (k1.more_le (fun b h => List.mem_append_left b2 h) l1) (k2.more_le (fun b h => List.mem_append_right b1 h) l2)
  unfold TpR
  refine ⟨⟨rr, a :: (b1 ++ b2), m.2, ?_⟩, fun z A E Q hg hu hq => ?_⟩
  · rw [depth_dict, eq1]
    exact ReprK.dict ho hc hd hs m.1 kk
  · rw [depth_dict] at hu
    rw [eq1] at hq z
    exact call_repr_slot (by omega) ⟨o, ho, hc⟩ F.slot_dict_repr (call_dict_reprK ho hc hd hs m.1 kk hg (fun b _ => Clear.nil b) (by show A.units + 1 + _ < cLine; omega) (fun _ _ e => e) (fun h' u tk kp => ⟨_, _, rfl, hq h' u tk kp⟩) z)
theorem small_parts (ds : List PyData) : (∀ x ∈ PyData.shownAll ds, x.length ≤ (PyData.list ds).shown.length) ∧ (∀ x ∈ PyData.shownAll ds, x.length ≤ (PyData.tuple ds).shown.length) := by
  constructor
  · intro x m
    rw [show (PyData.list ds).shown = listText (PyData.shownAll ds) by simp only [PyData.shown]]
    exact listText_mem_le m
  · intro x m
    rw [show (PyData.tuple ds).shown = tupleText (PyData.shownAll ds) by simp only [PyData.shown]]
    exact tupleText_mem_le m
theorem small_kv (kvs : List (PyData × PyData)) : (∀ x ∈ PyData.shownAll (kvs.map (·.1)), x.length ≤ (PyData.dict kvs).shown.length) ∧ (∀ x ∈ PyData.shownAll (kvs.map (·.2)), x.length ≤ (PyData.dict kvs).shown.length) := by
  rw [show (PyData.dict kvs).shown = dictText (PyData.shownKv kvs) by simp only [PyData.shown]]
  constructor
  · intro x m
    obtain ⟨p, hp, l⟩ := PyData.shownKv_key_le kvs x m
    exact Nat.le_trans l (dictText_mem_le hp)
  · intro x m
    obtain ⟨p, hp, l⟩ := PyData.shownKv_val_le kvs x m
    exact Nat.le_trans l (dictText_mem_le hp)
theorem rp1_of {P : Program} {w : World} {h : Heap} {u : Value} {d : PyData} {as : List Addr} (r : Reads h u d as) (hs : d.showable = true) (hn : d.hasDict = false) (hz : d.shown.length ≤ sizeLine) : Rp1 P w h u d :=
  ⟨⟨_, r⟩, ReprK.of_reads r hs (PyData.noDict_hsm hn) hz⟩
theorem noDict_pk : ∀ ks : List Key, PyData.hasDictAll (ks.map pk) = false
  | [] => rfl
  | .inl i :: ks => by simp only [List.map_cons, PyData.hasDictAll, pk, PyData.hasDict, noDict_pk ks, Bool.or_self]
  | .inr x :: ks => by simp only [List.map_cons, PyData.hasDictAll, pk, PyData.hasDict, noDict_pk ks, Bool.or_self]
theorem dq_dict {kvs : List (Key × V)} {ds : List PyData} (hl : kvs.length = ds.length) : ((kvs.map fun p => pk p.1).zip ds).map (·.1) = (kvs.map fun p => pk p.1) ∧ ((kvs.map fun p => pk p.1).zip ds).map (·.2) = ds :=
  ⟨List.map_fst_zip (by simp; omega), List.map_snd_zip (by simp; omega)⟩
theorem one_ref {P : Program} {w : World} {a : Addr} {d : PyData} (h : Rp1 P w s.heap (.ref a) d ∧ TpR P w s a d) : Rp1 P w s.heap (.ref a) d ∧ ∀ b, Value.ref a = .ref b → TpR P w s b d := ⟨h.1, fun b e => by cases e; exact h.2⟩
theorem rpA_nil {P : Program} {w : World} {h : Heap} : RpA P w h [] [] := by
  refine ⟨⟨_, .nil⟩, [], ?_, ?_⟩
  · intro b m; cases m
  · rw [show PyData.shownAll [] = [] by simp only [PyData.shownAll]]; exact .nil
mutual
theorem Dq.rep (I : Inv X pins σ H s) : ∀ {v : V} {d : PyData} {u : Value}, Dq X.K H v d → RelV v u → d.showable = true → d.shown.length ≤ sizeLine → Rp1 X.prog X.w s.heap u d ∧ ∀ a, u = .ref a → TpR X.prog X.w s a d
  | _, _, _, .non, r, h1, h2 => by cases r; exact ⟨rp1_of .none h1 (by simp only [PyData.hasDict]) h2, fun a e => nomatch e⟩
  | _, _, _, .bl b, r, h1, h2 => by cases r; exact ⟨rp1_of (.bool b) h1 (by simp only [PyData.hasDict]) h2, fun a e => nomatch e⟩
  | _, _, _, .int i, r, h1, h2 => by obtain ⟨t, rfl⟩ := r; exact ⟨rp1_of (.int i t) h1 (by simp only [PyData.hasDict]) h2, fun a e => nomatch e⟩
  | _, _, _, .str x, r, h1, h2 => by obtain ⟨t, rfl⟩ := r; exact ⟨rp1_of (.str x t) h1 (by simp only [PyData.hasDict]) h2, fun a e => nomatch e⟩
  | _, _, _, .lst h l, r, h1, h2 => by
    cases r
    obtain ⟨its, rv, ⟨o, n, ho, hc, _, hd⟩, _⟩ := I.list (.inl h)
    exact one_ref <| rpA_list ho hc hd (DqAll.rep I l rv (by simpa [PyData.showable] using h1) fun x m => Nat.le_trans ((small_parts _).1 x m) h2)
  | _, _, _, .tup h l, r, h1, h2 => by
    cases r
    obtain ⟨its, rv, ⟨o, ho, hc, n, hd⟩, _⟩ := I.tuple h
    exact one_ref <| rpA_tup ho hc hd (DqAll.rep I l rv (by simpa [PyData.showable] using h1) fun x m => Nat.le_trans ((small_parts _).2 x m) h2)
  | _, _, _, .dicE h, r, h1, h2 => by
    cases r
    obtain ⟨_, sy, ks, pr, o, es, ep, ho, hx, hd, he, _⟩ := (show ObjOk X.prog X.w H s.heap _ (.dT []) from h.ok I.hok)
    cases pr
    have e0 : es.toList = [] := he
    refine one_ref <| rpA_dict ho hx.1 hd sy ?_ ?_ <;> rw [e0] <;> exact rpA_nil
  | _, _, _, .dic (kvs := kvs) (ds := ds) h l, r, h1, h2 => by
    cases r
    obtain ⟨_, sy, vs, kv, o, es, ep, ho, hx, hd, _, pr, _⟩ := h.ok I.hok
    obtain ⟨k1, k2⟩ := keys_read (h := s.heap) pr
    have hv := kv_split kv
    have e3 : (vs.map fun p => pk p.1) = kvs.map fun p => pk p.1 := by
      have := congrArg (List.map pk) hv.2
      simpa [List.map_map, Function.comp_def] using this
    obtain ⟨f1, f2⟩ := dq_dict (kvs := kvs) (ds := ds) (by have := l.length; simpa using this)
    obtain ⟨s1, s2⟩ := PyData.showableKv_split _ (show PyData.showableKv ((kvs.map fun p => pk p.1).zip ds) = true by simpa [PyData.showable] using h1)
    obtain ⟨z1, z2⟩ := small_kv ((kvs.map fun p => pk p.1).zip ds)
    rw [f1] at s1 z1
    rw [f2] at s2 z2
    refine one_ref <| rpA_dict ho hx.1 hd sy ?_ ?_
    · rw [f1, ← e3]
      rw [← e3] at s1 z1
      refine ⟨⟨_, k1⟩, ReprAllK.of_readsAll k1 s1 (fun q => ?_) fun x m => Nat.le_trans (z1 x m) (by rw [e3]; exact h2)⟩
      rw [show (vs.map fun p => pk p.1) = (vs.map (·.1)).map pk by rw [List.map_map]; rfl, noDict_pk] at q
      cases q
    · rw [f2, k2]
      exact DqAll.rep I l hv.1 s2 fun x m => Nat.le_trans (z2 x m) h2
theorem DqAll.rep (I : Inv X pins σ H s) : ∀ {vs : List V} {ds : List PyData} {us : List Value}, DqAll X.K H vs ds → Vals vs us → PyData.showableAll ds = true → (∀ x ∈ PyData.shownAll ds, x.length ≤ sizeLine) → RpA X.prog X.w s.heap us ds
  | _, _, _, .nil, r, _, _ => by cases r; exact rpA_nil
  | _, _, _, .cons (d := d) (ds := ds) h t, r, h1, h2 => by
    cases r with
    | cons r1 r2 =>
      simp only [PyData.showableAll, Bool.and_eq_true] at h1
      simp only [PyData.shownAll, List.mem_cons, forall_eq_or_imp] at h2
      obtain ⟨⟨as, q1⟩, b1, m1, k1⟩ := (Dq.rep I h r1 h1.1 h2.1).1
      obtain ⟨⟨bs, q2⟩, b2, m2, k2⟩ := DqAll.rep I t r2 h1.2 h2.2
      have ea : PyData.depthAll (d :: ds) = max d.depth (PyData.depthAll ds) := by simp only [PyData.depthAll]
      have es : PyData.shownAll (d :: ds) = d.shown :: PyData.shownAll ds := by simp only [PyData.shownAll]
      refine ⟨⟨_, .cons q1 q2⟩, b1 ++ b2, ?_, ?_⟩
      · rw [ea]; exact (m1.mono (Nat.le_max_left _ _)).append (m2.mono (Nat.le_max_right _ _))
      · rw [ea, es]
        exact .cons ((k1.more fun b h => List.mem_append_left _ h).level_le (Nat.le_max_left _ _)) (k2.more_le (fun b h => List.mem_append_right _ h) (Nat.le_max_right _ _))
end
end
def rReprQ (K : PySem.W.Frag) : List V → Hp → VK → Prop := fun vs H Q => ∃ v d, vs = [v] ∧ Dq K H v d ∧ d.showable = true ∧ d.depth ≤ 60 ∧ d.shown.length ≤ 100000 ∧ Q (.str d.shown) H
theorem c_repr {K : PySem.W.Frag} {Y : Cx} (hK : Y.K = K) (hg : Y.A.guards = some []) (hu : Y.A.units + 80 < cLine) : CallR Y (.builtin "repr") (rReprQ K) := by
  subst hK
  intro pins s σ H vs us Q I r h
  obtain ⟨v, d, rfl, hd, h1, h2, h3, q⟩ := h
  obtain ⟨u, rfl, rx⟩ := r.one
  have z := small_line h3
  have atom : ∀ (x : Str), Q (.str x) H → ∃ v' H', Inv Y pins σ H' { s with toks := s.toks + 1 } ∧ RelV v' (.str x s.toks) ∧ Q v' H' := fun x q => ⟨.str x, H, I.tok _, ⟨_, rfl⟩, q⟩
  have ref : ∀ {a : Addr}, Dq Y.K H (.ref a) d → wpAny (model Y.prog Y.w) Y.A (call (.builtin "repr") [.ref a]) (fun v s' => ∃ v' H', Inv Y pins σ H' s' ∧ RelV v' v ∧ Q v' H') Y.xe s := fun {a} hd =>
    (Dq.rep I hd (u := .ref a) rfl h1 z).2 a rfl z Y.A Y.xe _ hg (by omega) fun h' u tk kp => ⟨.str _, H, I.kept (t' := tk) kp, ⟨_, rfl⟩, q⟩
  cases hd with
  | non => cases rx; exact PySem.P.repr_of_none (atom _ (by simpa only [PyData.shown] using q))
  | bl b => cases rx; exact PySem.P.repr_of_bool (atom _ (by simpa only [PyData.shown] using q))
  | int i => obtain ⟨t, rfl⟩ := rx; exact PySem.P.repr_of_int (by simpa [PyData.showable] using h1) (atom _ (by simpa only [PyData.shown] using q))
  | str x => obtain ⟨t, rfl⟩ := rx; exact PySem.P.repr_of_str (atom _ (by simpa only [PyData.shown] using q)) (by simpa only [PyData.shown] using z)
  | lst h l => cases rx; exact ref (.lst h l)
  | tup h l => cases rx; exact ref (.tup h l)
  | dicE h => cases rx; exact ref (.dicE h)
  | dic h l => cases rx; exact ref (.dic h l)
end T
namespace T
open PySem PySem.Spec PyProof.Rows L2
/-! ### repr of data -/
def keyB : D → Bool
  | .int _ => true
  | .str _ => true
  | _ => false
def kpd : D → PyData
  | .int i => .int i
  | .str x => .str x
  | _ => .none
def loneN : List D → Bool
  | [.non] => true
  | _ => false
mutual
/-- no object, no script within; each dict with int or text keys, or empty -/
def goodR : D → Bool
  | .scr _ => false
  | .obj _ _ _ _ => false
  | .tup xs => goodL xs
  | .lst _ xs => goodL xs
  | .dic _ ks vs => loneN ks || (ks.all keyB && goodL vs)
  | _ => true
def goodL : List D → Bool
  | [] => true
  | x :: xs => goodR x && goodL xs
end
mutual
def pd : D → PyData
  | .non => .none
  | .bl b => .bool b
  | .int i => .int i
  | .str x => .str x
  | .tup xs => .tuple (pdL xs)
  | .lst _ xs => .list (pdL xs)
  | .dic _ ks vs => .dict (if loneN ks = true then [] else (ks.map kpd).zip (pdL vs))
  | _ => .none
def pdL : List D → List PyData
  | [] => []
  | x :: xs => pd x :: pdL xs
end
section
variable {K : PySem.W.Frag} {H : Hp} {S : Addr → Prop}
theorem pdL_len : ∀ ds : List D, (pdL ds).length = ds.length
  | [] => rfl
  | _ :: ds => by simp [pdL, pdL_len ds]
mutual
theorem vw_dq : ∀ {d : D} {v : V}, Vw K H S d v → goodR d = true → Dq K H v (pd d)
  | _, _, .non, _ => .non
  | _, _, .bl b, _ => .bl b
  | _, _, .int i, _ => .int i
  | _, _, .str x, _ => .str x
  | _, _, .scr _, h => by simp [goodR] at h
  | _, _, .tup q l, h => .tup q (vwl_dq l (by simpa [goodR] using h))
  | _, _, .lst q _ l, h => .lst (.inl q) (vwl_dq l (by simpa [goodR] using h))
  | _, _, .dic (u := u) (vs := vs) (ks := ks) (ds := ds) q _ t l, h => by
    have hl := vwl_dq l
    show Dq K H _ (.dict (if loneN ks = true then [] else (ks.map kpd).zip (pdL ds)))
    by_cases c : loneN ks = true
    · rw [if_pos c]
      rcases t with ⟨kvs, rfl, e, _⟩ | ⟨kvs, rfl, e, _⟩
      · unfold loneN at c
        split at c
        case h_2 => cases c
        cases kvs with
        | nil => cases e
        | cons p r =>
          rw [List.map_cons] at e
          injection e with e _
          cases hp : p.1 <;> rw [hp] at e <;> cases e
      · unfold loneN at c
        split at c
        case h_2 => cases c
        injection e with _ e
        cases kvs with
        | nil => exact .dicE q
        | cons p r => cases e
    · rw [if_neg c]
      have h' : ks.all keyB = true ∧ goodL ds = true := by
        have := h
        simp only [goodR, Bool.or_eq_true, Bool.and_eq_true] at this
        rcases this with z | z
        · exact absurd z c
        · exact z
      rcases t with ⟨kvs, rfl, e, ev⟩ | ⟨kvs, rfl, e, _⟩
      · have ek : ks.map kpd = kvs.map fun p => pk p.1 := by
          rw [← e, List.map_map]
          refine List.map_congr_left fun p _ => ?_
          cases hp : p.1 <;> simp [Function.comp, hp, dKey, kpd, pk]
        rw [ek]
        refine .dic q ?_
        rw [ev]
        exact hl h'.2
      · rw [← e] at h'
        simp [keyB] at h'
  | _, _, .obj _ _ _, h => by simp [goodR] at h
theorem vwl_dq : ∀ {ds : List D} {vs : List V}, VwL K H S ds vs → goodL ds = true → DqAll K H vs (pdL ds)
  | _, _, .nil, _ => .nil
  | _, _, .cons q t, h => by
    simp only [goodL, Bool.and_eq_true] at h
    exact .cons (vw_dq q h.1) (vwl_dq t h.2)
end
end
def okQ (d : D) : Bool := goodR d && (pd d).showable && decide ((pd d).depth ≤ 60) && decide ((pd d).shown.length ≤ 100000)
def rpS (d : D) : Str := (pd d).shown
@[simp] def reprD : List D → (D → Prop) → Prop := fun ds P => match ds with
  | [d] => okQ d = true ∧ P (.str (rpS d))
  | _ => False
theorem ok_repr {K : PySem.W.Frag} : CallOk K (rReprQ K) reprD := by
  intro H S xs vs P Q hv h q
  unfold reprD at h
  split at h
  case h_2 => exact h.elim
  obtain ⟨v, rfl, h1⟩ := vwl1 hv
  obtain ⟨c, p⟩ := h
  unfold okQ at c
  simp only [Bool.and_eq_true, decide_eq_true_eq] at c
  exact ⟨v, _, rfl, vw_dq h1 c.1.1.1, c.1.1.2, c.1.2, c.2, q _ _ H p (Same.refl H) (.str _)⟩
/-! ### dict(pairs) -/
def pairsOf : List D → Option (List (Key × D))
  | [] => some []
  | .tup [.int i, d] :: r => (pairsOf r).map (((.inl i : Key), d) :: ·)
  | .tup [.str x, d] :: r => (pairsOf r).map (((.inr x : Key), d) :: ·)
  | _ :: _ => none
def rDicP (K : PySem.W.Frag) : List V → Hp → VK → Prop := fun xs H Q => ∃ (a : Addr) (ps : List Addr) (kvs : List (Key × V)), xs = [.ref a] ∧ SqL K H a (ps.map V.ref) ∧ Paired (fun p kv => SqT K H p [L2.kV kv.1, kv.2]) ps kvs ∧ ∀ p, H p = none → Q (.ref p) (upd H p (.dK (mergeK [] kvs)))
theorem c_dicP {K : PySem.W.Frag} {Y : Cx} (hK : Y.K = K) (hc : Y.calm = true) : CallR Y (.type "dict") (rDicP K) := by
  subst hK
  exact call_dictP hc
@[simp] def dictD : List D → (D → Prop) → Prop := fun ds P => match ds with
  | [.lst _ xs] => ∃ kvs, pairsOf xs = some kvs ∧ (kvs.map (·.1)).Nodup ∧ P (.dic false (kvs.map fun p => dKey p.1) (kvs.map (·.2)))
  | _ => False
theorem pairs_vw {K : PySem.W.Frag} {H : Hp} {S : Addr → Prop} : ∀ {xs : List D} {vs : List V} {kvs : List (Key × D)}, VwL K H S xs vs → pairsOf xs = some kvs →
    ∃ (ps : List Addr) (kws : List (Key × V)), vs = ps.map V.ref ∧ Paired (fun p kv => SqT K H p [L2.kV kv.1, kv.2]) ps kws ∧ kws.map (·.1) = kvs.map (·.1) ∧ VwL K H S (kvs.map (·.2)) (kws.map (·.2))
  | [], _, _, .nil, e => by cases e; exact ⟨[], [], rfl, .nil, rfl, .nil⟩
  | x :: xs, _, kvs, .cons h t, e => by
    unfold pairsOf at e
    split at e
    · rename_i e'; cases e'
    · rename_i i d r e'
      cases e'
      cases hr : pairsOf xs with
      | none => rw [hr] at e; cases e
      | some kvr =>
        rw [hr] at e
        cases e
        obtain ⟨ps, kws, rfl, pr, ek, vw⟩ := pairs_vw t hr
        cases h with
        | tup sq l =>
          cases l with
          | cons h1 l =>
            cases l with
            | cons h2 l =>
              cases l
              cases h1
              exact ⟨_ :: ps, ((.inl i : Key), _) :: kws, rfl, .cons sq pr, by simp [ek], .cons h2 vw⟩
    · rename_i i d r e'
      cases e'
      cases hr : pairsOf xs with
      | none => rw [hr] at e; cases e
      | some kvr =>
        rw [hr] at e
        cases e
        obtain ⟨ps, kws, rfl, pr, ek, vw⟩ := pairs_vw t hr
        cases h with
        | tup sq l =>
          cases l with
          | cons h1 l =>
            cases l with
            | cons h2 l =>
              cases l
              cases h1
              exact ⟨_ :: ps, ((.inr i : Key), _) :: kws, rfl, .cons sq pr, by simp [ek], .cons h2 vw⟩
    · cases e
theorem merge_nodup : ∀ (more acc : List (Key × V)), ((acc ++ more).map (·.1)).Nodup → mergeK acc more = acc ++ more
  | [], acc, _ => by simp [mergeK]
  | p :: more, acc, h => by
    have h0 : putK acc p.1 p.2 = acc ++ [p] := by
      unfold putK
      rw [if_neg]
      intro c
      obtain ⟨q, m, e⟩ := List.any_eq_true.mp c
      rw [List.map_append, List.map_cons] at h
      exact (List.nodup_append.mp h).2.2 q.1 (List.mem_map_of_mem m) p.1 (by simp) (of_decide_eq_true e)
    have ih := merge_nodup more (acc ++ [p]) (by simpa [List.append_assoc] using h)
    show mergeK (putK acc p.1 p.2) more = _
    rw [h0, ih]
    simp [List.append_assoc]
theorem ok_dictP {K : PySem.W.Frag} : CallOk K (rDicP K) dictD := by
  intro H S xs vs P Q hv h q
  unfold dictD at h
  split at h
  case h_2 => exact h.elim
  obtain ⟨v, rfl, h1⟩ := vwl1 hv
  obtain ⟨kvs, hp, nd, p⟩ := h
  cases h1 with
  | lst rd sa l =>
    obtain ⟨ps, kws, rfl, pr, ek, vw⟩ := pairs_vw l hp
    refine ⟨_, ps, kws, rfl, .inl (Or.inl rd), pr, fun a ha => ?_⟩
    rw [merge_nodup kws [] (by simpa [ek] using nd), List.nil_append]
    have e2 : (kvs.map fun p => dKey p.1) = kws.map fun p => dKey p.1 := by
      have := congrArg (List.map dKey) ek
      simpa [List.map_map, Function.comp_def] using this.symm
    have sm := same_new (o := .dK kws) ha
    refine q _ _ _ p sm (.dic (.inl upd_same) (.inr ha) (.inl ⟨kws, rfl, ?_, rfl⟩) (vw.same sm gr_of))
    rw [e2]
/-! ### {} as it is read -/
section
variable {ι : Type} {X : ι → Cx} {K : PySem.W.Frag} {W : WX} {pn : List Nat}
@[simp] def rDNew : WR := fun _ P => P (.dic false [] [])
theorem r_dnew {pos : Pos} : SndR X K (.Dict [] [] pos) rDNew := by
  refine ⟨tDNewK, fun j => pe_dnewK, fun G σ H S P Q g w q => fun a ha => ?_⟩
  exact q _ _ _ w (same_new ha) (.dic (.inl upd_same) (.inr ha) (.inl ⟨[], rfl, rfl, rfl⟩) .nil)
/-! ### xs[::-1], list(range(a, b)) -/
@[simp] def fRev (r : WR) : WA := fun G P => r G fun x => match x with | .lst _ xs => P xs.reverse | _ => False
theorem vwl_rev {H : Hp} {S : Addr → Prop} {ds : List D} {vs : List V} (h : VwL K H S ds vs) : VwL K H S ds.reverse vs.reverse := by
  have app : ∀ {ds es : List D} {vs us : List V}, VwL K H S ds vs → VwL K H S es us → VwL K H S (ds ++ es) (vs ++ us) := by
    intro ds es vs us h1 h2
    induction ds generalizing vs with
    | nil => cases h1; exact h2
    | cons d ds ih => cases h1 with | cons a b => exact .cons a (ih b)
  induction ds generalizing vs with
  | nil => cases h; exact .nil
  | cons d ds ih =>
    cases h with
    | cons a b =>
      rw [List.reverse_cons, List.reverse_cons]
      exact app (ih b) (.cons a .nil)
theorem f_rev {e : Expr} {k : Nat} {p1 p2 p3 pos : Pos} {ra : WR} (hK : ∀ j, (X j).K = K) (he : SndR X K e ra) : SndF X K (.Subscript e (.Slice none none (some (.UnaryOp .USub (.Constant (.int 1) k p1) p2)) p3) pos) (fRev ra) := by
  obtain ⟨ta, a1, a2⟩ := he
  refine ⟨tRevL K ta, fun j => hK j ▸ pe_revL (a1 j), fun G σ H S P Q g w q => ?_⟩
  refine a2 G σ H S _ _ g w fun d v H1 p s hv => ?_
  split at p
  case h_2 => exact p.elim
  cases hv with
  | lst rd sa hl => exact ⟨_, _, rfl, .inl (Or.inl rd), fun a ha => q _ _ a H1 p s ha (vwl_rev hl)⟩
@[simp] def fLRg2 (ra rb : WR) : WA := fun G P => ra G fun x => rb G fun y => match x, y with | .int i, .int j => ((0 ≤ i ∧ i ≤ 100000) ∧ (0 ≤ j ∧ j ≤ 100000)) ∧ P (rangeD i (j - i).toNat) | _, _ => False
theorem vwl_rg2 {H : Hp} {S : Addr → Prop} (i j : Int) : VwL K H S (rangeD i (j - i).toNat) (rgV i j) := vwl_rg i _
theorem f_lrg2 {a b : Expr} {ra rb : WR} {p pos p2 pos2 : Pos} (hc : ∀ j, (X j).calm = true) (hg : ∀ j, Gl (X j) "list") (hm : ∀ j, (X j).mg "list" = none) (hg2 : ∀ j, Gl (X j) "range") (hm2 : ∀ j, (X j).mg "range" = none) (ha : SndR X K a ra) (hb : SndR X K b rb)
    (na : ∀ j, starEach [a, b] (X j).env = (false, eval a (X j).env) :: starEach [b] (X j).env := by intro _; rfl) (nb : ∀ j, starEach [b] (X j).env = (false, eval b (X j).env) :: starEach [] (X j).env := by intro _; rfl) (hp : ∀ j, (backTo pos2 (starEach [b] (X j).env)).any (·.1) = false := by intro _; rfl)
    (na2 : ∀ j, starEach [Expr.Call (.Name "range" p2) [a, b] [] pos2] (X j).env = (false, eval (.Call (.Name "range" p2) [a, b] [] pos2) (X j).env) :: starEach [] (X j).env := by intro _; rfl) :
    SndF X K (.Call (.Name "list" p) [.Call (.Name "range" p2) [a, b] [] pos2] [] pos) (fLRg2 ra rb) := by
  obtain ⟨ta, a1, a2⟩ := ha
  obtain ⟨tb, b1, b2⟩ := hb
  refine ⟨tLstRg (tRg2 ta tb), fun j => pe_listRg (hc j) (hg j) (hm j) (prg_2 (hg2 j) (hm2 j) (a1 j) (b1 j) (na j) (nb j) (hp j)) (na2 j), fun G σ H S P Q g w q => ?_⟩
  refine a2 G σ H S _ _ g w fun x v H1 h1 s1 v1 => ?_
  refine b2 G σ H1 (gr S H) _ _ (g.same s1 gr_of) h1 fun y u H2 h2 s2 v2 => ?_
  split at h2
  case h_2 => exact h2.elim
  rename_i i j
  cases vw_int (v1.same (S' := gr S H) s2 fun _ z => z)
  cases vw_int v2
  obtain ⟨⟨b1, b2⟩, h2⟩ := h2
  exact ⟨i, j, rfl, rfl, ⟨by omega, by omega, by omega, by omega, by omega⟩, fun z hz => q _ _ z H2 h2 (s1.trans s2) hz (vwl_rg2 i j)⟩
@[simp] def eLRg2 (wa wb : WE) : WE := fun G P PX => wa G (fun x G1 => wb G1 (fun y G2 => match x, y with | .int i, .int j => ((0 ≤ i ∧ i ≤ 100000) ∧ (0 ≤ j ∧ j ≤ 100000)) ∧ P (.lst true (rangeD i (j - i).toNat)) G2 | _, _ => False) PX) PX
theorem frzL_rg (i : Int) (n : Nat) : frzL (rangeD i n) = rangeD i n := by
  rw [frzL_map]
  unfold rangeD
  rw [List.map_map]
  rfl
theorem e_lrg2 {a b : Expr} {wa wb : WE} {p pos p2 pos2 : Pos} (hc : ∀ j, (X j).calm = true) (hg : ∀ j, Gl (X j) "list") (hm : ∀ j, (X j).mg "list" = none) (hg2 : ∀ j, Gl (X j) "range") (hm2 : ∀ j, (X j).mg "range" = none) (ha : SndE X K W a wa) (hb : SndE X K W b wb)
    (na : ∀ j, starEach [a, b] (X j).env = (false, eval a (X j).env) :: starEach [b] (X j).env := by intro _; rfl) (nb : ∀ j, starEach [b] (X j).env = (false, eval b (X j).env) :: starEach [] (X j).env := by intro _; rfl) (hp : ∀ j, (backTo pos2 (starEach [b] (X j).env)).any (·.1) = false := by intro _; rfl)
    (na2 : ∀ j, starEach [Expr.Call (.Name "range" p2) [a, b] [] pos2] (X j).env = (false, eval (.Call (.Name "range" p2) [a, b] [] pos2) (X j).env) :: starEach [] (X j).env := by intro _; rfl) :
    SndE X K W (.Call (.Name "list" p) [.Call (.Name "range" p2) [a, b] [] pos2] [] pos) (eLRg2 wa wb) := by
  obtain ⟨ta, a1, a2⟩ := ha
  obtain ⟨tb, b1, b2⟩ := hb
  refine ⟨tLstRg (tRg2 ta tb), fun j => pe_listRg (hc j) (hg j) (hm j) (prg_2 (hg2 j) (hm2 j) (a1 j) (b1 j) (na j) (nb j) (hp j)) (na2 j), fun U0 G σ H Oo os P PX Q rep w ok2 okx => ?_⟩
  refine a2 U0 G σ H Oo os _ _ _ rep w (fun x G1 v H1 o1 os1 p1 s1 r1 x1 => ?_) okx
  refine b2 U0 G1 σ H1 (Oo ++ o1) os1 _ _ _ r1 p1 (fun y G2 u H2 o2 os2 p2 s2 r2 x2 => ?_) (okx.more s1)
  split at p2
  case h_2 => exact p2.elim
  rename_i i j
  obtain ⟨⟨c1, c2⟩, p2⟩ := p2
  cases x1
  cases x2
  have st : Stp H H2 os os2 := (s1.trans s2.wide).sub fun c m => List.mem_append_right _ (List.mem_append_right _ m)
  refine ⟨i, j, rfl, rfl, ⟨by omega, by omega, by omega, by omega, by omega⟩, fun z hz => ?_⟩
  have r3 : Rep K U0 G2 σ H2 Oo os2 := by simpa using r2
  exact (ok2.step st).viewF r3 (Same.refl H2) hz (vwl_rg2 i j) (by rw [frzL_rg]; exact p2)
end
/-! ### any list == [] -/
def rEqE (K : PySem.W.Frag) : R2 := fun x y H Q => rEqD K x y H Q ∨ (∃ a b xs, x = .ref a ∧ y = .ref b ∧ H a = some (.lst xs) ∧ H b = some (.lst []) ∧ Q (.bl xs.isEmpty) H) ∨ ∃ a b, x = .str a ∧ y = .str b ∧ Q (.bl (decide (a = b))) H
def rNeE (K : PySem.W.Frag) : R2 := fun x y H Q => rNeD K x y H Q ∨ (∃ a b xs, x = .ref a ∧ y = .ref b ∧ H a = some (.lst xs) ∧ H b = some (.lst []) ∧ Q (.bl (!xs.isEmpty)) H) ∨ ∃ a b, x = .str a ∧ y = .str b ∧ Q (.bl (!decide (a = b))) H
theorem lst_at {X : Cx} {pins : List (Addr × Obj)} {σ : L2.St} {H : Hp} {s : Shared} {a : Addr} {xs : List V} (I : Inv X pins σ H s) (h : H a = some (.lst xs)) : ∃ its : Array Value, s.heap.IsList a its ∧ its.size = xs.length := by
  obtain ⟨its, rv, ⟨o, n, ho, hc, _, hd⟩, _⟩ := I.list (.inl (.inl h))
  exact ⟨its.toArray, ⟨o, ho, hc, n, hd⟩, by rw [List.size_toArray, ← rv.length]⟩
theorem op_eqE {K : PySem.W.Frag} {Y : Cx} (hK : Y.K = K) (hu : Y.A.units + 64 < cLine) : OpR Y (compareOp .Eq) (rEqE K) := by
  subst hK
  intro pins s σ H x y v u Q I rx ry h
  rcases h with h | ⟨a, b, xs, rfl, rfl, ha, hb, q⟩ | ⟨a, b, rfl, rfl, q⟩
  · exact op_eqD hu pins s σ H x y v u Q I rx ry h
  · cases rx
    cases ry
    obtain ⟨ia, la, sa⟩ := lst_at I ha
    obtain ⟨ib, lb, sb⟩ := lst_at I hb
    cases xs with
    | nil => exact SeqAt.RcAt.lists (e := fun _ => true) la lb (by rw [sa, sb]) (by omega) (fun j h1 _ => absurd h1 (by rw [sa]; simp)) _ _ _ _ ⟨.bl true, H, I, by rw [show ia.size = 0 from sa]; rfl, q⟩
    | cons x xs => exact SeqAt.RcAt.lists_lengths la lb (by rw [sa, sb]; rfl) (by omega) _ _ _ _ ⟨.bl false, H, I, rfl, q⟩
  · exact op_eq pins s σ H _ _ v u Q I rx ry ⟨rfl, by simpa using q⟩
theorem op_neE {K : PySem.W.Frag} {Y : Cx} (hK : Y.K = K) (hu : Y.A.units + 64 < cLine) : OpR Y (compareOp .NotEq) (rNeE K) := by
  subst hK
  intro pins s σ H x y v u Q I rx ry h
  rcases h with h | ⟨a, b, xs, rfl, rfl, ha, hb, q⟩ | ⟨a, b, rfl, rfl, q⟩
  · exact op_neD hu pins s σ H x y v u Q I rx ry h
  · cases rx
    cases ry
    obtain ⟨ia, la, sa⟩ := lst_at I ha
    obtain ⟨ib, lb, sb⟩ := lst_at I hb
    cases xs with
    | nil => exact SeqAt.RcNeAt.lists (e := fun _ => true) la lb (by rw [sa, sb]) (by omega) (fun j h1 _ => absurd h1 (by rw [sa]; simp)) _ _ _ _ ⟨.bl false, H, I, by rw [show ia.size = 0 from sa]; rfl, q⟩
    | cons x xs => exact SeqAt.RcNeAt.lists_lengths la lb (by rw [sa, sb]; rfl) (by omega) _ _ _ _ ⟨.bl true, H, I, rfl, q⟩
  · exact op_ne pins s σ H _ _ v u Q I rx ry ⟨rfl, by simpa using q⟩
@[simp] def eqE : D → D → (D → Prop) → Prop := fun x y P => match x, y with
  | .lst _ xs, .lst _ [] => P (.bl xs.isEmpty)
  | .str a, .str b => P (.bl (decide (a = b)))
  | x, y => eqD x y P
@[simp] def neE : D → D → (D → Prop) → Prop := fun x y P => match x, y with
  | .lst _ xs, .lst _ [] => P (.bl (!xs.isEmpty))
  | .str a, .str b => P (.bl (!decide (a = b)))
  | x, y => neD x y P
theorem vwl_empty {K : PySem.W.Frag} {H : Hp} {S : Addr → Prop} {xs : List D} {vs : List V} (h : VwL K H S xs vs) : vs.isEmpty = xs.isEmpty := by cases h <;> rfl
theorem ok_eqE {K : PySem.W.Frag} : OpOk K (rEqE K) eqE := fun H S x y v u P Q hx hy h q => by
  unfold eqE at h
  split at h
  · cases hx with
    | lst r1 _ l1 =>
      cases hy with
      | lst r2 _ l2 =>
        cases l2
        exact .inr (.inl ⟨_, _, _, rfl, rfl, r1, r2, by rw [vwl_empty l1]; exact q _ _ H h (Same.refl H) (.bl _)⟩)
  · cases hx
    cases hy
    exact .inr (.inr ⟨_, _, rfl, rfl, q _ _ H h (Same.refl H) (.bl _)⟩)
  · exact .inl (ok_eq H S _ _ v u P Q hx hy h q)
theorem ok_neE {K : PySem.W.Frag} : OpOk K (rNeE K) neE := fun H S x y v u P Q hx hy h q => by
  unfold neE at h
  split at h
  · cases hx with
    | lst r1 _ l1 =>
      cases hy with
      | lst r2 _ l2 =>
        cases l2
        exact .inr (.inl ⟨_, _, _, rfl, rfl, r1, r2, by rw [vwl_empty l1]; exact q _ _ H h (Same.refl H) (.bl _)⟩)
  · cases hx
    cases hy
    exact .inr (.inr ⟨_, _, rfl, rfl, q _ _ H h (Same.refl H) (.bl _)⟩)
  · exact .inl (ok_ne H S _ _ v u P Q hx hy h q)
end T
namespace T
open PySem PySem.Spec PyProof.Rows L2
/-! ### str(i), text.upper() -/
def rStrI : List V → Hp → VK → Prop := fun xs H Q => ∃ i, xs = [.int i] ∧ i.natAbs.log2 < 1920 ∧ Q (.str (toString i)) H
theorem c_strI {Y : Cx} : CallR Y (.type "str") rStrI := call_str_int
@[simp] def strD : List D → (D → Prop) → Prop := fun ds P => match ds with
  | [.int i] => i.natAbs.log2 < 1920 ∧ P (.str (toString i))
  | _ => False
theorem ok_strD {K : PySem.W.Frag} : CallOk K rStrI strD := by
  intro H S xs vs P Q hv h q
  unfold strD at h
  split at h
  case h_2 => exact h.elim
  obtain ⟨v, rfl, h1⟩ := vwl1 hv
  cases h1
  exact ⟨_, rfl, h.1, q _ _ H h.2 (Same.refl H) (.str _)⟩
section
variable {ι : Type} {X : ι → Cx} {K : PySem.W.Frag} {W : WX}
@[simp] def rUp (r : WR) : WR := fun G P => r G fun x => match x with | .str a => a.length ≤ 100000 ∧ P (.str (Txt.upper a)) | _ => False
theorem r_up {o : Expr} {r : WR} {apos pos : Pos} (ho : SndR X K o r) (hbase : ∀ j, attributeBase o "upper" (X j).env (eval o (X j).env) = eval o (X j).env := by intro _; rfl) (hline : (apos.endLine == pos.line) = true := by rfl) : SndR X K (.Call (.Attribute o "upper" apos) [] [] pos) (rUp r) := by
  obtain ⟨ta, a1, a2⟩ := ho
  refine ⟨_, fun j => pe_upper (a1 j) (hbase j) hline, fun G σ H S P Q g w q => ?_⟩
  refine a2 G σ H S _ _ g w fun x v H1 p s hv => ?_
  split at p
  case h_2 => exact p.elim
  cases hv
  exact ⟨⟨_, rfl⟩, _, rfl, rfl, Nat.le_trans p.1 (by decide), q _ _ H1 p.2 s (.str _)⟩
end
end T
namespace T
open PySem PySem.Spec PyProof.Rows L2
/-! ### what is computed: the readings once more, as functions -/
inductive Re (α : Type) where
  | ok (a : α) (G : T.Env) | ex (c : Nat) (G : T.Env) | no
inductive Ou where
  | nx (G : T.Env) | rt (d : D) (G : T.Env) | bk (G : T.Env) | ct (G : T.Env) | ex (c : Nat) (G : T.Env) | no
inductive Fr where
  | ret (d : D) (ms : List D) | ex (c : Nat) (ms : List D) | no
abbrev KR := T.Env → Option D
abbrev KT := T.Env → Option Bool
abbrev KA := T.Env → Option (List D)
abbrev KO := T.Env → Option (Option Int)
abbrev KE := T.Env → Re D
abbrev KB := T.Env → Re Bool
abbrev KL := T.Env → Re (List D)
abbrev KS := T.Env → Ou
abbrev KF := List D → Fr
abbrev KG := D → T.Env → Option T.Env
abbrev KGs := List D → T.Env → Option T.Env
abbrev K2 := D → D → Option D
section
variable {α β : Type}
def ob (x : Option α) (f : α → Option β) : Option β := match x with | some a => f a | none => none
def obr (x : Option α) (f : α → Re β) : Re β := match x with | some a => f a | none => .no
def rb (x : Re α) (f : α → T.Env → Re β) : Re β := match x with | .ok a G => f a G | .ex c G => .ex c G | .no => .no
def obs (x : Option α) (f : α → Ou) : Ou := match x with | some a => f a | none => .no
def rbs (x : Re α) (f : α → T.Env → Ou) : Ou := match x with | .ok a G => f a G | .ex c G => .ex c G | .no => .no
def ss (x : Ou) (f : T.Env → Ou) : Ou := match x with | .nx G => f G | .rt d G => .rt d G | .bk G => .bk G | .ct G => .ct G | .ex c G => .ex c G | .no => .no
@[simp] theorem ob_some (a : α) (f : α → Option β) : ob (some a) f = f a := rfl
@[simp] theorem ob_none (f : α → Option β) : ob none f = none := rfl
@[simp] theorem obr_some (a : α) (f : α → Re β) : obr (some a) f = f a := rfl
@[simp] theorem obr_none (f : α → Re β) : obr none f = .no := rfl
@[simp] theorem obs_some (a : α) (f : α → Ou) : obs (some a) f = f a := rfl
@[simp] theorem obs_none (f : α → Ou) : obs none f = .no := rfl
@[simp] theorem rb_ok (a : α) (G : T.Env) (f : α → T.Env → Re β) : rb (.ok a G) f = f a G := rfl
@[simp] theorem rb_ex (c : Nat) (G : T.Env) (f : α → T.Env → Re β) : rb (.ex c G) f = .ex c G := rfl
@[simp] theorem rb_no (f : α → T.Env → Re β) : rb .no f = .no := rfl
@[simp] theorem rbs_ok (a : α) (G : T.Env) (f : α → T.Env → Ou) : rbs (.ok a G) f = f a G := rfl
@[simp] theorem rbs_ex (c : Nat) (G : T.Env) (f : α → T.Env → Ou) : rbs (.ex c G) f = .ex c G := rfl
@[simp] theorem rbs_no (f : α → T.Env → Ou) : rbs .no f = .no := rfl
@[simp] theorem ss_nx (G : T.Env) (f : T.Env → Ou) : ss (.nx G) f = f G := rfl
@[simp] theorem ss_rt (d : D) (G : T.Env) (f : T.Env → Ou) : ss (.rt d G) f = .rt d G := rfl
@[simp] theorem ss_bk (G : T.Env) (f : T.Env → Ou) : ss (.bk G) f = .bk G := rfl
@[simp] theorem ss_ct (G : T.Env) (f : T.Env → Ou) : ss (.ct G) f = .ct G := rfl
@[simp] theorem ss_ex (c : Nat) (G : T.Env) (f : T.Env → Ou) : ss (.ex c G) f = .ex c G := rfl
@[simp] theorem ss_no (f : T.Env → Ou) : ss .no f = .no := rfl
theorem ob_eq {x : Option α} {f : α → Option β} {b : β} (h : ob x f = some b) : ∃ a, x = some a ∧ f a = some b := by
  cases x with
  | none => cases h
  | some a => exact ⟨a, rfl, h⟩
def Re.sat (x : Re α) (P : α → T.Env → Prop) (PX : Nat → T.Env → Prop) : Prop := match x with | .ok a G => P a G | .ex c G => PX c G | .no => False
theorem Re.sat.mono {x : Re α} {P Q : α → T.Env → Prop} {PX QX : Nat → T.Env → Prop} (h : x.sat P PX) (a : ∀ d G, P d G → Q d G) (b : ∀ c G, PX c G → QX c G) : x.sat Q QX := by
  cases x with
  | ok d G => exact a _ _ h
  | ex c G => exact b _ _ h
  | no => exact h
theorem sat_rb {x : Re α} {f : α → T.Env → Re β} {P : β → T.Env → Prop} {PX : Nat → T.Env → Prop} (h : (rb x f).sat P PX) : x.sat (fun a G => (f a G).sat P PX) PX := by
  cases x with
  | ok d G => exact h
  | ex c G => exact h
  | no => exact h
theorem sat_obr {x : Option α} {f : α → Re β} {P : β → T.Env → Prop} {PX : Nat → T.Env → Prop} (h : (obr x f).sat P PX) : ∃ a, x = some a ∧ (f a).sat P PX := by
  cases x with
  | none => exact h.elim
  | some a => exact ⟨a, rfl, h⟩
def Ou.sat (x : Ou) (E : En) : Prop := match x with | .nx G => E.nx G | .rt d G => E.rt d G | .bk G => E.bk G | .ct G => E.ct G | .ex c G => E.ex c G | .no => False
theorem Ou.sat.mono {x : Ou} {E E' : En} (h : x.sat E) (h1 : ∀ G, E.nx G → E'.nx G) (h2 : ∀ d G, E.rt d G → E'.rt d G) (h3 : ∀ G, E.bk G → E'.bk G) (h4 : ∀ G, E.ct G → E'.ct G) (h5 : ∀ c G, E.ex c G → E'.ex c G) : x.sat E' := by
  cases x with
  | nx G => exact h1 _ h
  | rt d G => exact h2 _ _ h
  | bk G => exact h3 _ h
  | ct G => exact h4 _ h
  | ex c G => exact h5 _ _ h
  | no => exact h
theorem sat_rbs {x : Re α} {f : α → T.Env → Ou} {E : En} (h : (rbs x f).sat E) : x.sat (fun a G => (f a G).sat E) E.ex := by
  cases x with
  | ok d G => exact h
  | ex c G => exact h
  | no => exact h
theorem sat_obs {x : Option α} {f : α → Ou} {E : En} (h : (obs x f).sat E) : ∃ a, x = some a ∧ (f a).sat E := by
  cases x with
  | none => exact h.elim
  | some a => exact ⟨a, rfl, h⟩
theorem sat_ss {x : Ou} {f : T.Env → Ou} {E : En} (h : (ss x f).sat E) : x.sat { E with nx := fun G => (f G).sat E } := by
  cases x <;> exact h
end
def Fr.sat (x : Fr) (P : D → List D → Prop) (PX : Nat → List D → Prop) : Prop := match x with | .ret d ms => P d ms | .ex c ms => PX c ms | .no => False
theorem Fr.sat.mono {x : Fr} {P Q : D → List D → Prop} {PX QX : Nat → List D → Prop} (h : x.sat P PX) (a : ∀ d G, P d G → Q d G) (b : ∀ c G, PX c G → QX c G) : x.sat Q QX := by
  cases x with
  | ret d G => exact a _ _ h
  | ex c G => exact b _ _ h
  | no => exact h
/-- the promise of a computed function -/
def spF (c : KF) : FSp := fun ds P PX => (c ds).sat P PX
/-! what it is that a reading follows from what is computed -/
def AdR (c : KR) (w : WR) : Prop := ∀ G d (P : D → Prop), c G = some d → P d → w G P
def AdT (c : KT) (w : WT) : Prop := ∀ G d (P : Bool → Prop), c G = some d → P d → w G P
def AdA (c : KA) (w : WA) : Prop := ∀ G d (P : List D → Prop), c G = some d → P d → w G P
def AdO (c : KO) (w : WO) : Prop := ∀ G d (P : Option Int → Prop), c G = some d → P d → w G P
def Ad2 (c : K2) (f : D → D → (D → Prop) → Prop) : Prop := ∀ x y d (P : D → Prop), c x y = some d → P d → f x y P
def AdC (c : List D → Option D) (f : List D → (D → Prop) → Prop) : Prop := ∀ ds d (P : D → Prop), c ds = some d → P d → f ds P
def AdCF (c : List D → Option (List D)) (f : List D → (List D → Prop) → Prop) : Prop := ∀ ds d (P : List D → Prop), c ds = some d → P d → f ds P
def AdM (c : List D → List D → Option (List D × D)) (f : List D → List D → (List D → D → Prop) → Prop) : Prop := ∀ xs as q (F : List D → D → Prop), c xs as = some q → F q.1 q.2 → f xs as F
def AdE (c : KE) (w : WE) : Prop := ∀ G P PX, (c G).sat P PX → w G P PX
def AdB (c : KB) (w : WB) : Prop := ∀ G P PX, (c G).sat P PX → w G P PX
def AdL (c : KL) (w : WL) : Prop := ∀ G P PX, (c G).sat P PX → w G P PX
def AdS (c : KS) (w : WS) : Prop := ∀ E G, (c G).sat E → w E G
def AdG (c : KG) (g : WG) : Prop := ∀ d G G' (k : T.Env → Prop), c d G = some G' → k G' → g d G k
def AdGs (c : KGs) (g : WGs) : Prop := ∀ d G G' (k : T.Env → Prop), c d G = some G' → k G' → g d G k
theorem gd {α : Type} {c : Prop} [Decidable c] {x : Option α} {a : α} (h : (if c then x else none) = some a) : c ∧ x = some a := by
  split at h
  · exact ⟨‹_›, h⟩
  · cases h
/-! shapes -/
def asBl : D → Option Bool | .bl b => some b | _ => none
@[simp] theorem asBl_e0 {b} : asBl  (D.bl b) = some b := rfl
def asIn : D → Option Int | .int b => some b | _ => none
@[simp] theorem asIn_e0 {b} : asIn  (D.int b) = some b := rfl
def asLs : D → Option (List D) | .lst _ b => some b | _ => none
@[simp] theorem asLs_e0 {y0 b} : asLs  (D.lst y0 b) = some b := rfl
def asTu : D → Option (List D) | .tup b => some b | _ => none
@[simp] theorem asTu_e0 {b} : asTu  (D.tup b) = some b := rfl
def asOw : D → Option (List D) | .lst true b => some b | _ => none
@[simp] theorem asOw_e0 {b} : asOw  (D.lst true b) = some b := rfl
def asSt : D → Option Str | .str b => some b | _ => none
@[simp] theorem asSt_e0 {b} : asSt  (D.str b) = some b := rfl
theorem asBl_eq {d : D} {b : Bool} (h : asBl d = some b) : d = .bl b := by cases d <;> simp [asBl] at h; rw [h]
theorem asIn_eq {d : D} {b : Int} (h : asIn d = some b) : d = .int b := by cases d <;> simp [asIn] at h; rw [h]
theorem asLs_eq {d : D} {b : List D} (h : asLs d = some b) : ∃ o, d = .lst o b := by
  cases d <;> simp [asLs] at h
  exact ⟨_, by rw [h]⟩
theorem asTu_eq {d : D} {b : List D} (h : asTu d = some b) : d = .tup b := by cases d <;> simp [asTu] at h; rw [h]
theorem asOw_eq {d : D} {b : List D} (h : asOw d = some b) : d = .lst true b := by
  cases d <;> simp [asOw] at h
  rename_i o xs
  cases o <;> simp at h
  rw [h]
theorem asSt_eq {d : D} {b : Str} (h : asSt d = some b) : d = .str b := by cases d <;> simp [asSt] at h; rw [h]
/-! ### reading alone -/
@[simp ↓] def k_rVar (i : Nat) (G : T.Env) : Option D := match G[i]? with | some (some d) => some (frz d) | _ => none
theorem q_rVar (i : Nat) : AdR (k_rVar i) (rVar i) := fun G d P h p => by
  simp only [k_rVar] at h
  simp only [rVar]
  split at h
  · rename_i d' e
    cases h
    first | (rw [e]; exact p) | exact p
  · cases h
@[simp ↓] def k_rCon (d : D) (_ : T.Env) : Option D := some d
theorem q_rCon (d : D) : AdR (k_rCon d) (rCon d) := fun G e P h p => by cases h; exact p
@[simp ↓] def c_op1 (f : K2) (b : KR) (G : T.Env) (x : D) : Option D := ob (b G) (f x)
@[simp ↓] def k_rOp (f : K2) (a b : KR) (G : T.Env) : Option D := ob (a G) (c_op1 f b G)
theorem q_rOp {kf : K2} {f a b ka kb} (hf : Ad2 kf f) (ha : AdR ka a) (hb : AdR kb b) : AdR (k_rOp kf ka kb) (rOp f a b) := fun G d P h p => by
  obtain ⟨x, hx, h⟩ := ob_eq h
  obtain ⟨y, hy, h⟩ := ob_eq h
  exact ha _ _ _ hx (hb _ _ _ hy (hf _ _ _ _ h p))
@[simp ↓] def k_asB (r : KR) (G : T.Env) : Option Bool := ob (r G) asBl
theorem q_asB {k w} (h : AdR k w) : AdT (k_asB k) (asB w) := fun G d P e p => by
  obtain ⟨x, hx, e⟩ := ob_eq e
  obtain rfl := asBl_eq e
  exact h _ _ _ hx p
@[simp ↓] def c_not (b : Bool) : Option Bool := some (!b)
@[simp ↓] def k_tNotT (t : KT) (G : T.Env) : Option Bool := ob (t G) c_not
theorem q_tNotT {k w} (h : AdT k w) : AdT (k_tNotT k) (tNotT w) := fun G d P e p => by
  obtain ⟨x, hx, e⟩ := ob_eq e
  cases e
  exact h _ _ _ hx p
@[simp ↓] def c_and (u : KT) (G : T.Env) (b : Bool) : Option Bool := if b = true then u G else some false
@[simp ↓] def c_or (u : KT) (G : T.Env) (b : Bool) : Option Bool := if b = true then some true else u G
@[simp ↓] def k_tAndT (t u : KT) (G : T.Env) : Option Bool := ob (t G) (c_and u G)
theorem q_tAndT {k w k' w'} (h : AdT k w) (h' : AdT k' w') : AdT (k_tAndT k k') (tAndT w w') := fun G d P e p => by
  obtain ⟨x, hx, e⟩ := ob_eq e
  refine h _ _ _ hx ?_
  cases x
  · cases e; exact p
  · exact h' _ _ _ e p
@[simp ↓] def k_tOrT (t u : KT) (G : T.Env) : Option Bool := ob (t G) (c_or u G)
theorem q_tOrT {k w k' w'} (h : AdT k w) (h' : AdT k' w') : AdT (k_tOrT k k') (tOrT w w') := fun G d P e p => by
  obtain ⟨x, hx, e⟩ := ob_eq e
  refine h _ _ _ hx ?_
  cases x
  · exact h' _ _ _ e p
  · cases e; exact p
@[simp ↓] def c_rand (b : KR) (G : T.Env) (c : Bool) : Option D := if c = true then b G else some (.bl false)
@[simp ↓] def c_ror (b : KR) (G : T.Env) (c : Bool) : Option D := if c = true then some (.bl true) else b G
@[simp ↓] def k_rAnd (a b : KR) (G : T.Env) : Option D := ob (ob (a G) asBl) (c_rand b G)
theorem q_rAnd {k w k' w'} (h : AdR k w) (h' : AdR k' w') : AdR (k_rAnd k k') (rAnd w w') := fun G d P e p => by
  obtain ⟨x, hx, e⟩ := ob_eq e
  obtain ⟨y, hy, hx⟩ := ob_eq hx
  obtain rfl := asBl_eq hx
  refine h _ _ _ hy ?_
  cases x
  · cases e; exact p
  · exact h' _ _ _ e p
@[simp ↓] def k_rOr (a b : KR) (G : T.Env) : Option D := ob (ob (a G) asBl) (c_ror b G)
theorem q_rOr {k w k' w'} (h : AdR k w) (h' : AdR k' w') : AdR (k_rOr k k') (rOr w w') := fun G d P e p => by
  obtain ⟨x, hx, e⟩ := ob_eq e
  obtain ⟨y, hy, hx⟩ := ob_eq hx
  obtain rfl := asBl_eq hx
  refine h _ _ _ hy ?_
  cases x
  · exact h' _ _ _ e p
  · cases e; exact p
@[simp ↓] def c_rnot (c : Bool) : Option D := some (.bl (!c))
@[simp ↓] def k_rNot (a : KR) (G : T.Env) : Option D := ob (ob (a G) asBl) c_rnot
theorem q_rNot {k w} (h : AdR k w) : AdR (k_rNot k) (rNot w) := fun G d P e p => by
  obtain ⟨x, hx, e⟩ := ob_eq e
  obtain ⟨y, hy, hx⟩ := ob_eq hx
  obtain rfl := asBl_eq hx
  refine h _ _ _ hy ?_
  cases e; exact p
@[simp ↓] def c_rif (a b : KR) (G : T.Env) (c : Bool) : Option D := if c = true then a G else b G
@[simp ↓] def k_rIf (t : KT) (a b : KR) (G : T.Env) : Option D := ob (t G) (c_rif a b G)
theorem q_rIf {k w a b ka kb} (h : AdT k w) (ha : AdR ka a) (hb : AdR kb b) : AdR (k_rIf k ka kb) (rIf w a b) := fun G d P e p => by
  obtain ⟨x, hx, e⟩ := ob_eq e
  refine h _ _ _ hx ?_
  cases x
  · exact hb _ _ _ e p
  · exact ha _ _ _ e p
@[simp ↓] def k_aNil (_ : T.Env) : Option (List D) := some []
theorem q_aNil : AdA k_aNil aNil := fun G d P e p => by cases e; exact p
@[simp ↓] def c_cons (d : D) (ds : List D) : Option (List D) := some (d :: ds)
@[simp ↓] def c_acons (t : KA) (G : T.Env) (d : D) : Option (List D) := ob (t G) (c_cons d)
@[simp ↓] def k_aCons (r : KR) (t : KA) (G : T.Env) : Option (List D) := ob (r G) (c_acons t G)
theorem q_aCons {k w k' w'} (h : AdR k w) (h' : AdA k' w') : AdA (k_aCons k k') (aCons w w') := fun G d P e p => by
  obtain ⟨x, hx, e⟩ := ob_eq e
  obtain ⟨y, hy, e⟩ := ob_eq e
  cases e
  exact h _ _ _ hx (h' _ _ _ hy p)
@[simp ↓] def c_tup (ds : List D) : Option D := if ds.length ≤ 100000 then some (.tup ds) else none
@[simp ↓] def k_rTup (t : KA) (G : T.Env) : Option D := ob (t G) c_tup
theorem q_rTup {k w} (h : AdA k w) : AdR (k_rTup k) (rTup w) := fun G d P e p => by
  obtain ⟨x, hx, e⟩ := ob_eq e
  obtain ⟨c, e⟩ := gd e
  cases e
  exact h _ _ _ hx ⟨c, p⟩
@[simp ↓] def c_lst (ds : List D) : Option (List D) := if ds.length ≤ 100000 then some ds else none
@[simp ↓] def k_fLst (t : KA) (G : T.Env) : Option (List D) := ob (t G) c_lst
theorem q_fLst {k w} (h : AdA k w) : AdA (k_fLst k) (fLst w) := fun G d P e p => by
  obtain ⟨x, hx, e⟩ := ob_eq e
  obtain ⟨c, e⟩ := gd e
  cases e
  exact h _ _ _ hx ⟨c, p⟩
@[simp ↓] def c_rF (ds : List D) : Option D := some (.lst false ds)
@[simp ↓] def k_rF (t : KA) (G : T.Env) : Option D := ob (t G) c_rF
theorem q_rF {k w} (h : AdA k w) : AdR (k_rF k) (rF w) := fun G d P e p => by
  obtain ⟨x, hx, e⟩ := ob_eq e
  cases e
  exact h _ _ _ hx p
@[simp ↓] def k_rCB (f : List D → Option D) (t : KA) (G : T.Env) : Option D := ob (t G) f
theorem q_rCB {kf f k w} (hf : AdC kf f) (h : AdA k w) : AdR (k_rCB kf k) (rCB f w) := fun G d P e p => by
  obtain ⟨x, hx, e⟩ := ob_eq e
  exact h _ _ _ hx (hf _ _ _ e p)
@[simp ↓] def k_fCB (f : List D → Option (List D)) (t : KA) (G : T.Env) : Option (List D) := ob (t G) f
theorem q_fCB {kf f k w} (hf : AdCF kf f) (h : AdA k w) : AdA (k_fCB kf k) (fCB f w) := fun G d P e p => by
  obtain ⟨x, hx, e⟩ := ob_eq e
  exact h _ _ _ hx (hf _ _ _ e p)
@[simp ↓] def k_oNone (_ : T.Env) : Option (Option Int) := some none
theorem q_oNone : AdO k_oNone oNone := fun G d P e p => by cases e; exact p
@[simp ↓] def c_osome (i : Int) : Option (Option Int) := some (some i)
@[simp ↓] def k_oSome (r : KR) (G : T.Env) : Option (Option Int) := ob (ob (r G) asIn) c_osome
theorem q_oSome {k w} (h : AdR k w) : AdO (k_oSome k) (oSome w) := fun G d P e p => by
  obtain ⟨x, hx, e⟩ := ob_eq e
  obtain ⟨y, hy, hx⟩ := ob_eq hx
  obtain rfl := asIn_eq hx
  refine h _ _ _ hy ?_
  cases e; exact p
def cutL : D → Option Int → Option Int → Option (List D)
  | .lst _ xs, l, u => some (cutD xs l u)
  | .scr ns, l, u => some (cutD (ns.map .int) l u)
  | _, _, _ => none
@[simp] theorem cutL_e0 {y0 xs l u} : cutL  (D.lst y0 xs) l u = some (cutD xs l u) := rfl
@[simp] theorem cutL_e1 {ns l u} : cutL  (D.scr ns) l u = some (cutD (ns.map .int) l u) := rfl
def cutT : D → Option Int → Option Int → Option D
  | .tup xs, l, u => if ¬ (HT.sIx xs.length 0 l = 0 ∧ HT.sIx xs.length xs.length u = xs.length) then some (.tup (cutD xs l u)) else none
  | _, _, _ => none
@[simp] theorem cutT_e0 {xs l u} : cutT  (D.tup xs) l u = if ¬ (HT.sIx xs.length 0 l = 0 ∧ HT.sIx xs.length xs.length u = xs.length) then some (.tup (cutD xs l u)) else none := rfl
def cutSt : D → Option Int → Option Int → Option D
  | .str z, l, u => if z.length ≤ 100000 then some (.str (cutS z l u)) else none
  | _, _, _ => none
@[simp] theorem cutSt_e0 {z l u} : cutSt  (D.str z) l u = if z.length ≤ 100000 then some (.str (cutS z l u)) else none := rfl
@[simp ↓] def c_sl2 {α : Type} (f : D → Option Int → Option Int → Option α) (x : D) (hi : KO) (G : T.Env) (l : Option Int) : Option α := ob (hi G) (f x l)
@[simp ↓] def c_sl1 {α : Type} (f : D → Option Int → Option Int → Option α) (lo hi : KO) (G : T.Env) (x : D) : Option α := ob (lo G) (c_sl2 f x hi G)
@[simp ↓] def k_fSlL (r : KR) (lo hi : KO) (G : T.Env) : Option (List D) := ob (r G) (c_sl1 cutL lo hi G)
theorem q_fSlL {k w kl wl ku wu} (h : AdR k w) (hl : AdO kl wl) (hu : AdO ku wu) : AdA (k_fSlL k kl ku) (fSlL w wl wu) := fun G d P e p => by
  obtain ⟨x, hx, e⟩ := ob_eq e
  obtain ⟨y, hy, e⟩ := ob_eq e
  obtain ⟨z, hz, e⟩ := ob_eq e
  refine h _ _ _ hx (hl _ _ _ hy (hu _ _ _ hz ?_))
  cases x <;> first | cases e; done | skip
  all_goals (cases e; exact p)
@[simp ↓] def k_rSlT (r : KR) (lo hi : KO) (G : T.Env) : Option D := ob (r G) (c_sl1 cutT lo hi G)
theorem q_rSlT {k w kl wl ku wu} (h : AdR k w) (hl : AdO kl wl) (hu : AdO ku wu) : AdR (k_rSlT k kl ku) (rSlT w wl wu) := fun G d P e p => by
  obtain ⟨x, hx, e⟩ := ob_eq e
  obtain ⟨y, hy, e⟩ := ob_eq e
  obtain ⟨z, hz, e⟩ := ob_eq e
  refine h _ _ _ hx (hl _ _ _ hy (hu _ _ _ hz ?_))
  cases x <;> first | cases e; done | skip
  obtain ⟨c, e⟩ := gd e
  cases e; exact ⟨c, p⟩
@[simp ↓] def k_rSlS (r : KR) (lo hi : KO) (G : T.Env) : Option D := ob (r G) (c_sl1 cutSt lo hi G)
theorem q_rSlS {k w kl wl ku wu} (h : AdR k w) (hl : AdO kl wl) (hu : AdO ku wu) : AdR (k_rSlS k kl ku) (rSlS w wl wu) := fun G d P e p => by
  obtain ⟨x, hx, e⟩ := ob_eq e
  obtain ⟨y, hy, e⟩ := ob_eq e
  obtain ⟨z, hz, e⟩ := ob_eq e
  refine h _ _ _ hx (hl _ _ _ hy (hu _ _ _ hz ?_))
  cases x <;> first | cases e; done | skip
  obtain ⟨c, e⟩ := gd e
  cases e; exact ⟨c, p⟩
def frO (x : Fr) : Option D := match x with | .ret d _ => some (frz d) | _ => none
@[simp] theorem frO_ret (d : D) (ms : List D) : frO (.ret d ms) = some (frz d) := rfl
@[simp ↓] def c_call (c : KF) (n : Nat) (ds : List D) : Option D := if ds.length = n then frO (c (frzL ds)) else none
@[simp ↓] def k_rCall (c : KF) (n : Nat) (t : KA) (G : T.Env) : Option D := ob (t G) (c_call c n)
theorem q_rCall {k w} (c : KF) (n : Nat) (h : AdA k w) : AdR (k_rCall c n k) (rCall (spF c) n w) := fun G d P e p => by
  obtain ⟨x, hx, e⟩ := ob_eq e
  obtain ⟨l, e⟩ := gd e
  refine h _ _ _ hx ⟨l, ?_⟩
  unfold spF
  cases hc : c (frzL x) <;> rw [hc] at e <;> first | cases e; done | skip
  cases e; exact p
@[simp ↓] def c_neg (c : Int) : Option D := some (.int (-c))
@[simp ↓] def k_rNeg (r : KR) (G : T.Env) : Option D := ob (ob (r G) asIn) c_neg
theorem q_rNeg {k w} (h : AdR k w) : AdR (k_rNeg k) (rNeg w) := fun G d P e p => by
  obtain ⟨x, hx, e⟩ := ob_eq e
  obtain ⟨y, hy, hx⟩ := ob_eq hx
  obtain rfl := asIn_eq hx
  refine h _ _ _ hy ?_
  cases e; exact p
@[simp ↓] def c_ch3 (f' : K2) (rc : KR) (y : D) (G : T.Env) (k : Bool) : Option D := if k = true then ob (rc G) (f' y) else some (.bl false)
@[simp ↓] def c_ch2 (f f' : K2) (rc : KR) (x : D) (G : T.Env) (y : D) : Option D := ob (ob (f x y) asBl) (c_ch3 f' rc y G)
@[simp ↓] def c_ch1 (f f' : K2) (rb rc : KR) (G : T.Env) (x : D) : Option D := ob (rb G) (c_ch2 f f' rc x G)
@[simp ↓] def k_rChain (f f' : K2) (ra rb rc : KR) (G : T.Env) : Option D := ob (ra G) (c_ch1 f f' rb rc G)
theorem q_rChain {kf f kf' f' ka a kb b kc c} (hf : Ad2 kf f) (hf' : Ad2 kf' f') (ha : AdR ka a) (hb : AdR kb b) (hc : AdR kc c) : AdR (k_rChain kf kf' ka kb kc) (rChain f f' a b c) := fun G d P e p => by
  obtain ⟨x, hx, e⟩ := ob_eq e
  obtain ⟨y, hy, e⟩ := ob_eq e
  obtain ⟨z, hz, e⟩ := ob_eq e
  obtain ⟨q, hq, hz⟩ := ob_eq hz
  obtain rfl := asBl_eq hz
  refine ha _ _ _ hx (hb _ _ _ hy (hf _ _ _ _ hq ?_))
  cases z
  · cases e; exact p
  · obtain ⟨u, hu, e⟩ := ob_eq e
    exact hc _ _ _ hu (hf' _ _ _ _ e p)
def catL : D → D → Option (List D)
  | .lst _ xs, .lst _ ys => if xs.length + ys.length ≤ 100000 then some (xs ++ ys) else none
  | _, _ => none
@[simp] theorem catL_e0 {y0 xs y2 ys} : catL  (D.lst y0 xs) (D.lst y2 ys) = if xs.length + ys.length ≤ 100000 then some (xs ++ ys) else none := rfl
@[simp ↓] def c_cat1 (b : KR) (G : T.Env) (x : D) : Option (List D) := ob (b G) (catL x)
@[simp ↓] def k_fCat (a b : KR) (G : T.Env) : Option (List D) := ob (a G) (c_cat1 b G)
theorem q_fCat {ka a kb b} (ha : AdR ka a) (hb : AdR kb b) : AdA (k_fCat ka kb) (fCat a b) := fun G d P e p => by
  obtain ⟨x, hx, e⟩ := ob_eq e
  obtain ⟨y, hy, e⟩ := ob_eq e
  refine ha _ _ _ hx (hb _ _ _ hy ?_)
  cases x <;> first | cases e; done | skip
  cases y <;> first | cases e; done | skip
  obtain ⟨c, e⟩ := gd e
  cases e; exact ⟨c, p⟩
@[simp ↓] def c_rep2 (xs : List D) (k : Int) : Option (List D) := if xs.length ≤ 1000 ∧ k ≤ 1000 ∧ -(2 ^ 63) ≤ k then some (List.replicate k.toNat xs).flatten else none
@[simp ↓] def c_rep1 (b : KR) (G : T.Env) (xs : List D) : Option (List D) := ob (ob (b G) asIn) (c_rep2 xs)
@[simp ↓] def k_fRep (t : KA) (b : KR) (G : T.Env) : Option (List D) := ob (t G) (c_rep1 b G)
theorem q_fRep {ka a kb b} (ha : AdA ka a) (hb : AdR kb b) : AdA (k_fRep ka kb) (fRep a b) := fun G d P e p => by
  obtain ⟨x, hx, e⟩ := ob_eq e
  obtain ⟨y, hy, e⟩ := ob_eq e
  obtain ⟨z, hz, hy⟩ := ob_eq hy
  obtain rfl := asIn_eq hy
  obtain ⟨c, e⟩ := gd e
  cases e
  exact ha _ _ _ hx ⟨c.1, hb _ _ _ hz ⟨c.2, p⟩⟩
@[simp ↓] def c_rpt2 (xs : List D) (k : Int) : Option D := if xs ≠ [] ∧ 2 ≤ k ∧ k ≤ 1000 ∧ xs.length ≤ 1000 then some (.tup (List.replicate k.toNat xs).flatten) else none
@[simp ↓] def c_rpt1 (b : KR) (G : T.Env) (xs : List D) : Option D := ob (ob (b G) asIn) (c_rpt2 xs)
@[simp ↓] def k_rRepT' (t : KR) (b : KR) (G : T.Env) : Option D := ob (ob (t G) asTu) (c_rpt1 b G)
theorem q_rRepT' {ka a kb b} (ha : AdR ka a) (hb : AdR kb b) : AdR (k_rRepT' ka kb) (rRepT' a b) := fun G d P e p => by
  obtain ⟨x, hx, e⟩ := ob_eq e
  obtain ⟨u, hu, hx⟩ := ob_eq hx
  obtain rfl := asTu_eq hx
  obtain ⟨y, hy, e⟩ := ob_eq e
  obtain ⟨z, hz, hy⟩ := ob_eq hy
  obtain rfl := asIn_eq hy
  obtain ⟨c, e⟩ := gd e
  cases e
  exact ha _ _ _ hu (hb _ _ _ hz ⟨c, p⟩)
def tyK (d : D) : String := tyD d
@[simp] theorem tyK_non : tyK .non = "NoneType" := rfl
@[simp] theorem tyK_bl (b : Bool) : tyK (.bl b) = "bool" := rfl
@[simp] theorem tyK_int (b : Int) : tyK (.int b) = "int" := rfl
@[simp] theorem tyK_str (b : Str) : tyK (.str b) = "str" := rfl
@[simp] theorem tyK_scr (b : List Int) : tyK (.scr b) = "list" := rfl
@[simp] theorem tyK_tup (b : List D) : tyK (.tup b) = "tuple" := rfl
@[simp] theorem tyK_lst (o : Bool) (b : List D) : tyK (.lst o b) = "list" := rfl
@[simp] theorem tyK_dic (o : Bool) (b c : List D) : tyK (.dic o b c) = "dict" := rfl
def isK (c t : String) : Bool := t == c || (t == "bool" && c == "int")
@[simp ↓] def c_isI (c : String) (d : D) : Option D := if tyK d ≠ "" then some (.bl (isK c (tyK d))) else none
@[simp ↓] def k_rIsi' (c : String) (r : KR) (G : T.Env) : Option D := ob (r G) (c_isI c)
theorem q_rIsi' {k w} (c : String) (h : AdR k w) : AdR (k_rIsi' c k) (rIsi' c w) := fun G d P e p => by
  obtain ⟨x, hx, e⟩ := ob_eq e
  obtain ⟨z, e⟩ := gd e
  cases e
  refine h _ _ _ hx ⟨z, ?_⟩
  exact p
@[simp ↓] def c_lrg1 (n : Int) : Option (List D) := if -100000 ≤ n ∧ n ≤ 100000 then some (rangeD 0 n.toNat) else none
@[simp ↓] def k_fLRg1 (r : KR) (G : T.Env) : Option (List D) := ob (ob (r G) asIn) c_lrg1
theorem q_fLRg1 {k w} (h : AdR k w) : AdA (k_fLRg1 k) (fLRg1 w) := fun G d P e p => by
  obtain ⟨x, hx, e⟩ := ob_eq e
  obtain ⟨y, hy, hx⟩ := ob_eq hx
  obtain rfl := asIn_eq hx
  obtain ⟨c, e⟩ := gd e
  cases e
  exact h _ _ _ hy ⟨c, p⟩
/-! targets -/
@[simp ↓] def k_gNm (i : Nat) (d : D) (G : T.Env) : Option T.Env := some (G.set i (some (frz d)))
theorem q_gNm (i : Nat) : AdG (k_gNm i) (gNm i) := fun d G G' k e p => by cases e; exact p
def k_gsNil : List D → T.Env → Option T.Env | [], G => some G | _, _ => none
@[simp] theorem k_gsNil_e0 {G} : k_gsNil  [] G = some G := rfl
theorem q_gsNil : AdGs k_gsNil gsNil := fun d G G' k e p => by
  cases d with
  | nil => cases e; exact ⟨rfl, p⟩
  | cons => cases e
def k_gsCons (g : KG) (gs : KGs) : List D → T.Env → Option T.Env | d :: ds, G => ob (g d G) (gs ds) | [], _ => none
@[simp] theorem k_gsCons_e0 (g : KG) (gs : KGs) {d ds G} : k_gsCons g gs (d :: ds) G = ob (g d G) (gs ds) := rfl
@[simp] theorem k_gsCons_e1 (g : KG) (gs : KGs) {y0} : k_gsCons g gs [] y0 = none := rfl
theorem q_gsCons {kg g kgs gs} (h : AdG kg g) (h' : AdGs kgs gs) : AdGs (k_gsCons kg kgs) (gsCons g gs) := fun d G G' k e p => by
  cases d with
  | nil => cases e
  | cons d ds =>
    obtain ⟨G1, e1, e⟩ := ob_eq e
    exact h _ _ _ _ e1 (h' _ _ _ _ e p)
@[simp ↓] def c_gTp (n : Nat) (gs : KGs) (G : T.Env) (ds : List D) : Option T.Env := if ds.length = n then gs ds G else none
@[simp ↓] def k_gTp (n : Nat) (gs : KGs) (d : D) (G : T.Env) : Option T.Env := ob (asTu d) (c_gTp n gs G)
theorem q_gTp {kgs gs} (n : Nat) (h : AdGs kgs gs) : AdG (k_gTp n kgs) (gTp n gs) := fun d G G' k e p => by
  obtain ⟨x, hx, e⟩ := ob_eq e
  obtain rfl := asTu_eq hx
  obtain ⟨c, e⟩ := gd e
  exact ⟨c, h _ _ _ _ e p⟩
/-! sources -/
@[simp ↓] def k_asLst (r : KR) (G : T.Env) : Option (List D) := ob (r G) asLs
theorem q_asLst {k w} (h : AdR k w) : AdA (k_asLst k) (asLst w) := fun G d P e p => by
  obtain ⟨x, hx, e⟩ := ob_eq e
  obtain ⟨o, rfl⟩ := asLs_eq e
  exact h _ _ _ hx p
@[simp ↓] def k_asTup (r : KR) (G : T.Env) : Option (List D) := ob (r G) asTu
theorem q_asTup {k w} (h : AdR k w) : AdA (k_asTup k) (asTup w) := fun G d P e p => by
  obtain ⟨x, hx, e⟩ := ob_eq e
  obtain rfl := asTu_eq e
  exact h _ _ _ hx p
def rng1 : List D → Option (List D)
  | [.int j] => if -(2 ^ 62) ≤ j ∧ j < 2 ^ 62 then some (rangeD 0 j.toNat) else none
  | _ => none
@[simp] theorem rng1_e0 {j} : rng1  [D.int j] = if -(2 ^ 62) ≤ j ∧ j < 2 ^ 62 then some (rangeD 0 j.toNat) else none := rfl
def rng2 : List D → Option (List D)
  | [.int i, .int j] => if -(2 ^ 62) ≤ i ∧ i < 2 ^ 62 ∧ -(2 ^ 62) ≤ j ∧ j < 2 ^ 62 then some (rangeD i (j - i).toNat) else none
  | _ => none
@[simp] theorem rng2_e0 {i j} : rng2  [D.int i, D.int j] = if -(2 ^ 62) ≤ i ∧ i < 2 ^ 62 ∧ -(2 ^ 62) ≤ j ∧ j < 2 ^ 62 then some (rangeD i (j - i).toNat) else none := rfl
def enm : List D → Option (List D)
  | [.lst _ xs] => some (enumD xs)
  | _ => none
@[simp] theorem enm_e0 {y0 xs} : enm  [D.lst y0 xs] = some (enumD xs) := rfl
def enmF : List D → Option (List D)
  | [.lst _ xs] => some (enumD (frzL xs))
  | _ => none
@[simp] theorem enmF_e0 {y0 xs} : enmF  [D.lst y0 xs] = some (enumD (frzL xs)) := rfl
def zp : List D → Option (List D)
  | [.lst _ xs, .lst _ ys] => some (zipD xs ys)
  | _ => none
@[simp] theorem zp_e0 {y0 xs y2 ys} : zp  [D.lst y0 xs, D.lst y2 ys] = some (zipD xs ys) := rfl
theorem rng1_eq {ds xs : List D} (h : rng1 ds = some xs) : ∃ j, ds = [.int j] ∧ (-(2 ^ 62) ≤ j ∧ j < 2 ^ 62) ∧ rangeD 0 j.toNat = xs := by
  unfold rng1 at h
  split at h
  · obtain ⟨c, e⟩ := gd h
    cases e
    exact ⟨_, rfl, c, rfl⟩
  · cases h
theorem rng2_eq {ds xs : List D} (h : rng2 ds = some xs) : ∃ i j, ds = [.int i, .int j] ∧ (-(2 ^ 62) ≤ i ∧ i < 2 ^ 62 ∧ -(2 ^ 62) ≤ j ∧ j < 2 ^ 62) ∧ rangeD i (j - i).toNat = xs := by
  unfold rng2 at h
  split at h
  · obtain ⟨c, e⟩ := gd h
    cases e
    exact ⟨_, _, rfl, c, rfl⟩
  · cases h
theorem enm_eq {ds xs : List D} (h : enm ds = some xs) : ∃ o j, ds = [.lst o j] ∧ enumD j = xs := by
  unfold enm at h
  split at h
  · cases h; exact ⟨_, _, rfl, rfl⟩
  · cases h
theorem enmF_eq {ds xs : List D} (h : enmF ds = some xs) : ∃ o j, ds = [.lst o j] ∧ enumD (frzL j) = xs := by
  unfold enmF at h
  split at h
  · cases h; exact ⟨_, _, rfl, rfl⟩
  · cases h
theorem zp_eq {ds xs : List D} (h : zp ds = some xs) : ∃ o j p k, ds = [.lst o j, .lst p k] ∧ zipD j k = xs := by
  unfold zp at h
  split at h
  · cases h; exact ⟨_, _, _, _, rfl, rfl⟩
  · cases h
@[simp ↓] def k_aRng1 (t : KA) (G : T.Env) : Option (List D) := ob (t G) rng1
theorem q_aRng1 {k w} (h : AdA k w) : AdA (k_aRng1 k) (aRng1 w) := fun G d P e p => by
  obtain ⟨x, hx, e⟩ := ob_eq e
  obtain ⟨j, rfl, c, rfl⟩ := rng1_eq e
  exact h _ _ _ hx ⟨c, p⟩
@[simp ↓] def k_aRng2 (t : KA) (G : T.Env) : Option (List D) := ob (t G) rng2
theorem q_aRng2 {k w} (h : AdA k w) : AdA (k_aRng2 k) (aRng2 w) := fun G d P e p => by
  obtain ⟨x, hx, e⟩ := ob_eq e
  obtain ⟨i, j, rfl, c, rfl⟩ := rng2_eq e
  exact h _ _ _ hx ⟨c, p⟩
@[simp ↓] def k_aEnum (t : KA) (G : T.Env) : Option (List D) := ob (t G) enm
theorem q_aEnum {k w} (h : AdA k w) : AdA (k_aEnum k) (aEnum w) := fun G d P e p => by
  obtain ⟨x, hx, e⟩ := ob_eq e
  obtain ⟨o, j, rfl, rfl⟩ := enm_eq e
  exact h _ _ _ hx p
@[simp ↓] def k_aZip (t : KA) (G : T.Env) : Option (List D) := ob (t G) zp
theorem q_aZip {k w} (h : AdA k w) : AdA (k_aZip k) (aZip w) := fun G d P e p => by
  obtain ⟨x, hx, e⟩ := ob_eq e
  obtain ⟨o, j, p', k', rfl, rfl⟩ := zp_eq e
  exact h _ _ _ hx p
/-! a comprehension -/
section
variable {α β : Type}
@[simp ↓] def c_opt (r : Option D) (ds : List D) : Option (List D) := some (match r with | some d => d :: ds | none => ds)
def kComp (f : α → Option (Option D)) : List α → Option (List D)
  | [] => some []
  | x :: xs => ob (f x) fun r => ob (kComp f xs) (c_opt r)
@[simp] theorem kComp_nil (f : α → Option (Option D)) : kComp f [] = some [] := rfl
theorem kComp_cons (f : α → Option (Option D)) (x : α) (xs : List α) : kComp f (x :: xs) = ob (f x) fun r => ob (kComp f xs) (c_opt r) := rfl
theorem kComp_map (e : α → β) (f : β → Option (Option D)) : ∀ xs : List α, kComp f (xs.map e) = kComp (fun x => f (e x)) xs
  | [] => rfl
  | x :: xs => by rw [List.map_cons, kComp_cons, kComp_cons, kComp_map e f xs]
theorem kComp_congr {f g : α → Option (Option D)} : ∀ {xs : List α}, (∀ x ∈ xs, f x = g x) → kComp f xs = kComp g xs
  | [], _ => rfl
  | x :: xs, h => by rw [kComp_cons, kComp_cons, h x List.mem_cons_self, kComp_congr fun y m => h y (List.mem_cons_of_mem _ m)]
theorem kComp_all (h : α → D) : ∀ xs : List α, kComp (fun x => some (some (h x))) xs = some (xs.map h)
  | [] => rfl
  | x :: xs => by rw [kComp_cons, kComp_all h xs]; rfl
theorem kComp_filter (p : α → Bool) (h : α → D) : ∀ xs : List α, kComp (fun x => some (if p x = true then some (h x) else none)) xs = some ((xs.filter p).map h)
  | [] => rfl
  | x :: xs => by
    rw [kComp_cons, kComp_filter p h xs, List.filter_cons]
    cases p x <;> rfl
/-- a comprehension in one stroke -/
theorem kComp_is {f : β → Option (Option D)} {e : α → β} {xs : List α} (p : α → Bool) (h : α → D) (H : ∀ x ∈ xs, f (e x) = some (if p x = true then some (h x) else none)) : kComp f (xs.map e) = some ((xs.filter p).map h) := by
  rw [kComp_map, kComp_congr H, kComp_filter]
theorem kComp_is' {f : β → Option (Option D)} {e : α → β} {xs : List α} (h : α → D) (H : ∀ x ∈ xs, f (e x) = some (some (h x))) : kComp f (xs.map e) = some (xs.map h) := by
  rw [kComp_map, kComp_congr H, kComp_all]
end
@[simp ↓] def c_cm3 (d : D) : Option (Option D) := some (some d)
@[simp ↓] def c_cm2 (r : KR) (G : T.Env) (b : Bool) : Option (Option D) := if b = true then ob (r G) c_cm3 else some none
@[simp ↓] def c_cm1 (c : KT) (r : KR) (G : T.Env) : Option (Option D) := ob (c G) (c_cm2 r G)
@[simp ↓] def c_cm (g : KG) (c : KT) (r : KR) (G : T.Env) (x : D) : Option (Option D) := ob (g x G) (c_cm1 c r)
@[simp ↓] def c_cm0 (g : KG) (c : KT) (r : KR) (G : T.Env) (xs : List D) : Option (List D) := if xs.length ≤ 100000 then kComp (c_cm g c r G) xs else none
@[simp ↓] def k_aComp (src : KA) (g : KG) (c : KT) (r : KR) (vs : List Nat) (G : T.Env) : Option (List D) := ob (src G) (c_cm0 g c r (wipeE G vs))
theorem comp_ad {kg g kc c kr r} (hg : AdG kg g) (hc : AdT kc c) (hr : AdR kr r) (G : T.Env) : ∀ (xs ds : List D) (P : List D → Prop), kComp (c_cm kg kc kr G) xs = some ds → P ds → compR g c r G xs P
  | [], ds, P, e, p => by cases e; exact p
  | x :: xs, ds, P, e, p => by
    rw [kComp_cons] at e
    obtain ⟨q, hq, e⟩ := ob_eq e
    obtain ⟨ds', hd, e⟩ := ob_eq e
    cases e
    obtain ⟨G1, e1, hq⟩ := ob_eq hq
    obtain ⟨b, hb, hq⟩ := ob_eq hq
    refine hg _ _ _ _ e1 (hc _ _ _ hb ?_)
    cases b
    · cases hq
      exact comp_ad hg hc hr G xs ds' P hd p
    · obtain ⟨d, e3, hq⟩ := ob_eq hq
      cases hq
      exact hr _ _ _ e3 (comp_ad hg hc hr G xs ds' _ hd p)
theorem q_aComp {ks s kg g kc c kr r} (hs : AdA ks s) (hg : AdG kg g) (hc : AdT kc c) (hr : AdR kr r) (vs : List Nat) : AdA (k_aComp ks kg kc kr vs) (aComp s g c r vs) := fun G d P e p => by
  obtain ⟨xs, hx, e⟩ := ob_eq e
  obtain ⟨l, e⟩ := gd e
  exact hs _ _ _ hx ⟨l, comp_ad hg hc hr _ _ _ _ e p⟩
@[simp ↓] def k_tT (_ : T.Env) : Option Bool := some true
theorem q_tT : AdT k_tT tT := fun G d P e p => by cases e; exact p
end T
namespace T
open PySem PySem.Spec PyProof.Rows L2
/-! ### what may change the slots -/
@[simp ↓] def c_eR (G : T.Env) (d : D) : Re D := if flat d = true then .ok d G else .no
@[simp ↓] def k_eR (r : KR) (G : T.Env) : Re D := obr (r G) (c_eR G)
theorem gdr {α : Type} {c : Prop} [Decidable c] {x : Re α} {P : α → T.Env → Prop} {PX : Nat → T.Env → Prop} (h : (if c then x else .no).sat P PX) : c ∧ x.sat P PX := by
  split at h
  · exact ⟨‹_›, h⟩
  · exact h.elim
theorem q_eR {k w} (h : AdR k w) : AdE (k_eR k) (eR w) := fun G P PX e => by
  obtain ⟨x, hx, e⟩ := sat_obr e
  exact h _ _ _ hx (gdr e)
@[simp ↓] def c_eZ (js : List Nat) (G : T.Env) (d : D) : Re D := .ok (frz d) (frzAt js 0 G)
@[simp ↓] def k_eZ (js : List Nat) (r : KR) (G : T.Env) : Re D := obr (r (keepAt js 0 G)) (c_eZ js G)
theorem q_eZ {k w} (js : List Nat) (h : AdR k w) : AdE (k_eZ js k) (eZ js w) := fun G P PX e => by
  obtain ⟨x, hx, e⟩ := sat_obr e
  exact h _ _ _ hx e
@[simp ↓] def c_eF (G : T.Env) (ds : List D) : Re D := if flatL ds = true then .ok (.lst true ds) G else .no
@[simp ↓] def k_eF (r : KA) (G : T.Env) : Re D := obr (r G) (c_eF G)
theorem q_eF {k w} (h : AdA k w) : AdE (k_eF k) (eF w) := fun G P PX e => by
  obtain ⟨x, hx, e⟩ := sat_obr e
  exact h _ _ _ hx (gdr e)
@[simp ↓] def c_eFZ (js : List Nat) (G : T.Env) (ds : List D) : Re D := .ok (.lst true (frzL ds)) (frzAt js 0 G)
@[simp ↓] def k_eFZ (js : List Nat) (r : KA) (G : T.Env) : Re D := obr (r (keepAt js 0 G)) (c_eFZ js G)
theorem q_eFZ {k w} (js : List Nat) (h : AdA k w) : AdE (k_eFZ js k) (eFZ js w) := fun G P PX e => by
  obtain ⟨x, hx, e⟩ := sat_obr e
  exact h _ _ _ hx e
@[simp ↓] def k_eMov (i : Nat) (G : T.Env) : Re D := match G[i]? with | some (some d) => .ok d (G.set i none) | _ => .no
theorem q_eMov (i : Nat) : AdE (k_eMov i) (eMov i) := fun G P PX e => by
  simp only [k_eMov] at e
  simp only [eMov]
  split at e
  · rename_i d h
    first | (rw [h]; exact e) | exact e
  · exact e.elim
@[simp ↓] def k_bT (t : KT) (G : T.Env) : Re Bool := obr (t G) fun b => .ok b G
theorem q_bT {k w} (h : AdT k w) : AdB (k_bT k) (bT w) := fun G P PX e => by
  obtain ⟨x, hx, e⟩ := sat_obr e
  exact h _ _ _ hx e
@[simp ↓] def c_bE (d : D) (G : T.Env) : Re Bool := obr (asBl d) fun b => .ok b G
@[simp ↓] def k_bE (t : KE) (G : T.Env) : Re Bool := rb (t G) c_bE
theorem q_bE {k w} (h : AdE k w) : AdB (k_bE k) (bE w) := fun G P PX e => by
  refine h _ _ _ ((sat_rb e).mono (fun d G e => ?_) fun _ _ q => q)
  obtain ⟨x, hx, e⟩ := sat_obr e
  obtain rfl := asBl_eq hx
  exact e
@[simp ↓] def c_bnot (b : Bool) (G : T.Env) : Re Bool := .ok (!b) G
@[simp ↓] def k_bNot (t : KB) (G : T.Env) : Re Bool := rb (t G) c_bnot
theorem q_bNot {k w} (h : AdB k w) : AdB (k_bNot k) (bNot w) := fun G P PX e => h _ _ _ (sat_rb e)
@[simp ↓] def c_band (u : KB) (b : Bool) (G : T.Env) : Re Bool := if b = true then u G else .ok false G
@[simp ↓] def c_bor (u : KB) (b : Bool) (G : T.Env) : Re Bool := if b = true then .ok true G else u G
@[simp ↓] def k_bAnd (t u : KB) (G : T.Env) : Re Bool := rb (t G) (c_band u)
@[simp ↓] def k_bOr (t u : KB) (G : T.Env) : Re Bool := rb (t G) (c_bor u)
theorem q_bAnd {k w k' w'} (h : AdB k w) (h' : AdB k' w') : AdB (k_bAnd k k') (bAnd w w') := fun G P PX e => by
  refine h _ _ _ ((sat_rb e).mono (fun b G e => ?_) fun _ _ q => q)
  cases b
  · exact e
  · exact h' _ _ _ e
theorem q_bOr {k w k' w'} (h : AdB k w) (h' : AdB k' w') : AdB (k_bOr k k') (bOr w w') := fun G P PX e => by
  refine h _ _ _ ((sat_rb e).mono (fun b G e => ?_) fun _ _ q => q)
  cases b
  · exact h' _ _ _ e
  · exact e
@[simp ↓] def k_bYes (G : T.Env) : Re Bool := .ok true G
theorem q_bYes : AdB k_bYes bYes := fun G P PX e => e
@[simp ↓] def k_lNil (G : T.Env) : Re (List D) := .ok [] G
theorem q_lNil : AdL k_lNil lNil := fun G P PX e => e
@[simp ↓] def c_lcons2 (d : D) (ds : List D) (G : T.Env) : Re (List D) := .ok (d :: ds) G
@[simp ↓] def c_lcons (t : KL) (d : D) (G : T.Env) : Re (List D) := rb (t G) (c_lcons2 d)
@[simp ↓] def k_lCons (r : KE) (t : KL) (G : T.Env) : Re (List D) := rb (r G) (c_lcons t)
theorem q_lCons {k w k' w'} (h : AdE k w) (h' : AdL k' w') : AdL (k_lCons k k') (lCons w w') := fun G P PX e =>
  h _ _ _ ((sat_rb e).mono (fun d G e => h' _ _ _ (sat_rb e)) fun _ _ q => q)
@[simp ↓] def c_etup (ds : List D) (G : T.Env) : Re D := if ds.length ≤ 100000 then .ok (.tup ds) G else .no
@[simp ↓] def k_eTup (t : KL) (G : T.Env) : Re D := rb (t G) c_etup
theorem q_eTup {k w} (h : AdL k w) : AdE (k_eTup k) (eTup w) := fun G P PX e => h _ _ _ ((sat_rb e).mono (fun d G e => gdr e) fun _ _ q => q)
@[simp ↓] def c_elst (ds : List D) (G : T.Env) : Re D := if ds.length ≤ 100000 then .ok (.lst true ds) G else .no
@[simp ↓] def k_eLst (t : KL) (G : T.Env) : Re D := rb (t G) c_elst
theorem q_eLst {k w} (h : AdL k w) : AdE (k_eLst k) (eLst w) := fun G P PX e => h _ _ _ ((sat_rb e).mono (fun d G e => gdr e) fun _ _ q => q)
@[simp ↓] def c_eop2 (f : K2) (x y : D) (G : T.Env) : Re D := obr (f (frz x) (frz y)) fun d => .ok (frz d) G
@[simp ↓] def c_eop1 (f : K2) (b : KE) (x : D) (G : T.Env) : Re D := rb (b G) (c_eop2 f x)
@[simp ↓] def k_eOp (f : K2) (a b : KE) (G : T.Env) : Re D := rb (a G) (c_eop1 f b)
theorem q_eOp {kf : K2} {f a b ka kb} (hf : Ad2 kf f) (ha : AdE ka a) (hb : AdE kb b) : AdE (k_eOp kf ka kb) (eOp f a b) := fun G P PX e =>
  ha _ _ _ ((sat_rb e).mono (fun x G e => hb _ _ _ ((sat_rb e).mono (fun y G e => by
    obtain ⟨d, hd, e⟩ := sat_obr e
    exact hf _ _ _ _ hd e) fun _ _ q => q)) fun _ _ q => q)
@[simp ↓] def c_bop2 (f : K2) (x y : D) (G : T.Env) : Re Bool := obr (ob (f (frz x) (frz y)) asBl) fun d => .ok d G
@[simp ↓] def c_bop1 (f : K2) (b : KE) (x : D) (G : T.Env) : Re Bool := rb (b G) (c_bop2 f x)
@[simp ↓] def k_bOp (f : K2) (a b : KE) (G : T.Env) : Re Bool := rb (a G) (c_bop1 f b)
theorem q_bOp {kf : K2} {f a b ka kb} (hf : Ad2 kf f) (ha : AdE ka a) (hb : AdE kb b) : AdB (k_bOp kf ka kb) (bOp f a b) := fun G P PX e =>
  ha _ _ _ ((sat_rb e).mono (fun x G e => hb _ _ _ ((sat_rb e).mono (fun y G e => by
    obtain ⟨d, hd, e⟩ := sat_obr e
    obtain ⟨z, hz, hd⟩ := ob_eq hd
    obtain rfl := asBl_eq hd
    exact hf _ _ _ _ hz e) fun _ _ q => q)) fun _ _ q => q)
@[simp ↓] def c_ecb (f : List D → Option D) (ds : List D) (G : T.Env) : Re D := obr (f (frzL ds)) fun d => .ok (frz d) G
@[simp ↓] def k_eCB (f : List D → Option D) (t : KL) (G : T.Env) : Re D := rb (t G) (c_ecb f)
theorem q_eCB {kf f k w} (hf : AdC kf f) (h : AdL k w) : AdE (k_eCB kf k) (eCB f w) := fun G P PX e =>
  h _ _ _ ((sat_rb e).mono (fun d G e => by
    obtain ⟨x, hx, e⟩ := sat_obr e
    exact hf _ _ _ hx e) fun _ _ q => q)
@[simp ↓] def c_ecbf (f : List D → Option (List D)) (ds : List D) (G : T.Env) : Re D := obr (f (frzL ds)) fun d => .ok (.lst true (frzL d)) G
@[simp ↓] def k_eCBF (f : List D → Option (List D)) (t : KL) (G : T.Env) : Re D := rb (t G) (c_ecbf f)
theorem q_eCBF {kf f k w} (hf : AdCF kf f) (h : AdL k w) : AdE (k_eCBF kf k) (eCBF f w) := fun G P PX e =>
  h _ _ _ ((sat_rb e).mono (fun d G e => by
    obtain ⟨x, hx, e⟩ := sat_obr e
    exact hf _ _ _ hx e) fun _ _ q => q)
/-! calls -/
def frE (x : Fr) (G : T.Env) : Re D := match x with | .ret d _ => .ok d G | .ex c _ => .ex c G | .no => .no
@[simp] theorem frE_ret (d : D) (ms : List D) (G : T.Env) : frE (.ret d ms) G = .ok d G := rfl
@[simp] theorem frE_ex (c : Nat) (ms : List D) (G : T.Env) : frE (.ex c ms) G = .ex c G := rfl
@[simp ↓] def c_eCallL (c : KF) (n : Nat) (ds : List D) (G : T.Env) : Re D := if ds.length = n then frE (c (frzL ds)) G else .no
@[simp ↓] def k_eCallL (c : KF) (n : Nat) (t : KL) (G : T.Env) : Re D := rb (t G) (c_eCallL c n)
theorem q_eCallL {k w} (c : KF) (n : Nat) (h : AdL k w) : AdE (k_eCallL c n k) (eCallL (spF c) n w) := fun G P PX e =>
  h _ _ _ ((sat_rb e).mono (fun d G e => by
    obtain ⟨l, e⟩ := gdr e
    refine ⟨l, ?_⟩
    unfold spF
    cases hc : c (frzL d) <;> rw [hc] at e <;> exact e) fun _ _ q => q)
def frR (x : Fr) (G : T.Env) : Re D := match x with | .ret d _ => if ownd d = true then .ok d G else .no | .ex c _ => .ex c G | .no => .no
@[simp] theorem frR_ret (d : D) (ms : List D) (G : T.Env) : frR (.ret d ms) G = if ownd d = true then .ok d G else .no := rfl
@[simp] theorem frR_ex (c : Nat) (ms : List D) (G : T.Env) : frR (.ex c ms) G = .ex c G := rfl
@[simp ↓] def c_eCallR (c : KF) (n : Nat) (G : T.Env) (ds : List D) : Re D := if ds.length = n then frR (c (frzL ds)) G else .no
@[simp ↓] def k_eCallR (c : KF) (n : Nat) (t : KA) (G : T.Env) : Re D := obr (t G) (c_eCallR c n G)
theorem q_eCallR {k w} (c : KF) (n : Nat) (h : AdA k w) : AdE (k_eCallR c n k) (eCallR (spF c) n w) := fun G P PX e => by
  obtain ⟨x, hx, e⟩ := sat_obr e
  obtain ⟨l, e⟩ := gdr e
  refine h _ _ _ hx ⟨l, ?_⟩
  unfold spF
  cases hc : c (frzL x) <;> rw [hc] at e <;> first | exact e | exact gdr e
def frM (js : List (Option Nat)) (G : T.Env) : Fr → Re D
  | .ret d ms => .ok d (putA js G ms)
  | .ex c ms => .ex c (putA js G ms)
  | .no => .no
@[simp] theorem frM_ret (js : List (Option Nat)) (G : T.Env) (d : D) (ms : List D) : frM js G (.ret d ms) = .ok d (putA js G ms) := rfl
@[simp] theorem frM_ex (js : List (Option Nat)) (G : T.Env) (c : Nat) (ms : List D) : frM js G (.ex c ms) = .ex c (putA js G ms) := rfl
@[simp ↓] def c_eCallM2 (c : KF) (js : List (Option Nat)) (q : List D × T.Env) : Re D := frM js q.2 (c q.1)
@[simp ↓] def c_eCallM (c : KF) (js : List (Option Nat)) (ds : List D) (G : T.Env) : Re D := obr (fillA js G (frzL ds)) (c_eCallM2 c js)
@[simp ↓] def k_eCallM (c : KF) (js : List (Option Nat)) (t : KL) (G : T.Env) : Re D := rb (t G) (c_eCallM c js)
theorem q_eCallM {k w} (c : KF) (js : List (Option Nat)) (h : AdL k w) : AdE (k_eCallM c js k) (eCallM (spF c) js w) := fun G P PX e =>
  h _ _ _ ((sat_rb e).mono (fun d G e => by
    obtain ⟨q, hq, e⟩ := sat_obr e
    rw [hq]
    show spF c q.1 _ _
    unfold spF
    unfold c_eCallM2 at e
    cases hc : c q.1 <;> rw [hc] at e <;> exact e) fun _ _ q => q)
def frMR (js : List (Option Nat)) (G : T.Env) : Fr → Re D
  | .ret d ms => if ownd d = true ∧ owndL ms = true then .ok d (putA js G ms) else .no
  | .ex c ms => if owndL ms = true then .ex c (putA js G ms) else .no
  | .no => .no
@[simp] theorem frMR_ret (js : List (Option Nat)) (G : T.Env) (d : D) (ms : List D) : frMR js G (.ret d ms) = if ownd d = true ∧ owndL ms = true then .ok d (putA js G ms) else .no := rfl
@[simp] theorem frMR_ex (js : List (Option Nat)) (G : T.Env) (c : Nat) (ms : List D) : frMR js G (.ex c ms) = if owndL ms = true then .ex c (putA js G ms) else .no := rfl
@[simp ↓] def c_eCallMR2 (c : KF) (js : List (Option Nat)) (G' : T.Env) (q : List D × T.Env) : Re D := frMR js G' (c q.1)
@[simp ↓] def c_eCallMR (c : KF) (js : List (Option Nat)) (G G' : T.Env) (ds : List D) : Re D := obr (fillA js G (frzL ds)) (c_eCallMR2 c js G')
@[simp ↓] def c_eCallMR0 (c : KF) (js : List (Option Nat)) (t : KA) (G G' : T.Env) : Re D := obr (t G') (c_eCallMR c js G G')
@[simp ↓] def k_eCallMR (c : KF) (js : List (Option Nat)) (t : KA) (G : T.Env) : Re D := obr (strip js G) (c_eCallMR0 c js t G)
theorem q_eCallMR {k w} (c : KF) (js : List (Option Nat)) (h : AdA k w) : AdE (k_eCallMR c js k) (eCallMR (spF c) js w) := fun G P PX e => by
  obtain ⟨G', hG, e⟩ := sat_obr e
  obtain ⟨x, hx, e⟩ := sat_obr e
  obtain ⟨q, hq, e⟩ := sat_obr e
  simp only [eCallMR]
  rw [hG]
  refine h _ _ _ hx ?_
  rw [hq]
  show spF c q.1 _ _
  unfold spF
  unfold c_eCallMR2 at e
  cases hc : c q.1 <;> rw [hc] at e <;> first | exact gdr e | exact e
@[simp ↓] def k_lMut (i : Nat) (t : KL) (G : T.Env) : Re (List D) := match G[i]? with | some (some _) => t G | _ => .no
theorem q_lMut {k w} (i : Nat) (h : AdL k w) : AdL (k_lMut i k) (lMut i w) := fun G P PX e => by
  simp only [k_lMut] at e
  simp only [lMut]
  split at e
  · rename_i d h1
    first | (rw [h1]; exact h _ _ _ e) | exact h _ _ _ e
  · exact e.elim
/-! methods of a list -/
def k_mApp : List D → List D → Option (List D × D) := fun xs as => match as with | [d] => if xs.length < 100000 then some (xs ++ [d], .non) else none | _ => none
def k_mExt : List D → List D → Option (List D × D) := fun xs as => match as with | [.lst _ zs] => if xs.length + zs.length < 100000 then some (xs ++ zs, .non) else none | _ => none
def k_mPop : List D → List D → Option (List D × D) := fun xs as => match as with
  | [.int i] => if -(2 ^ 63) ≤ i ∧ i < 2 ^ 63 then ob (ixN xs.length i) fun k => ob xs[k]? fun d => some (xs.eraseIdx k, d) else none
  | _ => none
def k_mPop0 : List D → List D → Option (List D × D) := fun xs as => match as with
  | [] => ob xs[xs.length - 1]? fun d => some (xs.eraseIdx (xs.length - 1), d)
  | _ => none
def k_mClear : List D → List D → Option (List D × D) := fun _ as => match as with | [] => some ([], .non) | _ => none
def k_mRev : List D → List D → Option (List D × D) := fun xs as => match as with | [] => some (xs.reverse, .non) | _ => none
@[simp] theorem mApp_eq (xs : List D) (d : D) : k_mApp xs [d] = if xs.length < 100000 then some (xs ++ [d], .non) else none := rfl
@[simp] theorem mExt_eq (xs : List D) (o : Bool) (zs : List D) : k_mExt xs [.lst o zs] = if xs.length + zs.length < 100000 then some (xs ++ zs, .non) else none := rfl
@[simp] theorem mPop_eq (xs : List D) (i : Int) : k_mPop xs [.int i] = if -(2 ^ 63) ≤ i ∧ i < 2 ^ 63 then ob (ixN xs.length i) fun k => ob xs[k]? fun d => some (xs.eraseIdx k, d) else none := rfl
@[simp] theorem mPop0_eq (xs : List D) : k_mPop0 xs [] = ob xs[xs.length - 1]? fun d => some (xs.eraseIdx (xs.length - 1), d) := rfl
@[simp] theorem mClear_eq (xs : List D) : k_mClear xs [] = some ([], .non) := rfl
@[simp] theorem mRev_eq (xs : List D) : k_mRev xs [] = some (xs.reverse, .non) := rfl
theorem q_mApp : AdM k_mApp mApp := fun xs as q F e p => by
  unfold k_mApp at e
  split at e
  · obtain ⟨c, e⟩ := gd e
    cases e
    exact ⟨c, p⟩
  · cases e
theorem q_mExt : AdM k_mExt mExt := fun xs as q F e p => by
  unfold k_mExt at e
  split at e
  · obtain ⟨c, e⟩ := gd e
    cases e
    exact ⟨c, p⟩
  · cases e
theorem q_mPop : AdM k_mPop mPop := fun xs as q F e p => by
  unfold k_mPop at e
  split at e
  · obtain ⟨c, e⟩ := gd e
    obtain ⟨k, hk, e⟩ := ob_eq e
    obtain ⟨d, hd, e⟩ := ob_eq e
    cases e
    refine ⟨c, ?_⟩
    simp only [hk, hd]
    exact p
  · cases e
theorem q_mPop0 : AdM k_mPop0 mPop0 := fun xs as q F e p => by
  unfold k_mPop0 at e
  split at e
  · obtain ⟨d, hd, e⟩ := ob_eq e
    cases e
    simp only [mPop0, hd]
    exact p
  · cases e
theorem q_mClear : AdM k_mClear mClear := fun xs as q F e p => by
  unfold k_mClear at e
  split at e
  · cases e; exact p
  · cases e
theorem q_mRev : AdM k_mRev mRev := fun xs as q F e p => by
  unfold k_mRev at e
  split at e
  · cases e; exact p
  · cases e
def ownAt (G : T.Env) (i : Nat) : Option (List D) := match G[i]? with | some (some d) => asOw d | _ => none
theorem ownAt_eq {G : T.Env} {i : Nat} {xs : List D} (h : ownAt G i = some xs) : G[i]? = some (some (.lst true xs)) := by
  unfold ownAt at h
  split at h
  · rename_i d e
    rw [e, asOw_eq h]
  · cases h
@[simp] theorem ownAt_0 (d : D) (G : T.Env) : ownAt (some d :: G) 0 = asOw d := rfl
@[simp] theorem ownAt_s (d : Option D) (G : T.Env) (i : Nat) : ownAt (d :: G) (i + 1) = ownAt G i := rfl
@[simp ↓] def c_meth2 (i : Nat) (G : T.Env) (q : List D × D) : Re D := .ok q.2 (G.set i (some (.lst true q.1)))
@[simp ↓] def c_meth1 (i : Nat) (f : List D → List D → Option (List D × D)) (as : List D) (G : T.Env) (xs : List D) : Re D := obr (f xs as) (c_meth2 i G)
@[simp ↓] def c_meth (i : Nat) (f : List D → List D → Option (List D × D)) (as : List D) (G : T.Env) : Re D := obr (ownAt G i) (c_meth1 i f as G)
@[simp ↓] def c_meth0 (i : Nat) (f : List D → List D → Option (List D × D)) (t : KL) (G : T.Env) (_ : List D) : Re D := rb (t G) (c_meth i f)
@[simp ↓] def k_eMeth (i : Nat) (f : List D → List D → Option (List D × D)) (t : KL) (G : T.Env) : Re D := obr (ownAt G i) (c_meth0 i f t G)
theorem q_eMeth {kf f k w} (i : Nat) (hf : AdM kf f) (h : AdL k w) : AdE (k_eMeth i kf k) (eMeth i f w) := fun G P PX e => by
  obtain ⟨xs, hx, e⟩ := sat_obr e
  simp only [eMeth, lstAt]
  rw [ownAt_eq hx]
  refine h _ _ _ ((sat_rb e).mono (fun as G e => ?_) fun _ _ q => q)
  obtain ⟨ys, hy, e⟩ := sat_obr e
  rw [ownAt_eq hy]
  obtain ⟨q, hq, e⟩ := sat_obr e
  exact hf _ _ _ _ hq e
/-! ### statements -/
@[simp ↓] def k_sNil (G : T.Env) : Ou := .nx G
theorem q_sNil : AdS k_sNil sNil := fun E G e => e
@[simp ↓] def k_sPass (G : T.Env) : Ou := .nx G
theorem q_sPass : AdS k_sPass sPass := fun E G e => e
@[simp ↓] def k_sBreak (G : T.Env) : Ou := .bk G
theorem q_sBreak : AdS k_sBreak sBreak := fun E G e => e
@[simp ↓] def k_sNever (_ : T.Env) : Ou := .no
theorem q_sNever : AdS k_sNever sNever := fun E G e => e
@[simp ↓] def k_sSeq (a b : KS) (G : T.Env) : Ou := ss (a G) b
theorem q_sSeq {k w k' w'} (h : AdS k w) (h' : AdS k' w') : AdS (k_sSeq k k') (sSeq w w') := fun E G e =>
  h _ _ ((sat_ss e).mono (fun G e => h' _ _ e) (fun _ _ q => q) (fun _ q => q) (fun _ q => q) (fun _ _ q => q))
@[simp ↓] def c_expr (_ : D) (G : T.Env) : Ou := .nx G
@[simp ↓] def k_sExpr (w : KE) (G : T.Env) : Ou := rbs (w G) c_expr
theorem q_sExpr {k w} (h : AdE k w) : AdS (k_sExpr k) (sExpr w) := fun E G e => h _ _ _ (sat_rbs e)
@[simp ↓] def k_sRet (w : KE) (G : T.Env) : Ou := rbs (w G) .rt
theorem q_sRet {k w} (h : AdE k w) : AdS (k_sRet k) (sRet w) := fun E G e => h _ _ _ (sat_rbs e)
@[simp ↓] def c_set (i : Nat) (d : D) (G : T.Env) : Ou := .nx (G.set i (some d))
@[simp ↓] def k_sSet (i : Nat) (w : KE) (G : T.Env) : Ou := rbs (w G) (c_set i)
theorem q_sSet {k w} (i : Nat) (h : AdE k w) : AdS (k_sSet i k) (sSet i w) := fun E G e => h _ _ _ (sat_rbs e)
@[simp ↓] def c_if (a b : KS) (c : Bool) (G : T.Env) : Ou := if c = true then a G else b G
@[simp ↓] def k_sIf (c : KB) (a b : KS) (G : T.Env) : Ou := rbs (c G) (c_if a b)
theorem q_sIf {kc c ka a kb b} (hc : AdB kc c) (ha : AdS ka a) (hb : AdS kb b) : AdS (k_sIf kc ka kb) (sIf c a b) := fun E G e =>
  hc _ _ _ ((sat_rbs e).mono (fun k G e => by
    cases k
    · exact hb _ _ e
    · exact ha _ _ e) fun _ _ q => q)
@[simp ↓] def c_unp (g : KG) (d : D) (G : T.Env) : Ou := obs (g d G) .nx
@[simp ↓] def k_sUnp (g : KG) (w : KE) (G : T.Env) : Ou := rbs (w G) (c_unp g)
theorem q_sUnp {kg g k w} (hg : AdG kg g) (h : AdE k w) : AdS (k_sUnp kg k) (sUnp g w) := fun E G e =>
  h _ _ _ ((sat_rbs e).mono (fun d G e => by
    obtain ⟨G', h1, e⟩ := sat_obs e
    exact hg _ _ _ _ h1 e) fun _ _ q => q)
theorem gds {c : Prop} [Decidable c] {x : Ou} {E : En} (h : (if c then x else .no).sat E) : c ∧ x.sat E := by
  split at h
  · exact ⟨‹_›, h⟩
  · exact h.elim
@[simp ↓] def c_six3 (i : Nat) (d : D) (G : T.Env) (xs : List D) (j : Nat) : Ou := .nx (G.set i (some (.lst true (xs.set j d))))
@[simp ↓] def c_six2 (i : Nat) (d : D) (G : T.Env) (xs : List D) (n : Int) : Ou := obs (ixN xs.length n) (c_six3 i d G xs)
@[simp ↓] def c_six1 (i : Nat) (ri : KR) (d : D) (G : T.Env) (xs : List D) : Ou := obs (ob (ri G) asIn) (c_six2 i d G xs)
@[simp ↓] def c_six0 (i : Nat) (ri : KR) (d : D) (G : T.Env) : Ou := obs (ownAt G i) (c_six1 i ri d G)
@[simp ↓] def k_sSetIx (i : Nat) (ri : KR) (w : KE) (G : T.Env) : Ou := rbs (w G) (c_six0 i ri)
theorem q_sSetIx {kr r k w} (i : Nat) (hr : AdR kr r) (h : AdE k w) : AdS (k_sSetIx i kr k) (sSetIx i r w) := fun E G e =>
  h _ _ _ ((sat_rbs e).mono (fun d G e => by
    obtain ⟨xs, hx, e⟩ := sat_obs e
    simp only [lstAt]
    rw [ownAt_eq hx]
    obtain ⟨n, hn, e⟩ := sat_obs e
    obtain ⟨y, hy, hn⟩ := ob_eq hn
    obtain rfl := asIn_eq hn
    refine hr _ _ _ hy ?_
    obtain ⟨j, hj, e⟩ := sat_obs e
    simp only [hj]
    exact e) fun _ _ q => q)
@[simp ↓] def c_aix4 (i : Nat) (f : Int → Int → Int) (G : T.Env) (xs : List D) (j : Nat) (a b : Int) : Ou := .nx (G.set i (some (.lst true (xs.set j (.int (f a b))))))
@[simp ↓] def c_aix3 (i : Nat) (f : Int → Int → Int) (re : KR) (G : T.Env) (xs : List D) (j : Nat) (a : Int) : Ou := obs (ob (re G) asIn) (c_aix4 i f G xs j a)
@[simp ↓] def c_aix2 (i : Nat) (f : Int → Int → Int) (re : KR) (G : T.Env) (xs : List D) (j : Nat) : Ou := obs (ob xs[j]? asIn) (c_aix3 i f re G xs j)
@[simp ↓] def c_aix1 (i : Nat) (f : Int → Int → Int) (re : KR) (G : T.Env) (xs : List D) (n : Int) : Ou := obs (ixN xs.length n) (c_aix2 i f re G xs)
@[simp ↓] def c_aix0 (i : Nat) (f : Int → Int → Int) (ri re : KR) (G : T.Env) (xs : List D) : Ou := obs (ob (ri G) asIn) (c_aix1 i f re G xs)
@[simp ↓] def k_sAugIx (i : Nat) (f : Int → Int → Int) (ri re : KR) (G : T.Env) : Ou := obs (ownAt G i) (c_aix0 i f ri re G)
theorem q_sAugIx {kr r k w} (i : Nat) (f : Int → Int → Int) (hr : AdR kr r) (h : AdR k w) : AdS (k_sAugIx i f kr k) (sAugIx i f r w) := fun E G e => by
  obtain ⟨xs, hx, e⟩ := sat_obs e
  simp only [sAugIx, lstAt]
  rw [ownAt_eq hx]
  obtain ⟨n, hn, e⟩ := sat_obs e
  obtain ⟨y, hy, hn⟩ := ob_eq hn
  obtain rfl := asIn_eq hn
  refine hr _ _ _ hy ?_
  obtain ⟨j, hj, e⟩ := sat_obs e
  simp only [hj]
  obtain ⟨a, ha, e⟩ := sat_obs e
  obtain ⟨z, hz, ha⟩ := ob_eq ha
  obtain rfl := asIn_eq ha
  simp only [hz]
  obtain ⟨b, hb, e⟩ := sat_obs e
  obtain ⟨u, hu, hb⟩ := ob_eq hb
  obtain rfl := asIn_eq hb
  exact h _ _ _ hu e
def inAt (G : T.Env) (i : Nat) : Option Int := match G[i]? with | some (some d) => asIn d | _ => none
theorem inAt_eq {G : T.Env} {i : Nat} {x : Int} (h : inAt G i = some x) : G[i]? = some (some (.int x)) := by
  unfold inAt at h
  split at h
  · rename_i d e
    rw [e, asIn_eq h]
  · cases h
@[simp] theorem inAt_0 (d : D) (G : T.Env) : inAt (some d :: G) 0 = asIn d := rfl
@[simp] theorem inAt_s (d : Option D) (G : T.Env) (i : Nat) : inAt (d :: G) (i + 1) = inAt G i := rfl
@[simp ↓] def c_aug2 (i : Nat) (f : Int → Int → Int) (a : Int) (G : T.Env) (b : Int) : Ou := .nx (G.set i (some (.int (f a b))))
@[simp ↓] def c_aug1 (i : Nat) (f : Int → Int → Int) (a : Int) (d : D) (G : T.Env) : Ou := obs (asIn d) (c_aug2 i f a G)
@[simp ↓] def c_aug0 (i : Nat) (f : Int → Int → Int) (w : KE) (G : T.Env) (a : Int) : Ou := rbs (w G) (c_aug1 i f a)
@[simp ↓] def k_sAug (i : Nat) (f : Int → Int → Int) (w : KE) (G : T.Env) : Ou := obs (inAt G i) (c_aug0 i f w G)
theorem q_sAug {k w} (i : Nat) (f : Int → Int → Int) (h : AdE k w) : AdS (k_sAug i f k) (sAug i f w) := fun E G e => by
  obtain ⟨a, ha, e⟩ := sat_obs e
  simp only [sAug]
  rw [inAt_eq ha]
  refine h _ _ _ ((sat_rbs e).mono (fun d G e => ?_) fun _ _ q => q)
  obtain ⟨b, hb, e⟩ := sat_obs e
  obtain rfl := asIn_eq hb
  exact e
/-! loops -/
section
variable {α β : Type}
def lpo (r : T.Env → Ou) : Ou → Ou
  | .nx G => r G
  | .ct G => r G
  | .bk G => .nx G
  | .rt d G => .rt d G
  | .ex c G => .ex c G
  | .no => .no
@[simp] theorem lpo_e0 (r : T.Env → Ou) {G} : lpo r (Ou.nx G) = r G := rfl
@[simp] theorem lpo_e1 (r : T.Env → Ou) {G} : lpo r (Ou.ct G) = r G := rfl
@[simp] theorem lpo_e2 (r : T.Env → Ou) {G} : lpo r (Ou.bk G) = .nx G := rfl
@[simp] theorem lpo_e3 (r : T.Env → Ou) {d G} : lpo r (Ou.rt d G) = .rt d G := rfl
@[simp] theorem lpo_e4 (r : T.Env → Ou) {c G} : lpo r (Ou.ex c G) = .ex c G := rfl
@[simp] theorem lpo_e5 (r : T.Env → Ou) : lpo r Ou.no = .no := rfl
def kLoop (f : α → T.Env → Ou) : List α → T.Env → Ou
  | [], G => .nx G
  | x :: xs, G => lpo (kLoop f xs) (f x G)
@[simp] theorem kLoop_nil (f : α → T.Env → Ou) (G : T.Env) : kLoop f [] G = .nx G := rfl
theorem kLoop_cons (f : α → T.Env → Ou) (x : α) (xs : List α) (G : T.Env) : kLoop f (x :: xs) G = lpo (kLoop f xs) (f x G) := rfl
end
@[simp ↓] def c_step (g : KG) (b : KS) (x : D) (G : T.Env) : Ou := obs (g x G) b
@[simp ↓] def c_for (g : KG) (b : KS) (xs : List D) (G : T.Env) : Ou := kLoop (c_step g b) xs G
@[simp ↓] def k_sFor (src : KL) (g : KG) (b : KS) (G : T.Env) : Ou := rbs (src G) (c_for g b)
theorem sat_lpo {r : T.Env → Ou} {o : Ou} {E : En} (h : (lpo r o).sat E) : o.sat { E with nx := fun G => (r G).sat E, ct := fun G => (r G).sat E, bk := E.nx } := by
  cases o <;> exact h
theorem loop_ad {kg g kb b} (hg : AdG kg g) (hb : AdS kb b) (E : En) : ∀ (xs : List D) (G : T.Env), (kLoop (c_step kg kb) xs G).sat E → sLoop g b E xs G
  | [], G, e => e
  | x :: xs, G, e => by
    have e := sat_lpo e
    obtain ⟨G', hG, e⟩ := sat_obs e
    refine hg _ _ _ _ hG (hb _ _ (e.mono (fun G e => loop_ad hg hb E xs G e) (fun _ _ q => q) (fun _ q => q) (fun G e => loop_ad hg hb E xs G e) (fun _ _ q => q)))
theorem q_sFor {ks s kg g kb b} (hs : AdL ks s) (hg : AdG kg g) (hb : AdS kb b) : AdS (k_sFor ks kg kb) (sFor s g b) := fun E G e =>
  hs _ _ _ ((sat_rbs e).mono (fun xs G e => loop_ad hg hb E xs G e) fun _ _ q => q)
@[simp ↓] def c_put (i : Nat) (d : D) (G : T.Env) : Ou := match G[i]? with | some none => .nx (G.set i (some d)) | _ => .no
@[simp ↓] def c_forA2 (i : Nat) (d : D) (g : KG) (b : KS) (G : T.Env) (xs : List D) : Ou := if flatL xs = true then ss (kLoop (c_step g b) xs (G.set i none)) (c_put i d) else .no
@[simp ↓] def k_sForA (i : Nat) (src : KA) (g : KG) (b : KS) (G : T.Env) : Ou := match G[i]? with | some (some d) => obs (src (keepAt [i] 0 G)) (c_forA2 i d g b G) | _ => .no
theorem q_sForA {ks s kg g kb b} (i : Nat) (hs : AdA ks s) (hg : AdG kg g) (hb : AdS kb b) : AdS (k_sForA i ks kg kb) (sForA i s g b) := fun E G e => by
  unfold k_sForA at e
  unfold sForA
  cases hG : G[i]? with
  | none => rw [hG] at e; exact e.elim
  | some o =>
    cases o with
    | none => rw [hG] at e; exact e.elim
    | some d =>
      rw [hG] at e
      obtain ⟨xs, hx, e⟩ := sat_obs e
      refine hs _ _ _ hx ?_
      unfold c_forA2 at e
      obtain ⟨hf, e⟩ := gds e
      refine ⟨hf, loop_ad hg hb _ xs _ ((sat_ss e).mono (fun G' e => ?_) (fun _ _ q => q) (fun _ q => q) (fun _ q => q) (fun _ _ q => q))⟩
      have e : (c_put i d G').sat E := e
      unfold c_put at e
      split at e
      · rename_i hn
        exact ⟨hn, e⟩
      · exact e.elim
def kWhl (c : KB) (b : KS) : Nat → T.Env → Ou
  | 0, _ => .no
  | n + 1, G => rbs (c G) fun k G' => if k = true then lpo (kWhl c b n) (b G') else .nx G'
theorem kWhl_s (c : KB) (b : KS) (n : Nat) (G : T.Env) : kWhl c b (n + 1) G = rbs (c G) fun k G' => if k = true then lpo (kWhl c b n) (b G') else .nx G' := rfl
@[simp ↓] def k_sWhile (n : Nat) (c : KB) (b : KS) (G : T.Env) : Ou := kWhl c b n G
theorem whl_ad {kc c kb b} (hc : AdB kc c) (hb : AdS kb b) (E : En) : ∀ (n : Nat) (G : T.Env), (kWhl kc kb n G).sat E → whl c b E n G
  | 0, G, e => e.elim
  | n + 1, G, e => by
    refine hc _ _ _ ((sat_rbs e).mono (fun k G e => ?_) fun _ _ q => q)
    cases k
    · exact e
    · exact hb _ _ ((sat_lpo e).mono (fun G e => whl_ad hc hb E n G e) (fun _ _ q => q) (fun _ q => q) (fun G e => whl_ad hc hb E n G e) (fun _ _ q => q))
theorem q_sWhile {kc c kb b} (n : Nat) (hc : AdB kc c) (hb : AdS kb b) : AdS (k_sWhile n kc kb) (sWhile c b) := fun E G e => ⟨n, whl_ad hc hb E n G e⟩
/-! sources -/
@[simp ↓] def c_lZ (js : List Nat) (G : T.Env) (xs : List D) : Re (List D) := .ok xs (frzAt js 0 G)
@[simp ↓] def k_lZ (js : List Nat) (r : KA) (G : T.Env) : Re (List D) := obr (r (keepAt js 0 G)) (c_lZ js G)
theorem q_lZ {k w} (js : List Nat) (h : AdA k w) : AdL (k_lZ js k) (lZ js w) := fun G P PX e => by
  obtain ⟨x, hx, e⟩ := sat_obr e
  exact h _ _ _ hx e
@[simp ↓] def c_lLst (d : D) (G : T.Env) : Re (List D) := obr (asLs d) fun xs => .ok (frzL xs) G
@[simp ↓] def k_lLst (t : KE) (G : T.Env) : Re (List D) := rb (t G) c_lLst
theorem q_lLst {k w} (h : AdE k w) : AdL (k_lLst k) (lLst w) := fun G P PX e =>
  h _ _ _ ((sat_rb e).mono (fun d G e => by
    obtain ⟨x, hx, e⟩ := sat_obr e
    obtain ⟨o, rfl⟩ := asLs_eq hx
    exact e) fun _ _ q => q)
@[simp ↓] def c_lNo (G : T.Env) (xs : List D) : Re (List D) := .ok xs G
@[simp ↓] def k_lNo (r : KA) (G : T.Env) : Re (List D) := obr (r G) (c_lNo G)
theorem q_lNo {k w} (h : AdA k w) : AdL (k_lNo k) (lNo w) := fun G P PX e => by
  obtain ⟨x, hx, e⟩ := sat_obr e
  exact h _ _ _ hx e
@[simp ↓] def c_lRng1 (ds : List D) (G : T.Env) : Re (List D) := obr (rng1 ds) (c_lNo G)
@[simp ↓] def k_lRng1 (t : KL) (G : T.Env) : Re (List D) := rb (t G) c_lRng1
theorem q_lRng1 {k w} (h : AdL k w) : AdL (k_lRng1 k) (lRng1 w) := fun G P PX e =>
  h _ _ _ ((sat_rb e).mono (fun d G e => by
    obtain ⟨x, hx, e⟩ := sat_obr e
    obtain ⟨j, rfl, c, rfl⟩ := rng1_eq hx
    exact ⟨c, e⟩) fun _ _ q => q)
@[simp ↓] def c_lEnum (ds : List D) (G : T.Env) : Re (List D) := obr (enmF ds) (c_lNo G)
@[simp ↓] def k_lEnum (t : KL) (G : T.Env) : Re (List D) := rb (t G) c_lEnum
theorem q_lEnum {k w} (h : AdL k w) : AdL (k_lEnum k) (lEnum w) := fun G P PX e =>
  h _ _ _ ((sat_rb e).mono (fun d G e => by
    obtain ⟨x, hx, e⟩ := sat_obr e
    obtain ⟨o, j, rfl, rfl⟩ := enmF_eq hx
    exact e) fun _ _ q => q)
/-! a comprehension with effects -/
section
variable {α β : Type}
@[simp ↓] def c_ce2 (r : Option D) (ds : List D) (G : T.Env) : Re (List D) := .ok (match r with | some d => d :: ds | none => ds) G
def kCompE (f : α → T.Env → Re (Option D)) : List α → T.Env → Re (List D)
  | [], G => .ok [] G
  | x :: xs, G => rb (f x G) fun r G' => rb (kCompE f xs G') (c_ce2 r)
@[simp] theorem kCompE_nil (f : α → T.Env → Re (Option D)) (G : T.Env) : kCompE f [] G = .ok [] G := rfl
theorem kCompE_cons (f : α → T.Env → Re (Option D)) (x : α) (xs : List α) (G : T.Env) : kCompE f (x :: xs) G = rb (f x G) fun r G' => rb (kCompE f xs G') (c_ce2 r) := rfl
end
@[simp ↓] def c_cx3 (vs : List Nat) (d : D) (G : T.Env) : Re (Option D) := .ok (some d) (wipeE G vs)
@[simp ↓] def c_cx2 (w : KE) (vs : List Nat) (b : Bool) (G : T.Env) : Re (Option D) := if b = true then rb (w G) (c_cx3 vs) else .ok none (wipeE G vs)
@[simp ↓] def c_cx1 (c : KB) (w : KE) (vs : List Nat) (G : T.Env) : Re (Option D) := rb (c G) (c_cx2 w vs)
@[simp ↓] def c_cx (g : KG) (c : KB) (w : KE) (vs : List Nat) (x : D) (G : T.Env) : Re (Option D) := obr (g x G) (c_cx1 c w vs)
/-- what must not be: a refusal within a comprehension has no rule -/
def noEx {α : Type} : Re α → Re α | .ok a G => .ok a G | _ => .no
@[simp] theorem noEx_ok {α : Type} (a : α) (G : T.Env) : noEx (.ok a G) = .ok a G := rfl
theorem noEx_sat {α : Type} {x : Re α} {P : α → T.Env → Prop} {PX : Nat → T.Env → Prop} (h : (noEx x).sat P PX) : x.sat P (fun _ _ => False) := by
  cases x <;> exact h
@[simp ↓] def c_cx9 (ds : List D) (G : T.Env) : Re D := .ok (.lst true ds) G
@[simp ↓] def c_cx0 (g : KG) (c : KB) (w : KE) (vs : List Nat) (xs : List D) (G : T.Env) : Re D := if xs.length ≤ 100000 then rb (noEx (kCompE (c_cx g c w vs) xs (wipeE G vs))) c_cx9 else .no
@[simp ↓] def k_eComp (src : KL) (g : KG) (c : KB) (w : KE) (vs : List Nat) (G : T.Env) : Re D := rb (src G) (c_cx0 g c w vs)
theorem compE_ad {kg g kc c kw w} (hg : AdG kg g) (hc : AdB kc c) (hw : AdE kw w) (vs : List Nat) : ∀ (xs : List D) (G : T.Env) (P : List D → T.Env → Prop), (kCompE (c_cx kg kc kw vs) xs G).sat P (fun _ _ => False) → compE g c w vs xs G P
  | [], G, P, e => e
  | x :: xs, G, P, e => by
    rw [kCompE_cons] at e
    have e := sat_rb e
    obtain ⟨G1, e1, e⟩ := sat_obr e
    refine hg _ _ _ _ e1 (hc _ _ _ ((sat_rb e).mono (fun b G2 e => ?_) fun _ _ q => q))
    cases b
    · exact compE_ad hg hc hw vs xs _ _ (sat_rb e)
    · refine hw _ _ _ ((sat_rb e).mono (fun d G3 e => ?_) fun _ _ q => q)
      exact compE_ad hg hc hw vs xs _ _ (sat_rb e)
theorem q_eComp {ks s kg g kc c kw w} (hs : AdL ks s) (hg : AdG kg g) (hc : AdB kc c) (hw : AdE kw w) (vs : List Nat) : AdE (k_eComp ks kg kc kw vs) (eComp s g c w vs) := fun G P PX e =>
  hs _ _ _ ((sat_rb e).mono (fun xs G e => by
    obtain ⟨l, e⟩ := gdr e
    exact ⟨l, compE_ad hg hc hw vs _ _ _ (noEx_sat (sat_rb e))⟩) fun _ _ q => q)
@[simp ↓] def c_ecat2 (x y : D) (G : T.Env) : Re D := obr (catL x y) fun ds => .ok (.lst true (frzL ds)) G
@[simp ↓] def c_ecat1 (b : KE) (x : D) (G : T.Env) : Re D := rb (b G) (c_ecat2 x)
@[simp ↓] def k_eCat (a b : KE) (G : T.Env) : Re D := rb (a G) (c_ecat1 b)
theorem q_eCat {ka a kb b} (ha : AdE ka a) (hb : AdE kb b) : AdE (k_eCat ka kb) (eCat a b) := fun G P PX e =>
  ha _ _ _ ((sat_rb e).mono (fun x G e => hb _ _ _ ((sat_rb e).mono (fun y G e => by
    obtain ⟨d, hd, e⟩ := sat_obr e
    cases x <;> first | cases hd; done | skip
    cases y <;> first | cases hd; done | skip
    obtain ⟨c, hd⟩ := gd hd
    cases hd
    exact ⟨c, e⟩) fun _ _ q => q)) fun _ _ q => q)
/-! slots that are not wanted any more -/
/-- a statement, and behind it these slots are let go -/
def sDr (js : List Nat) (w : WS) : WS := fun E G => w { E with nx := fun G' => E.nx (wipeE G' js) } G
@[simp ↓] def c_dr (js : List Nat) (G : T.Env) : Ou := .nx (wipeE G js)
@[simp ↓] def k_sDr (js : List Nat) (k : KS) (G : T.Env) : Ou := ss (k G) (c_dr js)
theorem q_sDr {k w} (js : List Nat) (h : AdS k w) : AdS (k_sDr js k) (sDr js w) := fun E G e => h _ _ (sat_ss e)
section
variable {ι : Type} {X : ι → Cx} {K : PySem.W.Frag} {W : WX} {pn : List Nat}
theorem RpG.forget {H : Hp} {U : Addr → Prop} {G : T.Env} {σ : L2.St} : ∀ (vs : List Nat) {os : List Addr}, RpG K H U G σ os → ∃ o1 o2, RpG K H U (wipeE G vs) σ o2 ∧ os.Perm (o1 ++ o2)
  | [], os, g => ⟨[], os, g, List.Perm.refl _⟩
  | v :: vs, os, g => by
    obtain ⟨p1, p2, g1, m1⟩ := RpG.forget vs g
    obtain ⟨p3, p4, g2, m2⟩ := g1.drop v
    exact ⟨p1 ++ p3, p4, g2, m1.trans (by rw [List.append_assoc]; exact m2.append_left p1)⟩
theorem Rep.forget (vs : List Nat) {U0 : Addr → Prop} {G : T.Env} {σ : L2.St} {H : Hp} {Oo os : List Addr} (r : Rep K U0 G σ H Oo os) : ∃ os', Rep K U0 (wipeE G vs) σ H Oo os' ∧ ∀ a ∈ os', a ∈ os := by
  obtain ⟨o1, o2, h1, pm⟩ := RpG.forget vs r.g
  have hs : ∀ a ∈ Oo ++ o2, a ∈ Oo ++ os := fun a m => by
    rcases List.mem_append.mp m with z | z
    · exact List.mem_append_left _ z
    · exact List.mem_append_right _ (pm.mem_iff.mpr (List.mem_append_right _ z))
  obtain ⟨n1, n2, n3⟩ := List.nodup_append.mp r.own.1
  obtain ⟨_, m2, _⟩ := List.nodup_append.mp (pm.nodup_iff.mp n2)
  exact ⟨o2, ⟨h1.mono (os0 := o2) (fun a o e _ => e) (fun a u _ => ug_sub hs a u) fun a m => m, ⟨List.nodup_append.mpr ⟨n1, m2, fun a m b m' => n3 a m b (pm.mem_iff.mpr (List.mem_append_right _ m'))⟩, fun a m => r.own.2 a (hs a m)⟩, fun a m => r.u0 a (hs a m), r.un⟩, fun a m => pm.mem_iff.mpr (List.mem_append_right _ m)⟩
theorem s_dr {st : Stmt} {w : WS} (js : List Nat) (h : SndS X K W pn st w) : SndS X K W pn st (sDr js w) := by
  obtain ⟨t, h1, h2⟩ := h
  refine ⟨t, h1, fun U0 G σ H Oo os E D rep w' ok => h2 U0 G σ H Oo os _ D rep w' ⟨fun G' σ' H' os1 p s r n => ?_, ok.rt, ok.bk, ok.ct, ok.ex⟩⟩
  obtain ⟨os2, r2, hs⟩ := Rep.forget js r
  exact ok.nx _ σ' H' os2 p (s.sub hs) r2 n
end
end T
namespace T
open PySem PySem.Spec PyProof.Rows L2
/-! ### operators and built-in calls, as computed -/
instance (i j : Int) : Decidable (CMul i j) := by unfold CMul; infer_instance
instance (i j : Int) : Decidable (CDiv i j) := by unfold CDiv; infer_instance
instance (i j : Int) : Decidable (CPow i j) := by unfold CPow; infer_instance
def kI (C : Int → Int → Prop) [∀ i j, Decidable (C i j)] (g : Int → Int → D) : K2 := fun x y => match x, y with | .int i, .int j => if C i j then some (g i j) else none | _, _ => none
def kI0 (g : Int → Int → D) : K2 := fun x y => match x, y with | .int i, .int j => some (g i j) | _, _ => none
theorem kI_ad {C : Int → Int → Prop} [∀ i j, Decidable (C i j)] {g : Int → Int → D} : Ad2 (kI C g) (onI C g) := fun x y d P e p => by
  unfold kI at e
  split at e
  · obtain ⟨c, e⟩ := gd e
    cases e
    exact ⟨c, p⟩
  · cases e
theorem kI0_ad {g : Int → Int → D} : Ad2 (kI0 g) (onI0 g) := fun x y d P e p => by
  unfold kI0 at e
  split at e
  · cases e
    exact p
  · cases e
@[simp] theorem kI_eq (C : Int → Int → Prop) [∀ i j, Decidable (C i j)] (g : Int → Int → D) (i j : Int) : kI C g (.int i) (.int j) = if C i j then some (g i j) else none := rfl
@[simp] theorem kI0_eq (g : Int → Int → D) (i j : Int) : kI0 g (.int i) (.int j) = some (g i j) := rfl
abbrev k_subD : K2 := kI0 fun i j => .int (i - j)
abbrev k_mulD : K2 := kI CMul fun i j => .int (i * j)
abbrev k_fdivD : K2 := kI CDiv fun i j => .int (i / j)
abbrev k_modD : K2 := kI (fun _ j => 0 < j) fun i j => .int (i % j)
abbrev k_powD : K2 := kI CPow fun i j => .int (i ^ j.toNat)
abbrev k_shlD : K2 := kI CPow fun i j => .int (i * 2 ^ j.toNat)
abbrev k_shrD : K2 := kI (fun _ j => 0 ≤ j) fun i j => .int (i / 2 ^ j.toNat)
abbrev k_bandD : K2 := kI0 fun i j => .int (Builtin.bitAnd i j)
abbrev k_leI : K2 := kI0 fun i j => .bl (decide (i ≤ j))
abbrev k_ltI : K2 := kI0 fun i j => .bl (decide (i < j))
theorem q_subD : Ad2 k_subD subD := kI0_ad
theorem q_mulD : Ad2 k_mulD mulD := kI_ad
theorem q_fdivD : Ad2 k_fdivD fdivD := kI_ad
theorem q_modD : Ad2 k_modD modD := kI_ad
theorem q_powD : Ad2 k_powD powD := kI_ad
theorem q_shlD : Ad2 k_shlD shlD := kI_ad
theorem q_shrD : Ad2 k_shrD shrD := kI_ad
theorem q_bandD : Ad2 k_bandD bandD := kI0_ad
theorem q_leI : Ad2 k_leI leI := kI0_ad
theorem q_ltI : Ad2 k_ltI ltI := kI0_ad
def k_addD : K2
  | .int i, .int j => some (.int (i + j))
  | .str a, .str b => if a.length + b.length ≤ 100000 then some (.str (a ++ b)) else none
  | .lst _ xs, .lst _ ys => if xs.length + ys.length ≤ 100000 then some (.lst false (xs ++ ys)) else none
  | .tup xs, .tup ys => if xs.length + ys.length ≤ 100000 then some (.tup (xs ++ ys)) else none
  | _, _ => none
@[simp] theorem k_addD_e0 {i j} : k_addD  (D.int i) (D.int j) = some (.int (i + j)) := rfl
@[simp] theorem k_addD_e1 {a b} : k_addD  (D.str a) (D.str b) = if a.length + b.length ≤ 100000 then some (.str (a ++ b)) else none := rfl
@[simp] theorem k_addD_e2 {y0 xs y2 ys} : k_addD  (D.lst y0 xs) (D.lst y2 ys) = if xs.length + ys.length ≤ 100000 then some (.lst false (xs ++ ys)) else none := rfl
@[simp] theorem k_addD_e3 {xs ys} : k_addD  (D.tup xs) (D.tup ys) = if xs.length + ys.length ≤ 100000 then some (.tup (xs ++ ys)) else none := rfl
theorem q_addD : Ad2 k_addD addD := fun x y d P e p => by
  unfold k_addD at e
  split at e
  · cases e; exact p
  · obtain ⟨c, e⟩ := gd e; cases e; exact ⟨c, p⟩
  · obtain ⟨c, e⟩ := gd e; cases e; exact ⟨c, p⟩
  · obtain ⟨c, e⟩ := gd e; cases e; exact ⟨c, p⟩
  · cases e
def k_eqD : K2 := fun x y => if shp x = true ∧ shp y = true then some (.bl (deq x y)) else none
def k_neD : K2 := fun x y => if shp x = true ∧ shp y = true then some (.bl (!deq x y)) else none
@[simp] theorem k_eqD_eq (x y : D) : k_eqD x y = if shp x = true ∧ shp y = true then some (.bl (deq x y)) else none := rfl
@[simp] theorem k_neD_eq (x y : D) : k_neD x y = if shp x = true ∧ shp y = true then some (.bl (!deq x y)) else none := rfl
theorem q_eqD : Ad2 k_eqD eqD := fun x y d P e p => by
  obtain ⟨c, e⟩ := gd e
  cases e
  exact ⟨c.1, c.2, p⟩
theorem q_neD : Ad2 k_neD neD := fun x y d P e p => by
  obtain ⟨c, e⟩ := gd e
  cases e
  exact ⟨c.1, c.2, p⟩
def k_inD : K2
  | x, .lst o xs => if shp x = true ∧ shp (.lst o xs) = true then some (.bl (mem x xs)) else none
  | x, .tup xs => if flt x = true ∧ xs.all flt = true then some (.bl (mem x xs)) else none
  | _, _ => none
@[simp] theorem k_inD_e0 {x o xs} : k_inD  x (D.lst o xs) = if shp x = true ∧ shp (.lst o xs) = true then some (.bl (mem x xs)) else none := rfl
@[simp] theorem k_inD_e1 {x xs} : k_inD  x (D.tup xs) = if flt x = true ∧ xs.all flt = true then some (.bl (mem x xs)) else none := rfl
def k_notInD : K2
  | x, .lst o xs => if shp x = true ∧ shp (.lst o xs) = true then some (.bl (!mem x xs)) else none
  | x, .tup xs => if flt x = true ∧ xs.all flt = true then some (.bl (!mem x xs)) else none
  | _, _ => none
@[simp] theorem k_notInD_e0 {x o xs} : k_notInD  x (D.lst o xs) = if shp x = true ∧ shp (.lst o xs) = true then some (.bl (!mem x xs)) else none := rfl
@[simp] theorem k_notInD_e1 {x xs} : k_notInD  x (D.tup xs) = if flt x = true ∧ xs.all flt = true then some (.bl (!mem x xs)) else none := rfl
theorem q_inD : Ad2 k_inD inD := fun x y d P e p => by
  unfold k_inD at e
  split at e <;> first | cases e; done | skip
  all_goals (obtain ⟨c, e⟩ := gd e; cases e; exact ⟨c.1, c.2, p⟩)
theorem q_notInD : Ad2 k_notInD notInD := fun x y d P e p => by
  unfold k_notInD at e
  split at e <;> first | cases e; done | skip
  all_goals (obtain ⟨c, e⟩ := gd e; cases e; exact ⟨c.1, c.2, p⟩)
def isNon : D → Bool | .non => true | _ => false
@[simp] theorem isNon_e0 : isNon  D.non = true := rfl
def k_isND : K2
  | x, .non => some (.bl (isNon x))
  | .bl a, .bl b => some (.bl (decide (a = b)))
  | _, _ => none
@[simp] theorem k_isND_e0 {x} : k_isND  x D.non = some (.bl (isNon x)) := rfl
@[simp] theorem k_isND_e1 {a b} : k_isND  (D.bl a) (D.bl b) = some (.bl (decide (a = b))) := rfl
def k_notND : K2
  | x, .non => some (.bl (!isNon x))
  | .bl a, .bl b => some (.bl (!decide (a = b)))
  | _, _ => none
@[simp] theorem k_notND_e0 {x} : k_notND  x D.non = some (.bl (!isNon x)) := rfl
@[simp] theorem k_notND_e1 {a b} : k_notND  (D.bl a) (D.bl b) = some (.bl (!decide (a = b))) := rfl
theorem q_isND : Ad2 k_isND isND := fun x y d P e p => by
  cases y <;> cases x <;> first | (cases e; done) | (cases e; exact p)
theorem q_notND : Ad2 k_notND notND := fun x y d P e p => by
  cases y <;> cases x <;> first | (cases e; done) | (cases e; exact p)
def ixS (z : Str) (i : Int) : Option D := if z.length ≤ 100000 then ob (atI z.cps.toList i) fun c => some (.str ⟨#[c]⟩) else none
def k_ixD : K2
  | .lst _ xs, .int i => atI xs i
  | .scr ns, .int i => ob (atI ns i) fun d => some (.int d)
  | .tup xs, .int i => atI xs i
  | .str z, .int i => ixS z i
  | _, _ => none
@[simp] theorem k_ixD_e0 {y0 xs i} : k_ixD  (D.lst y0 xs) (D.int i) = atI xs i := rfl
@[simp] theorem k_ixD_e1 {ns i} : k_ixD  (D.scr ns) (D.int i) = ob (atI ns i) fun d => some (.int d) := rfl
@[simp] theorem k_ixD_e2 {xs i} : k_ixD  (D.tup xs) (D.int i) = atI xs i := rfl
@[simp] theorem k_ixD_e3 {z i} : k_ixD  (D.str z) (D.int i) = ixS z i := rfl
theorem q_ixD : Ad2 k_ixD ixD := fun x y d P e p => by
  unfold k_ixD at e
  split at e
  · simp only [ixD]; rw [e]; exact p
  · obtain ⟨a, ha, e⟩ := ob_eq e
    cases e
    simp only [ixD]; rw [ha]; exact p
  · simp only [ixD]; rw [e]; exact p
  · obtain ⟨c, e⟩ := gd e
    obtain ⟨a, ha, e⟩ := ob_eq e
    cases e
    simp only [ixD]; rw [ha]; exact ⟨c, p⟩
  · cases e
def kOrd (f : Int → Int → Bool) (r : Int → Int → Bool) (z : Nat → Nat → Bool) : K2
  | .int i, .int j => some (.bl (f i j))
  | .tup xs, .tup ys => ob (asInts xs) fun ns => ob (asInts ys) fun ms => some (.bl (lexI r z ns ms))
  | _, _ => none
@[simp] theorem kOrd_int (f r z i j) : kOrd f r z (.int i) (.int j) = some (.bl (f i j)) := rfl
@[simp] theorem kOrd_tup (f r z xs ys) : kOrd f r z (.tup xs) (.tup ys) = ob (asInts xs) fun ns => ob (asInts ys) fun ms => some (.bl (lexI r z ns ms)) := rfl
theorem kOrd_ad (f r z) : Ad2 (kOrd f r z) (ordD f r z) := fun x y d P e p => by
  unfold kOrd at e
  split at e
  · cases e; exact p
  · obtain ⟨a, ha, e⟩ := ob_eq e
    obtain ⟨b, hb, e⟩ := ob_eq e
    cases e
    simp only [ordD, ha, hb]; exact p
  · cases e
abbrev k_ltD : K2 := kOrd (fun i j => decide (i < j)) (fun i j => decide (i < j)) (fun a b => decide (a < b))
abbrev k_leD : K2 := kOrd (fun i j => decide (i ≤ j)) (fun i j => decide (i ≤ j)) (fun a b => decide (a ≤ b))
abbrev k_gtD : K2 := kOrd (fun i j => decide (j < i)) (fun i j => decide (j < i)) (fun a b => decide (a > b))
abbrev k_geD : K2 := kOrd (fun i j => decide (j ≤ i)) (fun i j => decide (j ≤ i)) (fun a b => decide (a ≥ b))
theorem q_ltD : Ad2 k_ltD ltD := kOrd_ad _ _ _
theorem q_leD : Ad2 k_leD leD := kOrd_ad _ _ _
theorem q_gtD : Ad2 k_gtD gtD := kOrd_ad _ _ _
theorem q_geD : Ad2 k_geD geD := kOrd_ad _ _ _
/-! calls -/
def k_lenD : List D → Option D
  | [.lst _ xs] => some (.int xs.length)
  | [.scr xs] => some (.int xs.length)
  | [.tup xs] => some (.int xs.length)
  | [.str z] => if z.length ≤ 100000 then some (.int z.length) else none
  | _ => none
@[simp] theorem k_lenD_e0 {y0 xs} : k_lenD  [D.lst y0 xs] = some (.int xs.length) := rfl
@[simp] theorem k_lenD_e1 {xs} : k_lenD  [D.scr xs] = some (.int xs.length) := rfl
@[simp] theorem k_lenD_e2 {xs} : k_lenD  [D.tup xs] = some (.int xs.length) := rfl
@[simp] theorem k_lenD_e3 {z} : k_lenD  [D.str z] = if z.length ≤ 100000 then some (.int z.length) else none := rfl
theorem q_lenD : AdC k_lenD lenD := fun ds d P e p => by
  unfold k_lenD at e
  split at e
  · cases e; exact p
  · cases e; exact p
  · cases e; exact p
  · obtain ⟨c, e⟩ := gd e
    cases e; exact ⟨c, p⟩
  · cases e
def k_intD : List D → Option D
  | [.int i] => some (.int i)
  | [.bl b] => some (.int (if b then 1 else 0))
  | _ => none
@[simp] theorem k_intD_e0 {i} : k_intD  [D.int i] = some (.int i) := rfl
@[simp] theorem k_intD_e1 {b} : k_intD  [D.bl b] = some (.int (if b then 1 else 0)) := rfl
theorem q_intD : AdC k_intD intD := fun ds d P e p => by
  unfold k_intD at e
  split at e <;> first | (cases e; done) | (cases e; exact p)
def k_absD : List D → Option D
  | [.int i] => some (.int (if i < 0 then -i else i))
  | _ => none
@[simp] theorem k_absD_e0 {i} : k_absD  [D.int i] = some (.int (if i < 0 then -i else i)) := rfl
theorem q_absD : AdC k_absD absD := fun ds d P e p => by
  unfold k_absD at e
  split at e <;> first | (cases e; done) | (cases e; exact p)
def k_max2D : List D → Option D
  | [.int i, .int j] => some (.int (if j > i then j else i))
  | _ => none
@[simp] theorem k_max2D_e0 {i j} : k_max2D  [D.int i, D.int j] = some (.int (if j > i then j else i)) := rfl
theorem q_max2D : AdC k_max2D max2D := fun ds d P e p => by
  unfold k_max2D at e
  split at e <;> first | (cases e; done) | (cases e; exact p)
def k_min2D : List D → Option D
  | [.int i, .int j] => some (.int (if j < i then j else i))
  | _ => none
@[simp] theorem k_min2D_e0 {i j} : k_min2D  [D.int i, D.int j] = some (.int (if j < i then j else i)) := rfl
theorem q_min2D : AdC k_min2D min2D := fun ds d P e p => by
  unfold k_min2D at e
  split at e <;> first | (cases e; done) | (cases e; exact p)
def k_sumD : List D → Option D
  | [.lst _ xs] => ob (asInts xs) fun ns => some (.int ns.sum)
  | _ => none
@[simp] theorem k_sumD_e0 {y0 xs} : k_sumD  [D.lst y0 xs] = ob (asInts xs) fun ns => some (.int ns.sum) := rfl
theorem q_sumD : AdC k_sumD sumD := fun ds d P e p => by
  unfold k_sumD at e
  split at e
  · obtain ⟨a, ha, e⟩ := ob_eq e
    cases e
    simp only [sumD, ha]; exact p
  · cases e
def minI : List Int → Option Int
  | [] => none
  | x :: xs => some (xs.foldl (fun a b => if b < a then b else a) x)
def maxI : List Int → Option Int
  | [] => none
  | x :: xs => some (xs.foldl (fun a b => if a < b then b else a) x)
theorem minI_fold : ∀ (xs : List Int) (x : Int), (xs.foldl (fun a b => if b < a then b else a) x) ∈ x :: xs ∧ ∀ y ∈ x :: xs, (xs.foldl (fun a b => if b < a then b else a) x) ≤ y
  | [], x => by simp
  | z :: xs, x => by
    rw [List.foldl_cons]
    obtain ⟨h1, h2⟩ := minI_fold xs (if z < x then z else x)
    generalize xs.foldl (fun a b => if b < a then b else a) (if z < x then z else x) = r at h1 h2
    have h3 := h2 _ List.mem_cons_self
    refine ⟨?_, fun y hy => ?_⟩
    · rcases List.mem_cons.mp h1 with h | h
      · rw [h]; split <;> simp
      · simp [h]
    · rcases List.mem_cons.mp hy with h | h
      · subst h; split at h3 <;> omega
      · rcases List.mem_cons.mp h with h | h
        · subst h; split at h3 <;> omega
        · exact h2 y (List.mem_cons_of_mem _ h)
theorem maxI_fold : ∀ (xs : List Int) (x : Int), (xs.foldl (fun a b => if a < b then b else a) x) ∈ x :: xs ∧ ∀ y ∈ x :: xs, y ≤ (xs.foldl (fun a b => if a < b then b else a) x)
  | [], x => by simp
  | z :: xs, x => by
    rw [List.foldl_cons]
    obtain ⟨h1, h2⟩ := maxI_fold xs (if x < z then z else x)
    generalize xs.foldl (fun a b => if a < b then b else a) (if x < z then z else x) = r at h1 h2
    have h3 := h2 _ List.mem_cons_self
    refine ⟨?_, fun y hy => ?_⟩
    · rcases List.mem_cons.mp h1 with h | h
      · rw [h]; split <;> simp
      · simp [h]
    · rcases List.mem_cons.mp hy with h | h
      · subst h; split at h3 <;> omega
      · rcases List.mem_cons.mp h with h | h
        · subst h; split at h3 <;> omega
        · exact h2 y (List.mem_cons_of_mem _ h)
theorem minI_is {xs : List Int} {m : Int} (h : minI xs = some m) : m ∈ xs ∧ ∀ y ∈ xs, m ≤ y := by
  cases xs with
  | nil => cases h
  | cons x xs => cases h; exact minI_fold xs x
theorem maxI_is {xs : List Int} {m : Int} (h : maxI xs = some m) : m ∈ xs ∧ ∀ y ∈ xs, y ≤ m := by
  cases xs with
  | nil => cases h
  | cons x xs => cases h; exact maxI_fold xs x
theorem minI_of {xs : List Int} {m : Int} (h : m ∈ xs) (h2 : ∀ y ∈ xs, m ≤ y) : minI xs = some m := by
  cases e : minI xs with
  | none => cases xs with
    | nil => cases h
    | cons x xs => cases e
  | some r =>
    obtain ⟨a, b⟩ := minI_is e
    have := b m h
    have := h2 r a
    congr 1; omega
theorem maxI_of {xs : List Int} {m : Int} (h : m ∈ xs) (h2 : ∀ y ∈ xs, y ≤ m) : maxI xs = some m := by
  cases e : maxI xs with
  | none => cases xs with
    | nil => cases h
    | cons x xs => cases e
  | some r =>
    obtain ⟨a, b⟩ := maxI_is e
    have := b m h
    have := h2 r a
    congr 1; omega
def k_minLD : List D → Option D
  | [.lst _ xs] => ob (asInts xs) fun ns => ob (minI ns) fun m => some (.int m)
  | _ => none
def k_maxLD : List D → Option D
  | [.lst _ xs] => ob (asInts xs) fun ns => ob (maxI ns) fun m => some (.int m)
  | _ => none
@[simp] theorem k_minLD_eq (o : Bool) (xs : List D) : k_minLD [.lst o xs] = ob (asInts xs) fun ns => ob (minI ns) fun m => some (.int m) := rfl
@[simp] theorem k_maxLD_eq (o : Bool) (xs : List D) : k_maxLD [.lst o xs] = ob (asInts xs) fun ns => ob (maxI ns) fun m => some (.int m) := rfl
theorem q_minLD : AdC k_minLD minLD := fun ds d P e p => by
  unfold k_minLD at e
  split at e
  · obtain ⟨a, ha, e⟩ := ob_eq e
    obtain ⟨m, hm, e⟩ := ob_eq e
    cases e
    simp only [minLD, ha]
    obtain ⟨h1, h2⟩ := minI_is hm
    refine ⟨List.length_pos_of_mem h1, fun m' a1 a2 => ?_⟩
    have := h2 _ a1
    have := a2 _ h1
    have : m' = m := by omega
    rw [this]; exact p
  · cases e
theorem q_maxLD : AdC k_maxLD maxLD := fun ds d P e p => by
  unfold k_maxLD at e
  split at e
  · obtain ⟨a, ha, e⟩ := ob_eq e
    obtain ⟨m, hm, e⟩ := ob_eq e
    cases e
    simp only [maxLD, ha]
    obtain ⟨h1, h2⟩ := maxI_is hm
    refine ⟨List.length_pos_of_mem h1, fun m' a1 a2 => ?_⟩
    have := h2 _ a1
    have := a2 _ h1
    have : m' = m := by omega
    rw [this]; exact p
  · cases e
def k_tupleD : List D → Option D
  | [.lst _ xs] => some (.tup xs)
  | [.tup xs] => some (.tup xs)
  | _ => none
@[simp] theorem k_tupleD_e0 {y0 xs} : k_tupleD  [D.lst y0 xs] = some (.tup xs) := rfl
@[simp] theorem k_tupleD_e1 {xs} : k_tupleD  [D.tup xs] = some (.tup xs) := rfl
theorem q_tupleD : AdC k_tupleD tupleD := fun ds d P e p => by
  unfold k_tupleD at e
  split at e <;> first | (cases e; done) | (cases e; exact p)
def k_listD : List D → Option (List D)
  | [.lst _ xs] => some xs
  | [.tup xs] => some xs
  | _ => none
@[simp] theorem k_listD_e0 {y0 xs} : k_listD  [D.lst y0 xs] = some xs := rfl
@[simp] theorem k_listD_e1 {xs} : k_listD  [D.tup xs] = some xs := rfl
theorem q_listD : AdCF k_listD listD := fun ds d P e p => by
  unfold k_listD at e
  split at e <;> first | (cases e; done) | (cases e; exact p)
open Classical in
noncomputable def sorO (xs : List D) : Option (List D) := if Srtb xs then some (sortD xs) else none
noncomputable def k_sortedD : List D → Option (List D)
  | [.lst _ xs] => sorO xs
  | _ => none
@[simp] theorem k_sortedD_eq (o : Bool) (xs : List D) : k_sortedD [.lst o xs] = sorO xs := rfl
theorem sorO_eq {xs ys : List D} (h : Srtb xs) (e : sortD xs = ys) : sorO xs = some ys := by
  unfold sorO
  rw [if_pos h, e]
theorem q_sortedD : AdCF k_sortedD sortedD := fun ds d P e p => by
  unfold k_sortedD at e
  split at e
  · unfold sorO at e
    split at e
    · cases e; exact ⟨‹_›, p⟩
    · cases e
  · cases e
/-! a method that only reads -/
def ty3K (d : D) : String := ty3 d
@[simp] theorem ty3K_str (x : Str) : ty3K (.str x) = "str" := rfl
@[simp] theorem ty3K_lst (o : Bool) (xs : List D) : ty3K (.lst o xs) = "list" := rfl
def AdRM (c : D → List D → Option D) (f : D → List D → (D → Prop) → Prop) : Prop := ∀ x ds d (P : D → Prop), c x ds = some d → P d → f x ds P
@[simp ↓] def c_rm (f : D → List D → Option D) (ty : String) (a : KA) (G : T.Env) (x : D) : Option D := if ty3K x = ty then ob (a G) (f x) else none
@[simp ↓] def k_rMeth (f : D → List D → Option D) (ty : String) (o : KR) (a : KA) (G : T.Env) : Option D := ob (o G) (c_rm f ty a G)
theorem q_rMeth {kf f ko o ka a} (hf : AdRM kf f) (T : String) (ho : AdR ko o) (ha : AdA ka a) : AdR (k_rMeth kf T ko ka) (rMeth f T o a) := fun G d P e p => by
  obtain ⟨x, hx, e⟩ := ob_eq e
  obtain ⟨c, e⟩ := gd e
  obtain ⟨ds, hd, e⟩ := ob_eq e
  exact ho _ _ _ hx ⟨c, ha _ _ _ hd (hf _ _ _ _ e p)⟩
def k_lcntD : D → List D → Option D := fun x ds => match x, ds with | .lst _ xs, [.int k] => ob (asInts xs) fun ns => some (.int (ns.count k : Nat)) | _, _ => none
@[simp] theorem k_lcntD_eq (o : Bool) (xs : List D) (k : Int) : k_lcntD (.lst o xs) [.int k] = ob (asInts xs) fun ns => some (.int (ns.count k : Nat)) := rfl
theorem q_lcntD : AdRM k_lcntD lcntD := fun x ds d P e p => by
  unfold k_lcntD at e
  split at e
  · obtain ⟨ns, hn, e⟩ := ob_eq e
    cases e
    simp only [lcntD, hn]
    exact p
  · cases e
def k_lixD : D → List D → Option D := fun x ds => match x, ds with | .lst o xs, [d] => if shp (.lst o xs) = true ∧ shp d = true then ob (fstIx xs d) fun k => some (.int (k : Nat)) else none | _, _ => none
@[simp] theorem k_lixD_eq (o : Bool) (xs : List D) (d : D) : k_lixD (.lst o xs) [d] = if shp (.lst o xs) = true ∧ shp d = true then ob (fstIx xs d) fun k => some (.int (k : Nat)) else none := rfl
theorem q_lixD : AdRM k_lixD lixD := fun x ds d P e p => by
  unfold k_lixD at e
  split at e
  · obtain ⟨c, e⟩ := gd e
    obtain ⟨k, hk, e⟩ := ob_eq e
    cases e
    simp only [lixD, hk]
    exact ⟨c.1, c.2, p⟩
  · cases e
/-! a method of a list within -/
def AdLp (c : KL) (w : WL) : Prop := ∀ G P, (c G).sat P (fun _ _ => False) → w G P (fun _ _ => False)
@[simp ↓] def c_lPinR (i : Nat) (G : T.Env) (ds : List D) : Re (List D) := if flatL ds = true then .ok ds (G.set i none) else .no
@[simp ↓] def k_lPinR (i : Nat) (t : KA) (G : T.Env) : Re (List D) := obr (t G) (c_lPinR i G)
theorem q_lPinR {k w} (i : Nat) (h : AdA k w) : AdLp (k_lPinR i k) (lPinR i w) := fun G P e => by
  obtain ⟨x, hx, e⟩ := sat_obr e
  exact h _ _ _ hx (gdr e)
def frX (js : List (Option Nat)) (G : T.Env) : Fr → Re (List D)
  | .ret d ms => .ok [d] (putA js G ms)
  | _ => .no
@[simp] theorem frX_ret (js : List (Option Nat)) (G : T.Env) (d : D) (ms : List D) : frX js G (.ret d ms) = .ok [d] (putA js G ms) := rfl
@[simp ↓] def c_lPinX3 (c : KF) (js : List (Option Nat)) (G' : T.Env) (q : List D × T.Env) : Re (List D) := frX js G' (c q.1)
@[simp ↓] def c_lPinX2 (i : Nat) (c : KF) (js : List (Option Nat)) (G : T.Env) (ds : List D) (G' : T.Env) : Re (List D) := obr (fillA js (G.set i none) (frzL ds)) (c_lPinX3 c js G')
@[simp ↓] def c_lPinX1 (i : Nat) (c : KF) (js : List (Option Nat)) (G : T.Env) (ds : List D) : Re (List D) := if flatL ds = true then obr (strip js (G.set i none)) (c_lPinX2 i c js G ds) else .no
def slotIs : Option (Option D) → Bool | some (some _) => true | _ => false
@[simp] def slotsAt (js : List (Option Nat)) (G : T.Env) : Bool := js.all fun j => match j with | some k => slotIs G[k]? | none => true
@[simp ↓] def k_lPinX (i : Nat) (c : KF) (js : List (Option Nat)) (t : KA) (G : T.Env) : Re (List D) := if slotsAt js G = true then obr (t G) (c_lPinX1 i c js G) else .no
theorem q_lPinX {k w} (i : Nat) (c : KF) (js : List (Option Nat)) (h : AdA k w) : AdLp (k_lPinX i c js k) (lPinX i (spF c) js w) := fun G P e => by
  obtain ⟨s, e⟩ := gdr e
  obtain ⟨x, hx, e⟩ := sat_obr e
  obtain ⟨f, e⟩ := gdr e
  obtain ⟨G', hG, e⟩ := sat_obr e
  obtain ⟨q, hq, e⟩ := sat_obr e
  refine ⟨fun k m => ?_, h _ _ _ hx ⟨f, ?_⟩⟩
  · have := List.all_eq_true.mp s _ m
    simp only at this
    cases e2 : G[k]? with
    | none => rw [e2] at this; cases this
    | some o =>
      rw [e2] at this
      cases o with
      | none => cases this
      | some d => exact ⟨d, rfl⟩
  · rw [hG, hq]
    show spF c q.1 _ _
    unfold spF
    unfold c_lPinX3 at e
    cases hc : c q.1 <;> rw [hc] at e <;> exact e
def slotG (G : T.Env) (i : Nat) : Option D := match G[i]? with | some (some d) => some d | _ => none
theorem slotG_eq {G : T.Env} {i : Nat} {d : D} (h : slotG G i = some d) : G[i]? = some (some d) := by
  unfold slotG at h
  split at h
  · cases h; assumption
  · cases h
def isNo : Option (Option D) → Bool | some none => true | _ => false
theorem isNo_eq {x : Option (Option D)} (h : isNo x = true) : x = some none := by
  cases x with
  | none => cases h
  | some o => cases o with
    | none => rfl
    | some d => cases h
def itK (c : D) : Option (List D) := itm c
def rbK (c : D) (ys : List D) : D := rebuild c ys
@[simp] theorem itK_tup (xs : List D) : itK (.tup xs) = some xs := rfl
@[simp] theorem itK_lst (xs : List D) : itK (.lst true xs) = some xs := rfl
@[simp] theorem rbK_tup (xs ys : List D) : rbK (.tup xs) ys = .tup ys := rfl
@[simp] theorem rbK_lst (o : Bool) (xs ys : List D) : rbK (.lst o xs) ys = .lst true ys := rfl
@[simp ↓] def c_mp4 (i : Nat) (c : D) (xs : List D) (k : Nat) (G : T.Env) (q : List D × D) : Re D := .ok q.2 (G.set i (some (rbK c (xs.set k (.lst true q.1)))))
@[simp ↓] def c_mp3 (i : Nat) (f : List D → List D → Option (List D × D)) (c : D) (xs : List D) (k : Nat) (ys : List D) (as : List D) (G : T.Env) : Re D := if isNo G[i]? = true then obr (f ys as) (c_mp4 i c xs k G) else .no
@[simp ↓] def c_mp2 (i : Nat) (f : List D → List D → Option (List D × D)) (t : KL) (c : D) (G : T.Env) (xs : List D) (k : Nat) (ys : List D) : Re D := rb (noEx (t G)) (c_mp3 i f c xs k ys)
@[simp ↓] def c_mp1 (i : Nat) (f : List D → List D → Option (List D × D)) (t : KL) (c : D) (G : T.Env) (xs : List D) (k : Nat) : Re D := obr (ob xs[k]? asOw) (c_mp2 i f t c G xs k)
@[simp ↓] def c_mp0 (i : Nat) (f : List D → List D → Option (List D × D)) (t : KL) (c : D) (G : T.Env) (xs : List D) (n : Int) : Re D := obr (ixN xs.length n) (c_mp1 i f t c G xs)
@[simp ↓] def c_mpb (i : Nat) (ri : KR) (f : List D → List D → Option (List D × D)) (t : KL) (c : D) (G : T.Env) (xs : List D) : Re D := obr (ob (ri G) asIn) (c_mp0 i f t c G xs)
@[simp ↓] def c_mpa (i : Nat) (ri : KR) (f : List D → List D → Option (List D × D)) (t : KL) (G : T.Env) (c : D) : Re D := obr (itK c) (c_mpb i ri f t c G)
@[simp ↓] def k_eMethP (i : Nat) (ri : KR) (f : List D → List D → Option (List D × D)) (t : KL) (G : T.Env) : Re D := obr (slotG G i) (c_mpa i ri f t G)
theorem q_eMethP {kr r kf f k w} (i : Nat) (hr : AdR kr r) (hf : AdM kf f) (h : AdLp k w) : AdE (k_eMethP i kr kf k) (eMethP i r f w) := fun G P PX e => by
  obtain ⟨c, hc, e⟩ := sat_obr e
  obtain ⟨xs, hx, e⟩ := sat_obr e
  obtain ⟨n, hn, e⟩ := sat_obr e
  obtain ⟨z, hz, hn⟩ := ob_eq hn
  obtain rfl := asIn_eq hn
  obtain ⟨k, hk, e⟩ := sat_obr e
  obtain ⟨ys, hy, e⟩ := sat_obr e
  obtain ⟨u, hu, hy⟩ := ob_eq hy
  obtain rfl := asOw_eq hy
  simp only [eMethP]
  rw [slotG_eq hc]
  have hx : itm c = some xs := hx
  simp only [hx]
  refine hr _ _ _ hz ?_
  simp only [hk, hu]
  refine h _ _ ((noEx_sat (sat_rb e)).mono (fun as G e => ?_) fun _ _ q => q)
  obtain ⟨s, e⟩ := gdr e
  obtain ⟨q, hq, e⟩ := sat_obr e
  exact ⟨isNo_eq s, hf _ _ _ _ hq e⟩
/-! a number drawn from a deck -/
def k_wDraw (ri ra : KR) (kr : KS) : KS := fun G => match G with
  | [some (.lst true [.lst true ps, .int c]), some (.int m), none, none, none] =>
    obs (ob (ri G) asIn) fun n => obs (ixN ps.length n) fun k => obs (ob ps[k]? asOw) fun ys => obs (ob (ra G) asIn) fun c' =>
      match kr [none, some (.int m), some (.lst true ys), none, none] with
      | .rt (.int r) [_, _, some (.lst true ys'), _, _] => .rt (.int r) [some (.lst true [.lst true (ps.set k (.lst true ys')), .int c']), none, none, none, none]
      | _ => .no
  | _ => .no
theorem q_wDraw {kri ri kra ra kr wr} (hi : AdR kri ri) (ha : AdR kra ra) (hr : AdS kr wr) : AdS (k_wDraw kri kra kr) (wDraw ri ra wr) := fun E G e => by
  unfold k_wDraw at e
  split at e
  · rename_i ps c m
    obtain ⟨n, hn, e⟩ := sat_obs e
    obtain ⟨z, hz, hn⟩ := ob_eq hn
    obtain rfl := asIn_eq hn
    obtain ⟨k, hk, e⟩ := sat_obs e
    obtain ⟨ys, hy, e⟩ := sat_obs e
    obtain ⟨u, hu, hy⟩ := ob_eq hy
    obtain rfl := asOw_eq hy
    obtain ⟨c', hc, e⟩ := sat_obs e
    obtain ⟨v, hv, hc⟩ := ob_eq hc
    obtain rfl := asIn_eq hc
    refine ⟨ps, c, m, rfl, hi _ _ _ hz ?_⟩
    simp only [hk, hu]
    refine ha _ _ _ hv (hr _ _ ?_)
    split at e
    · rename_i he
      rw [he]
      exact ⟨_, _, _, _, _, _, rfl, rfl, e⟩
    · exact e.elim
  · exact e.elim
/-! what a def computes -/
def outF (m : List Bool) (o : Ou) : Fr := match o with
  | .nx G => (match mutsOf m G with | some ds => .ret .non ds | none => .no)
  | .rt d G => (match mutsOf m G with | some ds => .ret d ds | none => .no)
  | .ex c G => (match mutsOf m G with | some ds => .ex c ds | none => .no)
  | _ => .no
@[simp] theorem outF_nx (m : List Bool) (G : T.Env) : outF m (.nx G) = (match mutsOf m G with | some ds => .ret .non ds | none => .no) := rfl
@[simp] theorem outF_rt (m : List Bool) (d : D) (G : T.Env) : outF m (.rt d G) = (match mutsOf m G with | some ds => .ret d ds | none => .no) := rfl
@[simp] theorem outF_ex (m : List Bool) (c : Nat) (G : T.Env) : outF m (.ex c G) = (match mutsOf m G with | some ds => .ex c ds | none => .no) := rfl
theorem adF {k : KS} {w : WS} (h : AdS k w) {m : List Bool} {G : T.Env} {P : D → List D → Prop} {PX : Nat → List D → Prop} (e : (outF m (k G)).sat P PX) : w (enOf m P PX) G := by
  refine h _ _ ?_
  cases hk : k G with
  | nx G' =>
    rw [hk] at e
    simp only [outF_nx] at e
    simp only [Ou.sat, enOf]
    cases hm : mutsOf m G' with
    | none => rw [hm] at e; exact e.elim
    | some ds => rw [hm] at e; exact e
  | rt d G' =>
    rw [hk] at e
    simp only [outF_rt] at e
    simp only [Ou.sat, enOf]
    cases hm : mutsOf m G' with
    | none => rw [hm] at e; exact e.elim
    | some ds => rw [hm] at e; exact e
  | ex d G' =>
    rw [hk] at e
    simp only [outF_ex] at e
    simp only [Ou.sat, enOf]
    cases hm : mutsOf m G' with
    | none => rw [hm] at e; exact e.elim
    | some ds => rw [hm] at e; exact e
  | bk G' => rw [hk] at e; exact e.elim
  | ct G' => rw [hk] at e; exact e.elim
  | no => rw [hk] at e; exact e.elim
end T
namespace T
open PySem PySem.Spec PyProof.Rows L2
/-! ### dicts, as functions -/
abbrev KY := T.Env → Option (List Key)
def AdY (c : KY) (w : WY) : Prop := ∀ G d (P : List Key → Prop), c G = some d → P d → w G P
def kyD : D → Option Key
  | .int i => some (.inl i)
  | .str x => some (.inr x)
  | _ => none
@[simp] theorem kyD_int (i : Int) : kyD (.int i) = some (.inl i) := rfl
@[simp] theorem kyD_str (x : Str) : kyD (.str x) = some (.inr x) := rfl
def kysD : List D → Option (List Key)
  | [] => some []
  | d :: ds => ob (kyD d) fun k => ob (kysD ds) fun ks => some (k :: ks)
@[simp] theorem kysD_nil : kysD [] = some [] := rfl
@[simp] theorem kysD_cons (d : D) (ds : List D) : kysD (d :: ds) = ob (kyD d) fun k => ob (kysD ds) fun ks => some (k :: ks) := rfl
theorem kyD_eq {d : D} {k : Key} (h : kyD d = some k) : d = dKey k := by
  cases d <;> simp [kyD] at h <;> subst h <;> rfl
theorem kysD_eq : ∀ {ds : List D} {ks : List Key}, kysD ds = some ks → ds = ks.map dKey
  | [], _, h => by cases h; rfl
  | d :: ds, ks, h => by
    obtain ⟨k, hk, h⟩ := ob_eq (show ob (kyD d) (fun k => ob (kysD ds) fun ks => some (k :: ks)) = some ks from h)
    obtain ⟨ks', hks, h⟩ := ob_eq h
    cases h
    rw [kyD_eq hk, kysD_eq hks]
    rfl
@[simp ↓] def c_yTup (ds : List D) : Option (List Key) := if ds.length ≤ 100000 then kysD ds else none
@[simp ↓] def k_yTup (t : KA) (G : T.Env) : Option (List Key) := ob (t G) c_yTup
theorem q_yTup {k w} (h : AdA k w) : AdY (k_yTup k) (yTup w) := fun G d P e p => by
  obtain ⟨x, hx, e⟩ := ob_eq e
  obtain ⟨c, e⟩ := gd e
  exact h _ _ _ hx ⟨c, d, kysD_eq e, p⟩
open Classical in
noncomputable def asDo (d : D) : Option (List (List Key × D)) := if h : ∃ kvs, d = dcT true kvs then some h.choose else none
open Classical in
noncomputable def asDc (d : D) : Option (List (List Key × D)) := if h : ∃ p : Bool × List (List Key × D), d = dcT p.1 p.2 then some h.choose.2 else none
@[simp] theorem asDo_eq (kvs : List (List Key × D)) : asDo (dcT true kvs) = some kvs := by
  have h : ∃ kvs', dcT true kvs = dcT true kvs' := ⟨kvs, rfl⟩
  unfold asDo
  rw [dif_pos h]
  exact congrArg some (dcT_inj h.choose_spec).2.symm
@[simp] theorem asDc_eq (o : Bool) (kvs : List (List Key × D)) : asDc (dcT o kvs) = some kvs := by
  have h : ∃ p : Bool × List (List Key × D), dcT o kvs = dcT p.1 p.2 := ⟨(o, kvs), rfl⟩
  unfold asDc
  rw [dif_pos h]
  exact congrArg some (dcT_inj h.choose_spec).2.symm
theorem asDo_of {d : D} {kvs : List (List Key × D)} (h : asDo d = some kvs) : d = dcT true kvs := by
  unfold asDo at h
  split at h
  · rename_i q
    cases h
    exact q.choose_spec
  · cases h
theorem asDc_of {d : D} {kvs : List (List Key × D)} (h : asDc d = some kvs) : ∃ o, d = dcT o kvs := by
  unfold asDc at h
  split at h
  · rename_i q
    cases h
    exact ⟨_, q.choose_spec⟩
  · cases h
@[simp ↓] def k_eDNew (G : T.Env) : Re D := .ok (dcT true []) G
theorem q_eDNew : AdE k_eDNew eDNew := fun G P PX e => e
@[simp ↓] def c_dp3 (i : Nat) (G : T.Env) (kvs : List (List Key × D)) (d : D) (k : List Key) : Ou := .nx (G.set i (some (dcT true (putE kvs k d))))
@[simp ↓] def c_dp2 (i : Nat) (ky : KY) (G : T.Env) (kvs : List (List Key × D)) (d : D) : Ou := if flat d = true then obs (ky G) (c_dp3 i G kvs d) else .no
@[simp ↓] def c_dp1 (i : Nat) (ky : KY) (kr : KR) (G : T.Env) (kvs : List (List Key × D)) : Ou := if kvs.length < 100000 ∧ flatKV kvs = true then obs (kr G) (c_dp2 i ky G kvs) else .no
@[simp ↓] noncomputable def c_dp0 (i : Nat) (ky : KY) (kr : KR) (G : T.Env) (d : D) : Ou := obs (asDo d) (c_dp1 i ky kr G)
@[simp ↓] noncomputable def k_sDPut (i : Nat) (ky : KY) (kr : KR) (G : T.Env) : Ou := obs (slotG G i) (c_dp0 i ky kr G)
theorem q_sDPut {ky wy kr wr} (i : Nat) (hy : AdY ky wy) (hr : AdR kr wr) : AdS (k_sDPut i ky kr) (sDPut i wy wr) := fun E G e => by
  obtain ⟨d0, h0, e1⟩ := sat_obs e
  obtain ⟨kvs, h1, e2⟩ := sat_obs e1
  obtain ⟨⟨c1, c2⟩, e3⟩ := gds e2
  obtain ⟨d, h2, e4⟩ := sat_obs e3
  obtain ⟨c3, e5⟩ := gds e4
  obtain ⟨k, h3, e6⟩ := sat_obs e5
  have := asDo_of h1
  subst this
  exact ⟨kvs, slotG_eq h0, c1, c2, hr _ _ _ h2 ⟨c3, hy _ _ _ h3 e6⟩⟩
@[simp ↓] def c_dg3 (kvs : List (List Key × D)) (k : List Key) (x : D) : Option D := some (((valE kvs k).map frz).getD x)
@[simp ↓] def c_dg2 (kr : KR) (G : T.Env) (kvs : List (List Key × D)) (k : List Key) : Option D := ob (kr G) (c_dg3 kvs k)
@[simp ↓] def c_dg1 (ky : KY) (kr : KR) (G : T.Env) (kvs : List (List Key × D)) : Option D := ob (ky G) (c_dg2 kr G kvs)
@[simp ↓] noncomputable def c_dg0 (ky : KY) (kr : KR) (G : T.Env) (d : D) : Option D := ob (asDc d) (c_dg1 ky kr G)
@[simp ↓] noncomputable def k_rDGet2 (i : Nat) (ky : KY) (kr : KR) (G : T.Env) : Option D := ob (slotG G i) (c_dg0 ky kr G)
theorem q_rDGet2 {ky wy kr wr} (i : Nat) (hy : AdY ky wy) (hr : AdR kr wr) : AdR (k_rDGet2 i ky kr) (rDGet2 i wy wr) := fun G d P e p => by
  obtain ⟨d0, h0, e1⟩ := ob_eq e
  obtain ⟨kvs, h1, e2⟩ := ob_eq e1
  obtain ⟨k, h2, e3⟩ := ob_eq e2
  obtain ⟨x, h3, e4⟩ := ob_eq e3
  obtain ⟨o, rfl⟩ := asDc_of h1
  have e5 : ((valE kvs k).map frz).getD x = d := Option.some.inj e4
  subst e5
  exact ⟨o, kvs, slotG_eq h0, hy _ _ _ h2 (hr _ _ _ h3 p)⟩
@[simp ↓] def c_de2 (kvs : List (List Key × D)) (k : List Key) : Option D := (valE kvs k).map frz
@[simp ↓] def c_de1 (ky : KY) (G : T.Env) (kvs : List (List Key × D)) : Option D := ob (ky G) (c_de2 kvs)
@[simp ↓] noncomputable def c_de0 (ky : KY) (G : T.Env) (d : D) : Option D := ob (asDc d) (c_de1 ky G)
@[simp ↓] noncomputable def k_rDGet (i : Nat) (ky : KY) (G : T.Env) : Option D := ob (slotG G i) (c_de0 ky G)
theorem q_rDGet {ky wy} (i : Nat) (hy : AdY ky wy) : AdR (k_rDGet i ky) (rDGet i wy) := fun G d P e p => by
  obtain ⟨d0, h0, e1⟩ := ob_eq e
  obtain ⟨kvs, h1, e2⟩ := ob_eq e1
  obtain ⟨k, h2, e3⟩ := ob_eq e2
  obtain ⟨o, rfl⟩ := asDc_of h1
  obtain ⟨d', h4, h5⟩ := Option.map_eq_some_iff.mp (show (valE kvs k).map frz = some d from e3)
  subst h5
  exact ⟨o, kvs, slotG_eq h0, hy _ _ _ h2 ⟨d', h4, p⟩⟩
/-! the key is read -/
def asKD : D → Option (List Key) | .tup ds => kysD ds | _ => none
@[simp] theorem asKD_tup (ds : List D) : asKD (.tup ds) = kysD ds := rfl
theorem asKD_eq {d : D} {k : List Key} (h : asKD d = some k) : d = kD k := by
  cases d with
  | tup ds => rw [kysD_eq (show kysD ds = some k from h)]; rfl
  | _ => cases h
@[simp ↓] def c_dr2 (kvs : List (List Key × D)) (k : List Key) : Option D := (valE kvs k).map frz
@[simp ↓] def c_dr1 (kr : KR) (G : T.Env) (kvs : List (List Key × D)) : Option D := ob (ob (kr G) asKD) (c_dr2 kvs)
@[simp ↓] noncomputable def c_dr0 (kr : KR) (G : T.Env) (d : D) : Option D := ob (asDc d) (c_dr1 kr G)
@[simp ↓] noncomputable def k_rDGetR (i : Nat) (kr : KR) (G : T.Env) : Option D := ob (slotG G i) (c_dr0 kr G)
theorem q_rDGetR {kr wr} (i : Nat) (hr : AdR kr wr) : AdR (k_rDGetR i kr) (rDGetR i wr) := fun G d P e p => by
  obtain ⟨d0, h0, e1⟩ := ob_eq e
  obtain ⟨kvs, h1, e2⟩ := ob_eq e1
  obtain ⟨k, h2, e3⟩ := ob_eq e2
  obtain ⟨kd, h5, h6⟩ := ob_eq h2
  obtain ⟨o, rfl⟩ := asDc_of h1
  obtain ⟨d', h7, h8⟩ := Option.map_eq_some_iff.mp (show (valE kvs k).map frz = some d from e3)
  subst h8
  exact ⟨o, kvs, slotG_eq h0, hr _ _ _ h5 ⟨k, d', asKD_eq h6, h7, p⟩⟩
@[simp ↓] def c_di2 (kvs : List (List Key × D)) (k : List Key) : Option D := some (.bl (valE kvs k).isSome)
@[simp ↓] def c_di1 (kr : KR) (G : T.Env) (kvs : List (List Key × D)) : Option D := ob (ob (kr G) asKD) (c_di2 kvs)
@[simp ↓] noncomputable def c_di0 (kr : KR) (G : T.Env) (d : D) : Option D := ob (asDc d) (c_di1 kr G)
@[simp ↓] noncomputable def k_rDIn (i : Nat) (kr : KR) (G : T.Env) : Option D := ob (slotG G i) (c_di0 kr G)
theorem q_rDIn {kr wr} (i : Nat) (hr : AdR kr wr) : AdR (k_rDIn i kr) (rDIn i wr) := fun G d P e p => by
  obtain ⟨d0, h0, e1⟩ := ob_eq e
  obtain ⟨kvs, h1, e2⟩ := ob_eq e1
  obtain ⟨k, h2, e3⟩ := ob_eq e2
  obtain ⟨kd, h5, h6⟩ := ob_eq h2
  obtain ⟨o, rfl⟩ := asDc_of h1
  have e4 : D.bl (valE kvs k).isSome = d := Option.some.inj e3
  subst e4
  exact ⟨o, kvs, slotG_eq h0, hr _ _ _ h5 ⟨k, asKD_eq h6, p⟩⟩
end T
namespace T
open PySem PySem.Spec PyProof.Rows L2
/-! ### a call whose answer leans on nothing of ours -/
theorem newL_lst (o : Bool) (xs : List D) : newL (.lst o xs) = if flatL xs = true then some (.lst true xs) else none := rfl
theorem newL_non : newL .non = some .non := rfl
theorem newL_int (i : Int) : newL (.int i) = some (.int i) := rfl
def frMF (js : List (Option Nat)) (G : T.Env) : Fr → Re D
  | .ret d ms => if owndL ms = true then (match newL d with | some d' => .ok d' (putA js G ms) | none => .no) else .no
  | .ex c ms => if owndL ms = true then .ex c (putA js G ms) else .no
  | .no => .no
@[simp] theorem frMF_lst (js : List (Option Nat)) (G : T.Env) (o : Bool) (xs ms : List D) : frMF js G (.ret (.lst o xs) ms) = if owndL ms = true then (if flatL xs = true then .ok (.lst true xs) (putA js G ms) else .no) else .no := by
  show (if owndL ms = true then (match newL (.lst o xs) with | some d' => Re.ok d' (putA js G ms) | none => Re.no) else Re.no) = _
  rw [newL_lst]
  by_cases h : flatL xs = true
  · rw [if_pos h, if_pos h]
  · rw [if_neg h, if_neg h]
@[simp] theorem frMF_non (js : List (Option Nat)) (G : T.Env) (ms : List D) : frMF js G (.ret .non ms) = if owndL ms = true then .ok .non (putA js G ms) else .no := rfl
@[simp] theorem frMF_ex (js : List (Option Nat)) (G : T.Env) (c : Nat) (ms : List D) : frMF js G (.ex c ms) = if owndL ms = true then .ex c (putA js G ms) else .no := rfl
@[simp] theorem alone_nil : alone [] [] = true := rfl
@[simp] theorem alone_f (m : List Bool) (d : D) (ds : List D) : alone (false :: m) (d :: ds) = (flat d && alone m ds) := rfl
@[simp] theorem alone_t (m : List Bool) (d : D) (ds : List D) : alone (true :: m) (d :: ds) = (ownd d && alone m ds) := rfl
@[simp ↓] def c_eCallMF2 (c : KF) (js : List (Option Nat)) (G' : T.Env) (q : List D × T.Env) : Re D := if alone (msk js) q.1 = true then frMF js G' (c q.1) else .no
@[simp ↓] def c_eCallMF (c : KF) (js : List (Option Nat)) (G G' : T.Env) (ds : List D) : Re D := obr (fillA js G (frzL ds)) (c_eCallMF2 c js G')
@[simp ↓] def c_eCallMF0 (c : KF) (js : List (Option Nat)) (t : KA) (G G' : T.Env) : Re D := obr (t G') (c_eCallMF c js G G')
@[simp ↓] def k_eCallMF (c : KF) (js : List (Option Nat)) (t : KA) (G : T.Env) : Re D := obr (strip js G) (c_eCallMF0 c js t G)
theorem q_eCallMF {k w} (c : KF) (js : List (Option Nat)) (h : AdA k w) : AdE (k_eCallMF c js k) (eCallMF (spF c) js w) := fun G P PX e => by
  obtain ⟨G', hG, e⟩ := sat_obr e
  obtain ⟨x, hx, e⟩ := sat_obr e
  obtain ⟨q, hq, e⟩ := sat_obr e
  simp only [eCallMF]
  rw [hG]
  refine h _ _ _ hx ?_
  rw [hq]
  show alone (msk js) q.1 = true ∧ spF c q.1 _ _
  unfold spF
  unfold c_eCallMF2 at e
  split at e
  case isFalse => exact e.elim
  rename_i ha
  refine ⟨ha, ?_⟩
  cases hc : c q.1 with
  | ret d ms =>
    rw [hc] at e
    unfold frMF at e
    simp only at e
    split at e
    · rename_i ho
      refine ⟨ho, ?_⟩
      cases hn : newL d with
      | none => rw [hn] at e; exact e.elim
      | some d' => rw [hn] at e; exact e
    · exact e.elim
  | ex c' ms =>
    rw [hc] at e
    unfold frMF at e
    simp only at e
    split at e
    · exact ⟨‹_›, e⟩
    · exact e.elim
  | no => rw [hc] at e; exact e.elim
/-! ### the keys of a dict, in order -/
open Classical in
noncomputable def sorK (ks : List D) : Option (List D) := if Srtb ks ∧ (PySem.W.AllAlike (ks.map py) ∧ PySem.W.Sortable (ks.map py)) then some (sortD ks) else none
noncomputable def k_sortedDD : List D → Option (List D)
  | [.dic _ (.non :: ks) _] => sorK ks
  | _ => none
@[simp] theorem k_sortedDD_eq (o : Bool) (kvs : List (List Key × D)) : k_sortedDD [dcT o kvs] = sorK (kvs.map fun p => kD p.1) := rfl
theorem q_sortedDD : AdCF k_sortedDD sortedDD := fun ds d P e p => by
  unfold k_sortedDD at e
  split at e
  · unfold sorK at e
    split at e
    · rename_i c
      cases e; exact ⟨c.1, c.2, p⟩
    · cases e
  · cases e
def okX (x y : D) : Prop := (py x).canLay0 = true ∧ (py y).canLay0 = true ∧ PySem.W.alike (py x) (py y) = true ∧ py x ≠ .none ∧ (py x).depth ≤ 64
open Classical in
noncomputable def k_ltX : K2 := fun x y => if okX x y then some (.bl (PySem.W.dataLt (py x) (py y))) else none
theorem k_ltX_eq {x y : D} (h : okX x y) : k_ltX x y = some (.bl (PySem.W.dataLt (py x) (py y))) := if_pos h
theorem q_ltX : Ad2 k_ltX ltX := fun x y d P e p => by
  unfold k_ltX at e
  split at e
  · rename_i c
    cases e; exact ⟨c, p⟩
  · cases e
/-! ### x, y = a, b -/
@[simp ↓] def c_par2 (i j : Nat) (G : T.Env) : List D → Ou
  | [d1, d2] => .nx ((G.set i (some d1)).set j (some d2))
  | _ => .no
@[simp ↓] def c_par (i j : Nat) (G : T.Env) (ds : List D) : Ou := if flatL ds = true then c_par2 i j G ds else .no
@[simp ↓] def k_sPar (i j : Nat) (t : KA) (G : T.Env) : Ou := obs (t G) (c_par i j G)
theorem q_sPar {k w} (i j : Nat) (h : AdA k w) : AdS (k_sPar i j k) (sPar i j w) := fun E G e => by
  obtain ⟨ds, hd, e⟩ := sat_obs e
  refine h G ds _ hd ?_
  unfold c_par at e
  split at e
  · rename_i hf
    refine ⟨hf, ?_⟩
    unfold c_par2 at e
    split at e
    · exact e
    · exact e.elim
  · exact e.elim
end T
namespace T
open PySem PySem.Spec PyProof.Rows L2
/-! ### the twin of UB -/
def k_reprD : List D → Option D
  | [d] => if okQ d = true then some (.str (rpS d)) else none
  | _ => none
@[simp] theorem k_reprD_eq (d : D) : k_reprD [d] = if okQ d = true then some (.str (rpS d)) else none := rfl
theorem q_reprD : AdC k_reprD reprD := fun ds d P e p => by
  unfold k_reprD at e
  split at e
  · split at e
    · rename_i c; cases e; exact ⟨c, p⟩
    · cases e
  · cases e
open Classical in
noncomputable def dicO : Option (List (Key × D)) → Option D
  | some kvs => if (kvs.map (·.1)).Nodup then some (.dic false (kvs.map fun p => dKey p.1) (kvs.map (·.2))) else none
  | none => none
noncomputable def k_dictD : List D → Option D
  | [.lst _ xs] => dicO (pairsOf xs)
  | _ => none
@[simp] theorem k_dictD_eq (o : Bool) (xs : List D) : k_dictD [.lst o xs] = dicO (pairsOf xs) := rfl
theorem q_dictD : AdC k_dictD dictD := fun ds d P e p => by
  unfold k_dictD at e
  split at e
  · unfold dicO at e
    split at e
    · rename_i kvs hk
      split at e
      · rename_i c; cases e; exact ⟨kvs, hk, c, p⟩
      · cases e
    · cases e
  · cases e
@[simp ↓] def k_rDNew (_ : T.Env) : Option D := some (.dic false [] [])
theorem q_rDNew : AdR k_rDNew rDNew := fun G d P e p => by cases e; exact p
def asRev : D → Option (List D)
  | .lst _ xs => some xs.reverse
  | _ => none
@[simp] theorem asRev_eq (o : Bool) (xs : List D) : asRev (.lst o xs) = some xs.reverse := rfl
@[simp ↓] def k_fRev (r : KR) (G : T.Env) : Option (List D) := ob (r G) asRev
theorem q_fRev {k w} (h : AdR k w) : AdA (k_fRev k) (fRev w) := fun G d P e p => by
  obtain ⟨x, hx, e⟩ := ob_eq e
  refine h _ _ _ hx ?_
  cases x <;> first | cases e; done | skip
  all_goals (cases e; exact p)
def rg2 : D → D → Option (List D)
  | .int i, .int j => if (0 ≤ i ∧ i ≤ 100000) ∧ (0 ≤ j ∧ j ≤ 100000) then some (rangeD i (j - i).toNat) else none
  | _, _ => none
@[simp] theorem rg2_eq (i j : Int) : rg2 (.int i) (.int j) = if (0 ≤ i ∧ i ≤ 100000) ∧ (0 ≤ j ∧ j ≤ 100000) then some (rangeD i (j - i).toNat) else none := rfl
@[simp ↓] def c_lrg2 (b : KR) (G : T.Env) (x : D) : Option (List D) := ob (b G) (rg2 x)
@[simp ↓] def k_fLRg2 (a b : KR) (G : T.Env) : Option (List D) := ob (a G) (c_lrg2 b G)
theorem q_fLRg2 {ka a kb b} (ha : AdR ka a) (hb : AdR kb b) : AdA (k_fLRg2 ka kb) (fLRg2 a b) := fun G d P e p => by
  obtain ⟨x, hx, e⟩ := ob_eq e
  obtain ⟨y, hy, e⟩ := ob_eq e
  refine ha _ _ _ hx (hb _ _ _ hy ?_)
  unfold rg2 at e
  split at e
  · split at e
    · rename_i c; cases e; exact ⟨c, p⟩
    · cases e
  · cases e
def rg2E (G : T.Env) : Option (List D) → Re D
  | some ds => .ok (.lst true ds) G
  | none => .no
@[simp] theorem rg2E_some (G : T.Env) (ds : List D) : rg2E G (some ds) = .ok (.lst true ds) G := rfl
@[simp ↓] def c_elrg2 (x y : D) (G : T.Env) : Re D := rg2E G (rg2 x y)
@[simp ↓] def c_elrg1 (b : KE) (x : D) (G : T.Env) : Re D := rb (b G) (c_elrg2 x)
@[simp ↓] def k_eLRg2 (a b : KE) (G : T.Env) : Re D := rb (a G) (c_elrg1 b)
theorem q_eLRg2 {ka a kb b} (ha : AdE ka a) (hb : AdE kb b) : AdE (k_eLRg2 ka kb) (eLRg2 a b) := fun G P PX e =>
  ha _ _ _ ((sat_rb e).mono (fun x G1 e => hb _ _ _ ((sat_rb e).mono (fun y G2 e => by
    cases x <;> first | exact e.elim | skip
    cases y <;> first | exact e.elim | skip
    rename_i i _ j
    show ((0 ≤ i ∧ i ≤ 100000) ∧ (0 ≤ j ∧ j ≤ 100000)) ∧ P (.lst true (rangeD i (j - i).toNat)) G2
    unfold c_elrg2 at e
    rw [rg2_eq] at e
    split at e
    · rename_i c; exact ⟨c, e⟩
    · exact e.elim) fun _ _ q => q)) fun _ _ q => q)
def k_eqE : K2 := fun x y => match x, y with
  | .lst _ xs, .lst _ [] => some (.bl xs.isEmpty)
  | .str a, .str b => some (.bl (decide (a = b)))
  | x, y => k_eqD x y
def k_neE : K2 := fun x y => match x, y with
  | .lst _ xs, .lst _ [] => some (.bl (!xs.isEmpty))
  | .str a, .str b => some (.bl (!decide (a = b)))
  | x, y => k_neD x y
@[simp] theorem k_eqE_lst (o p : Bool) (xs : List D) : k_eqE (.lst o xs) (.lst p []) = some (.bl xs.isEmpty) := rfl
@[simp] theorem k_eqE_str (a b : Str) : k_eqE (.str a) (.str b) = some (.bl (decide (a = b))) := rfl
@[simp] theorem k_neE_str (a b : Str) : k_neE (.str a) (.str b) = some (.bl (!decide (a = b))) := rfl
@[simp] theorem k_neE_lst (o p : Bool) (xs : List D) : k_neE (.lst o xs) (.lst p []) = some (.bl (!xs.isEmpty)) := rfl
theorem q_eqE : Ad2 k_eqE eqE := fun x y d P e p => by
  unfold k_eqE at e
  unfold eqE
  split at e
  · cases e; exact p
  · cases e; exact p
  · rename_i h1 h2
    first
      | exact q_eqD _ _ _ _ e p
      | (split
         · exact (h1 _ _ _ rfl rfl).elim
         · exact (h2 _ _ rfl rfl).elim
         · exact q_eqD _ _ _ _ e p)
theorem q_neE : Ad2 k_neE neE := fun x y d P e p => by
  unfold k_neE at e
  unfold neE
  split at e
  · cases e; exact p
  · cases e; exact p
  · rename_i h1 h2
    first
      | exact q_neD _ _ _ _ e p
      | (split
         · exact (h1 _ _ _ rfl rfl).elim
         · exact (h2 _ _ rfl rfl).elim
         · exact q_neD _ _ _ _ e p)
end T
namespace T
open PySem PySem.Spec PyProof.Rows L2
/-! ### the twin of UC -/
def k_strD : List D → Option D
  | [.int i] => if i.natAbs.log2 < 1920 then some (.str (toString i)) else none
  | _ => none
@[simp] theorem k_strD_eq (i : Int) : k_strD [.int i] = if i.natAbs.log2 < 1920 then some (.str (toString i)) else none := rfl
theorem q_strD : AdC k_strD strD := fun ds d P e p => by
  unfold k_strD at e
  split at e
  · split at e
    · rename_i c; cases e; exact ⟨c, p⟩
    · cases e
  · cases e
def upO : D → Option D
  | .str a => if a.length ≤ 100000 then some (.str (Txt.upper a)) else none
  | _ => none
@[simp] theorem upO_eq (a : Str) : upO (.str a) = if a.length ≤ 100000 then some (.str (Txt.upper a)) else none := rfl
@[simp ↓] def k_rUp (r : KR) (G : T.Env) : Option D := ob (r G) upO
theorem q_rUp {k w} (h : AdR k w) : AdR (k_rUp k) (rUp w) := fun G d P e p => by
  obtain ⟨x, hx, e⟩ := ob_eq e
  refine h _ _ _ hx ?_
  cases x <;> first | (cases e; done) | skip
  rename_i a
  rw [upO_eq] at e
  split at e
  · rename_i c; cases e; exact ⟨c, p⟩
  · cases e
end T
namespace T
open PySem PySem.Spec PyProof.Rows L2
/-! ### reckoning with what is computed -/
@[simp] theorem ite_bl (p : Prop) [Decidable p] (a b : Bool) : (if p then D.bl a else D.bl b) = .bl (if p then a else b) := by split <;> rfl
@[simp] theorem ite_int (p : Prop) [Decidable p] (a b : Int) : (if p then D.int a else D.int b) = .int (if p then a else b) := by split <;> rfl
@[simp] theorem ite_some {α : Type} (p : Prop) [Decidable p] (a b : α) : (if p then some a else some b) = some (if p then a else b) := by split <;> rfl
@[simp] theorem ite_ok {α : Type} (p : Prop) [Decidable p] (a b : α) (G : T.Env) : (if p then Re.ok a G else .ok b G) = .ok (if p then a else b) G := by split <;> rfl
@[simp] theorem ite_frz (p : Prop) [Decidable p] (a b : D) : frz (if p then a else b) = if p then frz a else frz b := by split <;> rfl
@[simp] theorem ite_flat (p : Prop) [Decidable p] (a b : D) : flat (if p then a else b) = if p then flat a else flat b := by split <;> rfl
/-! lists by place -/
@[simp] theorem x3a {α : Type} (a b c : α) : atI [a, b, c] 0 = some a := rfl
@[simp] theorem x3b {α : Type} (a b c : α) : atI [a, b, c] 1 = some b := rfl
@[simp] theorem x3c {α : Type} (a b c : α) : atI [a, b, c] 2 = some c := rfl
@[simp] theorem x2a {α : Type} (a b : α) : atI [a, b] 0 = some a := rfl
@[simp] theorem x2b {α : Type} (a b : α) : atI [a, b] 1 = some b := rfl
theorem ixN_nat {n i : Nat} (h : i < n) : ixN n (i : Int) = some i := by simp [ixN, h]
theorem ixN_nn {n : Nat} {i : Int} (h : 0 ≤ i) (h' : i < n) : ixN n i = some i.toNat := by simp [ixN, h, h']
theorem atI_nat {α : Type} {xs : List α} {i : Nat} (h : i < xs.length) : atI xs (i : Int) = some xs[i] := by
  unfold atI
  rw [ixN_nat h]
  simp [h]
theorem atI_nn {α : Type} {xs : List α} {i : Int} (h : 0 ≤ i) (h' : i < xs.length) : atI xs i = some (xs[i.toNat]'(by omega)) := by
  unfold atI
  rw [ixN_nn h h']
  simp
theorem atI_map {α β : Type} (f : α → β) (xs : List α) (i : Int) : atI (xs.map f) i = (atI xs i).map f := by
  unfold atI
  rw [List.length_map]
  cases ixN xs.length i <;> simp
@[simp] theorem frzL_len' (xs : List D) : (frzL xs).length = xs.length := frzL_len xs
@[simp] theorem rangeD_len' (lo : Int) (n : Nat) : (rangeD lo n).length = n := rangeD_len lo n
theorem flatL_all : ∀ {xs : List D}, (∀ x ∈ xs, flat x = true) → flatL xs = true
  | [], _ => rfl
  | x :: xs, h => by simp [h x List.mem_cons_self, flatL_all (xs := xs) fun y m => h y (List.mem_cons_of_mem _ m)]
theorem owndL_all : ∀ {xs : List D}, (∀ x ∈ xs, ownd x = true) → owndL xs = true
  | [], _ => rfl
  | x :: xs, h => by simp [h x List.mem_cons_self, owndL_all (xs := xs) fun y m => h y (List.mem_cons_of_mem _ m)]
@[simp] theorem owndL_append : ∀ xs ys : List D, owndL (xs ++ ys) = (owndL xs && owndL ys)
  | [], ys => by simp
  | x :: xs, ys => by simp [owndL_append xs ys, Bool.and_assoc]
@[simp] theorem flatL_append : ∀ xs ys : List D, flatL (xs ++ ys) = (flatL xs && flatL ys)
  | [], ys => by simp
  | x :: xs, ys => by simp [flatL_append xs ys, Bool.and_assoc]
@[simp] theorem frzL_append (xs ys : List D) : frzL (xs ++ ys) = frzL xs ++ frzL ys := by simp [frzL_map]
mutual
theorem ownd_flat : ∀ d : D, flat d = true → ownd d = true
  | .non, _ | .bl _, _ | .int _, _ | .str _, _ | .scr _, _ => rfl
  | .tup xs, h => by simp only [flat] at h; simp only [ownd, owndL_flat xs h]
  | .lst _ xs, h => by simp [flat] at h
  | .dic _ _ _, h => by simp [flat] at h
  | .obj _ _ _ _, h => by simp [flat] at h
theorem owndL_flat : ∀ xs : List D, flatL xs = true → owndL xs = true
  | [], _ => rfl
  | x :: xs, h => by
    simp only [flatL, Bool.and_eq_true] at h
    simp only [owndL, ownd_flat x h.1, owndL_flat xs h.2, Bool.and_self]
end
/-- data without lists, truths and the like, by which unlike things are unlike -/
class FE {α : Type} (e : α → D) : Prop where
  fl : ∀ x, flat (e x) = true
  sh : ∀ x, okd 8 (e x)
  nb : ∀ x, nb (e x) = true
  inj : ∀ x y, e x = e y → x = y
section
variable {α : Type} {e : α → D}
@[simp] theorem fe_flatL [FE e] (xs : List α) : flatL (xs.map e) = true := flatL_all fun x h => by
  obtain ⟨y, _, rfl⟩ := List.mem_map.mp h
  exact FE.fl y
@[simp] theorem fe_frzL [FE e] (xs : List α) : frzL (xs.map e) = xs.map e := frzL_flat _ (fe_flatL xs)
@[simp] theorem fe_owndL [FE e] (xs : List α) : owndL (xs.map e) = true := owndL_flat _ (fe_flatL xs)
theorem fe_okd [FE e] (o : Bool) (xs : List α) : okd 9 (.lst o (xs.map e)) := okd_lst fun x h => by
  obtain ⟨y, _, rfl⟩ := List.mem_map.mp h
  exact FE.sh y
@[simp] theorem fe_shp [FE e] (o : Bool) (xs : List α) : shp (.lst o (xs.map e)) = true := okd_shp (okd_mono (fe_okd o xs) (by omega))
theorem fe_sh [FE e] (x : α) : shp (e x) = true := okd_shp (okd_mono (FE.sh x) (by omega))
theorem fe_nbL [FE e] (xs : List α) : nb.nbL (xs.map e) = true := nbL_all.mpr fun x h => by
  obtain ⟨y, _, rfl⟩ := List.mem_map.mp h
  exact FE.nb y
theorem fe_deq [FE e] (x y : α) [Decidable (x = y)] : deq (e x) (e y) = decide (x = y) := by
  rw [Bool.eq_iff_iff, deq_iff _ _ (FE.nb x) (FE.nb y), decide_eq_true_iff]
  exact ⟨fun h => FE.inj _ _ h, fun h => by rw [h]⟩
@[simp] theorem fe_deqL [FE e] (xs ys : List α) [Decidable (xs = ys)] : deqL (xs.map e) (ys.map e) = decide (xs = ys) := by
  rw [Bool.eq_iff_iff, deqL_iff _ _ (fe_nbL xs) (fe_nbL ys), decide_eq_true_iff]
  refine ⟨fun h => ?_, fun h => by rw [h]⟩
  exact (List.map_inj_right fun x y q => FE.inj x y q).mp h
theorem fe_mem [FE e] (x : α) (xs : List α) [Decidable (x ∈ xs)] : mem (e x) (xs.map e) = decide (x ∈ xs) := by
  rw [Bool.eq_iff_iff, mem_iff (FE.nb x) (fe_nbL xs), decide_eq_true_iff, List.mem_map]
  exact ⟨fun ⟨y, h, q⟩ => FE.inj y x q ▸ h, fun h => ⟨x, h, rfl⟩⟩
@[simp] theorem fe_dnil [FE e] (xs : List α) [Decidable (xs = [])] : deqL (xs.map e) [] = decide (xs = []) := by
  cases xs <;> simp [deqL, pyL, PyData.eqvAll]
end
instance : FE D.int := ⟨fun _ => rfl, fun _ => okd_flat0 rfl, fun _ => rfl, fun _ _ h => by cases h; rfl⟩
/-- a pair of numbers -/
def pD (p : Int × Int) : D := .tup [.int p.1, .int p.2]
instance : FE pD := ⟨fun _ => rfl, fun p => okd_mono (okd_tup (k := 1) fun x m => by
  simp at m
  rcases m with rfl | rfl <;> exact okd_flat0 rfl) (by omega), fun _ => rfl, fun x y h => by
  unfold pD at h
  injection h with h
  injection h with h1 h2
  injection h2 with h2 h3
  injection h1 with h1
  injection h2 with h2
  exact Prod.ext h1 h2⟩
/-- an outcome -/
def wD : Option Int → D | none => .non | some x => .int x
@[simp] theorem wD_none : wD none = .non := rfl
@[simp] theorem wD_some (x : Int) : wD (some x) = .int x := rfl
instance : FE wD := ⟨fun w => by cases w <;> rfl, fun w => by cases w <;> exact okd_flat0 rfl, fun w => by cases w <;> rfl, fun x y h => by
  cases x <;> cases y <;> first | rfl | cases h
  rfl⟩
abbrev M := Int × Int × Option Int
/-- a match played -/
def mD (m : M) : D := .tup [.int m.1, .int m.2.1, wD m.2.2]
instance : FE mD := ⟨fun ⟨i, j, w⟩ => by cases w <;> rfl, fun ⟨i, j, w⟩ => okd_mono (okd_tup (k := 1) fun x m => by
  simp at m
  rcases m with rfl | rfl | rfl
  · exact okd_flat0 rfl
  · exact okd_flat0 rfl
  · cases w <;> exact okd_flat0 rfl) (by omega), fun ⟨i, j, w⟩ => by cases w <;> rfl, fun ⟨i, j, w⟩ ⟨i', j', w'⟩ h => by
  unfold mD at h
  injection h with h
  injection h with h1 h
  injection h with h2 h
  injection h with h3 h
  injection h1 with h1
  injection h2 with h2
  have := FE.inj (e := wD) _ _ h3
  simp_all⟩
@[simp] theorem frz_pD (p : Int × Int) : frz (pD p) = pD p := rfl
@[simp] theorem flat_pD (p : Int × Int) : flat (pD p) = true := rfl
@[simp] theorem ownd_pD (p : Int × Int) : ownd (pD p) = true := rfl
@[simp] theorem shp_pD (p : Int × Int) : shp (pD p) = true := fe_sh p
@[simp] theorem frz_wD (p : Option Int) : frz (wD p) = wD p := frz_flat _ (FE.fl p)
@[simp] theorem flat_wD (p : Option Int) : flat (wD p) = true := FE.fl p
@[simp] theorem ownd_wD (p : Option Int) : ownd (wD p) = true := ownd_flat _ (FE.fl p)
@[simp] theorem shp_wD (p : Option Int) : shp (wD p) = true := fe_sh p
@[simp] theorem frz_mD (p : M) : frz (mD p) = mD p := frz_flat _ (FE.fl p)
@[simp] theorem flat_mD (p : M) : flat (mD p) = true := FE.fl p
@[simp] theorem ownd_mD (p : M) : ownd (mD p) = true := ownd_flat _ (FE.fl p)
@[simp] theorem shp_mD (p : M) : shp (mD p) = true := fe_sh p
@[simp] theorem deq_pD (p q : Int × Int) : deq (pD p) (pD q) = decide (p = q) := fe_deq p q
@[simp] theorem deq_wD (p q : Option Int) : deq (wD p) (wD q) = decide (p = q) := fe_deq p q
@[simp] theorem deq_mD (p q : M) : deq (mD p) (mD q) = decide (p = q) := fe_deq p q
@[simp] theorem mem_pD (p : Int × Int) (xs : List (Int × Int)) : mem (pD p) (xs.map pD) = decide (p ∈ xs) := fe_mem p xs
@[simp] theorem mem_wD (p : Option Int) (xs : List (Option Int)) : mem (wD p) (xs.map wD) = decide (p ∈ xs) := fe_mem p xs
@[simp] theorem mem_mD (p : M) (xs : List M) : mem (mD p) (xs.map mD) = decide (p ∈ xs) := fe_mem p xs
@[simp] theorem mem_iD (p : Int) (xs : List Int) : mem (.int p) (xs.map D.int) = decide (p ∈ xs) := fe_mem p xs
@[simp] theorem mem_2 (a b c : Int) : mem (.int a) [.int b, .int c] = (decide (a = b) || decide (a = c)) := by
  have := fe_mem (e := D.int) a [b, c]
  simp only [List.map_cons, List.map_nil] at this
  rw [this]
  simp
/-- wanted numbers out of a list of numbers -/
@[simp] theorem asInts_map (xs : List Int) : asInts (xs.map D.int) = some xs := by
  induction xs with
  | nil => rfl
  | cons x xs ih => simp [ih]
theorem rangeD_int (lo : Int) (n : Nat) : rangeD lo n = ((List.range n).map fun (i : Nat) => lo + i).map D.int := by simp [rangeD]
theorem rangeD_nat (n : Nat) : rangeD 0 n = (List.range n).map fun (i : Nat) => D.int i := by simp [rangeD]
/-! targets -/
@[simp] theorem tg2 (a b : Nat) (p : Int × Int) (G : T.Env) : k_gTp 2 (k_gsCons (k_gNm a) (k_gsCons (k_gNm b) k_gsNil)) (pD p) G = some ((G.set a (some (.int p.1))).set b (some (.int p.2))) := rfl
@[simp] theorem tg3 (a b c : Nat) (p : M) (G : T.Env) : k_gTp 3 (k_gsCons (k_gNm a) (k_gsCons (k_gNm b) (k_gsCons (k_gNm c) k_gsNil))) (mD p) G = some (((G.set a (some (.int p.1))).set b (some (.int p.2.1))).set c (some (wD p.2.2))) := by
  show some (((G.set a (some (.int p.1))).set b (some (.int p.2.1))).set c (some (frz (wD p.2.2)))) = _
  rw [frz_wD]
@[simp] theorem ix_p0 (p : Int × Int) : k_ixD (pD p) (.int 0) = some (.int p.1) := rfl
@[simp] theorem ix_p1 (p : Int × Int) : k_ixD (pD p) (.int 1) = some (.int p.2) := rfl
@[simp] theorem ix_m0 (p : M) : k_ixD (mD p) (.int 0) = some (.int p.1) := rfl
@[simp] theorem ix_m1 (p : M) : k_ixD (mD p) (.int 1) = some (.int p.2.1) := rfl
@[simp] theorem ix_m2 (p : M) : k_ixD (mD p) (.int 2) = some (wD p.2.2) := rfl
/-! kinds -/
def kS (b : Bool) : Str := if b then "ties" else "plain"
@[simp] theorem ne_pt : (Str.ofString "plain" = Str.ofString "ties") = False := by simp; decide +kernel
@[simp] theorem ne_tp : (Str.ofString "ties" = Str.ofString "plain") = False := by simp; decide +kernel
@[simp] theorem kS_ties (b : Bool) : (kS b = Str.ofString "ties") = (b = true) := by cases b <;> simp [kS] <;> rfl
@[simp] theorem kS_plain (b : Bool) : (kS b = Str.ofString "plain") = (b = false) := by cases b <;> simp [kS] <;> rfl
theorem kS_inj {a b : Bool} (h : kS a = kS b) : a = b := by
  cases a <;> cases b <;> first | rfl | skip
  · exact absurd h (by have := ne_pt; simp only [eq_iff_iff, iff_false] at this; exact this)
  · exact absurd h (by have := ne_tp; simp only [eq_iff_iff, iff_false] at this; exact this)
@[simp] theorem kS_eq (a b : Bool) : (kS a = kS b) = (a = b) := propext ⟨kS_inj, fun h => by rw [h]⟩
@[simp] theorem shp_plain : shp (.str (Str.ofString "plain")) = true := by decide +kernel
@[simp] theorem shp_ties : shp (.str (Str.ofString "ties")) = true := by decide +kernel
@[simp] theorem shp_kS (b : Bool) : shp (.str (kS b)) = true := by cases b; exact shp_plain; exact shp_ties
@[simp] theorem mem_kS (k : Bool) : mem (.str (kS k)) [.str (Str.ofString "plain"), .str (Str.ofString "ties")] = true := by
  cases k <;> simp [mem, pyL, py, PyData.eqv, kS] <;> first | exact .inl rfl | exact .inr rfl
/-! leagues -/
structure Lg where
  k : Bool
  n : Nat
  ms : List M
deriving DecidableEq
def lgD (o : Bool) (L : Lg) : D := .tup [.str (kS L.k), .int L.n, .lst o (L.ms.map mD)]
@[simp] theorem frz_lgD (o : Bool) (L : Lg) : frz (lgD o L) = lgD false L := by simp [lgD]
@[simp] theorem ownd_lgD (L : Lg) : ownd (lgD true L) = true := by simp [lgD]
@[simp] theorem ix_l0 (o : Bool) (L : Lg) : k_ixD (lgD o L) (.int 0) = some (.str (kS L.k)) := rfl
@[simp] theorem ix_l1 (o : Bool) (L : Lg) : k_ixD (lgD o L) (.int 1) = some (.int L.n) := rfl
@[simp] theorem ix_l2 (o : Bool) (L : Lg) : k_ixD (lgD o L) (.int 2) = some (.lst o (L.ms.map mD)) := rfl
@[simp] theorem tgl (a b c : Nat) (o : Bool) (L : Lg) (G : T.Env) : k_gTp 3 (k_gsCons (k_gNm a) (k_gsCons (k_gNm b) (k_gsCons (k_gNm c) k_gsNil))) (lgD o L) G = some (((G.set a (some (.str (kS L.k)))).set b (some (.int L.n))).set c (some (.lst false (L.ms.map mD)))) := by
  show some (((G.set a (some (.str (kS L.k)))).set b (some (.int L.n))).set c (some (.lst false (frzL (L.ms.map mD))))) = _
  rw [fe_frzL]
theorem okd_str {x : Str} (h : PyData.strOk x = true) {k : Nat} : okd (k + 1) (.str x) := okd_flat0 h
theorem okd_kS (b : Bool) {k : Nat} : okd (k + 1) (.str (kS b)) := by cases b <;> exact okd_flat0 (by decide +kernel)
theorem okd_lgD (o : Bool) (L : Lg) : okd 10 (lgD o L) := okd_tup fun x h => by
  simp at h
  rcases h with rfl | rfl | rfl
  · exact okd_mono (okd_kS _ (k := 0)) (by omega)
  · exact okd_mono (okd_flat0 (k := 0) rfl) (by omega)
  · exact fe_okd _ _
@[simp] theorem shp_lgD (o : Bool) (L : Lg) : shp (lgD o L) = true := okd_shp (okd_mono (okd_lgD o L) (by omega))
@[simp] theorem deq_lgD (o p : Bool) (L L' : Lg) : deq (lgD o L) (lgD p L') = decide (L = L') := by
  unfold lgD
  rw [deq_tup, deqL_cons, deqL_cons, deqL_cons, deqL_nil, deq_str, deq_int, deq_lst, fe_deqL, Bool.eq_iff_iff]
  simp only [Bool.and_eq_true, decide_eq_true_eq, kS_eq, and_true]
  cases L; cases L'
  simp
  omega
/-- a match of the league -/
def okW (k : Bool) (i j : Int) (w : Option Int) : Prop := (w = none ∧ k = true) ∨ w = some i ∨ w = some j
def okM (k : Bool) (n : Nat) (m : M) : Prop := 0 ≤ m.1 ∧ m.1 < m.2.1 ∧ m.2.1 < n ∧ okW k m.1 m.2.1 m.2.2
def ltM (a b : M) : Prop := a.1 < b.1 ∨ (a.1 = b.1 ∧ a.2.1 < b.2.1)
def ltP (a b : Int × Int) : Prop := a.1 < b.1 ∨ (a.1 = b.1 ∧ a.2 < b.2)
instance (a b : M) : Decidable (ltM a b) := by unfold ltM; infer_instance
instance (a b : Int × Int) : Decidable (ltP a b) := by unfold ltP; infer_instance
def key (m : M) : Int × Int := (m.1, m.2.1)
structure okL (L : Lg) : Prop where
  n2 : 2 ≤ L.n
  n6 : L.n ≤ 6
  okm : ∀ m ∈ L.ms, okM L.k L.n m
  lt : L.ms.Pairwise ltM
/-- all matches -/
def allP (n : Nat) : List (Int × Int) := (List.range n).flatMap fun i => ((List.range n).filter fun j => decide (i < j)).map fun (j : Nat) => ((i : Int), (j : Int))
theorem n_cases {n : Nat} (h2 : 2 ≤ n) (h6 : n ≤ 6) : n = 2 ∨ n = 3 ∨ n = 4 ∨ n = 5 ∨ n = 6 := by omega
theorem mem_allP {n : Nat} {p : Int × Int} : p ∈ allP n ↔ 0 ≤ p.1 ∧ p.1 < p.2 ∧ p.2 < n := by
  obtain ⟨a, b⟩ := p
  simp only [allP, List.mem_flatMap, List.mem_range, List.mem_map, List.mem_filter, decide_eq_true_eq, Prod.mk.injEq]
  constructor
  · rintro ⟨i, hi, j, ⟨hj, hij⟩, rfl, rfl⟩
    omega
  · rintro ⟨h0, h1, h2⟩
    exact ⟨a.toNat, by omega, b.toNat, ⟨by omega, by omega⟩, by omega, by omega⟩
theorem allP_lt {n : Nat} (h6 : n ≤ 6) : (allP n).Pairwise ltP := by
  have : n = 0 ∨ n = 1 ∨ n = 2 ∨ n = 3 ∨ n = 4 ∨ n = 5 ∨ n = 6 := by omega
  rcases this with rfl | rfl | rfl | rfl | rfl | rfl | rfl <;> decide +kernel
theorem allP_len {n : Nat} (h6 : n ≤ 6) : (allP n).length ≤ 15 := by
  have : n = 0 ∨ n = 1 ∨ n = 2 ∨ n = 3 ∨ n = 4 ∨ n = 5 ∨ n = 6 := by omega
  rcases this with rfl | rfl | rfl | rfl | rfl | rfl | rfl <;> decide +kernel
theorem lt_nodup {l : List (Int × Int)} (h : l.Pairwise ltP) : l.Nodup := h.imp fun {a b} h e => by
  subst e
  unfold ltP at h
  omega
theorem key_lt {ms : List M} (h : ms.Pairwise ltM) : (ms.map key).Pairwise ltP := List.pairwise_map.mpr (h.imp fun {a b} h => h)
theorem len_of_sub {α : Type} [DecidableEq α] : ∀ {l l' : List α}, l.Nodup → (∀ x ∈ l, x ∈ l') → l.length ≤ l'.length := fun {l l'} h s => by
  induction l generalizing l' with
  | nil => simp
  | cons a l ih =>
    have ha : a ∈ l' := s a List.mem_cons_self
    have h' := List.nodup_cons.mp h
    have := ih (l' := l'.erase a) h'.2 fun x hx => (List.mem_erase_of_ne (fun e => h'.1 (by rw [← e]; exact hx))).mpr (s x (List.mem_cons_of_mem _ hx))
    rw [List.length_erase_of_mem ha] at this
    have := List.length_pos_of_mem ha
    rw [List.length_cons]
    omega
theorem okL.len {L : Lg} (h : okL L) : L.ms.length ≤ 15 := by
  have := len_of_sub (lt_nodup (key_lt h.lt)) (l' := allP L.n) fun x hx => by
    obtain ⟨m, hm, rfl⟩ := List.mem_map.mp hx
    have := h.okm m hm
    exact mem_allP.mpr ⟨this.1, this.2.1, this.2.2.1⟩
  rw [List.length_map] at this
  have := allP_len h.n6
  omega
theorem okL.nZ {L : Lg} (h : okL L) : (2 : Int) ≤ L.n ∧ (L.n : Int) ≤ 6 := by have := h.n2; have := h.n6; omega
/-! loops -/
section
variable {α β σ : Type}
theorem kLoop_fold (f : β → T.Env → Ou) (en : α → β) (e : σ → T.Env) (st : σ → α → σ) : ∀ (xs : List α) (s : σ), (∀ s x, x ∈ xs → f (en x) (e s) = .nx (e (st s x))) → kLoop f (xs.map en) (e s) = .nx (e (xs.foldl st s))
  | [], s, h => rfl
  | x :: xs, s, h => by
    rw [List.map_cons, kLoop_cons, h s x List.mem_cons_self]
    exact kLoop_fold f en e st xs _ fun s y m => h s y (List.mem_cons_of_mem _ m)
/-- with what holds of the done ones and the ones to come -/
theorem kLoop_inv (f : β → T.Env → Ou) (en : α → β) (e : σ → T.Env) (I : List α → List α → σ → Prop) : ∀ (xs done : List α) (s : σ), I done xs s → (∀ done x rest s, I done (x :: rest) s → ∃ s', I (done ++ [x]) rest s' ∧ (f (en x) (e s) = .nx (e s') ∨ f (en x) (e s) = .ct (e s'))) → ∃ s', I (done ++ xs) [] s' ∧ kLoop f (xs.map en) (e s) = .nx (e s')
  | [], done, s, h, _ => ⟨s, by rw [List.append_nil]; exact h, rfl⟩
  | x :: xs, done, s, h, hs => by
    obtain ⟨s', h', q⟩ := hs done x xs s h
    obtain ⟨s2, h2, q2⟩ := kLoop_inv f en e I xs (done ++ [x]) s' h' hs
    refine ⟨s2, by rw [List.append_assoc] at h2; exact h2, ?_⟩
    rw [List.map_cons, kLoop_cons]
    rcases q with q | q <;> rw [q] <;> exact q2
/-- a loop that changes nothing -/
theorem kLoop_same (f : β → T.Env → Ou) (en : α → β) (G : T.Env) : ∀ (xs : List α), (∀ x, x ∈ xs → f (en x) G = .nx G) → kLoop f (xs.map en) G = .nx G
  | [], h => rfl
  | x :: xs, h => by
    rw [List.map_cons, kLoop_cons, h x List.mem_cons_self]
    exact kLoop_same f en G xs fun y m => h y (List.mem_cons_of_mem _ m)
/-- a loop that draws: something holds behind it -/
theorem kLoop_ex (f : β → T.Env → Ou) (en : α → β) (I : List α → T.Env → Prop) : ∀ (xs : List α) (G : T.Env), I xs G → (∀ x rest G, I (x :: rest) G → ∃ G', I rest G' ∧ (f (en x) G = .nx G' ∨ f (en x) G = .ct G')) → ∃ G', I [] G' ∧ kLoop f (xs.map en) G = .nx G'
  | [], G, h, _ => ⟨G, h, rfl⟩
  | x :: xs, G, h, hs => by
    obtain ⟨s', h', q⟩ := hs x xs G h
    obtain ⟨s2, h2, q2⟩ := kLoop_ex f en I xs s' h' hs
    refine ⟨s2, h2, ?_⟩
    rw [List.map_cons, kLoop_cons]
    rcases q with q | q <;> rw [q] <;> exact q2
end
/-- a while: I with a measure that falls -/
theorem kWhl_ex {c : KB} {b : KS} (I : Nat → T.Env → Prop) (F : T.Env → Prop) (hs : ∀ n G, I n G → (∃ G1, c G = .ok false G1 ∧ F G1) ∨ (∃ G1 G2 m, c G = .ok true G1 ∧ (b G1 = .nx G2 ∨ b G1 = .ct G2) ∧ m < n ∧ I m G2)) : ∀ (N n : Nat) (G : T.Env), n < N → I n G → ∃ G', F G' ∧ kWhl c b N G = .nx G'
  | 0, n, G, hn, h => absurd hn (by omega)
  | N + 1, n, G, hn, h => by
    rw [kWhl_s]
    rcases hs n G h with ⟨G1, h1, h2⟩ | ⟨G1, G2, m, h1, h2, h3, h4⟩
    · exact ⟨G1, h2, by rw [h1]; rfl⟩
    · obtain ⟨G', h5, h6⟩ := kWhl_ex I F hs N m G2 (by omega) h4
      refine ⟨G', h5, ?_⟩
      rw [h1]
      show lpo (kWhl c b N) (b G1) = _
      rcases h2 with h2 | h2 <;> rw [h2] <;> exact h6
end T
namespace T
open PySem PySem.Spec PyProof.Rows L2
@[simp] theorem isNon_int (i : Int) : isNon (.int i) = false := rfl
@[simp] theorem isNon_bl (i : Bool) : isNon (.bl i) = false := rfl
@[simp] theorem isNon_str (i : Str) : isNon (.str i) = false := rfl
@[simp] theorem isNon_tup (i : List D) : isNon (.tup i) = false := rfl
@[simp] theorem isNon_lst (o : Bool) (i : List D) : isNon (.lst o i) = false := rfl
@[simp] theorem isNon_pD (i : Int × Int) : isNon (pD i) = false := rfl
@[simp] theorem isNon_mD (i : M) : isNon (mD i) = false := rfl
@[simp] theorem isNon_lgD (o : Bool) (L : Lg) : isNon (lgD o L) = false := rfl
@[simp] theorem isNon_wD (w : Option Int) : isNon (wD w) = decide (w = none) := by cases w <;> rfl
@[simp] theorem tyK_pD (i : Int × Int) : tyK (pD i) = "tuple" := rfl
@[simp] theorem tyK_mD (i : M) : tyK (mD i) = "tuple" := rfl
@[simp] theorem tyK_lgD (o : Bool) (L : Lg) : tyK (lgD o L) = "tuple" := rfl
@[simp] theorem isK1 : isK "tuple" "tuple" = true := by decide
@[simp] theorem isK2 : isK "list" "list" = true := by decide
@[simp] theorem isK3 : isK "int" "int" = true := by decide
@[simp] theorem isK4 : isK "bool" "int" = false := by decide
@[simp] theorem isK5 : isK "str" "str" = true := by decide
@[simp] theorem isK6 : isK "bool" "bool" = true := by decide
@[simp] theorem isK7 : isK "int" "bool" = true := by decide
@[simp] theorem len_pD (i : Int × Int) : k_lenD [pD i] = some (.int 2) := rfl
@[simp] theorem len_mD (i : M) : k_lenD [mD i] = some (.int 3) := rfl
@[simp] theorem len_lgD (o : Bool) (L : Lg) : k_lenD [lgD o L] = some (.int 3) := rfl
@[simp] theorem asTu_pD (p : Int × Int) : asTu (pD p) = some [.int p.1, .int p.2] := rfl
@[simp] theorem asTu_mD (p : M) : asTu (mD p) = some [.int p.1, .int p.2.1, wD p.2.2] := rfl
@[simp] theorem asTu_lgD (o : Bool) (L : Lg) : asTu (lgD o L) = some [.str (kS L.k), .int L.n, .lst o (L.ms.map mD)] := rfl
theorem flt_2 (a b : Int) : [D.int a, D.int b].all flt = true := rfl
@[simp] theorem in_int_pD (a : Int) (p : Int × Int) : k_inD (.int a) (pD p) = some (.bl (decide (a = p.1) || decide (a = p.2))) := by
  rw [← mem_2 a p.1 p.2]
  rfl
@[simp] theorem nin_int_pD (a : Int) (p : Int × Int) : k_notInD (.int a) (pD p) = some (.bl (!(decide (a = p.1) || decide (a = p.2)))) := by
  rw [← mem_2 a p.1 p.2]
  rfl
@[simp] theorem CMul_l (i j : Int) (h : -18446744073709551616 < i) (h' : i < 18446744073709551616) : CMul i j = True := eq_true (.inl ⟨by omega, by omega⟩)
@[simp] theorem CMul_r (i j : Int) (h : -18446744073709551616 < j) (h' : j < 18446744073709551616) : CMul i j = True := eq_true (.inr ⟨by omega, by omega⟩)
@[simp] theorem CMul_i (p : Prop) [Decidable p] (j : Int) : CMul (if p then 2 else 1) j = True := eq_true (.inl (by split <;> decide))
@[simp] theorem CMul_j (p : Prop) [Decidable p] (j : Int) : CMul j (if p then 2 else 1) = True := eq_true (.inr (by split <;> decide))
@[simp] theorem CDiv_eq (i j : Int) : CDiv i j = (0 < j ∧ j < 1073741824) := rfl
@[simp] theorem CPow_eq (i j : Int) : CPow i j = (0 ≤ j ∧ j ≤ 1000000 ∧ i.natAbs < 18446744073709551616) := rfl
/-! folding -/
@[simp] theorem fold_pD (a b : Int) : D.tup [D.int a, D.int b] = pD (a, b) := rfl
@[simp] theorem fold_mD (i j : Int) (w : Option Int) : D.tup [D.int i, D.int j, wD w] = mD (i, j, w) := rfl
@[simp] theorem eta3 (m : M) : (m.1, m.2.1, m.2.2) = m := rfl
@[simp] theorem pD_eta (p : Int × Int) : pD (p.1, p.2) = pD p := rfl
theorem pD_key (m : M) : pD (m.1, m.2.1) = pD (key m) := rfl
@[simp] theorem map_key (ms : List M) : List.map (fun m : M => pD (m.1, m.2.1)) ms = (ms.map key).map pD := by rw [List.map_map]; rfl
@[simp] theorem map_key' (ms : List M) : List.map (fun m : M => pD (key m)) ms = (ms.map key).map pD := by rw [List.map_map]; rfl
@[simp] theorem sIx3a : HT.sIx 3 0 none = 0 := HT.sIx_none 3 0
@[simp] theorem sIx3b : HT.sIx 3 3 (some 2) = 2 := HT.sIx_nat 3 3 2
@[simp] theorem cut2m (m : M) : cutT (mD m) none (some 2) = some (pD (key m)) := by
  simp [mD, cutD, key, -fold_mD]
theorem ord_pD (f r z) (a b : Int × Int) : kOrd f r z (pD a) (pD b) = some (.bl (if a.1 = b.1 then (if a.2 = b.2 then z 0 0 else r a.2 b.2) else r a.1 b.1)) := rfl
@[simp] theorem lt_pD (a b : Int × Int) : k_ltD (pD a) (pD b) = some (.bl (decide (ltP a b))) := by
  refine (ord_pD _ _ _ a b).trans (congrArg (fun x => some (D.bl x)) (Bool.eq_iff_iff.mpr ?_))
  simp only [ltP, decide_eq_true_eq]
  by_cases h1 : a.1 = b.1 <;> by_cases h2 : a.2 = b.2 <;> simp [h1, h2] <;> grind
@[simp] theorem gt_pD (a b : Int × Int) : k_gtD (pD a) (pD b) = some (.bl (decide (ltP b a))) := by
  refine (ord_pD _ _ _ a b).trans (congrArg (fun x => some (D.bl x)) (Bool.eq_iff_iff.mpr ?_))
  simp only [ltP, decide_eq_true_eq]
  by_cases h1 : a.1 = b.1 <;> by_cases h2 : a.2 = b.2 <;> simp [h1, h2] <;> grind
@[simp] theorem ge_pD (a b : Int × Int) : k_geD (pD a) (pD b) = some (.bl (decide (¬ ltP a b))) := by
  refine (ord_pD _ _ _ a b).trans (congrArg (fun x => some (D.bl x)) (Bool.eq_iff_iff.mpr ?_))
  simp only [ltP, decide_eq_true_eq]
  by_cases h1 : a.1 = b.1 <;> by_cases h2 : a.2 = b.2 <;> simp [h1, h2] <;> grind
@[simp] theorem le_pD (a b : Int × Int) : k_leD (pD a) (pD b) = some (.bl (decide (¬ ltP b a))) := by
  refine (ord_pD _ _ _ a b).trans (congrArg (fun x => some (D.bl x)) (Bool.eq_iff_iff.mpr ?_))
  simp only [ltP, decide_eq_true_eq]
  by_cases h1 : a.1 = b.1 <;> by_cases h2 : a.2 = b.2 <;> simp [h1, h2] <;> grind
theorem kComp_none {α : Type} (xs : List α) : kComp (fun _ => some none) xs = some [] := by
  induction xs with
  | nil => rfl
  | cons x xs ih => rw [kComp_cons, ih]; rfl
@[simp] theorem kComp_map' {α β : Type} (e : α → β) (f : β → Option (Option D)) (xs : List α) : kComp f (xs.map e) = kComp (fun x => f (e x)) xs := kComp_map e f xs
@[simp] theorem kComp_none' {α : Type} (xs : List α) : kComp (fun _ => some none) xs = some [] := kComp_none xs
@[simp] theorem kComp_all' {α : Type} (h : α → D) (xs : List α) : kComp (fun x => some (some (h x))) xs = some (xs.map h) := kComp_all h xs
@[simp] theorem kComp_filter' {α : Type} (p : α → Prop) [DecidablePred p] (h : α → D) (xs : List α) : kComp (fun x => some (if p x then some (h x) else none)) xs = some ((xs.filter p).map h) := by
  have := kComp_filter (fun x => decide (p x)) h xs
  simpa using this
@[simp] theorem kComp_filterN {α : Type} (p : α → Prop) [DecidablePred p] (h : α → D) (xs : List α) : kComp (fun x => some (if p x then none else some (h x))) xs = some ((xs.filter fun x => ¬ p x).map h) := by
  have := kComp_filter (fun x => decide (¬ p x)) h xs
  simpa using this
end T
namespace T
open PySem PySem.Spec PyProof.Rows L2
/-! ### a list of n numbers, by place -/
def nL (n : Nat) (f : Nat → Int) : List D := (List.range n).map fun p => D.int (f p)
section
variable {n : Nat} {f g : Nat → Int}
@[simp] theorem nL_len (n : Nat) (f : Nat → Int) : (nL n f).length = n := by simp [nL]
theorem nL_ints (n : Nat) (f : Nat → Int) : nL n f = ((List.range n).map f).map D.int := by simp [nL]
@[simp] theorem nL_frz (n : Nat) (f : Nat → Int) : frzL (nL n f) = nL n f := by rw [nL_ints, fe_frzL]
@[simp] theorem nL_flat (n : Nat) (f : Nat → Int) : flatL (nL n f) = true := by rw [nL_ints, fe_flatL]
@[simp] theorem nL_ownd (n : Nat) (f : Nat → Int) : owndL (nL n f) = true := by rw [nL_ints, fe_owndL]
@[simp] theorem nL_asInts (n : Nat) (f : Nat → Int) : asInts (nL n f) = some ((List.range n).map f) := by rw [nL_ints, asInts_map]
@[simp] theorem nL_shp (o : Bool) (n : Nat) (f : Nat → Int) : shp (.lst o (nL n f)) = true := by rw [nL_ints, fe_shp]
theorem nL_okd (o : Bool) (n : Nat) (f : Nat → Int) : okd 9 (.lst o (nL n f)) := by rw [nL_ints]; exact fe_okd o _
theorem nL_get {i : Nat} (h : i < n) : (nL n f)[i]? = some (.int (f i)) := by simp [nL, h]
theorem nL_at {i : Nat} (h : i < n) : atI (nL n f) (i : Int) = some (.int (f i)) := by
  unfold atI
  rw [nL_len, ixN_nat h]
  exact nL_get h
theorem nL_at' {i : Int} (h : 0 ≤ i) (h' : i < n) : atI (nL n f) i = some (.int (f i.toNat)) := by
  unfold atI
  rw [nL_len, ixN_nn h h']
  exact nL_get (by omega)
theorem nL_ext (h : ∀ p, p < n → f p = g p) : nL n f = nL n g := by
  unfold nL
  exact List.map_congr_left fun p hp => by rw [h p (List.mem_range.mp hp)]
theorem nL_set {i : Nat} {v : Int} : (nL n f).set i (.int v) = nL n (fun p => if p = i then v else f p) := by
  apply List.ext_getElem?
  intro q
  by_cases hq : q < n
  · rw [nL_get hq]
    by_cases e : i = q
    · subst e
      rw [List.getElem?_set_self (by simpa using hq), if_pos rfl]
    · rw [List.getElem?_set_ne e, nL_get hq, if_neg (fun z => e z.symm)]
  · rw [List.getElem?_eq_none (by simp; omega), List.getElem?_eq_none (by simp; omega)]
theorem nL_rep (n : Nat) (v : Int) : List.replicate n (D.int v) = nL n (fun _ => v) := by
  apply List.ext_getElem?
  intro q
  by_cases hq : q < n
  · rw [nL_get hq]; simp [hq]
  · rw [List.getElem?_eq_none (by simp; omega), List.getElem?_eq_none (by simp; omega)]
theorem nL_eq : nL n f = nL n g ↔ ∀ p, p < n → f p = g p := by
  refine ⟨fun h p hp => ?_, nL_ext⟩
  have := congrArg (fun l : List D => l[p]?) h
  simp only [nL_get hp] at this
  injection this with this
  injection this
theorem nL_map_inj {n : Nat} {f g : Nat → Int} : ((List.range n).map f = (List.range n).map g) ↔ ∀ p, p < n → f p = g p := by
  rw [List.map_inj_left]
  simp
@[simp] theorem nL_deq (n : Nat) (f g : Nat → Int) : deqL (nL n f) (nL n g) = decide (∀ p, p < n → f p = g p) := by
  rw [nL_ints, nL_ints, fe_deqL, decide_eq_decide]
  exact nL_map_inj
theorem nL_cons0 (n : Nat) (f : Nat → Int) : nL (n + 1) f = nL n f ++ [.int (f n)] := by simp [nL, List.range_succ]
end
end T
namespace T
open PySem PySem.Spec PyProof.Rows L2
/-! ### sorting -/
theorem le_pair (a b : Int × Int) : PySem.W.dataLe false py (pD a) (pD b) = true ↔ ¬ ltP b a := by
  simp [PySem.W.dataLe, PySem.W.sortLe, pD, py, pyL, PySem.W.keyToks, PySem.W.keyToksAll, PyProof.Rows.lexLt, PyProof.Rows.itemLt, ltP, -fold_pD]
  omega
theorem sort_pairs {l l' : List (Int × Int)} (hp : l.Perm l') (hl : l'.Pairwise ltP) (hn : l.length ≤ 100000) : sorO (l.map pD) = some (l'.map pD) := by
  refine sorO_eq ⟨.inl ⟨?_, .inl ?_⟩, ?_, by rw [List.length_map]; omega⟩ ?_
  · intro d hd d' hd'
    simp only [List.mem_map] at hd hd'
    obtain ⟨_, ⟨a, _, rfl⟩, rfl⟩ := hd
    obtain ⟨_, ⟨b, _, rfl⟩, rfl⟩ := hd'
    rfl
  · intro d hd
    simp only [List.mem_map] at hd
    obtain ⟨_, ⟨a, _, rfl⟩, rfl⟩ := hd
    exact ⟨_, _, rfl⟩
  · intro x hx
    obtain ⟨a, _, rfl⟩ := List.mem_map.mp hx
    exact ⟨rfl, by simp [pD, py, pyL, PyData.depth, PyData.depthAll, -fold_pD]⟩
  · have hle : ∀ a b c : D, PySem.W.dataLe false py a b = true → PySem.W.dataLe false py b c = true → PySem.W.dataLe false py a c = true := (PySem.W.sortLe_total _ _ _).trans
    have tot : ∀ a b : D, (PySem.W.dataLe false py a b || PySem.W.dataLe false py b a) = true := fun a b => Bool.or_eq_true_iff.mpr ((PySem.W.sortLe_total _ _ _).total a b)
    have sp := List.pairwise_mergeSort (le := PySem.W.dataLe false py) hle tot (l.map pD)
    have pm : (sortD (l.map pD)).Perm (l'.map pD) := (List.mergeSort_perm _ _).trans (hp.map pD)
    refine List.Perm.eq_of_pairwise (le := fun a b => PySem.W.dataLe false py a b = true) (fun a b ha hb h1 h2 => ?_) sp ?_ pm
    · obtain ⟨x, _, rfl⟩ := List.mem_map.mp (pm.mem_iff.mp ha)
      obtain ⟨y, _, rfl⟩ := List.mem_map.mp hb
      rw [le_pair] at h1 h2
      unfold ltP at h1 h2
      have e1 : x.1 = y.1 := by omega
      have e2 : x.2 = y.2 := by omega
      have : x = y := Prod.ext e1 e2
      rw [this]
    · refine List.pairwise_map.mpr (hl.imp fun {a b} h => ?_)
      rw [le_pair]
      unfold ltP at h ⊢
      omega
theorem py_mD (m : M) : py (mD m) = .tuple [.int m.1, .int m.2.1, py (wD m.2.2)] := rfl
theorem flw_wD (w : Option Int) : flw (py (wD w)) := by
  cases w with
  | none => exact .inl rfl
  | some x => exact .inr ⟨x, rfl⟩
theorem near_ms {l : List M} (h : ∀ a ∈ l, ∀ b ∈ l, a.1 = b.1 → a.2.1 = b.2.1 → a = b) : Near ((l.map mD).map py) := by
  intro d hd d' hd'
  simp only [List.map_map, List.mem_map] at hd hd'
  obtain ⟨a, ha, rfl⟩ := hd
  obtain ⟨b, hb, rfl⟩ := hd'
  exact ⟨_, _, _, _, _, _, py_mD a, py_mD b, flw_wD _, flw_wD _, fun e1 e2 => by rw [h a ha b hb e1 e2]⟩
theorem le_ms {a b : M} (h : a.1 = b.1 → a.2.1 = b.2.1 → a = b) : PySem.W.dataLe false py (mD a) (mD b) = true ↔ ¬ ltM b a := by
  have e : PySem.W.dataLe false py (mD a) (mD b) = !PyProof.Rows.lexLt itemOrd (PySem.W.keyToks (py (mD b))) (PySem.W.keyToks (py (mD a))) := rfl
  rw [e, py_mD, py_mD, lex3 _ _ _ _ _ _ fun e1 e2 => by rw [h e1.symm e2.symm]]
  simp [ltM]
  omega
theorem sort_ms {l l' : List M} (hp : l.Perm l') (hl : l'.Pairwise ltM) (hn : l.length ≤ 1000) : sorO (l.map mD) = some (l'.map mD) := by
  have key' : ∀ a ∈ l', ∀ b ∈ l', a.1 = b.1 → a.2.1 = b.2.1 → a = b := by
    intro a ha b hb e1 e2
    obtain ⟨i, hi, rfl⟩ := List.mem_iff_getElem.mp ha
    obtain ⟨j, hj, rfl⟩ := List.mem_iff_getElem.mp hb
    have hpw := List.pairwise_iff_getElem.mp hl
    rcases Nat.lt_trichotomy i j with h | h | h
    · have := hpw i j hi hj h
      unfold ltM at this
      omega
    · subst h; rfl
    · have := hpw j i hj hi h
      unfold ltM at this
      omega
  have key : ∀ a ∈ l, ∀ b ∈ l, a.1 = b.1 → a.2.1 = b.2.1 → a = b := fun a ha b hb => key' a (hp.mem_iff.mp ha) b (hp.mem_iff.mp hb)
  refine sorO_eq ⟨.inr (near_ms key), fun x hx => ?_, by rw [List.length_map]; omega⟩ ?_
  · obtain ⟨a, _, rfl⟩ := List.mem_map.mp hx
    obtain ⟨i, j, w⟩ := a
    cases w <;> exact ⟨rfl, by simp [mD, wD, py, pyL, PyData.depth, PyData.depthAll, -fold_mD]⟩
  · have hle : ∀ a b c : D, PySem.W.dataLe false py a b = true → PySem.W.dataLe false py b c = true → PySem.W.dataLe false py a c = true := (PySem.W.sortLe_total _ _ _).trans
    have tot : ∀ a b : D, (PySem.W.dataLe false py a b || PySem.W.dataLe false py b a) = true := fun a b => Bool.or_eq_true_iff.mpr ((PySem.W.sortLe_total _ _ _).total a b)
    have sp := List.pairwise_mergeSort (le := PySem.W.dataLe false py) hle tot (l.map mD)
    have pm : (sortD (l.map mD)).Perm (l'.map mD) := (List.mergeSort_perm _ _).trans (hp.map mD)
    refine List.Perm.eq_of_pairwise (le := fun a b => PySem.W.dataLe false py a b = true) (fun a b ha hb h1 h2 => ?_) sp ?_ pm
    · obtain ⟨x, hx, rfl⟩ := List.mem_map.mp (pm.mem_iff.mp ha)
      obtain ⟨y, hy, rfl⟩ := List.mem_map.mp hb
      rw [le_ms (key' x hx y hy)] at h1
      rw [le_ms (key' y hy x hx)] at h2
      unfold ltM at h1 h2
      rw [key' x hx y hy (by omega) (by omega)]
    · refine List.pairwise_map.mpr (hl.imp_of_mem fun {a b} ha hb h => ?_)
      rw [le_ms (key' a ha b hb)]
      unfold ltM at h ⊢
      omega
/-- a list of matches put in order -/
def insM (m : M) (ms : List M) : List M := ms.filter (fun a => decide (ltM a m)) ++ m :: ms.filter (fun a => decide (ltM m a))
theorem tri (a b : M) : ltM a b ∨ ltM b a ∨ key a = key b := by
  unfold ltM key
  by_cases h : a.1 = b.1
  · by_cases h' : a.2.1 = b.2.1
    · exact .inr (.inr (by rw [h, h']))
    · omega
  · omega
theorem ltM_irr {a b : M} (h : ltM a b) : ¬ ltM b a := by unfold ltM at *; omega
theorem ltM_trans {a b c : M} (h : ltM a b) (h' : ltM b c) : ltM a c := by unfold ltM at *; omega
theorem ltM_ne {a b : M} (h : ltM a b) : key a ≠ key b := by
  intro e
  unfold key at e
  injection e with e1 e2
  unfold ltM at h
  omega
theorem insM_perm {m : M} : ∀ {ms : List M}, key m ∉ ms.map key → (ms ++ [m]).Perm (insM m ms)
  | [], h => List.Perm.refl _
  | a :: ms, h => by
    rw [List.map_cons, List.mem_cons, not_or] at h
    have ih := insM_perm (m := m) (ms := ms) h.2
    rcases tri a m with t | t | t
    · have t' := ltM_irr t
      simp only [insM, List.filter_cons, t, t', decide_true, decide_false, if_true, List.cons_append] at ih ⊢
      exact ih.cons a
    · have t' := ltM_irr t
      simp only [insM, List.filter_cons, t, t', decide_true, decide_false, if_true, List.cons_append] at ih ⊢
      refine (ih.cons a).trans ?_
      refine List.perm_middle.symm.trans ?_
      refine List.Perm.append_left _ ?_
      exact List.Perm.swap _ _ _
    · exact absurd t.symm h.1
theorem insM_lt {m : M} {ms : List M} (h : ms.Pairwise ltM) : (insM m ms).Pairwise ltM := by
  unfold insM
  refine List.pairwise_append.mpr ⟨h.filter _, List.pairwise_cons.mpr ⟨fun a ha => ?_, h.filter _⟩, fun a ha b hb => ?_⟩
  · simpa using (List.mem_filter.mp ha).2
  · have ha' : ltM a m := by simpa using (List.mem_filter.mp ha).2
    rcases List.mem_cons.mp hb with rfl | hb
    · exact ha'
    · exact ltM_trans ha' (by simpa using (List.mem_filter.mp hb).2)
theorem mem_insM {m a : M} {ms : List M} (h : key m ∉ ms.map key) : a ∈ insM m ms ↔ a ∈ ms ∨ a = m := by
  rw [← (insM_perm h).mem_iff]
  simp
/-- the league with one match more -/
def addM (L : Lg) (m : M) : Lg := ⟨L.k, L.n, insM m L.ms⟩
@[simp] theorem addM_k (L : Lg) (m : M) : (addM L m).k = L.k := rfl
@[simp] theorem addM_n (L : Lg) (m : M) : (addM L m).n = L.n := rfl
theorem addM_ok {L : Lg} {m : M} (h : okL L) (hm : okM L.k L.n m) (hk : key m ∉ L.ms.map key) : okL (addM L m) := by
  refine ⟨h.n2, h.n6, fun a ha => ?_, insM_lt h.lt⟩
  rcases (mem_insM hk).mp ha with ha | rfl
  · exact h.okm a ha
  · exact hm
theorem addM_ms {L : Lg} {m a : M} (hk : key m ∉ L.ms.map key) : a ∈ (addM L m).ms ↔ a ∈ L.ms ∨ a = m := mem_insM hk
/-- the matches left -/
def left (L : Lg) : List (Int × Int) := (allP L.n).filter fun p => decide (p ∉ L.ms.map key)
theorem left_len {L : Lg} (h : okL L) : (left L).length ≤ 15 := by
  have e5 := allP_len h.n6
  have := List.length_filter_le (fun p => decide (p ∉ L.ms.map key)) (allP L.n)
  unfold left
  omega
theorem mem_left {L : Lg} {p : Int × Int} : p ∈ left L ↔ (0 ≤ p.1 ∧ p.1 < p.2 ∧ p.2 < L.n) ∧ p ∉ L.ms.map key := by
  unfold left
  rw [List.mem_filter, mem_allP, decide_eq_true_eq]
theorem left_lt {L : Lg} (h : okL L) : (left L).Pairwise ltP := (allP_lt h.n6).filter _
theorem left_nodup {L : Lg} (h : okL L) : (left L).Nodup := lt_nodup (left_lt h)
theorem addM_keys {L : Lg} {m : M} (hk : key m ∉ L.ms.map key) {p : Int × Int} : p ∈ (addM L m).ms.map key ↔ p ∈ L.ms.map key ∨ p = key m := by
  simp only [List.mem_map]
  constructor
  · rintro ⟨a, ha, rfl⟩
    rcases (addM_ms hk).mp ha with ha | rfl
    · exact .inl ⟨a, ha, rfl⟩
    · exact .inr rfl
  · rintro (⟨a, ha, rfl⟩ | rfl)
    · exact ⟨a, (addM_ms hk).mpr (.inl ha), rfl⟩
    · exact ⟨m, (addM_ms hk).mpr (.inr rfl), rfl⟩
theorem left_add {L : Lg} {m : M} (hk : key m ∉ L.ms.map key) : left (addM L m) = (left L).filter fun p => decide (p ≠ key m) := by
  unfold left
  rw [List.filter_filter]
  refine List.filter_congr fun p _ => ?_
  rw [Bool.eq_iff_iff]
  simp only [decide_eq_true_eq, Bool.and_eq_true, addM_n, addM_keys hk, not_or]
  exact ⟨fun ⟨a, b⟩ => ⟨b, a⟩, fun ⟨a, b⟩ => ⟨b, a⟩⟩
/-- what a match brings -/
def g1 (k : Bool) (m : M) : Int := match m.2.2 with | none => 1 | some x => if x = m.1 then (if k then 2 else 1) else 0
def g2 (k : Bool) (m : M) : Int := match m.2.2 with | none => 1 | some x => if x = m.2.1 then (if k then 2 else 1) else 0
/-- the points of a player -/
def gn (k : Bool) (m : M) (p : Nat) : Int := (if m.1 = p then g1 k m else 0) + (if m.2.1 = p then g2 k m else 0)
def pts (L : Lg) (p : Nat) : Int := (L.ms.map fun m => gn L.k m p).sum
def wo (k : Bool) : Int := if k then 2 else 1
theorem sum_perm {l l' : List Int} (h : l.Perm l') : l.sum = l'.sum := by
  induction h with
  | nil => rfl
  | cons x _ ih => simp [ih]
  | swap x y l => simp; omega
  | trans _ _ h1 h2 => exact h1.trans h2
theorem pts_add {L : Lg} {m : M} (hk : key m ∉ L.ms.map key) (p : Nat) : pts (addM L m) p = pts L p + gn L.k m p := by
  unfold pts
  have := sum_perm (((insM_perm hk).map fun m => gn L.k m p)).symm
  show ((insM m L.ms).map fun m => gn L.k m p).sum = _
  rw [this]
  simp
/-- how many matches a player has left -/
def ownL (L : Lg) (p : Int) : Nat := ((left L).filter fun q => decide (p = q.1) || decide (p = q.2)).length
def topP (L : Lg) (p : Nat) : Int := pts L p + (if L.k then 2 else 1) * ownL L p
end T
namespace T
open PySem PySem.Spec PyProof.Rows L2
@[simp] theorem frzL_lg (o : Bool) (Ls : List Lg) : frzL (Ls.map (lgD o)) = Ls.map (lgD false) := by
  rw [frzL_map, List.map_map]
  exact List.map_congr_left fun L _ => frz_lgD o L
/-! shapes that may be compared -/
def okb : Nat → D → Bool
  | _, .non => true
  | _, .bl _ => true
  | _, .int _ => true
  | _, .str x => PyData.strOk x
  | k + 1, .tup xs => xs.all (okb k)
  | k + 1, .lst _ xs => xs.all (okb k)
  | _, _ => false
theorem okb_okd : ∀ {k : Nat} {d : D}, okb k d = true → okd (k + 1) d
  | _, .non, _ => okd_flat0 rfl
  | _, .bl _, _ => okd_flat0 rfl
  | _, .int _, _ => okd_flat0 rfl
  | _, .str x, h => okd_flat0 (by simpa [okb, flz] using h)
  | k + 1, .tup xs, h => okd_tup fun x hx => okb_okd (by
    simp only [okb, List.all_eq_true] at h
    exact h x hx)
  | k + 1, .lst _ xs, h => okd_lst fun x hx => okb_okd (by
    simp only [okb, List.all_eq_true] at h
    exact h x hx)
  | 0, .tup xs, h => by simp [okb] at h
  | 0, .lst _ xs, h => by simp [okb] at h
  | _, .scr _, h => by simp [okb] at h
  | _, .dic _ _ _, h => by simp [okb] at h
  | _, .obj _ _ _ _, h => by simp [okb] at h
theorem shp_ok {d : D} (h : okb 40 d = true) : shp d = true := okd_shp (okd_mono (okb_okd h) (by omega))
@[simp] theorem shp_lst {o : Bool} {xs : List D} (h : okb 40 (.lst o xs) = true) : shp (.lst o xs) = true := shp_ok h
@[simp] theorem shp_tup {xs : List D} (h : okb 40 (.tup xs) = true) : shp (.tup xs) = true := shp_ok h
@[simp] theorem shp_str {x : Str} (h : PyData.strOk x = true) : shp (.str x) = true := shp_ok (by simpa [okb] using h)
@[simp] theorem okb_non (k : Nat) : okb k .non = true := by cases k <;> rfl
@[simp] theorem okb_bl (k : Nat) (b : Bool) : okb k (.bl b) = true := by cases k <;> rfl
@[simp] theorem okb_int (k : Nat) (b : Int) : okb k (.int b) = true := by cases k <;> rfl
@[simp] theorem okb_str (k : Nat) (x : Str) : okb k (.str x) = PyData.strOk x := by cases k <;> rfl
@[simp] theorem okb_tup (k : Nat) (xs : List D) : okb (k + 1) (.tup xs) = xs.all (okb k) := rfl
@[simp] theorem okb_lst (k : Nat) (o : Bool) (xs : List D) : okb (k + 1) (.lst o xs) = xs.all (okb k) := rfl
theorem okb_mono : ∀ {k : Nat} {d : D}, okb k d = true → okb (k + 1) d = true
  | _, .non, _ => by simp
  | _, .bl _, _ => by simp
  | _, .int _, _ => by simp
  | _, .str x, h => by simpa using h
  | k + 1, .tup xs, h => by
    simp only [okb, List.all_eq_true] at h ⊢
    exact fun x hx => okb_mono (h x hx)
  | k + 1, .lst _ xs, h => by
    simp only [okb, List.all_eq_true] at h ⊢
    exact fun x hx => okb_mono (h x hx)
  | 0, .tup xs, h => by simp [okb] at h
  | 0, .lst _ xs, h => by simp [okb] at h
  | _, .scr _, h => by simp [okb] at h
  | _, .dic _ _ _, h => by simp [okb] at h
  | _, .obj _ _ _ _, h => by simp [okb] at h
@[simp] theorem strOk_plain : PyData.strOk (Str.ofString "plain") = true := by decide +kernel
@[simp] theorem strOk_ties : PyData.strOk (Str.ofString "ties") = true := by decide +kernel
@[simp] theorem strOk_kS (b : Bool) : PyData.strOk (kS b) = true := by cases b <;> simp [kS] <;> decide +kernel
@[simp] theorem okb_pD (k : Nat) (p : Int × Int) : okb (k + 1) (pD p) = true := by simp [pD, -fold_pD]
@[simp] theorem okb_wD (k : Nat) (w : Option Int) : okb k (wD w) = true := by cases w <;> simp
@[simp] theorem okb_mD (k : Nat) (m : M) : okb (k + 1) (mD m) = true := by simp [mD, -fold_mD]
@[simp] theorem okb_lgD (k : Nat) (o : Bool) (L : Lg) : okb (k + 3) (lgD o L) = true := by simp [lgD]
@[simp] theorem okb_nL (k n : Nat) (f : Nat → Int) : (nL n f).all (okb k) = true := by simp [nL]
@[simp] theorem all_map_pD (k : Nat) (xs : List (Int × Int)) : (xs.map pD).all (okb (k + 1)) = true := by simp
@[simp] theorem all_map_mD (k : Nat) (xs : List M) : (xs.map mD).all (okb (k + 1)) = true := by simp
@[simp] theorem all_map_lg (k : Nat) (o : Bool) (xs : List Lg) : (xs.map (lgD o)).all (okb (k + 3)) = true := by simp
/-! equality of data, more of it -/
@[simp] theorem deq_bl (a b : Bool) : deq (.bl a) (.bl b) = decide (a = b) := by cases a <;> cases b <;> rfl
@[simp] theorem mem_nil (x : D) : mem x [] = false := rfl
theorem mem_cons (x y : D) (ys : List D) : mem x (y :: ys) = (deq y x || mem x ys) := rfl
@[simp] theorem mem_bl_cons (b : Bool) (y : D) (ys : List D) : mem (.bl b) (y :: ys) = (deq y (.bl b) || mem (.bl b) ys) := rfl
@[simp] theorem deq_int_non' (i : Int) : deq (.int i) .non = false := rfl
@[simp] theorem deq_lst_non (o : Bool) (xs : List D) : deq (.lst o xs) .non = false := rfl
@[simp] theorem deq_non_lst (o : Bool) (xs : List D) : deq .non (.lst o xs) = false := rfl
@[simp] theorem deq_tup_non (xs : List D) : deq (.tup xs) .non = false := rfl
@[simp] theorem deq_non_tup (xs : List D) : deq .non (.tup xs) = false := rfl
@[simp] theorem deq_lg_non (o : Bool) (L : Lg) : deq (lgD o L) .non = false := rfl
@[simp] theorem deq_non_lg (o : Bool) (L : Lg) : deq .non (lgD o L) = false := rfl
@[simp] theorem rangeD_flat (lo : Int) (n : Nat) : flatL (rangeD lo n) = true := by rw [rangeD_int, fe_flatL]
@[simp] theorem rangeD_frz (lo : Int) (n : Nat) : frzL (rangeD lo n) = rangeD lo n := by rw [rangeD_int, fe_frzL]
@[simp] theorem rangeD_ownd (lo : Int) (n : Nat) : owndL (rangeD lo n) = true := by rw [rangeD_int, fe_owndL]
@[simp] theorem rangeD_all (k : Nat) (lo : Int) (n : Nat) : (rangeD lo n).all (okb k) = true := by rw [rangeD_int]; simp
@[simp] theorem rangeD_0 (lo : Int) : rangeD lo 0 = [] := rfl
@[simp] theorem rangeD_1 : rangeD 0 1 = [.int 0] := rfl
@[simp] theorem rangeD_2 : rangeD 0 2 = [.int 0, .int 1] := rfl
@[simp] theorem itK_lgD (L : Lg) (o : Bool) : itK (lgD o L) = some [.str (kS L.k), .int L.n, .lst o (L.ms.map mD)] := rfl
@[simp] theorem rbK_lgD (L : Lg) (o : Bool) (ys : List D) : rbK (lgD o L) ys = .tup ys := rfl
@[simp] theorem ixN_30 : ixN 3 0 = some 0 := rfl
@[simp] theorem ixN_31 : ixN 3 1 = some 1 := rfl
@[simp] theorem ixN_32 : ixN 3 2 = some 2 := rfl
@[simp] theorem ixN_20 : ixN 2 0 = some 0 := rfl
@[simp] theorem ixN_21 : ixN 2 1 = some 1 := rfl
@[simp] theorem slotG_0 (d : D) (G : T.Env) : slotG (some d :: G) 0 = some d := rfl
@[simp] theorem slotG_s (d : Option D) (G : T.Env) (i : Nat) : slotG (d :: G) (i + 1) = slotG G i := rfl
@[simp] theorem isNo_1 : isNo (some none) = true := rfl
@[simp] theorem slotIs_1 (d : D) : slotIs (some (some d)) = true := rfl
@[simp] theorem fold_lgD (k o : Bool) (n : Nat) (ms : List M) : D.tup [D.str (kS k), D.int n, D.lst o (ms.map mD)] = lgD o ⟨k, n, ms⟩ := rfl
@[simp] theorem lg_eta (L : Lg) : (Lg.mk L.k L.n L.ms) = L := rfl
@[simp] theorem fold_lg0 (k o : Bool) (n : Nat) : D.tup [D.str (kS k), D.int n, D.lst o []] = lgD o ⟨k, n, []⟩ := rfl
/-! what comes out, whatever it is -/
def Fr.is (x : Fr) (P : D → List D → Prop) : Prop := ∃ d ms, x = .ret d ms ∧ P d ms
@[simp] theorem is_ret (d : D) (ms : List D) (P : D → List D → Prop) : Fr.is (.ret d ms) P = P d ms := propext ⟨fun ⟨_, _, e, h⟩ => by cases e; exact h, fun h => ⟨_, _, rfl, h⟩⟩
def Ou.is (x : Ou) (P : T.Env → Prop) : Prop := ∃ G, (x = .nx G ∨ x = .ct G) ∧ P G
@[simp] theorem is_nx (G : T.Env) (P : T.Env → Prop) : Ou.is (.nx G) P = P G := propext ⟨fun ⟨_, e, h⟩ => by rcases e with e | e <;> cases e; exact h, fun h => ⟨_, .inl rfl, h⟩⟩
@[simp] theorem is_ct (G : T.Env) (P : T.Env → Prop) : Ou.is (.ct G) P = P G := propext ⟨fun ⟨_, e, h⟩ => by rcases e with e | e <;> cases e; exact h, fun h => ⟨_, .inr rfl, h⟩⟩
def Re.is {α : Type} (x : Re α) (P : α → T.Env → Prop) : Prop := ∃ a G, x = .ok a G ∧ P a G
@[simp] theorem is_ok {α : Type} (a : α) (G : T.Env) (P : α → T.Env → Prop) : Re.is (.ok a G) P = P a G := propext ⟨fun ⟨_, _, e, h⟩ => by cases e; exact h, fun h => ⟨_, _, rfl, h⟩⟩
section
variable {α β : Type}
theorem loop_w {f : β → T.Env → Ou} {en : α → β} (I : List α → T.Env → Prop) {xs : List α} {G : T.Env} {X : Ou} (hX : kLoop f (xs.map en) G = X) (h : I xs G) (hs : ∀ x rest G, I (x :: rest) G → ∀ P : T.Env → Prop, (∀ G', I rest G' → P G') → Ou.is (f (en x) G) P) : ∃ G', I [] G' ∧ X = .nx G' := by
  subst hX
  refine kLoop_ex f en I xs G h fun x rest G hi => ?_
  obtain ⟨G', e, q⟩ := hs x rest G hi (I rest) fun _ q => q
  exact ⟨G', q, e⟩
theorem loop_w' {f : α → T.Env → Ou} (I : List α → T.Env → Prop) {xs : List α} {G : T.Env} {X : Ou} (hX : kLoop f xs G = X) (h : I xs G) (hs : ∀ x rest G, I (x :: rest) G → ∀ P : T.Env → Prop, (∀ G', I rest G' → P G') → Ou.is (f x G) P) : ∃ G', I [] G' ∧ X = .nx G' :=
  loop_w (en := id) I (by rw [List.map_id]; exact hX) h hs
theorem compE_w {f : β → T.Env → Re (Option D)} {en : α → β} (I : List α → List D → T.Env → Prop) : ∀ {xs : List α} {G : T.Env} {ys : List D} {X : Re (List D)}, kCompE f (xs.map en) G = X → I xs ys G → (∀ x rest ys G, I (x :: rest) ys G → ∀ P : Option D → T.Env → Prop, (∀ d G', I rest (match d with | some d => ys ++ [d] | none => ys) G' → P d G') → Re.is (f (en x) G) P) → ∃ ds G', I [] (ys ++ ds) G' ∧ X = .ok ds G'
  | [], G, ys, X, hX, h, hs => ⟨[], G, by rw [List.append_nil]; exact h, hX.symm⟩
  | x :: xs, G, ys, X, hX, h, hs => by
    obtain ⟨d, G', e, q⟩ := hs x xs ys G h (fun d G' => I xs (match d with | some d => ys ++ [d] | none => ys) G') fun _ _ q => q
    rw [List.map_cons, kCompE_cons, e] at hX
    obtain ⟨ds, G2, h2, e2⟩ := compE_w I rfl q hs
    rw [rb_ok, e2] at hX
    cases d with
    | none => exact ⟨ds, G2, h2, hX.symm⟩
    | some d =>
      refine ⟨d :: ds, G2, ?_, hX.symm⟩
      simp only [List.append_assoc, List.cons_append, List.nil_append] at h2
      exact h2
end
theorem fold_w {α β σ : Type} {f : β → T.Env → Ou} {en : α → β} {xs : List α} {G : T.Env} {X : Ou} (hX : kLoop f (xs.map en) G = X) (e : σ → T.Env) (st : σ → α → σ) (s : σ) (hG : G = e s) (hs : ∀ done x rest, xs = done ++ x :: rest → f (en x) (e (done.foldl st s)) = .nx (e (st (done.foldl st s) x))) : X = .nx (e (xs.foldl st s)) := by
  subst hX hG
  have : ∀ (rest done : List α), xs = done ++ rest → kLoop f (rest.map en) (e (done.foldl st s)) = .nx (e (xs.foldl st s)) := by
    intro rest
    induction rest with
    | nil => intro done h; rw [List.append_nil] at h; subst h; rfl
    | cons x rest ih =>
      intro done h
      rw [List.map_cons, kLoop_cons, hs done x rest h]
      have := ih (done ++ [x]) (by rw [h]; simp)
      rw [List.foldl_append] at this
      exact this
  exact this xs [] rfl
theorem foldl_app {α β : Type} (g : α → List β) : ∀ (xs : List α) (s : List β), xs.foldl (fun acc x => acc ++ g x) s = s ++ xs.flatMap g
  | [], s => by simp
  | x :: xs, s => by rw [List.foldl_cons, foldl_app g xs]; simp
theorem foldl_snoc {α β : Type} (g : α → β) : ∀ (xs : List α) (s : List β), xs.foldl (fun acc x => acc ++ [g x]) s = s ++ xs.map g
  | [], s => by simp
  | x :: xs, s => by rw [List.foldl_cons, foldl_snoc g xs]; simp
theorem whl_w {c : KB} {b : KS} {N : Nat} {G : T.Env} {X : Ou} (hX : kWhl c b N G = X) (I : Nat → T.Env → Prop) (F : T.Env → Prop) (n : Nat) (hn : n < N) (h : I n G) (hs : ∀ n G, I n G → (c G = .ok false G ∧ F G) ∨ (c G = .ok true G ∧ ∀ P : T.Env → Prop, (∀ m G', m < n → I m G' → P G') → Ou.is (b G) P)) : ∃ G', F G' ∧ X = .nx G' := by
  subst hX
  refine kWhl_ex I F (fun n G hi => ?_) N n G hn h
  rcases hs n G hi with ⟨h1, h2⟩ | ⟨h1, h2⟩
  · exact .inl ⟨G, h1, h2⟩
  · obtain ⟨G', e, m, hm, hi'⟩ := h2 (fun G' => ∃ m, m < n ∧ I m G') fun m G' hm hi => ⟨m, hm, hi⟩
    exact .inr ⟨G, G', m, h1, e, hm, hi'⟩
end T
namespace T
open PySem PySem.Spec PyProof.Rows L2
/-- a loop that goes on while a test holds, or returns -/
theorem loop_all {α β : Type} {f : β → T.Env → Ou} {en : α → β} {xs : List α} {G : T.Env} {X : Ou} (hX : kLoop f (xs.map en) G = X) (d : D) (R : T.Env → Prop) (c : α → Prop) (h : ∀ x ∈ xs, (c x ∧ f (en x) G = .nx G) ∨ (¬ c x ∧ ∃ G', f (en x) G = .rt d G' ∧ R G')) : ((∀ x ∈ xs, c x) ∧ X = .nx G) ∨ ((¬ ∀ x ∈ xs, c x) ∧ ∃ G', X = .rt d G' ∧ R G') := by
  subst hX
  induction xs with
  | nil => exact .inl ⟨by simp, rfl⟩
  | cons x xs ih =>
    rw [List.map_cons, kLoop_cons]
    rcases h x List.mem_cons_self with ⟨hc, e⟩ | ⟨hc, G', e, hR⟩
    · rw [e, lpo_e0]
      rcases ih fun y m => h y (List.mem_cons_of_mem _ m) with ⟨a, b⟩ | ⟨a, b⟩
      · exact .inl ⟨fun y hy => (List.mem_cons.mp hy).elim (fun z => by rw [z]; exact hc) (a y), b⟩
      · exact .inr ⟨fun z => a fun y hy => z y (List.mem_cons_of_mem _ hy), b⟩
    · rw [e]
      exact .inr ⟨fun z => hc (z x List.mem_cons_self), G', rfl, hR⟩
end T
namespace T
open PySem PySem.Spec PyProof.Rows L2
/-- data that is a view already -/
class FZ {α : Type} (e : α → D) : Prop where
  fz : ∀ x, frz (e x) = e x
@[simp] theorem frzL_fz {α : Type} {e : α → D} [FZ e] (xs : List α) : frzL (xs.map e) = xs.map e := by
  rw [frzL_map, List.map_map]
  exact List.map_congr_left fun x _ => FZ.fz x
/-- a list of players -/
def nD (p : Nat) : D := .int p
instance : FE nD := ⟨fun _ => rfl, fun _ => okd_flat0 rfl, fun _ => rfl, fun _ _ h => by unfold nD at h; injection h with h; omega⟩
def sD (s : List Nat) : D := .lst false (s.map nD)
@[simp] theorem frz_nD (p : Nat) : frz (nD p) = nD p := rfl
@[simp] theorem frz_sD (s : List Nat) : frz (sD s) = sD s := by simp [sD]
instance : FZ sD := ⟨frz_sD⟩
end T
namespace T
open PySem PySem.Spec PyProof.Rows L2
@[simp] theorem wo_if (k : Bool) : (if k = true then (2 : Int) else 1) = wo k := rfl
@[simp] theorem wo_add (k : Bool) : 1 + (if k = true then (1 : Int) else 0) = wo k := by cases k <;> rfl
@[simp] theorem CMul_wo (k : Bool) (j : Int) : CMul (wo k) j = True := eq_true (.inl (by cases k <;> decide))
@[simp] theorem CMul_wo' (k : Bool) (j : Int) : CMul j (wo k) = True := eq_true (.inr (by cases k <;> decide))
theorem wo_cases (k : Bool) : wo k = 1 ∨ wo k = 2 := by cases k <;> simp [wo]
theorem band1 (n : Nat) : Builtin.bitAnd (n : Int) 1 = ((n % 2 : Nat) : Int) := by
  have h1 : decide ((0 : Int) ≤ (n : Int)) = true := by simp
  have h2 : decide ((0 : Int) ≤ 1) = true := by decide
  unfold Builtin.bitAnd
  rw [h1, h2]
  show (((n : Int).toNat &&& (1 : Int).toNat : Nat) : Int) = _
  rw [Int.toNat_natCast]
  show ((n &&& 1 : Nat) : Int) = _
  rw [Nat.and_one_is_mod]
end T
namespace T
open PySem PySem.Spec PyProof.Rows L2
/-- a loop that breaks at the first that fits -/
theorem loop_find {α β : Type} {f : β → T.Env → Ou} {en : α → β} {xs : List α} {G : T.Env} {X : Ou} (hX : kLoop f (xs.map en) G = X) (R : T.Env → Prop) (hR : R G) (eB : α → T.Env) (c : α → Bool) (h : ∀ x ∈ xs, ∀ G, R G → R (eB x) ∧ f (en x) G = if c x = true then .bk (eB x) else .nx (eB x)) {y : α} (hy : xs.find? c = some y) : X = .nx (eB y) := by
  subst hX
  induction xs generalizing G with
  | nil => cases hy
  | cons x xs ih =>
    obtain ⟨h1, h2⟩ := h x List.mem_cons_self G hR
    rw [List.map_cons, kLoop_cons, h2]
    rw [List.find?_cons] at hy
    cases hc : c x with
    | true =>
      rw [hc] at hy
      cases hy
      rfl
    | false =>
      rw [hc] at hy
      rw [if_neg (by simp), lpo_e0]
      exact ih h1 (fun z m => h z (List.mem_cons_of_mem _ m)) hy
end T
namespace T
open PySem PySem.Spec PyProof.Rows L2
/-- a loop that returns at the first that fits -/
theorem loop_first {α β : Type} {f : β → T.Env → Ou} {en : α → β} {xs : List α} {G : T.Env} {X : Ou} (hX : kLoop f (xs.map en) G = X) (c : α → Bool) (v : α → D) (g : α → T.Env) (h : ∀ x ∈ xs, f (en x) G = if c x = true then .rt (v x) (g x) else .nx G) : X = match xs.find? c with | some y => .rt (v y) (g y) | none => .nx G := by
  subst hX
  induction xs with
  | nil => rfl
  | cons x xs ih =>
    rw [List.map_cons, kLoop_cons, h x List.mem_cons_self, List.find?_cons]
    cases c x with
    | true => rfl
    | false =>
      rw [if_neg (by simp), lpo_e0]
      exact ih fun z m => h z (List.mem_cons_of_mem _ m)
end T
namespace T
open PySem PySem.Spec PyProof.Rows L2
def outs (k : Bool) (i j : Int) : List (Option Int) := if k then [some i, none, some j] else [some i, some j]
theorem kind_at {r : Int} (h0 : 0 ≤ r) (h1 : r < 2) : ∃ k, atI [D.str (Str.ofString "plain"), D.str (Str.ofString "ties")] r = some (.str (kS k)) := by
  have : r = 0 ∨ r = 1 := by omega
  rcases this with rfl | rfl
  · exact ⟨false, rfl⟩
  · exact ⟨true, rfl⟩
theorem at3_ex {α : Type} {P : α → Prop} {a b c : α} {r : Int} (h0 : 0 ≤ r) (h1 : r < 3) (ha : P a) (hb : P b) (hc : P c) : ∃ x, P x ∧ atI [a, b, c] r = some x := by
  have : r = 0 ∨ r = 1 ∨ r = 2 := by omega
  rcases this with rfl | rfl | rfl
  · exact ⟨a, ha, rfl⟩
  · exact ⟨b, hb, rfl⟩
  · exact ⟨c, hc, rfl⟩
theorem at3_int {P : Int → Prop} {a b c : Int} {r : Int} (h0 : 0 ≤ r) (h1 : r < 3) (ha : P a) (hb : P b) (hc : P c) : ∃ x, P x ∧ atI [D.int a, D.int b, D.int c] r = some (.int x) := by
  have : r = 0 ∨ r = 1 ∨ r = 2 := by omega
  rcases this with rfl | rfl | rfl
  · exact ⟨a, ha, rfl⟩
  · exact ⟨b, hb, rfl⟩
  · exact ⟨c, hc, rfl⟩
theorem map_erase {α β : Type} (f : α → β) : ∀ (l : List α) (i : Nat), (l.map f).eraseIdx i = (l.eraseIdx i).map f
  | [], _ => rfl
  | a :: l, 0 => rfl
  | a :: l, i + 1 => by simp [map_erase f l i]
theorem mem_eraseIdx_nodup {α : Type} {l : List α} {i : Nat} {x : α} (h : l.Nodup) (hi : i < l.length) : x ∈ l.eraseIdx i ↔ x ∈ l ∧ x ≠ l[i] := by
  rw [List.mem_eraseIdx_iff_getElem]
  constructor
  · rintro ⟨j, hj, hne, rfl⟩
    exact ⟨List.getElem_mem _, fun e => by
      have hp := List.pairwise_iff_getElem.mp h
      rcases Nat.lt_trichotomy i j with z | z | z
      · exact hp i j hi hj z e.symm
      · exact hne z.symm
      · exact hp j i hj hi z e⟩
  · rintro ⟨hx, hne⟩
    obtain ⟨j, hj, rfl⟩ := List.mem_iff_getElem.mp hx
    exact ⟨j, hj, fun e => hne (by subst e; rfl), rfl⟩
/-- what is left of all matches, and what is played: together all -/
structure parts (k : Bool) (n : Nat) (l : List (Int × Int)) (ms : List M) : Prop where
  ok : ∀ m ∈ ms, okM k n m
  sub : l.Sublist (allP n)
  nd : (ms.map key).Nodup
  all : ∀ p, p ∈ allP n ↔ p ∈ l ∨ p ∈ ms.map key
  dis : ∀ p ∈ l, p ∉ ms.map key
/-- any list of matches, each once, in order -/
def ordM : List M → List M
  | [] => []
  | m :: ms => insM m (ordM ms)
theorem ordM_lt : ∀ ms : List M, (ordM ms).Pairwise ltM
  | [] => .nil
  | m :: ms => insM_lt (ordM_lt ms)
theorem ordM_perm : ∀ {ms : List M}, (ms.map key).Nodup → ms.Perm (ordM ms)
  | [], _ => List.Perm.refl _
  | m :: ms, h => by
    rw [List.map_cons, List.nodup_cons] at h
    have ih := ordM_perm h.2
    have hk : key m ∉ (ordM ms).map key := fun z => h.1 ((ih.map key).mem_iff.mpr z)
    exact (ih.cons m).trans ((List.perm_append_singleton _ _).symm.trans (insM_perm hk))
theorem outs_ok {k : Bool} {n : Nat} {i j : Int} (h0 : 0 ≤ i) (h1 : i < j) (h2 : j < n) {w : Option Int} (hw : w ∈ outs k i j) : okM k n (i, j, w) := by
  refine ⟨h0, h1, h2, ?_⟩
  unfold outs at hw
  unfold okW
  cases k
  · simp at hw
    rcases hw with rfl | rfl <;> simp
  · simp at hw
    rcases hw with rfl | rfl | rfl <;> simp
theorem outs_len (k : Bool) (i j : Int) : (outs k i j).length = if k then 3 else 2 := by cases k <;> rfl
/-- a league of the same kind and players, with these matches left -/
structure Ext (L : Lg) (ps : List (Int × Int)) (A : Lg) : Prop where
  ok : okL A
  k : A.k = L.k
  n : A.n = L.n
  lf : left A = ps
theorem Ext.refl {L : Lg} (h : okL L) : Ext L (left L) L := ⟨h, rfl, rfl, rfl⟩
theorem left_fresh {L : Lg} {p : Int × Int} (h : p ∈ left L) : (p.1, p.2) ∉ L.ms.map key := (mem_left.mp h).2
theorem Ext.fresh {L A : Lg} {p : Int × Int} {ps : List (Int × Int)} (h : Ext L (p :: ps) A) (w : Option Int) : key (p.1, p.2, w) ∉ A.ms.map key := by
  have : p ∈ left A := by rw [h.lf]; exact List.mem_cons_self
  exact left_fresh this
theorem Ext.add {L A : Lg} {p : Int × Int} {ps : List (Int × Int)} (h : Ext L (p :: ps) A) {w : Option Int} (hw : w ∈ outs L.k p.1 p.2) : Ext L ps (addM A (p.1, p.2, w)) := by
  have hk := h.fresh w
  have hp : p ∈ left A := by rw [h.lf]; exact List.mem_cons_self
  have hm := (mem_left.mp hp).1
  have nd := left_nodup h.ok
  rw [h.lf, List.nodup_cons] at nd
  refine ⟨addM_ok h.ok ?_ hk, h.k, h.n, ?_⟩
  · rw [h.k]
    exact outs_ok hm.1 hm.2.1 hm.2.2 hw
  · rw [left_add hk, h.lf, List.filter_cons]
    have e : key (p.1, p.2, w) = p := rfl
    rw [e, if_neg (by simp)]
    exact List.filter_eq_self.mpr fun q hq => by
      simp only [decide_eq_true_eq]
      rintro rfl
      exact nd.1 hq
/-- one match more, by each outcome -/
def more (p : Int × Int) (L : Lg) : List Lg := (outs L.k p.1 p.2).map fun w => addM L (p.1, p.2, w)
theorem Ext.more {L A B : Lg} {p : Int × Int} {ps : List (Int × Int)} (h : Ext L (p :: ps) A) (hB : B ∈ more p A) : Ext L ps B := by
  obtain ⟨w, hw, rfl⟩ := List.mem_map.mp hB
  rw [h.k] at hw
  exact h.add hw
theorem more_len (p : Int × Int) (L : Lg) : (more p L).length ≤ 3 := by
  unfold more
  rw [List.length_map, outs_len]
  split <;> omega
def everyB (ps : List (Int × Int)) (fs : List Lg) : List Lg := ps.foldl (fun fs p => fs.flatMap (more p)) fs
def every (L : Lg) : List Lg := everyB (left L) [L]
theorem flatMap_len {α β : Type} {f : α → List β} {k : Nat} : ∀ {xs : List α}, (∀ x ∈ xs, (f x).length ≤ k) → (xs.flatMap f).length ≤ xs.length * k
  | [], _ => by simp
  | x :: xs, h => by
    have h1 := flatMap_len (xs := xs) fun y m => h y (List.mem_cons_of_mem _ m)
    have h2 := h x List.mem_cons_self
    rw [List.flatMap_cons, List.length_append, List.length_cons, Nat.succ_mul]
    omega
theorem everyB_ext {L : Lg} : ∀ {ps : List (Int × Int)} {fs : List Lg}, (∀ A ∈ fs, Ext L ps A) → ∀ A ∈ everyB ps fs, Ext L [] A
  | [], fs, h, A, hA => h A hA
  | p :: ps, fs, h, A, hA => everyB_ext (ps := ps) (fs := fs.flatMap (more p)) (fun B hB => by
    obtain ⟨C, hC, hB⟩ := List.mem_flatMap.mp hB
    exact (h C hC).more hB) A hA
theorem every_ext {L A : Lg} (h : okL L) (hA : A ∈ every L) : Ext L [] A := everyB_ext (fun B hB => by
  rw [List.mem_singleton.mp hB]
  exact .refl h) A hA
theorem everyB_len : ∀ {ps : List (Int × Int)} {fs : List Lg} {k : Nat}, fs.length ≤ k → (everyB ps fs).length ≤ k * 3 ^ ps.length
  | [], fs, k, h => by simpa [everyB] using h
  | p :: ps, fs, k, h => by
    have h1 := flatMap_len (f := more p) (k := 3) (xs := fs) fun x _ => more_len p x
    have h2 := everyB_len (ps := ps) (fs := fs.flatMap (more p)) (k := k * 3) (Nat.le_trans h1 (Nat.mul_le_mul_right 3 h))
    have e : k * 3 * 3 ^ ps.length = k * 3 ^ (p :: ps).length := by
      rw [List.length_cons, Nat.pow_succ, Nat.mul_assoc, Nat.mul_comm 3]
    rw [← e]
    exact h2
theorem every_len {L : Lg} (hl : (left L).length ≤ 4) : (every L).length ≤ 81 := by
  have h1 := everyB_len (ps := left L) (fs := [L]) (k := 1) (by simp)
  have h2 : 3 ^ (left L).length ≤ 3 ^ 4 := Nat.pow_le_pow_right (by decide) hl
  unfold every
  omega
/-- a league of the same kind and players, in which these matches are still left -/
structure Fre (L : Lg) (ps : List (Int × Int)) (A : Lg) : Prop where
  ok : okL A
  k : A.k = L.k
  n : A.n = L.n
  nd : ps.Nodup
  lf : ∀ q ∈ ps, q ∈ left A
theorem Fre.refl {L : Lg} (h : okL L) : Fre L (left L) L := ⟨h, rfl, rfl, left_nodup h, fun _ h => h⟩
theorem Fre.fresh {L A : Lg} {p : Int × Int} {ps : List (Int × Int)} (h : Fre L (p :: ps) A) (w : Option Int) : key (p.1, p.2, w) ∉ A.ms.map key := left_fresh (h.lf p List.mem_cons_self)
theorem Fre.skip {L A : Lg} {p : Int × Int} {ps : List (Int × Int)} (h : Fre L (p :: ps) A) : Fre L ps A := ⟨h.ok, h.k, h.n, (List.nodup_cons.mp h.nd).2, fun q hq => h.lf q (List.mem_cons_of_mem _ hq)⟩
theorem Fre.add {L A : Lg} {p : Int × Int} {ps : List (Int × Int)} (h : Fre L (p :: ps) A) {w : Option Int} (hw : w ∈ outs L.k p.1 p.2) : Fre L ps (addM A (p.1, p.2, w)) := by
  have hk := h.fresh w
  have hm := (mem_left.mp (h.lf p List.mem_cons_self)).1
  have nd := List.nodup_cons.mp h.nd
  refine ⟨addM_ok h.ok ?_ hk, h.k, h.n, nd.2, fun q hq => ?_⟩
  · rw [h.k]
    exact outs_ok hm.1 hm.2.1 hm.2.2 hw
  · rw [left_add hk, List.mem_filter]
    refine ⟨h.lf q (List.mem_cons_of_mem _ hq), ?_⟩
    simp only [decide_eq_true_eq]
    rintro rfl
    exact nd.1 hq
theorem outs_i (k : Bool) (i j : Int) : some i ∈ outs k i j := by cases k <;> simp [outs]
theorem outs_j (k : Bool) (i j : Int) : some j ∈ outs k i j := by cases k <;> simp [outs]
theorem gn_out (k : Bool) {i j : Int} {w : Option Int} {p : Nat} (h1 : ¬ i = p) (h2 : ¬ j = p) : gn k (i, j, w) p = 0 := by simp [gn, h1, h2]
theorem gn_in {k : Bool} {i j : Int} {w : Option Int} {p : Nat} (hij : i < j) (hw : w ∈ outs k i j) : 0 ≤ gn k (i, j, w) p ∧ gn k (i, j, w) p ≤ wo k := by
  unfold outs at hw
  cases k
  · simp at hw
    rcases hw with rfl | rfl <;> simp only [gn, g1, g2, wo] <;> grind
  · simp at hw
    rcases hw with rfl | rfl | rfl <;> simp only [gn, g1, g2, wo] <;> grind
def cntP (p : Nat) (ps : List (Int × Int)) : Nat := (ps.filter fun q => decide ((p : Int) = q.1) || decide ((p : Int) = q.2)).length
theorem cntP_cons (p : Nat) (q : Int × Int) (ps : List (Int × Int)) : cntP p (q :: ps) = (if q.1 = p ∨ q.2 = p then 1 else 0) + cntP p ps := by
  unfold cntP
  rw [List.filter_cons]
  by_cases h : q.1 = p ∨ q.2 = p
  · have : (decide ((p : Int) = q.1) || decide ((p : Int) = q.2)) = true := by simp; omega
    rw [if_pos this, if_pos h, List.length_cons]; omega
  · have : ¬ (decide ((p : Int) = q.1) || decide ((p : Int) = q.2)) = true := by simp; omega
    rw [if_neg this, if_neg h]; omega
theorem every_bd {L : Lg} {p : Nat} : ∀ {ps : List (Int × Int)} {fs : List Lg}, (∀ A ∈ fs, Ext L ps A) → ∀ B ∈ everyB ps fs, ∃ A ∈ fs, pts A p ≤ pts B p ∧ pts B p ≤ pts A p + wo L.k * cntP p ps
  | [], fs, h, B, hB => ⟨B, hB, by omega, by simp [cntP]⟩
  | q :: ps, fs, h, B, hB => by
    obtain ⟨C, hC, h1, h2⟩ := every_bd (p := p) (ps := ps) (fs := fs.flatMap (more q)) (fun C hC => by
      obtain ⟨A, hA, hC⟩ := List.mem_flatMap.mp hC
      exact (h A hA).more hC) B hB
    obtain ⟨A, hA, hC⟩ := List.mem_flatMap.mp hC
    obtain ⟨w, hw, rfl⟩ := List.mem_map.mp hC
    have hE := h A hA
    rw [pts_add (hE.fresh w)] at h1 h2
    refine ⟨A, hA, ?_⟩
    have hm := (mem_left.mp (show q ∈ left A by rw [hE.lf]; exact List.mem_cons_self)).1
    have hb := gn_in (p := p) hm.2.1 hw
    rw [cntP_cons]
    have hwo : 0 ≤ wo L.k := by unfold wo; split <;> omega
    rw [hE.k] at hb h1 h2
    by_cases hc : q.1 = p ∨ q.2 = p
    · rw [if_pos hc]
      grind
    · rw [if_neg hc]
      have := gn_out L.k (w := w) (i := q.1) (j := q.2) (p := p) (by omega) (by omega)
      grind
theorem every_lo {L : Lg} {p : Nat} : ∀ {ps : List (Int × Int)} {fs : List Lg}, (∀ A ∈ fs, Ext L ps A) → ∀ A ∈ fs, (∃ B ∈ everyB ps fs, pts B p = pts A p) ∧ ∃ B ∈ everyB ps fs, pts B p = pts A p + wo L.k * cntP p ps
  | [], fs, h, A, hA => ⟨⟨A, hA, rfl⟩, A, hA, by simp [cntP]⟩
  | q :: ps, fs, h, A, hA => by
    have ih := every_lo (p := p) (ps := ps) (fs := fs.flatMap (more q)) (fun C hC => by
      obtain ⟨A, hA, hC⟩ := List.mem_flatMap.mp hC
      exact (h A hA).more hC)
    have hE := h A hA
    have hm := (mem_left.mp (show q ∈ left A by rw [hE.lf]; exact List.mem_cons_self)).1
    have use : ∀ w, w ∈ outs A.k q.1 q.2 → addM A (q.1, q.2, w) ∈ fs.flatMap (more q) := fun w hw => List.mem_flatMap.mpr ⟨A, hA, List.mem_map.mpr ⟨w, hw, rfl⟩⟩
    obtain ⟨w1, hw1, e1⟩ : ∃ w, w ∈ outs A.k q.1 q.2 ∧ gn A.k (q.1, q.2, w) p = 0 := by
      by_cases c : q.1 = p
      · exact ⟨_, outs_j _ _ _, by simp only [gn, g1, g2]; grind⟩
      · exact ⟨_, outs_i _ _ _, by simp only [gn, g1, g2]; grind⟩
    obtain ⟨w2, hw2, e2⟩ : ∃ w, w ∈ outs A.k q.1 q.2 ∧ gn A.k (q.1, q.2, w) p = wo A.k * (if q.1 = p ∨ q.2 = p then 1 else 0) := by
      by_cases c : q.1 = p
      · exact ⟨_, outs_i _ _ _, by simp only [gn, g1, g2, wo]; grind⟩
      · exact ⟨_, outs_j _ _ _, by simp only [gn, g1, g2, wo]; grind⟩
    obtain ⟨⟨B1, hB1, f1⟩, _⟩ := ih _ (use w1 hw1)
    obtain ⟨_, B2, hB2, f2⟩ := ih _ (use w2 hw2)
    refine ⟨⟨B1, hB1, ?_⟩, B2, hB2, ?_⟩
    · rw [f1, pts_add (hE.fresh w1), e1]; omega
    · rw [f2, pts_add (hE.fresh w2), e2, cntP_cons, hE.k]
      split <;> grind
theorem every_min {L : Lg} (h : okL L) (p : Nat) : minI ((every L).map fun B => pts B p) = some (pts L p) := by
  have h0 : ∀ A ∈ [L], Ext L (left L) A := fun A hA => by rw [List.mem_singleton.mp hA]; exact .refl h
  obtain ⟨⟨B, hB, e⟩, _⟩ := every_lo (p := p) h0 L (by simp)
  refine minI_of (List.mem_map.mpr ⟨B, hB, e⟩) fun y hy => ?_
  obtain ⟨C, hC, rfl⟩ := List.mem_map.mp hy
  obtain ⟨A, hA, h1, _⟩ := every_bd (p := p) h0 C hC
  rw [List.mem_singleton.mp hA] at h1
  exact h1
theorem every_max {L : Lg} (h : okL L) (p : Nat) : maxI ((every L).map fun B => pts B p) = some (topP L p) := by
  have h0 : ∀ A ∈ [L], Ext L (left L) A := fun A hA => by rw [List.mem_singleton.mp hA]; exact .refl h
  obtain ⟨_, B, hB, e⟩ := every_lo (p := p) h0 L (by simp)
  have et : topP L p = pts L p + wo L.k * cntP p (left L) := rfl
  rw [et]
  refine maxI_of (List.mem_map.mpr ⟨B, hB, e⟩) fun y hy => ?_
  obtain ⟨C, hC, rfl⟩ := List.mem_map.mp hy
  obtain ⟨A, hA, _, h1⟩ := every_bd (p := p) h0 C hC
  rw [List.mem_singleton.mp hA] at h1
  exact h1
end T
namespace T
open PySem PySem.Spec PyProof.Rows L2
/-! ### ends of a league -/
structure IsEnd (L E : Lg) : Prop where
  ok : okL E
  k : E.k = L.k
  n : E.n = L.n
  lf : left E = []
  sub : ∀ m ∈ L.ms, m ∈ E.ms
theorem key_mem {E : Lg} (hl : left E = []) {p : Int × Int} (h : 0 ≤ p.1 ∧ p.1 < p.2 ∧ p.2 < E.n) : p ∈ E.ms.map key := by
  by_cases c : p ∈ E.ms.map key
  · exact c
  · have : p ∈ left E := mem_left.mpr ⟨h, c⟩
    rw [hl] at this
    cases this
theorem lt_eq {l l' : List M} (h : l.Pairwise ltM) (h' : l'.Pairwise ltM) (e : ∀ m, m ∈ l ↔ m ∈ l') : l = l' := by
  have nd : ∀ {l : List M}, l.Pairwise ltM → l.Nodup := fun h => h.imp fun {a b} h z => by
    subst z
    unfold ltM at h
    omega
  have pm : l.Perm l' := by
    rw [List.perm_ext_iff_of_nodup (nd h) (nd h')]
    exact e
  refine pm.eq_of_pairwise (le := ltM) (fun a b _ _ h1 h2 => ?_) h h'
  exact absurd h2 (ltM_irr h1)
theorem key_inj {E : Lg} (h : okL E) {a b : M} (ha : a ∈ E.ms) (hb : b ∈ E.ms) (e : key a = key b) : a = b := by
  obtain ⟨i, hi, rfl⟩ := List.mem_iff_getElem.mp ha
  obtain ⟨j, hj, rfl⟩ := List.mem_iff_getElem.mp hb
  have hp := List.pairwise_iff_getElem.mp h.lt
  rcases Nat.lt_trichotomy i j with z | z | z
  · exact absurd e (ltM_ne (hp i j hi hj z))
  · subst z; rfl
  · exact absurd e.symm (ltM_ne (hp j i hj hi z))
theorem IsEnd.eq {L E : Lg} (hL : okL L) (h : IsEnd L E) (hl : left L = []) : E = L := by
  have : E.ms = L.ms := lt_eq h.ok.lt hL.lt fun m => by
    refine ⟨fun hm => ?_, h.sub m⟩
    have hk := h.ok.okm m hm
    have : key m ∈ L.ms.map key := key_mem hl ⟨hk.1, hk.2.1, by have := hk.2.2.1; rw [h.n] at this; exact this⟩
    obtain ⟨m', hm', e⟩ := List.mem_map.mp this
    rw [← key_inj h.ok (h.sub m' hm') hm e]
    exact hm'
  cases E; cases L
  simp only at this
  have := h.k
  have := h.n
  simp_all
theorem IsEnd.out {L E : Lg} (h : IsEnd L E) {p : Int × Int} (hp : p ∈ left L) : ∃ w, w ∈ outs L.k p.1 p.2 ∧ (p.1, p.2, w) ∈ E.ms := by
  obtain ⟨h1, h2⟩ := mem_left.mp hp
  obtain ⟨⟨i, j, w⟩, hm, e⟩ := List.mem_map.mp (key_mem h.lf (p := p) (by rw [h.n]; exact h1))
  unfold key at e
  simp only at e
  subst e
  refine ⟨w, ?_, hm⟩
  have hk := (h.ok.okm _ hm).2.2.2
  rw [h.k] at hk
  unfold okW at hk
  unfold outs
  simp only at hk ⊢
  rcases hk with ⟨rfl, hk⟩ | rfl | rfl
  · simp [hk]
  · split <;> simp
  · split <;> simp
theorem IsEnd.add {L E : Lg} (h : IsEnd L E) {p : Int × Int} {w : Option Int} (hp : p ∈ left L) (hm : (p.1, p.2, w) ∈ E.ms) : IsEnd (addM L (p.1, p.2, w)) E := ⟨h.ok, h.k, h.n, h.lf, fun m hm' => by
  rcases (addM_ms (left_fresh hp)).mp hm' with z | z
  · exact h.sub m z
  · rw [z]; exact hm⟩
theorem IsEnd.of_add {L E : Lg} {p : Int × Int} {w : Option Int} (hp : p ∈ left L) (h : IsEnd (addM L (p.1, p.2, w)) E) : IsEnd L E ∧ (p.1, p.2, w) ∈ E.ms := ⟨⟨h.ok, h.k, h.n, h.lf, fun m hm => h.sub m ((addM_ms (left_fresh hp)).mpr (.inl hm))⟩, h.sub _ ((addM_ms (left_fresh hp)).mpr (.inr rfl))⟩
theorem mem_everyB {L : Lg} : ∀ {ps : List (Int × Int)} {fs : List Lg}, (∀ A ∈ fs, Ext L ps A) → ∀ E, E ∈ everyB ps fs ↔ ∃ A ∈ fs, IsEnd A E
  | [], fs, h, E => by
    show E ∈ fs ↔ _
    constructor
    · intro hE
      have := h E hE
      exact ⟨E, hE, this.ok, rfl, rfl, this.lf, fun m hm => hm⟩
    · rintro ⟨A, hA, hE⟩
      have := h A hA
      rw [hE.eq this.ok this.lf]
      exact hA
  | p :: ps, fs, h, E => by
    have ih := mem_everyB (ps := ps) (fs := fs.flatMap (more p)) (fun C hC => by
      obtain ⟨A, hA, hC⟩ := List.mem_flatMap.mp hC
      exact (h A hA).more hC) E
    refine ih.trans ?_
    constructor
    · rintro ⟨B, hB, hE⟩
      obtain ⟨A, hA, hB⟩ := List.mem_flatMap.mp hB
      obtain ⟨w, hw, rfl⟩ := List.mem_map.mp hB
      have hp : p ∈ left A := by rw [(h A hA).lf]; exact List.mem_cons_self
      exact ⟨A, hA, (IsEnd.of_add hp hE).1⟩
    · rintro ⟨A, hA, hE⟩
      have hp : p ∈ left A := by rw [(h A hA).lf]; exact List.mem_cons_self
      obtain ⟨w, hw, hm⟩ := hE.out hp
      exact ⟨addM A (p.1, p.2, w), List.mem_flatMap.mpr ⟨A, hA, List.mem_map.mpr ⟨w, hw, rfl⟩⟩, hE.add hp hm⟩
theorem mem_every {L E : Lg} (h : okL L) : E ∈ every L ↔ IsEnd L E := by
  unfold every
  rw [mem_everyB (L := L) (fun A hA => by rw [List.mem_singleton.mp hA]; exact .refl h)]
  simp
/-! ### sums over some of the players -/
def sm (n : Nat) (S : Nat → Bool) (f : Nat → Int) : Int := ((List.range n).map fun o => if S o = true then f o else 0).sum
def ins (ps : List (Int × Int)) (S : Nat → Bool) : Int := (ps.map fun q => if (S q.1.toNat && S q.2.toNat) = true then (1 : Int) else 0).sum
theorem sum_le {α : Type} {l : List α} {f g : α → Int} (h : ∀ x ∈ l, f x ≤ g x) : (l.map f).sum ≤ (l.map g).sum := by
  induction l with
  | nil => simp
  | cons x l ih =>
    have h1 := h x List.mem_cons_self
    have h2 := ih fun y m => h y (List.mem_cons_of_mem _ m)
    simp only [List.map_cons, List.sum_cons]
    omega
theorem sum_add {α : Type} (l : List α) (f g : α → Int) : (l.map fun x => f x + g x).sum = (l.map f).sum + (l.map g).sum := by
  induction l with
  | nil => simp
  | cons x l ih => simp only [List.map_cons, List.sum_cons, ih]; omega
theorem sum_sub {α : Type} (l : List α) (f g : α → Int) : (l.map fun x => f x - g x).sum = (l.map f).sum - (l.map g).sum := by
  induction l with
  | nil => simp
  | cons x l ih => simp only [List.map_cons, List.sum_cons, ih]; omega
theorem sum_mul {α : Type} (l : List α) (c : Int) (f : α → Int) : (l.map fun x => c * f x).sum = c * (l.map f).sum := by
  induction l with
  | nil => simp
  | cons x l ih => simp only [List.map_cons, List.sum_cons, ih, Int.mul_add]
theorem sum_congr {α : Type} {l : List α} {f g : α → Int} (h : ∀ x ∈ l, f x = g x) : (l.map f).sum = (l.map g).sum := by
  rw [List.map_congr_left h]
theorem sum_zero {α : Type} (l : List α) : (l.map fun _ => (0 : Int)).sum = 0 := by
  induction l with
  | nil => rfl
  | cons x l ih => simp [ih]
/-- one place counts alone -/
theorem sum_one {n i : Nat} (h : i < n) (g : Nat → Int) : ((List.range n).map fun o => if o = i then g o else 0).sum = g i := by
  induction n with
  | zero => omega
  | succ n ih =>
    rw [List.range_succ, List.map_append, List.sum_append]
    simp only [List.map_cons, List.map_nil, List.sum_cons, List.sum_nil]
    by_cases e : i = n
    · subst e
      have : ((List.range i).map fun o => if o = i then g o else 0) = (List.range i).map fun _ => (0 : Int) := List.map_congr_left fun o ho => if_neg (by have := List.mem_range.mp ho; omega)
      rw [this, sum_zero]
      simp
    · rw [ih (by omega), if_neg (fun z => e z.symm)]
      omega
def uni (S U : Nat → Bool) (o : Nat) : Bool := S o || U o
def int' (S U : Nat → Bool) (o : Nat) : Bool := S o && U o
theorem ins_cons (q : Int × Int) (ps : List (Int × Int)) (S : Nat → Bool) : ins (q :: ps) S = (if (S q.1.toNat && S q.2.toNat) = true then 1 else 0) + ins ps S := by simp [ins]
theorem sm_mod (n : Nat) (S U : Nat → Bool) (f : Nat → Int) : sm n (uni S U) f + sm n (int' S U) f = sm n S f + sm n U f := by
  unfold sm
  rw [← sum_add, ← sum_add]
  refine sum_congr fun o _ => ?_
  unfold uni int'
  cases S o <;> cases U o <;> simp
theorem ins_mod (ps : List (Int × Int)) (S U : Nat → Bool) {q : Int × Int} (hq : q ∈ ps) (h1 : S q.1.toNat = true) (h2 : U q.1.toNat = false) (h3 : U q.2.toNat = true) (h4 : S q.2.toNat = false) : ins ps S + ins ps U + 1 ≤ ins ps (uni S U) + ins ps (int' S U) := by
  have le : ∀ ps, ins ps S + ins ps U ≤ ins ps (uni S U) + ins ps (int' S U) := fun ps => by
    unfold ins
    rw [← sum_add, ← sum_add]
    refine sum_le fun q _ => ?_
    unfold uni int'
    cases S q.1.toNat <;> cases U q.1.toNat <;> cases S q.2.toNat <;> cases U q.2.toNat <;> simp
  induction ps with
  | nil => cases hq
  | cons p ps ih =>
    rcases List.mem_cons.mp hq with rfl | hq
    · have := le ps
      simp only [ins_cons, uni, int', h1, h2, h3, h4, Bool.and_true, Bool.true_and, Bool.and_false, Bool.false_and, Bool.or_true, Bool.true_or, Bool.or_false, Bool.false_or, if_true, Bool.false_eq_true, if_false]
      omega
    · have := ih hq
      have l1 := le [p]
      simp only [ins, List.map_cons, List.sum_cons, List.map_nil, List.sum_nil] at this l1 ⊢
      omega
/-- how much a set could still take beyond what its matches bring -/
def slack (L : Lg) (m : Nat → Int) (S : Nat → Bool) : Int := sm L.n S (fun o => m o - pts L o) - wo L.k * ins (left L) S
theorem slack_mod {L : Lg} {m : Nat → Int} (S U : Nat → Bool) {q : Int × Int} (hq : q ∈ left L) (h1 : S q.1.toNat = true) (h2 : U q.1.toNat = false) (h3 : U q.2.toNat = true) (h4 : S q.2.toNat = false) : slack L m (uni S U) + slack L m (int' S U) + wo L.k ≤ slack L m S + slack L m U := by
  have a := sm_mod L.n S U (fun o => m o - pts L o)
  have b := ins_mod (left L) S U hq h1 h2 h3 h4
  unfold slack
  have c : wo L.k = 1 ∨ wo L.k = 2 := by exact wo_cases _
  rcases c with c | c <;> rw [c] <;> omega
theorem ins_filter {ps : List (Int × Int)} (nd : ps.Nodup) {q : Int × Int} (hq : q ∈ ps) (S : Nat → Bool) : ins ps S = ins (ps.filter fun p => decide (p ≠ q)) S + if (S q.1.toNat && S q.2.toNat) = true then 1 else 0 := by
  induction ps with
  | nil => cases hq
  | cons p ps ih =>
    have nd' := List.nodup_cons.mp nd
    rcases List.mem_cons.mp hq with rfl | hq
    · rw [List.filter_cons, if_neg (by simp)]
      have : ps.filter (fun p => decide (p ≠ q)) = ps := List.filter_eq_self.mpr fun p hp => by
        simp only [decide_eq_true_eq]
        rintro rfl
        exact nd'.1 hp
      rw [this]
      simp only [ins, List.map_cons, List.sum_cons]
      omega
    · have hne : p ≠ q := fun e => nd'.1 (e ▸ hq)
      rw [List.filter_cons, if_pos (by simpa using hne)]
      have := ih nd'.2 hq
      simp only [ins, List.map_cons, List.sum_cons] at this ⊢
      omega
theorem sm_gn {n : Nat} (S : Nat → Bool) (k : Bool) {i j : Int} (w : Option Int) (h0 : 0 ≤ i) (h1 : i < j) (h2 : j < n) : sm n S (fun o => gn k (i, j, w) o) = (if S i.toNat = true then g1 k (i, j, w) else 0) + (if S j.toNat = true then g2 k (i, j, w) else 0) := by
  unfold sm
  have : ∀ o : Nat, (if S o = true then gn k (i, j, w) o else 0) = (if o = i.toNat then (if S o = true then g1 k (i, j, w) else 0) else 0) + (if o = j.toNat then (if S o = true then g2 k (i, j, w) else 0) else 0) := fun o => by
    have e1 : i = (o : Int) ↔ o = i.toNat := by omega
    have e2 : j = (o : Int) ↔ o = j.toNat := by omega
    simp only [gn, e1, e2]
    split <;> split <;> split <;> omega
  rw [List.map_congr_left fun o _ => this o, sum_add, sum_one (i := i.toNat) (by omega), sum_one (i := j.toNat) (by omega)]
theorem slack_add {L : Lg} (hL : okL L) {m : Nat → Int} {q : Int × Int} (hq : q ∈ left L) (w : Option Int) (S : Nat → Bool) :
    slack (addM L (q.1, q.2, w)) m S = slack L m S - (if S q.1.toNat = true then g1 L.k (q.1, q.2, w) else 0) - (if S q.2.toNat = true then g2 L.k (q.1, q.2, w) else 0) + (if (S q.1.toNat && S q.2.toNat) = true then wo L.k else 0) := by
  obtain ⟨⟨h0, h1, h2⟩, hk⟩ := mem_left.mp hq
  have hk' : key (q.1, q.2, w) ∉ L.ms.map key := hk
  have e1 := ins_filter (left_nodup hL) hq S
  have e2 := sm_gn S L.k w h0 h1 h2
  unfold slack
  rw [left_add hk']
  have e3 : key (q.1, q.2, w) = q := rfl
  rw [e3, e1]
  have e4 : sm L.n S (fun o => m o - pts (addM L (q.1, q.2, w)) o) = sm L.n S (fun o => m o - pts L o) - sm L.n S (fun o => gn L.k (q.1, q.2, w) o) := by
    unfold sm
    rw [← sum_sub]
    refine sum_congr fun o _ => ?_
    simp only [pts_add hk']
    split <;> omega
  show sm L.n S _ - wo L.k * _ = _
  rw [e4, e2]
  have c : wo L.k = 1 ∨ wo L.k = 2 := by exact wo_cases _
  rcases c with c | c <;> rw [c] <;> split <;> split <;> split <;> omega
theorem g_sum {k : Bool} {i j : Int} {w : Option Int} (h : i < j) (hw : w ∈ outs k i j) : g1 k (i, j, w) + g2 k (i, j, w) = wo k ∧ 0 ≤ g1 k (i, j, w) ∧ 0 ≤ g2 k (i, j, w) := by
  unfold outs at hw
  cases k
  · simp at hw
    rcases hw with rfl | rfl <;> simp only [g1, g2, wo] <;> grind
  · simp at hw
    rcases hw with rfl | rfl | rfl <;> simp only [g1, g2, wo] <;> grind
theorem slack_end {L E : Lg} (hL : okL L) {m : Nat → Int} (h : IsEnd L E) (hm : ∀ o, o < L.n → pts E o ≤ m o) (S : Nat → Bool) : 0 ≤ slack L m S := by
  generalize hN : (left L).length = N
  induction N generalizing L with
  | zero =>
    have hl : left L = [] := List.length_eq_zero_iff.mp hN
    have e := h.eq hL hl
    subst e
    unfold slack
    rw [hl]
    have : 0 ≤ sm E.n S (fun o => m o - pts E o) := by
      have z := sum_le (l := List.range E.n) (f := fun _ => 0) (g := fun o => if S o = true then m o - pts E o else 0) fun o ho => by
        have := hm o (List.mem_range.mp ho)
        split <;> omega
      rw [sum_zero] at z
      exact z
    simp [ins]
    exact this
  | succ N ih =>
    obtain ⟨q, hq⟩ : ∃ q, q ∈ left L := by
      cases e : left L with
      | nil => rw [e] at hN; cases hN
      | cons q _ => exact ⟨q, List.mem_cons_self⟩
    obtain ⟨w, hw, hm'⟩ := h.out hq
    have hp := (mem_left.mp hq).1
    have hlen : (left (addM L (q.1, q.2, w))).length = N := by
      have hnd := left_nodup hL
      rw [left_add (left_fresh hq)]
      have : (left L).filter (fun p => decide (p ≠ key (q.1, q.2, w))) = (left L).erase q := by
        rw [hnd.erase_eq_filter]
        refine List.filter_congr fun p _ => ?_
        show decide (p ≠ q) = (p != q)
        rw [Bool.eq_iff_iff]
        simp
      rw [this, List.length_erase_of_mem hq]
      omega
    have := ih (addM_ok hL (outs_ok hp.1 hp.2.1 hp.2.2 hw) (left_fresh hq)) (h.add hq hm') hm hlen
    rw [slack_add hL hq] at this
    obtain ⟨s1, s2, s3⟩ := g_sum hp.2.1 hw
    revert this
    cases S q.1.toNat <;> cases S q.2.toNat <;> simp <;> omega
/-- where no set is wanting, there is an end with at most so many points each -/
theorem hall {L : Lg} (hL : okL L) {m : Nat → Int} (h : ∀ S, 0 ≤ slack L m S) : ∃ E, IsEnd L E ∧ ∀ o, o < L.n → pts E o ≤ m o := by
  generalize hN : (left L).length = N
  induction N generalizing L with
  | zero =>
    have hl : left L = [] := List.length_eq_zero_iff.mp hN
    refine ⟨L, ⟨hL, rfl, rfl, hl, fun m hm => hm⟩, fun o ho => ?_⟩
    have := h fun x => decide (x = o)
    unfold slack at this
    rw [hl] at this
    have e := sum_one ho (fun o => m o - pts L o)
    simp only [sm, ins, decide_eq_true_eq] at this
    rw [e] at this
    simp at this
    omega
  | succ N ih =>
    obtain ⟨q, hq⟩ : ∃ q, q ∈ left L := by
      cases e : left L with
      | nil => rw [e] at hN; cases hN
      | cons q _ => exact ⟨q, List.mem_cons_self⟩
    have hp := (mem_left.mp hq).1
    have hlen : ∀ w, (left (addM L (q.1, q.2, w))).length = N := fun w => by
      have hnd := left_nodup hL
      rw [left_add (left_fresh hq)]
      have : (left L).filter (fun p => decide (p ≠ key (q.1, q.2, w))) = (left L).erase q := by
        rw [hnd.erase_eq_filter]
        refine List.filter_congr fun p _ => ?_
        show decide (p ≠ q) = (p != q)
        rw [Bool.eq_iff_iff]
        simp
      rw [this, List.length_erase_of_mem hq]
      omega
    have fin : ∀ w, w ∈ outs L.k q.1 q.2 → (∀ S, 0 ≤ slack (addM L (q.1, q.2, w)) m S) → ∃ E, IsEnd L E ∧ ∀ o, o < L.n → pts E o ≤ m o := fun w hw hs => by
      obtain ⟨E, hE, hm⟩ := ih (addM_ok hL (outs_ok hp.1 hp.2.1 hp.2.2 hw) (left_fresh hq)) hs (hlen w)
      exact ⟨E, (IsEnd.of_add hq hE).1, hm⟩
    have md := fun S U h1 h2 h3 h4 => slack_mod (L := L) (m := m) S U hq h1 h2 h3 h4
    have key : ∀ S U, S q.1.toNat = true → S q.2.toNat = false → U q.2.toNat = true → U q.1.toNat = false → wo L.k ≤ slack L m S + slack L m U := fun S U a1 a2 a3 a4 => by
      have := md S U a1 a4 a3 a2
      have := h (uni S U)
      have := h (int' S U)
      omega
    by_cases c1 : ∀ S, S q.1.toNat = true → S q.2.toNat = false → wo L.k ≤ slack L m S
    · refine fin (some q.1) (outs_i _ _ _) fun S => ?_
      rw [slack_add hL hq]
      have e1 : g1 L.k (q.1, q.2, some q.1) = wo L.k := by simp [g1, wo, -wo_if]
      have e2 : g2 L.k (q.1, q.2, some q.1) = 0 := by simp only [g2]; rw [if_neg (by omega)]
      rw [e1, e2]
      have := h S
      have := c1 S
      revert this
      cases S q.1.toNat <;> cases S q.2.toNat <;> simp <;> omega
    by_cases c2 : ∀ U, U q.2.toNat = true → U q.1.toNat = false → wo L.k ≤ slack L m U
    · refine fin (some q.2) (outs_j _ _ _) fun S => ?_
      rw [slack_add hL hq]
      have e1 : g2 L.k (q.1, q.2, some q.2) = wo L.k := by simp [g2, wo, -wo_if]
      have e2 : g1 L.k (q.1, q.2, some q.2) = 0 := by simp only [g1]; rw [if_neg (by omega)]
      rw [e1, e2]
      have := h S
      have := c2 S
      revert this
      cases S q.1.toNat <;> cases S q.2.toNat <;> simp <;> omega
    · obtain ⟨S0, hS0⟩ := Classical.not_forall.mp c1
      obtain ⟨U0, hU0⟩ := Classical.not_forall.mp c2
      simp only [Classical.not_imp, Int.not_le] at hS0 hU0
      obtain ⟨s1, s2, s3⟩ := hS0
      obtain ⟨u1, u2, u3⟩ := hU0
      have k0 := key S0 U0 s1 s2 u1 u2
      have hS := h S0
      have hU := h U0
      cases hk : L.k with
      | false =>
        rw [hk] at k0 s3 u3
        simp [wo, -wo_if] at k0 s3 u3
        omega
      | true =>
        have hw2 : wo L.k = 2 := by rw [hk]; rfl
        rw [hw2] at k0 s3 u3
        refine fin none (by rw [hk]; simp [outs]) fun S => ?_
        rw [slack_add hL hq]
        have e1 : g1 L.k (q.1, q.2, none) = 1 := rfl
        have e2 : g2 L.k (q.1, q.2, none) = 1 := rfl
        rw [e1, e2, hw2]
        have z := h S
        have z1 := key S U0
        have z2 := key S0 S
        rw [hw2] at z1 z2
        revert z1 z2
        cases S q.1.toNat <;> cases S q.2.toNat <;> simp [s1, s2, u1, u2] <;> omega
end T
namespace T
open PySem PySem.Spec PyProof.Rows L2
/-! ### rising lists of players -/
def nextL (n : Nat) (ls : List (List Nat)) : List (List Nat) := ls.flatMap fun s => ((List.range n).filter fun p => s.all fun x => decide (x < p)).map fun p => s ++ [p]
def subs (n : Nat) : List (List Nat) := ((List.range n).foldl (fun (st : List (List Nat) × List (List Nat)) _ => (st.1 ++ nextL n st.2, nextL n st.2)) ([], [[]])).1
end T
namespace T
open PySem PySem.Spec PyProof.Rows L2
theorem subs_ok {n : Nat} (h2 : 2 ≤ n) (h6 : n ≤ 6) : ∀ s ∈ subs n, s.Pairwise (· < ·) ∧ (∀ x ∈ s, x < n) ∧ s ≠ [] := by
  rcases n_cases h2 h6 with rfl | rfl | rfl | rfl | rfl <;> decide +kernel
theorem subs_all {n : Nat} (h2 : 2 ≤ n) (h6 : n ≤ 6) : ∀ k ∈ List.range (2 ^ n), k ≠ 0 → (List.range n).filter (fun o => k / 2 ^ o % 2 == 1) ∈ subs n := by
  rcases n_cases h2 h6 with rfl | rfl | rfl | rfl | rfl <;> decide +kernel
theorem rise_eq {l l' : List Nat} (h : l.Pairwise (· < ·)) (h' : l'.Pairwise (· < ·)) (e : ∀ x, x ∈ l ↔ x ∈ l') : l = l' := by
  have nd : ∀ {l : List Nat}, l.Pairwise (· < ·) → l.Nodup := fun h => h.imp fun {a b} h z => by omega
  have pm : l.Perm l' := by
    rw [List.perm_ext_iff_of_nodup (nd h) (nd h')]
    exact e
  exact pm.eq_of_pairwise (le := (· < ·)) (fun a b _ _ h1 h2 => by omega) h h'
theorem range_rise (n : Nat) : (List.range n).Pairwise (· < ·) := List.pairwise_lt_range
theorem filter_of {n : Nat} {s : List Nat} (h : s.Pairwise (· < ·)) (hn : ∀ x ∈ s, x < n) : (List.range n).filter (fun o => decide (o ∈ s)) = s := by
  refine rise_eq ((range_rise n).filter _) h fun x => ?_
  rw [List.mem_filter, List.mem_range, decide_eq_true_eq]
  exact ⟨fun h => h.2, fun h => ⟨hn x h, h⟩⟩
theorem sm_filter (n : Nat) (S : Nat → Bool) (f : Nat → Int) : sm n S f = (((List.range n).filter S).map f).sum := by
  unfold sm
  induction List.range n with
  | nil => rfl
  | cons x l ih =>
    rw [List.map_cons, List.sum_cons, ih, List.filter_cons]
    cases S x <;> simp
theorem sm_list {n : Nat} {s : List Nat} (h : s.Pairwise (· < ·)) (hn : ∀ x ∈ s, x < n) (f : Nat → Int) : (s.map f).sum = sm n (fun o => decide (o ∈ s)) f := by
  rw [sm_filter, filter_of h hn]
/-- any set of players, as a list -/
theorem bits_ex : ∀ (n : Nat) (S : Nat → Bool), ∃ k, k < 2 ^ n ∧ ∀ o, o < n → (k / 2 ^ o % 2 == 1) = S o
  | 0, S => ⟨0, by simp, by omega⟩
  | n + 1, S => by
    obtain ⟨k, hk, h⟩ := bits_ex n fun o => S (o + 1)
    refine ⟨2 * k + (if S 0 = true then 1 else 0), by rw [Nat.pow_succ]; split <;> omega, fun o ho => ?_⟩
    cases o with
    | zero => cases hS : S 0 <;> simp <;> omega
    | succ o =>
      have e : (2 * k + (if S 0 = true then 1 else 0)) / 2 ^ (o + 1) = k / 2 ^ o := by
        rw [Nat.pow_succ, Nat.mul_comm (2 ^ o) 2, ← Nat.div_div_eq_div_mul]
        congr 1
        split <;> omega
      rw [e]
      exact h o (by omega)
theorem subs_of {n : Nat} (h2 : 2 ≤ n) (h6 : n ≤ 6) (S : Nat → Bool) (hne : ∃ o, o < n ∧ S o = true) : (List.range n).filter S ∈ subs n := by
  obtain ⟨k, hk, h⟩ := bits_ex n S
  have hk0 : k ≠ 0 := by
    rintro rfl
    obtain ⟨o, ho, hs⟩ := hne
    have := h o ho
    rw [hs] at this
    simp at this
  have := subs_all h2 h6 k (List.mem_range.mpr hk) hk0
  have e : (List.range n).filter (fun o => k / 2 ^ o % 2 == 1) = (List.range n).filter S := List.filter_congr fun o ho => h o (List.mem_range.mp ho)
  rw [e] at this
  exact this
theorem ins_count (ps : List (Int × Int)) (S : Nat → Bool) : ins ps S = ((ps.filter fun q => S q.1.toNat && S q.2.toNat).length : Nat) := by
  induction ps with
  | nil => rfl
  | cons q ps ih =>
    rw [ins_cons, ih, List.filter_cons]
    split <;> simp <;> omega
end T
namespace T
open PySem PySem.Spec PyProof.Rows L2
/-! ### who can be first -/
def nonA (L : Lg) (p : Nat) (m : Int) (s : List Nat) : Prop := p ∈ s ∨ wo L.k * ins (left L) (fun o => decide (o ∈ s)) ≤ sm L.n (fun o => decide (o ∈ s)) fun o => m - pts L o
instance (L : Lg) (p : Nat) (m : Int) (s : List Nat) : Decidable (nonA L p m s) := by unfold nonA; infer_instance
theorem end_top {L E : Lg} (h : okL L) (hE : IsEnd L E) (p : Nat) : pts L p ≤ pts E p ∧ pts E p ≤ topP L p := by
  have h0 : ∀ A ∈ [L], Ext L (left L) A := fun A hA => by rw [List.mem_singleton.mp hA]; exact .refl h
  obtain ⟨A, hA, h1, h2⟩ := every_bd (p := p) h0 E ((mem_every h).mpr hE)
  rw [List.mem_singleton.mp hA] at h1 h2
  exact ⟨h1, h2⟩
theorem sm_le {n : Nat} {S : Nat → Bool} {f g : Nat → Int} (h : ∀ o, o < n → S o = true → f o ≤ g o) : sm n S f ≤ sm n S g := sum_le fun o ho => by
  by_cases c : S o = true
  · simp [c]; exact h o (List.mem_range.mp ho) c
  · simp [c]
theorem sm_congr {n : Nat} {S U : Nat → Bool} {f g : Nat → Int} (h : ∀ o, o < n → (if S o = true then f o else 0) = (if U o = true then g o else 0)) : sm n S f = sm n U g := sum_congr fun o ho => h o (List.mem_range.mp ho)
theorem ins_congr {ps : List (Int × Int)} {S U : Nat → Bool} (h : ∀ q ∈ ps, (S q.1.toNat && S q.2.toNat) = (U q.1.toNat && U q.2.toNat)) : ins ps S = ins ps U := sum_congr fun q hq => by rw [h q hq]
theorem ins_nonneg (ps : List (Int × Int)) (S : Nat → Bool) : 0 ≤ ins ps S := by rw [ins_count]; omega
theorem ins_sub {ps : List (Int × Int)} (c : Int × Int → Bool) (S : Nat → Bool) : ins (ps.filter c) S ≤ ins ps S := by
  induction ps with
  | nil => simp
  | cons q ps ih =>
    rw [List.filter_cons, ins_cons]
    split
    · rw [ins_cons]; omega
    · split <;> omega
/-- the league with all matches of a player won -/
theorem won_ex {p : Nat} : ∀ (N : Nat) {L : Lg}, okL L → ((left L).filter fun q => decide (q.1 = (p : Int)) || decide (q.2 = (p : Int))).length = N → ∃ A, okL A ∧ A.k = L.k ∧ A.n = L.n ∧ (∀ m ∈ L.ms, m ∈ A.ms) ∧ left A = (left L).filter (fun q => !(decide (q.1 = (p : Int)) || decide (q.2 = (p : Int)))) ∧ pts A p = pts L p + wo L.k * N ∧ ∀ o, o ≠ p → pts A o = pts L o
  | 0, L, h, hN => ⟨L, h, rfl, rfl, fun _ h => h, by
      have := List.filter_eq_nil_iff.mp (List.length_eq_zero_iff.mp hN)
      exact (List.filter_eq_self.mpr fun q hq => by have := this q hq; simpa using this).symm, by omega, fun _ _ => rfl⟩
  | N + 1, L, h, hN => by
    obtain ⟨q, hq⟩ : ∃ q, q ∈ (left L).filter fun q => decide (q.1 = (p : Int)) || decide (q.2 = (p : Int)) := by
      cases e : (left L).filter fun q => decide (q.1 = (p : Int)) || decide (q.2 = (p : Int)) with
      | nil => rw [e] at hN; cases hN
      | cons q _ => exact ⟨q, List.mem_cons_self⟩
    obtain ⟨hq1, hq2⟩ := List.mem_filter.mp hq
    have hm := (mem_left.mp hq1).1
    have hw : some (p : Int) ∈ outs L.k q.1 q.2 := by
      simp only [Bool.or_eq_true, decide_eq_true_eq] at hq2
      rcases hq2 with e | e
      · rw [← e]; exact outs_i _ _ _
      · rw [← e]; exact outs_j _ _ _
    have hk := left_fresh hq1
    have hk' : key (q.1, q.2, some (p : Int)) ∉ L.ms.map key := hk
    have nd := (left_nodup h)
    have hl : left (addM L (q.1, q.2, some (p : Int))) = (left L).filter fun r => decide (r ≠ q) := left_add hk'
    have hlen : ((left (addM L (q.1, q.2, some (p : Int)))).filter fun q => decide (q.1 = (p : Int)) || decide (q.2 = (p : Int))).length = N := by
      rw [hl, List.filter_filter]
      have e : (left L).filter (fun a => (decide (a.1 = (p : Int)) || decide (a.2 = (p : Int))) && decide (a ≠ q)) = ((left L).filter fun q => decide (q.1 = (p : Int)) || decide (q.2 = (p : Int))).erase q := by
        rw [List.Nodup.erase_eq_filter (nd.filter _), List.filter_filter]
        refine List.filter_congr fun r _ => ?_
        rw [Bool.and_comm]
        congr 1
        rw [Bool.eq_iff_iff]
        simp
      rw [e, List.length_erase_of_mem hq]
      omega
    obtain ⟨A, h1, h2, h3, h4, h5, h6, h7⟩ := won_ex (p := p) N (addM_ok h (outs_ok hm.1 hm.2.1 hm.2.2 hw) hk') hlen
    have e1 : gn L.k (q.1, q.2, some (p : Int)) p = wo L.k := by
      simp only [Bool.or_eq_true, decide_eq_true_eq] at hq2
      simp only [gn, g1, g2, wo]
      grind
    refine ⟨A, h1, h2, h3, fun m hm => h4 m ((addM_ms hk').mpr (.inl hm)), ?_, ?_, fun o ho => ?_⟩
    · rw [h5, hl, List.filter_filter]
      refine List.filter_congr fun r _ => ?_
      rw [Bool.eq_iff_iff]
      simp only [Bool.and_eq_true, decide_eq_true_eq]
      constructor
      · exact fun h => h.1
      · intro h
        refine ⟨h, ?_⟩
        rintro rfl
        simp [hq2] at h
    · rw [h6, pts_add hk', e1]
      show _ + wo L.k * (N : Int) = _
      rw [show ((N + 1 : Nat) : Int) = (N : Int) + 1 by omega, Int.mul_add]
      omega
    · rw [h7 o ho, pts_add hk']
      have : gn L.k (q.1, q.2, some (p : Int)) o = 0 := by
        simp only [Bool.or_eq_true, decide_eq_true_eq] at hq2
        simp only [gn, g1, g2]
        grind
      omega
theorem first_iff {L : Lg} (h : okL L) {p : Nat} (hp : p < L.n) (b : Int) (hb : 0 ≤ b) : (∃ E, IsEnd L E ∧ ∀ o, o < L.n → o ≠ p → pts E o ≤ pts E p - b) ↔ ∀ s ∈ subs L.n, nonA L p (topP L p - b) s := by
  constructor
  · rintro ⟨E, hE, ho⟩ s hs
    by_cases c : p ∈ s
    · exact .inl c
    · refine .inr ?_
      have ht := (end_top h hE p).2
      have := slack_end h (m := fun o => if o = p then topP L p else topP L p - b) hE (fun o ho' => by
        split
        · rename_i e; rw [e]; exact ht
        · rename_i e; have := ho o ho' e; omega) (fun o => decide (o ∈ s))
      unfold slack at this
      have e : sm L.n (fun o => decide (o ∈ s)) (fun o => (if o = p then topP L p else topP L p - b) - pts L o) = sm L.n (fun o => decide (o ∈ s)) fun o => topP L p - b - pts L o := sm_congr fun o _ => by
        by_cases d : o ∈ s
        · have : o ≠ p := fun e => c (e ▸ d)
          simp [this]
        · simp [d]
      rw [e] at this
      omega
  · intro hh
    obtain ⟨A, h1, h2, h3, h4, h5, h6, h7⟩ := won_ex (p := p) _ h rfl
    have eo : ((left L).filter fun q => decide (q.1 = (p : Int)) || decide (q.2 = (p : Int))).length = ownL L p := by
      unfold ownL
      congr 1
      refine List.filter_congr fun q _ => ?_
      rw [Bool.eq_iff_iff]
      simp only [Bool.or_eq_true, decide_eq_true_eq]
      omega
    have et : pts A p = topP L p := by
      rw [h6, eo]
      rfl
    have hsl : ∀ S, 0 ≤ slack A (fun o => if o = p then topP L p else topP L p - b) S := by
      intro S
      -- the same without the player
      have e1 : sm A.n S (fun o => (if o = p then topP L p else topP L p - b) - pts A o) = sm L.n (fun o => S o && decide (o ≠ p)) fun o => topP L p - b - pts L o := by
        rw [h3]
        refine sm_congr fun o _ => ?_
        by_cases d : o = p
        · subst d
          simp [et]
        · simp [d, h7 o d]
      have e2 : ins (left A) S = ins (left A) (fun o => S o && decide (o ≠ p)) := ins_congr fun q hq => by
        rw [h5, List.mem_filter] at hq
        have hm := (mem_left.mp hq.1).1
        have hq2 := hq.2
        simp at hq2
        have n1 : q.1.toNat ≠ p := by omega
        have n2 : q.2.toNat ≠ p := by omega
        simp [n1, n2]
      have e3 : ins (left A) (fun o => S o && decide (o ≠ p)) ≤ ins (left L) (fun o => S o && decide (o ≠ p)) := by
        rw [h5]
        exact ins_sub _ _
      unfold slack
      rw [e1, e2, h2]
      generalize hU : (fun o => S o && decide (o ≠ p)) = U at e3
      have hUp : U p = false := by rw [← hU]; simp
      by_cases ne : ∃ o, o < L.n ∧ U o = true
      · have hs := subs_of h.n2 h.n6 U ne
        have hmem : ∀ o, decide (o ∈ (List.range L.n).filter U) = (decide (o < L.n) && U o) := fun o => by
          rw [Bool.eq_iff_iff]
          simp [List.mem_filter]
        rcases hh _ hs with z | z
        · rw [List.mem_filter, hUp] at z
          cases z.2
        · have f1 : sm L.n (fun o => decide (o ∈ (List.range L.n).filter U)) (fun o => topP L p - b - pts L o) = sm L.n U fun o => topP L p - b - pts L o := sm_congr fun o ho => by
            rw [hmem]
            simp [ho]
          have f2 : ins (left L) (fun o => decide (o ∈ (List.range L.n).filter U)) = ins (left L) U := ins_congr fun q hq => by
            have hm := (mem_left.mp hq).1
            rw [hmem, hmem]
            have : q.1.toNat < L.n := by omega
            have : q.2.toNat < L.n := by omega
            simp [*]
          rw [f1, f2] at z
          rcases wo_cases L.k with w | w <;> rw [w] at z ⊢ <;> omega
      · have f1 : sm L.n U (fun o => topP L p - b - pts L o) = 0 := by
          unfold sm
          rw [sum_congr (g := fun _ => 0) fun o ho => if_neg fun z => ne ⟨o, List.mem_range.mp ho, z⟩, sum_zero]
        have f2 : ins (left L) U = 0 := by
          unfold ins
          rw [sum_congr (g := fun _ => 0) fun q hq => if_neg fun z => ne ⟨q.1.toNat, by have := (mem_left.mp hq).1; omega, by simp at z; exact z.1⟩, sum_zero]
        have := ins_nonneg (left A) U
        rw [f1]
        rcases wo_cases L.k with w | w <;> rw [w] <;> omega
    obtain ⟨E, hE, hm⟩ := hall h1 hsl
    have hE' : IsEnd L E := ⟨hE.ok, hE.k.trans h2, hE.n.trans h3, hE.lf, fun m hm => hE.sub m (h4 m hm)⟩
    have hpE := (end_top h1 hE p).1
    have hpE2 := (end_top h hE' p).2
    refine ⟨E, hE', fun o ho ne => ?_⟩
    have := hm o (by rw [h3]; exact ho)
    simp only [if_neg ne] at this
    omega
end T
namespace T
open PySem PySem.Spec PyProof.Rows L2
def isF (E : Lg) (p : Nat) : Prop := ∀ o, o < E.n → pts E o ≤ pts E p
instance (E : Lg) (p : Nat) : Decidable (isF E p) := by unfold isF; infer_instance
def good (p : Nat) (A : Lg) : Bool := decide (∀ s ∈ subs A.n, nonA A p (topP A p) s)
theorem good_iff {A : Lg} (h : okL A) {p : Nat} (hp : p < A.n) : good p A = true ↔ ∃ E, IsEnd A E ∧ isF E p := by
  have := first_iff h hp 0 (by omega)
  rw [Int.sub_zero] at this
  unfold good
  rw [decide_eq_true_eq, ← this]
  constructor
  · rintro ⟨E, hE, hF⟩
    refine ⟨E, hE, fun o ho => ?_⟩
    by_cases e : o = p
    · rw [e]; omega
    · have := hF o (by rw [← hE.n]; exact ho) e; omega
  · rintro ⟨E, hE, hF⟩
    exact ⟨E, hE, fun o ho ne => by have := hF o (by rw [hE.n]; exact ho); omega⟩
theorem good_step {L A : Lg} {p : Nat} (hp : p < L.n) {q : Int × Int} {ps : List (Int × Int)} (h : Ext L (q :: ps) A) : good p A = true ↔ ∃ B ∈ more q A, good p B = true := by
  have pA : p < A.n := by rw [h.n]; exact hp
  have hq : q ∈ left A := by rw [h.lf]; exact List.mem_cons_self
  rw [good_iff h.ok pA]
  constructor
  · rintro ⟨E, hE, hF⟩
    obtain ⟨w, hw, hm⟩ := hE.out hq
    have hB : addM A (q.1, q.2, w) ∈ more q A := List.mem_map.mpr ⟨w, hw, rfl⟩
    exact ⟨_, hB, (good_iff (h.more hB).ok pA).mpr ⟨E, hE.add hq hm, hF⟩⟩
  · rintro ⟨B, hB, hg⟩
    obtain ⟨w, hw, rfl⟩ := List.mem_map.mp hB
    obtain ⟨E, hE, hF⟩ := (good_iff (h.more hB).ok pA).mp hg
    exact ⟨E, (IsEnd.of_add hq hE).1, hF⟩
/-- each match by the first outcome that lets the player be first -/
def greedy (p : Nat) : List (Int × Int) → Lg → Lg
  | [], A => A
  | q :: ps, A => greedy p ps (((more q A).find? (good p)).getD A)
theorem everyB_flat : ∀ (ps : List (Int × Int)) (fs : List Lg), everyB ps fs = fs.flatMap fun A => everyB ps [A]
  | [], fs => by
    show fs = fs.flatMap fun A => [A]
    simp
  | q :: ps, fs => by
    have e1 : everyB (q :: ps) fs = everyB ps (fs.flatMap (more q)) := rfl
    have e2 : ∀ A, everyB (q :: ps) [A] = everyB ps (more q A) := fun A => by
      show everyB ps ([A].flatMap (more q)) = _
      simp
    rw [e1, everyB_flat ps, List.flatMap_assoc]
    have : ∀ A, everyB (q :: ps) [A] = (more q A).flatMap fun B => everyB ps [B] := fun A => by rw [e2, everyB_flat ps]
    simp only [this]
theorem find_flat {α β : Type} (f : α → List β) (c : β → Bool) : ∀ l : List α, (l.flatMap f).find? c = l.findSome? fun a => (f a).find? c
  | [] => rfl
  | a :: l => by
    rw [List.flatMap_cons, List.find?_append, List.findSome?_cons, find_flat f c l]
    cases (f a).find? c <;> rfl
theorem find_greedy {L : Lg} {p : Nat} (hp : p < L.n) : ∀ (ps : List (Int × Int)) (A : Lg), Ext L ps A → (everyB ps [A]).find? (fun E => decide (isF E p)) = if good p A = true then some (greedy p ps A) else none
  | [], A, h => by
    show [A].find? _ = _
    have pA : p < A.n := by rw [h.n]; exact hp
    have hg := good_iff h.ok pA
    have : good p A = true ↔ isF A p := by
      rw [hg]
      constructor
      · rintro ⟨E, hE, hF⟩
        rw [← hE.eq h.ok h.lf]
        exact hF
      · exact fun hF => ⟨A, ⟨h.ok, rfl, rfl, h.lf, fun _ h => h⟩, hF⟩
    by_cases c : isF A p
    · simp [c, this.mpr c, greedy]
    · simp [c, mt this.mp c]
  | q :: ps, A, h => by
    have e1 : everyB (q :: ps) [A] = (more q A).flatMap fun B => everyB ps [B] := by
      rw [← everyB_flat]
      show everyB ps ([A].flatMap (more q)) = _
      simp
    rw [e1, find_flat]
    have e2 : ∀ l : List Lg, (∀ B ∈ l, Ext L ps B) → (l.findSome? fun B => (everyB ps [B]).find? fun E => decide (isF E p)) = (l.find? (good p)).map (greedy p ps) := by
      intro l
      induction l with
      | nil => intro _; rfl
      | cons B l ih =>
        intro hB
        rw [List.findSome?_cons, find_greedy hp ps B (hB B List.mem_cons_self), List.find?_cons]
        by_cases c : good p B = true
        · rw [if_pos c]
          simp [c]
        · rw [if_neg c]
          simp only [c]
          rw [ih fun C hC => hB C (List.mem_cons_of_mem _ hC)]
    rw [e2 _ fun B hB => h.more hB]
    have gs := good_step hp h
    by_cases c : good p A = true
    · rw [if_pos c]
      obtain ⟨B, hB, hg⟩ := gs.mp c
      cases e : (more q A).find? (good p) with
      | none => exact absurd hg (by have := List.find?_eq_none.mp e B hB; simpa using this)
      | some C =>
        show some (greedy p ps C) = some (greedy p (q :: ps) A)
        simp only [greedy, e, Option.getD_some]
    · rw [if_neg c]
      cases e : (more q A).find? (good p) with
      | none => rfl
      | some C => exact absurd (gs.mpr ⟨C, List.mem_of_find?_eq_some e, List.find?_some e⟩) c
end T
namespace T
open PySem PySem.Spec PyProof.Rows L2
theorem greedy_ext {L : Lg} {p : Nat} (hp : p < L.n) : ∀ (ps : List (Int × Int)) (A : Lg), Ext L ps A → good p A = true → Ext L [] (greedy p ps A) ∧ good p (greedy p ps A) = true
  | [], A, h, hg => ⟨h, hg⟩
  | q :: ps, A, h, hg => by
    obtain ⟨B, hB, hgB⟩ := (good_step hp h).mp hg
    cases e : (more q A).find? (good p) with
    | none => exact absurd hgB (by have := List.find?_eq_none.mp e B hB; simpa using this)
    | some C =>
      have := greedy_ext hp ps C (h.more (List.mem_of_find?_eq_some e)) (by have := List.find?_some e; exact this)
      simp only [greedy, e, Option.getD_some]
      exact this
end T
namespace T
open PySem PySem.Spec PyProof.Rows L2
/-! ### whether there is an end with just these points -/
theorem sm_add (n : Nat) (S : Nat → Bool) (f g : Nat → Int) : sm n S (fun o => f o + g o) = sm n S f + sm n S g := by
  unfold sm
  rw [← sum_add]
  exact sum_congr fun o _ => by split <;> simp
theorem sm_sub (n : Nat) (S : Nat → Bool) (f g : Nat → Int) : sm n S (fun o => f o - g o) = sm n S f - sm n S g := by
  unfold sm
  rw [← sum_sub]
  exact sum_congr fun o _ => by split <;> simp
theorem sm_zero (n : Nat) (S : Nat → Bool) : sm n S (fun _ => 0) = 0 := by
  unfold sm
  have := sum_congr (l := List.range n) (f := fun o => if S o = true then (0 : Int) else 0) (g := fun _ => 0) fun o _ => by split <;> rfl
  rw [this, sum_zero]
theorem sm_list_sum {α : Type} (n : Nat) (S : Nat → Bool) (f : α → Nat → Int) : ∀ ms : List α, sm n S (fun o => (ms.map fun m => f m o).sum) = (ms.map fun m => sm n S (f m)).sum
  | [] => by simp [sm_zero]
  | m :: ms => by
    simp only [List.map_cons, List.sum_cons]
    rw [sm_add, sm_list_sum n S f ms]
/-- what a set gets from others in a match -/
def go (k : Bool) (m : M) (S : Nat → Bool) : Int := (if (S m.1.toNat && !S m.2.1.toNat) = true then g1 k m else 0) + (if (S m.2.1.toNat && !S m.1.toNat) = true then g2 k m else 0)
theorem okW_outs {k : Bool} {i j : Int} {w : Option Int} (h : okW k i j w) : w ∈ outs k i j := by
  unfold outs
  rcases h with ⟨rfl, rfl⟩ | rfl | rfl
  · simp
  · cases k <;> simp
  · cases k <;> simp
theorem pts_out {L : Lg} (h : okL L) (S : Nat → Bool) : sm L.n S (pts L) = (L.ms.map fun m => go L.k m S).sum + wo L.k * ins (L.ms.map key) S := by
  have e : sm L.n S (pts L) = (L.ms.map fun m => sm L.n S (gn L.k m)).sum := sm_list_sum L.n S (fun m => gn L.k m) L.ms
  rw [e]
  unfold ins
  rw [List.map_map, ← sum_mul, ← sum_add]
  refine sum_congr fun m hm => ?_
  obtain ⟨i, j, w⟩ := m
  obtain ⟨h1, h2, h3, h4⟩ := h.okm _ hm
  simp only at h1 h2 h3 h4
  have := sm_gn (n := L.n) S L.k w h1 h2 h3
  rw [show (gn L.k (i, j, w)) = fun o => gn L.k (i, j, w) o from rfl, this]
  obtain ⟨a, _, _⟩ := g_sum h2 (okW_outs h4)
  simp only [go, Function.comp, key]
  rcases Bool.eq_false_or_eq_true (S i.toNat) with c1 | c1 <;> rcases Bool.eq_false_or_eq_true (S j.toNat) with c2 | c2 <;> simp [c1, c2] <;> omega
theorem perm_all {L : Lg} (h : okL L) : (allP L.n).Perm (L.ms.map key ++ left L) := by
  have n1 : (allP L.n).Nodup := lt_nodup (allP_lt h.n6)
  have n2 : (L.ms.map key).Nodup := lt_nodup (key_lt h.lt)
  have n3 := left_nodup h
  refine (List.perm_ext_iff_of_nodup n1 ?_).mpr fun p => ?_
  · refine List.nodup_append.mpr ⟨n2, n3, fun a ha b hb e => ?_⟩
    subst e
    exact (mem_left.mp hb).2 ha
  · rw [List.mem_append, mem_left, mem_allP]
    constructor
    · intro hp
      by_cases c : p ∈ L.ms.map key
      · exact .inl c
      · exact .inr ⟨hp, c⟩
    · rintro (hp | hp)
      · obtain ⟨m, hm, rfl⟩ := List.mem_map.mp hp
        obtain ⟨h1, h2, h3, _⟩ := h.okm m hm
        exact ⟨h1, h2, h3⟩
      · exact hp.1
theorem ins_app (a b : List (Int × Int)) (S : Nat → Bool) : ins (a ++ b) S = ins a S + ins b S := by simp [ins]
theorem ins_perm {a b : List (Int × Int)} (p : a.Perm b) (S : Nat → Bool) : ins a S = ins b S := sum_perm (p.map _)
theorem slack_bnd {L : Lg} (h : okL L) (m : Nat → Int) (S : Nat → Bool) : slack L m S = sm L.n S m - (wo L.k * ins (allP L.n) S + (L.ms.map fun a => go L.k a S).sum) := by
  unfold slack
  rw [sm_sub, pts_out h, ins_perm (perm_all h), ins_app, Int.mul_add]
  omega
theorem slack_tot {L : Lg} (h : okL L) (m : Nat → Int) : slack L m (fun _ => true) = sm L.n (fun _ => true) m - wo L.k * ins (allP L.n) fun _ => true := by
  rw [slack_bnd h]
  have : (L.ms.map fun a => go L.k a fun _ => true).sum = 0 := by
    rw [← sum_zero L.ms]
    exact sum_congr fun a _ => by simp [go]
  omega
theorem slack_congr {L : Lg} (h : okL L) {m : Nat → Int} {S U : Nat → Bool} (e : ∀ o, o < L.n → S o = U o) : slack L m S = slack L m U := by
  unfold slack
  rw [sm_congr (S := S) (U := U) (f := fun o => m o - pts L o) (g := fun o => m o - pts L o) fun o ho => by rw [e o ho]]
  rw [ins_congr (S := S) (U := U) fun q hq => by
    have := (mem_left.mp hq).1
    rw [e q.1.toNat (by omega), e q.2.toNat (by omega)]]
theorem slack_none {L : Lg} (h : okL L) {m : Nat → Int} {S : Nat → Bool} (e : ∀ o, o < L.n → S o = false) : slack L m S = 0 := by
  rw [slack_congr h (U := fun _ => false) e]
  unfold slack
  have e1 : sm L.n (fun _ => false) (fun o => m o - pts L o) = 0 := by
    rw [← sm_zero L.n fun _ => false]
    exact sm_congr fun o _ => by simp
  have e2 : ins (left L) (fun _ => false) = 0 := by
    unfold ins
    have := sum_congr (l := left L) (f := fun _ => if (false && false) = true then (1 : Int) else 0) (g := fun _ => 0) fun q _ => by simp
    rw [this, sum_zero]
  rw [e1, e2]
  omega
def inS (s : List Nat) : Nat → Bool := fun o => decide (o ∈ s)
theorem full_of {n : Nat} {s : List Nat} (h : s.Pairwise (· < ·)) (hn : ∀ x ∈ s, x < n) (hl : s.length = n) : ∀ o, o < n → inS s o = true := by
  have nd : s.Nodup := h.imp fun {a b} z e => by omega
  intro o ho
  simp only [inS, decide_eq_true_eq]
  refine Classical.byContradiction fun c => ?_
  have := len_of_sub (l := o :: s) (l' := List.range n) (List.nodup_cons.mpr ⟨c, nd⟩) fun x hx => by
    rcases List.mem_cons.mp hx with z | z
    · rw [z]; exact List.mem_range.mpr ho
    · exact List.mem_range.mpr (hn x z)
  simp at this
  omega
/-- no set shows that there is no end -/
def canB (L : Lg) (m : Nat → Int) : Prop := ∀ s ∈ subs L.n, 0 ≤ slack L m (inS s) ∧ (s.length = L.n → slack L m (inS s) = 0)
theorem sm_nonneg_zero {n : Nat} {f : Nat → Int} (h : ∀ o, o < n → 0 ≤ f o) (e : sm n (fun _ => true) f = 0) : ∀ o, o < n → f o = 0 := by
  induction n with
  | zero => intro o ho; omega
  | succ n ih =>
    have e1 : sm (n + 1) (fun _ => true) f = sm n (fun _ => true) f + f n := by simp [sm, List.range_succ]
    have e2 : 0 ≤ sm n (fun _ => true) f := by
      rw [← sm_zero n fun _ => true]
      exact sm_le fun o ho _ => h o (by omega)
    have e3 := h n (by omega)
    intro o ho
    by_cases c : o = n
    · subst c; omega
    · exact ih (fun o ho => h o (by omega)) (by omega) o (by omega)
theorem can_iff {L : Lg} (h : okL L) (m : Nat → Int) : (∃ E, IsEnd L E ∧ ∀ o, o < L.n → pts E o = m o) ↔ canB L m := by
  have tot : ∀ E, IsEnd L E → slack L m (fun _ => true) = sm L.n (fun _ => true) (fun o => m o - pts E o) := fun E hE => by
    have a := slack_tot h m
    have b := slack_tot hE.ok m
    rw [hE.n, hE.k] at b
    rw [a, ← b]
    unfold slack
    rw [hE.lf, hE.n]
    simp [ins]
  constructor
  · rintro ⟨E, hE, ho⟩ s hs
    refine ⟨slack_end h hE (fun o ho' => by rw [ho o ho']; omega) _, fun hl => ?_⟩
    obtain ⟨h1, h2, _⟩ := subs_ok h.n2 h.n6 s hs
    rw [slack_congr h (U := fun _ => true) (full_of h1 h2 hl), tot E hE, ← sm_zero L.n fun _ => true]
    exact sm_congr fun o ho' => by simp [ho o ho']
  · intro hc
    have all : ∀ S, 0 ≤ slack L m S := fun S => by
      by_cases c : ∃ o, o < L.n ∧ S o = true
      · have hs := subs_of h.n2 h.n6 S c
        rw [slack_congr h (S := S) (U := inS ((List.range L.n).filter S)) fun o ho => by
          rw [Bool.eq_iff_iff]
          simp [inS, ho]]
        exact (hc _ hs).1
      · rw [slack_none h fun o ho => by
          cases e : S o with
          | false => rfl
          | true => exact absurd ⟨o, ho, e⟩ c]
        omega
    obtain ⟨E, hE, ho⟩ := hall h all
    refine ⟨E, hE, fun o ho' => ?_⟩
    have hs := subs_of h.n2 h.n6 (fun _ => true) ⟨0, by have := h.n2; omega, rfl⟩
    have hz := (hc _ hs).2 (by rw [List.filter_eq_self.mpr (fun _ _ => rfl), List.length_range])
    rw [slack_congr h (U := fun _ => true) fun o ho => by simp [inS, ho], tot E hE] at hz
    have := sm_nonneg_zero (fun o ho' => by have := ho o ho'; omega) hz o ho'
    omega
theorem ins_pairs {n : Nat} (h2 : 2 ≤ n) (h6 : n ≤ 6) : ∀ s ∈ subs n, ins (allP n) (inS s) = ((s.length * (s.length - 1) / 2 : Nat) : Int) := by
  rcases n_cases h2 h6 with rfl | rfl | rfl | rfl | rfl <;> decide +kernel
end T
namespace T
open PySem PySem.Spec PyProof.Rows L2
/-! ### players called otherwise -/
structure Nu (n : Nat) (ν : Nat → Nat) : Prop where
  lt : ∀ i, i < n → ν i < n
  inj : ∀ i j, i < n → j < n → ν i = ν j → i = j
/-- a match -/
def callM (ν : Nat → Nat) (m : M) : M := ((min (ν m.1.toNat) (ν m.2.1.toNat) : Nat), (max (ν m.1.toNat) (ν m.2.1.toNat) : Nat), m.2.2.map fun x => (ν x.toNat : Int))
def callL (ν : Nat → Nat) (L : Lg) : Lg := ⟨L.k, L.n, ordM (L.ms.map (callM ν))⟩
section
variable {n : Nat} {ν : Nat → Nat} (h : Nu n ν)
include h
theorem callM_ok {k : Bool} {m : M} (hm : okM k n m) : okM k n (callM ν m) := by
  obtain ⟨h0, h1, h2, h3⟩ := hm
  obtain ⟨i, j, w⟩ := m
  simp only at h0 h1 h2 h3
  have l1 := h.lt i.toNat (by omega)
  have l2 := h.lt j.toNat (by omega)
  have ne : ν i.toNat ≠ ν j.toNat := fun e => by
    have := h.inj _ _ (by omega) (by omega) e
    omega
  refine ⟨?_, ?_, ?_, ?_⟩
  · simp only [callM]; omega
  · simp only [callM]; omega
  · simp only [callM]; omega
  · rcases h3 with ⟨rfl, hk⟩ | rfl | rfl
    · exact .inl ⟨rfl, hk⟩
    · simp only [callM, Option.map_some]
      by_cases c : ν i.toNat < ν j.toNat
      · exact .inr (.inl (by congr 1; omega))
      · exact .inr (.inr (by congr 1; omega))
    · simp only [callM, Option.map_some]
      by_cases c : ν i.toNat < ν j.toNat
      · exact .inr (.inr (by congr 1; omega))
      · exact .inr (.inl (by congr 1; omega))
theorem callM_key {k : Bool} {a b : M} (ha : okM k n a) (hb : okM k n b) (e : key (callM ν a) = key (callM ν b)) : key a = key b := by
  obtain ⟨a0, a1, a2, _⟩ := ha
  obtain ⟨b0, b1, b2, _⟩ := hb
  obtain ⟨i, j, w⟩ := a
  obtain ⟨i', j', w'⟩ := b
  simp only at a0 a1 a2 b0 b1 b2
  simp only [key, callM, Prod.mk.injEq] at e ⊢
  obtain ⟨e1, e2⟩ := e
  have i1 := h.inj i.toNat i'.toNat (by omega) (by omega)
  have i2 := h.inj j.toNat j'.toNat (by omega) (by omega)
  have i3 := h.inj i.toNat j'.toNat (by omega) (by omega)
  have i4 := h.inj j.toNat i'.toNat (by omega) (by omega)
  by_cases c : ν i.toNat = ν i'.toNat
  · have := i1 c
    have := i2 (by omega)
    omega
  · have := i3 (by omega)
    have := i4 (by omega)
    omega
theorem call_nodup {L : Lg} (hL : okL L) (hn : L.n = n) : ((L.ms.map (callM ν)).map key).Nodup := by
  rw [List.map_map]
  refine List.pairwise_map.mpr (hL.lt.imp_of_mem fun {a b} ha hb hlt e => ?_)
  exact ltM_ne hlt (callM_key h (hn ▸ hL.okm a ha) (hn ▸ hL.okm b hb) e)
theorem call_perm {L : Lg} (hL : okL L) (hn : L.n = n) : (L.ms.map (callM ν)).Perm (callL ν L).ms := ordM_perm (call_nodup h hL hn)
theorem call_ok {L : Lg} (hL : okL L) (hn : L.n = n) : okL (callL ν L) := by
  refine ⟨hL.n2, hL.n6, fun m hm => ?_, ordM_lt _⟩
  obtain ⟨a, ha, rfl⟩ := List.mem_map.mp ((call_perm h hL hn).mem_iff.mpr hm)
  show okM L.k L.n _
  rw [hn]
  exact callM_ok h (hn ▸ hL.okm a ha)
theorem gn_call {k : Bool} {m : M} (hm : okM k n m) {p : Nat} (hp : p < n) : gn k (callM ν m) (ν p) = gn k m p := by
  obtain ⟨h0, h1, h2, h3⟩ := hm
  obtain ⟨i, j, w⟩ := m
  simp only at h0 h1 h2 h3
  obtain ⟨a, rfl⟩ : ∃ a : Nat, i = a := ⟨i.toNat, by omega⟩
  obtain ⟨b, rfl⟩ : ∃ b : Nat, j = b := ⟨j.toNat, by omega⟩
  have hab : a < b := by omega
  have i1 := h.inj a p (by omega) hp
  have i2 := h.inj b p (by omega) hp
  have ne : ν a ≠ ν b := fun e => by have := h.inj a b (by omega) (by omega) e; omega
  have c1 : (ν a = ν p) ↔ a = p := ⟨i1, fun e => by rw [e]⟩
  have c2 : (ν b = ν p) ↔ b = p := ⟨i2, fun e => by rw [e]⟩
  have nab : ¬ b = a := by omega
  have nab' : ¬ a = b := by omega
  have ne' : ¬ ν b = ν a := fun e => ne e.symm
  have cI : ∀ x y : Nat, ((x : Int) = (y : Int)) ↔ x = y := fun x y => by omega
  rcases Nat.lt_or_gt_of_ne ne with c | c
  · have m1 : min (ν a) (ν b) = ν a := by omega
    have m2 : max (ν a) (ν b) = ν b := by omega
    rcases h3 with ⟨rfl, hk⟩ | rfl | rfl <;> simp [callM, gn, g1, g2, m1, m2, cI, c1, c2, ne, ne', nab, nab']
  · have m1 : min (ν a) (ν b) = ν b := by omega
    have m2 : max (ν a) (ν b) = ν a := by omega
    rcases h3 with ⟨rfl, hk⟩ | rfl | rfl <;> simp [callM, gn, g1, g2, m1, m2, cI, c1, c2, ne, ne', nab, nab'] <;> omega
theorem pts_call {L : Lg} (hL : okL L) (hn : L.n = n) {p : Nat} (hp : p < n) : pts (callL ν L) (ν p) = pts L p := by
  unfold pts
  show ((callL ν L).ms.map fun m => gn L.k m (ν p)).sum = _
  rw [← sum_perm ((call_perm h hL hn).map fun m => gn L.k m (ν p)), List.map_map]
  exact sum_congr fun m hm => gn_call h (hn ▸ hL.okm m hm) hp
end
/-- back again -/
theorem Nu.inv {n : Nat} {ν : Nat → Nat} (h : Nu n ν) : ∃ μ, Nu n μ ∧ (∀ i, i < n → μ (ν i) = i) ∧ ∀ i, i < n → ν (μ i) = i := by
  have sur : ∀ a, a < n → ∃ i, i < n ∧ ν i = a := by
    intro a ha
    by_cases c : ∃ i, i < n ∧ ν i = a
    · exact c
    · have nd : ((List.range n).map ν).Nodup := by
        refine List.pairwise_map.mpr ((List.nodup_range (n := n)).imp_of_mem fun {x y} hx hy hne e => hne ?_)
        exact h.inj x y (List.mem_range.mp hx) (List.mem_range.mp hy) e
      have l1 := len_of_sub (l := a :: (List.range n).map ν) (l' := List.range n) (List.nodup_cons.mpr ⟨fun m => by
        obtain ⟨i, hi, e⟩ := List.mem_map.mp m
        exact c ⟨i, List.mem_range.mp hi, e⟩, nd⟩) fun x hx => by
        rcases List.mem_cons.mp hx with rfl | hx
        · exact List.mem_range.mpr ha
        · obtain ⟨i, hi, rfl⟩ := List.mem_map.mp hx
          exact List.mem_range.mpr (h.lt i (List.mem_range.mp hi))
      simp at l1
      omega
  refine ⟨fun a => if ha : a < n then (sur a ha).choose else 0, ⟨fun a ha => ?_, fun a b ha hb e => ?_⟩, fun i hi => ?_, fun a ha => ?_⟩
  · simp only [ha, dif_pos]
    exact (sur a ha).choose_spec.1
  · simp only [ha, hb, dif_pos] at e
    rw [← (sur a ha).choose_spec.2, ← (sur b hb).choose_spec.2, e]
  · simp only [h.lt i hi, dif_pos]
    exact h.inj _ _ (sur _ (h.lt i hi)).choose_spec.1 hi (sur _ (h.lt i hi)).choose_spec.2
  · simp only [ha, dif_pos]
    exact (sur a ha).choose_spec.2
theorem callM_back {n : Nat} {ν μ : Nat → Nat} (h : Nu n ν) (hμ : ∀ i, i < n → μ (ν i) = i) {k : Bool} {m : M} (hm : okM k n m) : callM μ (callM ν m) = m := by
  obtain ⟨h0, h1, h2, h3⟩ := hm
  obtain ⟨i, j, w⟩ := m
  simp only at h0 h1 h2 h3
  obtain ⟨a, rfl⟩ : ∃ a : Nat, i = a := ⟨i.toNat, by omega⟩
  obtain ⟨b, rfl⟩ : ∃ b : Nat, j = b := ⟨j.toNat, by omega⟩
  have hab : a < b := by omega
  have ea := hμ a (by omega)
  have eb := hμ b (by omega)
  have n1 : min a b = a := by omega
  have n2 : max a b = b := by omega
  have n3 : min b a = a := by omega
  have n4 : max b a = b := by omega
  by_cases c : ν a < ν b
  · have m1 : min (ν a) (ν b) = ν a := by omega
    have m2 : max (ν a) (ν b) = ν b := by omega
    rcases h3 with ⟨rfl, hk⟩ | rfl | rfl <;> simp [callM, m1, m2, ea, eb, n1, n2]
  · have m1 : min (ν a) (ν b) = ν b := by omega
    have m2 : max (ν a) (ν b) = ν a := by omega
    rcases h3 with ⟨rfl, hk⟩ | rfl | rfl <;> simp [callM, m1, m2, ea, eb, n3, n4]
theorem call_back {n : Nat} {ν μ : Nat → Nat} (h : Nu n ν) (h' : Nu n μ) (hμ : ∀ i, i < n → μ (ν i) = i) {L : Lg} (hL : okL L) (hn : L.n = n) : callL μ (callL ν L) = L := by
  have hC := call_ok h hL hn
  have e : (callL μ (callL ν L)).ms = L.ms := lt_eq (call_ok h' hC hn).lt hL.lt fun m => by
    rw [← (call_perm h' hC hn).mem_iff, List.mem_map]
    constructor
    · rintro ⟨a, ha, rfl⟩
      obtain ⟨b, hb, rfl⟩ := List.mem_map.mp ((call_perm h hL hn).mem_iff.mpr ha)
      rw [callM_back h hμ (hn ▸ hL.okm b hb)]
      exact hb
    · intro hm
      exact ⟨callM ν m, (call_perm h hL hn).mem_iff.mp (List.mem_map_of_mem hm), callM_back h hμ (hn ▸ hL.okm m hm)⟩
  cases L
  simp only [callL] at e ⊢
  simp [e]
theorem call_left {n : Nat} {ν : Nat → Nat} (h : Nu n ν) {E : Lg} (hE : okL E) (hn : E.n = n) (hl : left E = []) : left (callL ν E) = [] := by
  obtain ⟨μ, h', i1, i2⟩ := h.inv
  rw [List.eq_nil_iff_forall_not_mem]
  intro p hp
  obtain ⟨⟨p0, p1, p2⟩, hk⟩ := mem_left.mp hp
  have p2 : p.2 < n := hn ▸ p2
  have l1 := h'.lt p.1.toNat (by omega)
  have l2 := h'.lt p.2.toNat (by omega)
  have ne : μ p.1.toNat ≠ μ p.2.toNat := fun e => by have := h'.inj _ _ (by omega) (by omega) e; omega
  have hm := key_mem hl (p := ((min (μ p.1.toNat) (μ p.2.toNat) : Nat), (max (μ p.1.toNat) (μ p.2.toNat) : Nat))) (by simp only; omega)
  obtain ⟨m, hm, e⟩ := List.mem_map.mp hm
  refine hk (List.mem_map.mpr ⟨callM ν m, (call_perm h hE hn).mem_iff.mp (List.mem_map_of_mem hm), ?_⟩)
  obtain ⟨i, j, w⟩ := m
  simp only [key, Prod.mk.injEq] at e
  obtain ⟨rfl, rfl⟩ := e
  have q1 := i2 p.1.toNat (by omega)
  have q2 := i2 p.2.toNat (by omega)
  by_cases c : μ p.1.toNat < μ p.2.toNat
  · have m1 : min (μ p.1.toNat) (μ p.2.toNat) = μ p.1.toNat := by omega
    have m2 : max (μ p.1.toNat) (μ p.2.toNat) = μ p.2.toNat := by omega
    simp only [callM, key, Int.toNat_natCast, m1, m2, q1, q2]
    exact Prod.ext (by simp only; omega) (by simp only; omega)
  · have m1 : min (μ p.1.toNat) (μ p.2.toNat) = μ p.2.toNat := by omega
    have m2 : max (μ p.1.toNat) (μ p.2.toNat) = μ p.1.toNat := by omega
    simp only [callM, key, Int.toNat_natCast, m1, m2, q1, q2]
    exact Prod.ext (by simp only; omega) (by simp only; omega)
theorem call_end {n : Nat} {ν : Nat → Nat} (h : Nu n ν) {L E : Lg} (hL : okL L) (hn : L.n = n) (hE : IsEnd L E) : IsEnd (callL ν L) (callL ν E) :=
  ⟨call_ok h hE.ok (hE.n.trans hn), hE.k, hE.n, call_left h hE.ok (hE.n.trans hn) hE.lf, fun m hm => by
    obtain ⟨a, ha, rfl⟩ := List.mem_map.mp ((call_perm h hL hn).mem_iff.mpr hm)
    exact (call_perm h hE.ok (hE.n.trans hn)).mem_iff.mp (List.mem_map_of_mem (hE.sub a ha))⟩
/-- called otherwise it can be just where it can -/
theorem call_can {n : Nat} {ν : Nat → Nat} (h : Nu n ν) {L : Lg} (hL : okL L) (hn : L.n = n) {m m' : Nat → Int} (hm : ∀ i, i < n → m' (ν i) = m i) :
    (∃ E, IsEnd (callL ν L) E ∧ ∀ o, o < (callL ν L).n → pts E o = m' o) ↔ ∃ E, IsEnd L E ∧ ∀ o, o < L.n → pts E o = m o := by
  obtain ⟨μ, h', i1, i2⟩ := h.inv
  constructor
  · rintro ⟨E, hE, hp⟩
    have e := call_end h' (call_ok h hL hn) hn hE
    rw [call_back h h' i1 hL hn] at e
    refine ⟨_, e, fun o ho => ?_⟩
    rw [hn] at ho
    have := pts_call h' hE.ok (hE.n.trans hn) (h.lt o ho)
    rw [i1 o ho] at this
    rw [this, hp _ (hn ▸ h.lt o ho : ν o < L.n), hm o ho]
  · rintro ⟨E, hE, hp⟩
    refine ⟨_, call_end h hL hn hE, fun o ho => ?_⟩
    have ho : o < n := hn ▸ ho
    have := pts_call h hE.ok (hE.n.trans hn) (h'.lt o ho)
    rw [i2 o ho] at this
    rw [this, hp _ (hn ▸ h'.lt o ho : μ o < L.n), ← hm _ (h'.lt o ho), i2 o ho]
end T
namespace T
open PySem PySem.Spec PyProof.Rows L2
/-! ### data whose repr is short -/
structure Sm (k s : Nat) (d : D) : Prop where
  good : goodR d = true
  sh : (pd d).showable = true
  dp : (pd d).depth ≤ k
  len : (pd d).shown.length ≤ s
theorem Sm.ok {k s : Nat} {d : D} (h : Sm k s d) (hk : k ≤ 60 := by decide) (hs : s ≤ 100000 := by decide) : okQ d = true := by
  unfold okQ
  rw [h.good, h.sh, decide_eq_true (Nat.le_trans h.dp hk), decide_eq_true (Nat.le_trans h.len hs)]
  rfl
theorem Sm.mono {k s k' s' : Nat} {d : D} (h : Sm k s d) (hk : k ≤ k' := by decide) (hs : s ≤ s' := by decide) : Sm k' s' d := ⟨h.good, h.sh, Nat.le_trans h.dp hk, Nat.le_trans h.len hs⟩
theorem Sm.non {k : Nat} : Sm k 5 .non := ⟨rfl, by simp [pd, PyData.showable], by simp [pd, PyData.depth], by simp only [pd, PyData.shown]; decide⟩
theorem Sm.bl {k : Nat} (b : Bool) : Sm k 5 (.bl b) := ⟨rfl, by simp [pd, PyData.showable], by simp [pd, PyData.depth], by simp only [pd, PyData.shown]; cases b <;> decide⟩
theorem Sm.int {k : Nat} {i : Int} (h1 : -10 ^ 40 < i) (h2 : i < 10 ^ 40) : Sm k 45 (.int i) := by
  have hn : i.natAbs < 10 ^ 40 := by omega
  refine ⟨rfl, ?_, by simp [pd, PyData.depth], ?_⟩
  · simp only [pd, PyData.showable, decide_eq_true_eq]
    by_cases z : i.natAbs = 0
    · rw [z]; decide
    · have := (Nat.log2_lt z (k := 1920)).mpr (Nat.lt_trans hn (by decide))
      exact this
  · have e := int_text_length_le10 (k := 40) (by decide) hn
    simp only [pd, PyData.shown]
    show (Str.ofString (toString i)).length ≤ 45
    rw [PySem.ofString_length]
    omega
theorem Sm.str {k s : Nat} {x : Str} (h : (reprText x).length ≤ s) : Sm k s (.str x) := ⟨rfl, by simp [pd, PyData.showable], by simp [pd, PyData.depth], by simpa only [pd, PyData.shown] using h⟩
theorem sm_all {k s : Nat} : ∀ {xs : List D}, (∀ x ∈ xs, Sm k s x) → goodL xs = true ∧ PyData.showableAll (pdL xs) = true ∧ PyData.depthAll (pdL xs) ≤ k ∧ ((PyData.shownAll (pdL xs)).map (·.length)).sum ≤ xs.length * s ∧ (PyData.shownAll (pdL xs)).length = xs.length
  | [], _ => by simp [goodL, pdL, PyData.showableAll, PyData.depthAll, PyData.shownAll]
  | x :: xs, h => by
    obtain ⟨h1, h2, h3, h4, h5⟩ := sm_all fun y m => h y (List.mem_cons_of_mem _ m)
    have hx := h x List.mem_cons_self
    have := hx.dp
    have := hx.len
    refine ⟨by simp [goodL, hx.good, h1], by simp [pdL, PyData.showableAll, hx.sh, h2], by simp only [pdL, PyData.depthAll]; omega, ?_, by simp [pdL, PyData.shownAll, h5]⟩
    simp only [pdL, PyData.shownAll, List.map_cons, List.sum_cons, List.length_cons, Nat.add_mul, Nat.one_mul]
    omega
theorem Sm.lst {k s : Nat} {o : Bool} {xs : List D} (h : ∀ x ∈ xs, Sm k s x) : Sm (k + 1) (xs.length * (s + 2) + 3) (.lst o xs) := by
  obtain ⟨h1, h2, h3, h4, h5⟩ := sm_all h
  refine ⟨by simpa [goodR] using h1, by simpa [pd, PyData.showable] using h2, by simp only [pd, PyData.depth]; omega, ?_⟩
  have := listText_len_le (PyData.shownAll (pdL xs))
  simp only [pd, PyData.shown]
  rw [Nat.mul_add]
  omega
theorem Sm.tup {k s : Nat} {xs : List D} (h : ∀ x ∈ xs, Sm k s x) : Sm (k + 1) (xs.length * (s + 2) + 3) (.tup xs) := by
  obtain ⟨h1, h2, h3, h4, h5⟩ := sm_all h
  refine ⟨by simpa [goodR] using h1, by simpa [pd, PyData.showable] using h2, by simp only [pd, PyData.depth]; omega, ?_⟩
  have := tupleText_len_le (PyData.shownAll (pdL xs))
  simp only [pd, PyData.shown]
  rw [Nat.mul_add]
  omega
theorem Sm.lstN {k s m : Nat} {o : Bool} {xs : List D} (h : ∀ x ∈ xs, Sm k s x) (hl : xs.length ≤ m) : Sm (k + 1) (m * (s + 2) + 3) (.lst o xs) :=
  (Sm.lst h).mono (Nat.le_refl _) (Nat.add_le_add_right (Nat.mul_le_mul_right _ hl) _)
theorem Sm.tupN {k s m : Nat} {xs : List D} (h : ∀ x ∈ xs, Sm k s x) (hl : xs.length ≤ m) : Sm (k + 1) (m * (s + 2) + 3) (.tup xs) :=
  (Sm.tup h).mono (Nat.le_refl _) (Nat.add_le_add_right (Nat.mul_le_mul_right _ hl) _)
theorem Sm.dic0 {k : Nat} {o : Bool} : Sm (k + 1) 5 (.dic o [] []) := ⟨rfl, by simp [pd, loneN, pdL, PyData.showable, PyData.showableKv], by simp [pd, loneN, pdL, PyData.depth, PyData.depthKv], by simp only [pd, loneN, pdL, PyData.shown]; decide⟩
theorem Sm.dicN {k : Nat} {o : Bool} : Sm (k + 1) 5 (dcT o []) := ⟨rfl, by simp [dcT, pd, loneN, pdL, PyData.showable, PyData.showableKv], by simp [dcT, pd, loneN, pdL, PyData.depth, PyData.depthKv], by simp only [dcT, pd, loneN, pdL, PyData.shown]; decide⟩
theorem shown_kv : ∀ kvs : List (PyData × PyData), ((PyData.shownKv kvs).map (·.length)).sum = ((PyData.shownAll (kvs.map (·.1))).map (·.length)).sum + ((PyData.shownAll (kvs.map (·.2))).map (·.length)).sum + 2 * kvs.length
  | [] => by simp [PyData.shownKv, PyData.shownAll]
  | (a, b) :: r => by
    have ih := shown_kv r
    have e2 : ((": " : String) : Str).length = 2 := rfl
    simp only [PyData.shownKv, PyData.shownAll, List.map_cons, List.sum_cons, List.length_cons, ih, strLen_append, e2]
    omega
theorem showable_kv : ∀ kvs : List (PyData × PyData), PyData.showableAll (kvs.map (·.1)) = true → PyData.showableAll (kvs.map (·.2)) = true → PyData.showableKv kvs = true
  | [], _, _ => rfl
  | (a, b) :: r, h1, h2 => by
    simp only [List.map_cons, PyData.showableAll, Bool.and_eq_true] at h1 h2
    simp [PyData.showableKv, h1.1, h2.1, showable_kv r h1.2 h2.2]
theorem depth_kv : ∀ kvs : List (PyData × PyData), PyData.depthKv kvs ≤ max (PyData.depthAll (kvs.map (·.1))) (PyData.depthAll (kvs.map (·.2)))
  | [] => by simp [PyData.depthKv]
  | (a, b) :: r => by
    have := depth_kv r
    simp only [List.map_cons, PyData.depthAll, PyData.depthKv]
    omega
theorem kpd_ints : ∀ is : List Int, (is.map D.int).map kpd = pdL (is.map D.int)
  | [] => rfl
  | i :: is => by simp only [List.map_cons, pdL, kpd_ints is]; rfl
theorem Sm.dicI {k s m : Nat} {o : Bool} {is : List Int} {vs : List D} (hi : ∀ i ∈ is, -10 ^ 40 < i ∧ i < 10 ^ 40) (h : ∀ x ∈ vs, Sm k s x) (hl : is.length = vs.length) (hm : is.length ≤ m) : Sm (k + 1) (m * (s + 50) + 3) (.dic o (is.map D.int) vs) := by
  have hk : ∀ x ∈ is.map D.int, Sm k 45 x := fun x hx => by
    obtain ⟨i, hi', rfl⟩ := List.mem_map.mp hx
    exact Sm.int (hi i hi').1 (hi i hi').2
  obtain ⟨a1, a2, a3, a4, a5⟩ := sm_all hk
  obtain ⟨b1, b2, b3, b4, b5⟩ := sm_all h
  have n1 : loneN (is.map D.int) = false := by cases is <;> rfl
  have kk : (is.map D.int).all keyB = true := by
    rw [List.all_eq_true]
    intro x hx
    obtain ⟨i, _, rfl⟩ := List.mem_map.mp hx
    rfl
  have ek : (is.map D.int).map kpd = pdL (is.map D.int) := by
    exact kpd_ints is
  have ep : pd (.dic o (is.map D.int) vs) = .dict ((pdL (is.map D.int)).zip (pdL vs)) := by
    simp only [pd, n1]
    rw [if_neg (by decide), ek]
  have l1 : ((pdL (is.map D.int)).zip (pdL vs)).map (·.1) = pdL (is.map D.int) := List.map_fst_zip (by rw [pdL_len, pdL_len, List.length_map]; omega)
  have l2 : ((pdL (is.map D.int)).zip (pdL vs)).map (·.2) = pdL vs := List.map_snd_zip (by rw [pdL_len, pdL_len, List.length_map]; omega)
  have l3 : ((pdL (is.map D.int)).zip (pdL vs)).length = is.length := by rw [List.length_zip, pdL_len, pdL_len, List.length_map]; omega
  refine ⟨by simp [goodR, n1, kk, b1], ?_, ?_, ?_⟩
  · rw [ep]
    simp only [PyData.showable]
    exact showable_kv _ (by rw [l1]; exact a2) (by rw [l2]; exact b2)
  · rw [ep]
    simp only [PyData.depth]
    have := depth_kv ((pdL (is.map D.int)).zip (pdL vs))
    rw [l1, l2] at this
    omega
  · rw [ep]
    simp only [PyData.shown]
    have h1 := dictText_len_le (PyData.shownKv ((pdL (is.map D.int)).zip (pdL vs)))
    have h2 := shown_kv ((pdL (is.map D.int)).zip (pdL vs))
    rw [l1, l2, l3] at h2
    have h3 := PyData.shownKv_length ((pdL (is.map D.int)).zip (pdL vs))
    rw [l3] at h3
    rw [List.length_map] at a4
    have h4 : is.length * (s + 50) ≤ m * (s + 50) := Nat.mul_le_mul_right _ hm
    rw [← hl] at b4
    rw [Nat.mul_add] at h4
    omega
theorem pdL_map {α : Type} (f : α → D) (g : α → PyData) (h : ∀ x, pd (f x) = g x) : ∀ xs : List α, pdL (xs.map f) = xs.map g
  | [] => rfl
  | x :: xs => by simp only [List.map_cons, pdL, h, pdL_map f g h xs]
end T
namespace T
open PySem PySem.Spec PyProof.Rows L2
/-! ### a loop with a state, that may end early -/
def foldO {σ α : Type} (st : σ → α → Option σ) : σ → List α → Option σ
  | s, [] => some s
  | s, x :: xs => match st s x with
    | some s' => foldO st s' xs
    | none => none
theorem loop_st {σ α β : Type} {f : β → T.Env → Ou} {en : α → β} {xs : List α} {G : T.Env} {X : Ou} (hX : kLoop f (xs.map en) G = X) (e : σ → T.Env) (st : σ → α → Option σ) (s : σ) (hG : G = e s) (d : D) (R : T.Env → Prop)
    (hs : ∀ s x, x ∈ xs → (∀ s', st s x = some s' → f (en x) (e s) = .nx (e s')) ∧ (st s x = none → ∃ G', f (en x) (e s) = .rt d G' ∧ R G')) :
    (∀ s', foldO st s xs = some s' → X = .nx (e s')) ∧ (foldO st s xs = none → ∃ G', X = .rt d G' ∧ R G') := by
  subst hX hG
  induction xs generalizing s with
  | nil => exact ⟨fun s' h => (by cases h; rfl), fun h => (by cases h)⟩
  | cons x xs ih =>
    obtain ⟨h1, h2⟩ := hs s x List.mem_cons_self
    rw [List.map_cons, kLoop_cons]
    cases c : st s x with
    | none =>
      obtain ⟨G', e', r⟩ := h2 c
      rw [e']
      have fo : foldO st s (x :: xs) = none := by simp [foldO, c]
      rw [fo]
      exact ⟨fun _ h => (by cases h), fun _ => ⟨G', rfl, r⟩⟩
    | some s' =>
      rw [h1 s' c]
      have fo : foldO st s (x :: xs) = foldO st s' xs := by simp [foldO, c]
      rw [fo]
      exact ih s' fun s x m => hs s x (List.mem_cons_of_mem _ m)
/-! ### frozen data is shown alike -/
mutual
theorem pd_frz : ∀ d : D, pd (frz d) = pd d
  | .non | .bl _ | .int _ | .str _ | .scr _ => rfl
  | .tup xs => by simp only [frz, pd, pdL_frz xs]
  | .lst _ xs => by simp only [frz, pd, pdL_frz xs]
  | .dic _ ks vs => by simp only [frz, pd, pdL_frz vs]
  | .obj _ _ _ _ => rfl
theorem pdL_frz : ∀ xs : List D, pdL (frzL xs) = pdL xs
  | [] => rfl
  | x :: xs => by simp only [frzL, pdL, pd_frz x, pdL_frz xs]
end
mutual
theorem good_frz : ∀ d : D, goodR (frz d) = goodR d
  | .non | .bl _ | .int _ | .str _ | .scr _ => rfl
  | .tup xs => by simp only [frz, goodR, goodL_frz xs]
  | .lst _ xs => by simp only [frz, goodR, goodL_frz xs]
  | .dic _ ks vs => by simp only [frz, goodR, goodL_frz vs]
  | .obj _ _ _ _ => rfl
theorem goodL_frz : ∀ xs : List D, goodL (frzL xs) = goodL xs
  | [] => rfl
  | x :: xs => by simp only [frzL, goodL, good_frz x, goodL_frz xs]
end
theorem Sm.frz {k s : Nat} {d : D} (h : Sm k s d) : Sm k s (T.frz d) := ⟨(good_frz d).trans h.good, by rw [pd_frz]; exact h.sh, by rw [pd_frz]; exact h.dp, by rw [pd_frz]; exact h.len⟩
@[simp] theorem ty_frz (d : D) : tyD (frz d) = tyD d := by cases d <;> rfl
/-! ### isinstance, of what is known -/
@[simp] theorem isK_tuple_NoneType : isK "tuple" "NoneType" = false := by decide +kernel
@[simp] theorem isK_tuple_bool : isK "tuple" "bool" = false := by decide +kernel
@[simp] theorem isK_tuple_int : isK "tuple" "int" = false := by decide +kernel
@[simp] theorem isK_tuple_str : isK "tuple" "str" = false := by decide +kernel
@[simp] theorem isK_tuple_tuple : isK "tuple" "tuple" = true := by decide +kernel
@[simp] theorem isK_tuple_list : isK "tuple" "list" = false := by decide +kernel
@[simp] theorem isK_tuple_dict : isK "tuple" "dict" = false := by decide +kernel
@[simp] theorem isK_list_NoneType : isK "list" "NoneType" = false := by decide +kernel
@[simp] theorem isK_list_bool : isK "list" "bool" = false := by decide +kernel
@[simp] theorem isK_list_int : isK "list" "int" = false := by decide +kernel
@[simp] theorem isK_list_str : isK "list" "str" = false := by decide +kernel
@[simp] theorem isK_list_tuple : isK "list" "tuple" = false := by decide +kernel
@[simp] theorem isK_list_list : isK "list" "list" = true := by decide +kernel
@[simp] theorem isK_list_dict : isK "list" "dict" = false := by decide +kernel
@[simp] theorem isK_int_NoneType : isK "int" "NoneType" = false := by decide +kernel
@[simp] theorem isK_int_bool : isK "int" "bool" = true := by decide +kernel
@[simp] theorem isK_int_int : isK "int" "int" = true := by decide +kernel
@[simp] theorem isK_int_str : isK "int" "str" = false := by decide +kernel
@[simp] theorem isK_int_tuple : isK "int" "tuple" = false := by decide +kernel
@[simp] theorem isK_int_list : isK "int" "list" = false := by decide +kernel
@[simp] theorem isK_int_dict : isK "int" "dict" = false := by decide +kernel
@[simp] theorem isK_bool_NoneType : isK "bool" "NoneType" = false := by decide +kernel
@[simp] theorem isK_bool_bool : isK "bool" "bool" = true := by decide +kernel
@[simp] theorem isK_bool_int : isK "bool" "int" = false := by decide +kernel
@[simp] theorem isK_bool_str : isK "bool" "str" = false := by decide +kernel
@[simp] theorem isK_bool_tuple : isK "bool" "tuple" = false := by decide +kernel
@[simp] theorem isK_bool_list : isK "bool" "list" = false := by decide +kernel
@[simp] theorem isK_bool_dict : isK "bool" "dict" = false := by decide +kernel
@[simp] theorem isK_str_NoneType : isK "str" "NoneType" = false := by decide +kernel
@[simp] theorem isK_str_bool : isK "str" "bool" = false := by decide +kernel
@[simp] theorem isK_str_int : isK "str" "int" = false := by decide +kernel
@[simp] theorem isK_str_str : isK "str" "str" = true := by decide +kernel
@[simp] theorem isK_str_tuple : isK "str" "tuple" = false := by decide +kernel
@[simp] theorem isK_str_list : isK "str" "list" = false := by decide +kernel
@[simp] theorem isK_str_dict : isK "str" "dict" = false := by decide +kernel
@[simp] theorem isK_dict_NoneType : isK "dict" "NoneType" = false := by decide +kernel
@[simp] theorem isK_dict_bool : isK "dict" "bool" = false := by decide +kernel
@[simp] theorem isK_dict_int : isK "dict" "int" = false := by decide +kernel
@[simp] theorem isK_dict_str : isK "dict" "str" = false := by decide +kernel
@[simp] theorem isK_dict_tuple : isK "dict" "tuple" = false := by decide +kernel
@[simp] theorem isK_dict_list : isK "dict" "list" = false := by decide +kernel
@[simp] theorem isK_dict_dict : isK "dict" "dict" = true := by decide +kernel
/-- a thing of our kinds -/
def okD : D → Bool
  | .scr _ => false
  | .obj _ _ _ _ => false
  | _ => true
@[simp] theorem okD_frz (d : D) : okD (frz d) = okD d := by cases d <;> rfl
/-! ### rising lists of players -/
theorem inc_ext : ∀ {s t : List Nat}, s.Pairwise (· < ·) → t.Pairwise (· < ·) → (∀ x, x ∈ s ↔ x ∈ t) → s = t
  | [], [], _, _, _ => rfl
  | [], b :: t, _, _, h => by have := (h b).mpr List.mem_cons_self; cases this
  | a :: s, [], _, _, h => by have := (h a).mp List.mem_cons_self; cases this
  | a :: s, b :: t, h1, h2, h => by
    obtain ⟨p1, p2⟩ := List.pairwise_cons.mp h1
    obtain ⟨q1, q2⟩ := List.pairwise_cons.mp h2
    have e : a = b := by
      rcases List.mem_cons.mp ((h a).mp List.mem_cons_self) with z | z
      · exact z
      · rcases List.mem_cons.mp ((h b).mpr List.mem_cons_self) with y | y
        · exact y.symm
        · have := q1 a z
          have := p1 b y
          omega
    subst e
    congr 1
    refine inc_ext p2 q2 fun x => ⟨fun m => ?_, fun m => ?_⟩
    · rcases List.mem_cons.mp ((h x).mp (List.mem_cons_of_mem _ m)) with z | z
      · subst z; have := p1 x m; omega
      · exact z
    · rcases List.mem_cons.mp ((h x).mpr (List.mem_cons_of_mem _ m)) with z | z
      · subst z; have := q1 x m; omega
      · exact z
theorem subs_mem {n : Nat} (h2 : 2 ≤ n) (h6 : n ≤ 6) {s : List Nat} (hp : s.Pairwise (· < ·)) (hl : ∀ x ∈ s, x < n) (hn : s ≠ []) : s ∈ subs n := by
  have e : (List.range n).filter (fun o => decide (o ∈ s)) = s := by
    refine inc_ext ?_ hp fun x => ?_
    · exact List.Pairwise.filter _ List.pairwise_lt_range
    · rw [List.mem_filter, List.mem_range]
      simp
      exact hl x
  rw [← e]
  refine subs_of h2 h6 _ ?_
  obtain ⟨x, hx⟩ := List.exists_mem_of_ne_nil s hn
  exact ⟨x, hl x hx, by simpa using hx⟩
def isPl (n : Nat) : D → Bool
  | .int i => decide (0 ≤ i ∧ i < n)
  | _ => false
def nOf : D → Nat
  | .int i => i.toNat
  | _ => 0
/-- the state of a walk over a list that shall rise: the last player -/
def upS (n : Nat) (l : Int) : D → Option Int
  | .int i => if l < i ∧ i < n then some i else none
  | _ => none
def upB (n : Nat) (xs : List D) : Bool := (foldO (upS n) (-1) xs).isSome
theorem pl_nD {n : Nat} {x : D} (h : isPl n x = true) : x = nD (nOf x) ∧ nOf x < n := by
  cases x <;> simp [isPl] at h
  rename_i i
  refine ⟨?_, ?_⟩
  · simp only [nOf, nD]
    congr 1
    omega
  · simp only [nOf]
    omega
theorem pl_map {n : Nat} : ∀ {xs : List D}, (∀ x ∈ xs, isPl n x = true) → xs = (xs.map nOf).map nD
  | [], _ => rfl
  | x :: xs, h => by
    rw [List.map_cons, List.map_cons, ← pl_map fun y m => h y (List.mem_cons_of_mem _ m), ← (pl_nD (h x List.mem_cons_self)).1]
theorem up_pl {n : Nat} : ∀ {xs : List D} {l : Int}, -1 ≤ l → (foldO (upS n) l xs).isSome = true → (∀ x ∈ xs, isPl n x = true ∧ l < nOf x) ∧ (xs.map nOf).Pairwise (· < ·)
  | [], _, _, _ => ⟨fun _ m => (by cases m), .nil⟩
  | x :: xs, l, hl, h => by
    cases x with
    | int i =>
      by_cases c : l < i ∧ i < n
      · have h' : (foldO (upS n) i xs).isSome = true := by simpa [foldO, upS, c] using h
        obtain ⟨a, b⟩ := up_pl (by omega) h'
        refine ⟨fun y m => ?_, ?_⟩
        · rcases List.mem_cons.mp m with z | z
          · subst z
            simp only [isPl, nOf, decide_eq_true_eq]
            omega
          · have := a y z
            exact ⟨this.1, by omega⟩
        · rw [List.map_cons]
          refine List.pairwise_cons.mpr ⟨fun y m => ?_, b⟩
          obtain ⟨z, hz, rfl⟩ := List.mem_map.mp m
          have := (a z hz).2
          have e : nOf (.int i) = i.toNat := rfl
          rw [e]
          omega
      · simp [foldO, upS, c] at h
    | _ => simp [foldO, upS] at h
theorem up_of {n : Nat} : ∀ {xs : List D} {l : Int}, (∀ x ∈ xs, isPl n x = true ∧ l < nOf x) → (xs.map nOf).Pairwise (· < ·) → (foldO (upS n) l xs).isSome = true
  | [], _, _, _ => rfl
  | x :: xs, l, h, hp => by
    obtain ⟨h1, h2⟩ := h x List.mem_cons_self
    cases x <;> simp [isPl] at h1
    rename_i i
    simp only [nOf] at h2
    have c : l < i ∧ i < n := by omega
    rw [List.map_cons] at hp
    obtain ⟨p1, p2⟩ := List.pairwise_cons.mp hp
    have := up_of (l := i) (fun y m => ⟨(h y (List.mem_cons_of_mem _ m)).1, by
      have := p1 _ (List.mem_map_of_mem m)
      have e : nOf (.int i) = i.toNat := rfl
      rw [e] at this
      omega⟩) p2
    simpa [foldO, upS, c] using this
theorem upB_iff {n : Nat} {xs : List D} : upB n xs = true ↔ (∀ x ∈ xs, isPl n x = true) ∧ (xs.map nOf).Pairwise (· < ·) := by
  constructor
  · intro h
    obtain ⟨a, b⟩ := up_pl (by omega) h
    exact ⟨fun x m => (a x m).1, b⟩
  · rintro ⟨a, b⟩
    exact up_of (fun x m => ⟨a x m, by omega⟩) b
/-- somewhere it does not rise -/
def dnB (s : List Nat) : Bool := (List.range (s.length - 1)).any fun i => decide (s.getD (i + 1) 0 ≤ s.getD i 0)
theorem dn_iff : ∀ (s : List Nat), dnB s = false → s.Pairwise (· < ·)
  | [], _ => .nil
  | [a], _ => List.pairwise_singleton _ _
  | a :: b :: s, h => by
    have h0 : ∀ i, i < s.length + 1 → ¬ (a :: b :: s).getD (i + 1) 0 ≤ (a :: b :: s).getD i 0 := by
      intro i hi
      unfold dnB at h
      rw [List.any_eq_false] at h
      have := h i (List.mem_range.mpr (by simpa using hi))
      simpa using this
    have hb : dnB (b :: s) = false := by
      unfold dnB
      rw [List.any_eq_false]
      intro i hi
      have hi' : i < s.length := by simpa using hi
      have := h0 (i + 1) (by omega)
      simpa using this
    have ih := dn_iff (b :: s) hb
    have ab := h0 0 (by omega)
    simp at ab
    refine List.pairwise_cons.mpr ⟨fun x m => ?_, ih⟩
    rcases List.mem_cons.mp m with z | z
    · subst z; exact ab
    · have := (List.pairwise_cons.mp ih).1 x z
      omega
theorem dn_of {s : List Nat} (h : s.Pairwise (· < ·)) : dnB s = false := by
  unfold dnB
  rw [List.any_eq_false]
  intro i hi
  have hi' : i + 1 < s.length := by have := List.mem_range.mp hi; omega
  have := List.pairwise_iff_getElem.mp h i (i + 1) (by omega) hi' (by omega)
  simp [List.getD_eq_getElem?_getD, List.getElem?_eq_getElem hi', List.getElem?_eq_getElem (show i < s.length by omega)]
  omega
/-! ### slices -/
@[simp] theorem flatL_rev (xs : List D) : flatL xs.reverse = flatL xs := by
  induction xs with
  | nil => rfl
  | cons x xs ih => rw [List.reverse_cons, flatL_append, ih]; simp [Bool.and_comm]
@[simp] theorem frzL_rev (xs : List D) : frzL xs.reverse = (frzL xs).reverse := by rw [frzL_map, frzL_map, List.map_reverse]
theorem cutD_map {α β : Type} (f : α → β) (xs : List α) (l u : Option Int) : cutD (xs.map f) l u = (cutD xs l u).map f := by
  unfold cutD
  rw [List.length_map, List.map_take, List.map_drop]
theorem cutD_mem {α : Type} {xs : List α} {l u : Option Int} {x : α} (h : x ∈ cutD xs l u) : x ∈ xs := List.mem_of_mem_drop (List.mem_of_mem_take h)
theorem cutD_len {α : Type} (xs : List α) (l u : Option Int) : (cutD xs l u).length ≤ xs.length := by
  unfold cutD
  rw [List.length_take, List.length_drop]
  omega
/-- what the n-th of a written list is, told of all of them -/
theorem atI_all {xs : List D} {r : Int} (h0 : 0 ≤ r) (h1 : r < xs.length) (P : D → Prop) (h : ∀ x ∈ xs, P x) : ∃ d, P d ∧ atI xs r = some d := by
  obtain ⟨n, rfl⟩ : ∃ n : Nat, r = n := ⟨r.toNat, by omega⟩
  have hn : n < xs.length := by omega
  exact ⟨xs[n], h _ (List.getElem_mem hn), by rw [atI_nat hn]⟩
theorem atI_some {xs : List D} {r : Int} {v : Option D} (e : atI xs r = v) (h0 : 0 ≤ r) (h1 : r < xs.length) (P : D → Prop) (h : ∀ x ∈ xs, P x) : ∃ d, P d ∧ v = some d := by
  subst e
  exact atI_all h0 h1 P h
@[simp] theorem isNon_dic (o : Bool) (ks vs : List D) : isNon (.dic o ks vs) = false := rfl
/-! ### three things, each of its own size -/
theorem Sm.lst3 {k s1 s2 s3 : Nat} {o : Bool} {a b c : D} (h1 : Sm k s1 a) (h2 : Sm k s2 b) (h3 : Sm k s3 c) : Sm (k + 1) (s1 + s2 + s3 + 9) (.lst o [a, b, c]) := by
  have d1 := h1.dp
  have d2 := h2.dp
  have d3 := h3.dp
  have l1 := h1.len
  have l2 := h2.len
  have l3 := h3.len
  refine ⟨by simp [goodR, goodL, h1.good, h2.good, h3.good], by simp [pd, pdL, PyData.showable, PyData.showableAll, h1.sh, h2.sh, h3.sh], by simp only [pd, pdL, PyData.depth, PyData.depthAll]; omega, ?_⟩
  have := listText_len_le (PyData.shownAll (pdL [a, b, c]))
  simp only [pd, PyData.shown]
  simp only [pdL, PyData.shownAll, List.map_cons, List.map_nil, List.sum_cons, List.sum_nil, List.length_cons, List.length_nil] at this ⊢
  omega
theorem Sm.tup3 {k s1 s2 s3 : Nat} {a b c : D} (h1 : Sm k s1 a) (h2 : Sm k s2 b) (h3 : Sm k s3 c) : Sm (k + 1) (s1 + s2 + s3 + 9) (.tup [a, b, c]) := by
  have d1 := h1.dp
  have d2 := h2.dp
  have d3 := h3.dp
  have l1 := h1.len
  have l2 := h2.len
  have l3 := h3.len
  refine ⟨by simp [goodR, goodL, h1.good, h2.good, h3.good], by simp [pd, pdL, PyData.showable, PyData.showableAll, h1.sh, h2.sh, h3.sh], by simp only [pd, pdL, PyData.depth, PyData.depthAll]; omega, ?_⟩
  have := tupleText_len_le (PyData.shownAll (pdL [a, b, c]))
  simp only [pd, PyData.shown]
  simp only [pdL, PyData.shownAll, List.map_cons, List.map_nil, List.sum_cons, List.sum_nil, List.length_cons, List.length_nil] at this ⊢
  omega
theorem cut_pre {α : Type} (xs : List α) (a : Nat) : (cutD xs none (some (a : Int))).length ≤ a := by
  unfold cutD HT.sIx
  rw [List.length_take]
  simp
  split <;> omega
theorem cut_post {α : Type} (xs : List α) (a : Nat) : (cutD xs (some (a : Int)) none).length ≤ xs.length - a := by
  unfold cutD HT.sIx
  rw [List.length_take, List.length_drop]
  simp
  split <;> omega
theorem cut_mid {α : Type} (xs : List α) (a b : Nat) : (cutD xs (some (a : Int)) (some ((a : Int) + b))).length ≤ b := by
  unfold cutD HT.sIx
  rw [List.length_take, List.length_drop]
  simp
  (repeat' split) <;> omega
end T
namespace T
open PySem PySem.Spec PyProof.Rows L2
abbrev topS (i : Nat) : Stmt := PySem.Challenge.pw_wintold_k01_what_is_a_league.main.body.getD i (.Pass ⟨0, 0, 0, 0⟩)
def c_KINDS : D := .tup [.str "plain", .str "ties"]
def c_FEWEST : D := .int 2
def c_MOST : D := .int 6
noncomputable def w_is_whole : WS :=
  sRet (eR (rAnd (rIsi' "int" (rVar 0)) (rNot (rIsi' "bool" (rVar 0)))))
noncomputable def k_is_whole : KS :=
  k_sRet (k_eR (k_rAnd (k_rIsi' "int" (k_rVar 0)) (k_rNot (k_rIsi' "bool" (k_rVar 0)))))
theorem ad_is_whole : AdS k_is_whole w_is_whole :=
  q_sRet (q_eR (q_rAnd (q_rIsi' "int" (q_rVar 0)) (q_rNot (q_rIsi' "bool" (q_rVar 0)))))
noncomputable def c_is_whole : KF := fun ds => outF [false] (k_is_whole (env0 ds 1))
theorem u_is_whole (x0 : D) : c_is_whole [x0] = outF [false] (k_is_whole [some x0]) := rfl
abbrev s_is_whole : Stmt := topS 4
theorem sc_is_whole : FnScope ["thing"] ["thing"] (defScope s_is_whole) := ⟨rfl, rfl, rfl, by decide +kernel, rfl, by decide +kernel, by decide +kernel⟩
theorem sd_is_whole {P : Program} {w : World} {K : PySem.W.Frag} {mg : Str → Option Value} {base : Heap} (z_isinstance : mg "isinstance" = none) (z_int : mg "int" = none) (z_bool : mg "bool" = none) {f : Addr} {cdv : Value} {Ar : Around} {outer : List PySem.Env} {s : Shared} {H : Hp} {E : XK}
    (hr : RoomG 0 (Ar.deeper (envOfC "is_whole" (defScope s_is_whole) s.heap.objs.size f cdv))) : SndSs (bx P w K mg base ["thing"] "is_whole" s_is_whole f cdv Ar outer s H E) K (wx E) (mutIx [false] 0) (defBody s_is_whole) w_is_whole :=
  have Sc := sc_is_whole
  (ss_one (s_ret (e_r (r_and (r_isi (by intro _; rfl) (xv 0) rfl (by intro _; rfl) (fun _ => z_isinstance) (by decide +kernel) (by intro _; rfl) (fun _ => z_int) (by decide +kernel) (by decide)) (r_one (r_not (r_isi (by intro _; rfl) (xv 0) rfl (by intro _; rfl) (fun _ => z_isinstance) (by decide +kernel) (by intro _; rfl) (fun _ => z_bool) (by decide +kernel) (by decide))))))))
theorem dk_is_whole {P : Program} {w : World} {K : PySem.W.Frag} {mg : Str → Option Value} {base : Heap} {f : Addr} {fd : FuncData} (F : L2.Fun K "is_whole" "is_whole" s_is_whole f fd) (hmg : mg "is_whole" = some (.ref f)) (hb : Binds K fd ["thing"] []) (z_isinstance : mg "isinstance" = none) (z_int : mg "int" = none) (z_bool : mg "bool" = none) : Dk P w K mg base 1 "is_whole" [false] (spF c_is_whole) :=
  dk_mk F hmg hb sc_is_whole rfl (by decide) (fun cdv Ar outer s H E hr => sd_is_whole z_isinstance z_int z_bool hr) (fun ds P PX h hl => adF ad_is_whole h)
noncomputable def w__law_deck : WS :=
  sSeq (sSet 1 (eF (fLst (aNil)))) (sSeq (sDr [0, 2, 3] (sFor (lNo (aRng1 (aCons (rCB max2D (aCons (rCon (.int 1)) (aCons (rCB min2D (aCons (rCon (.int 63)) (aCons (rCB lenD (aCons (rVar 0) (aNil))) (aNil)))) (aNil)))) (aNil)))) (gNm 2) (sSeq (sSet 3 (eR (rCon (.int 0)))) (sSeq (sIf (bT (asB (rOp ltD (rVar 2) (rCB lenD (aCons (rVar 0) (aNil)))))) (sSet 3 (eR (rOp ixD (rVar 0) (rVar 2)))) (sNil)) (sDr [2, 3] (sExpr (eMeth 1 mApp (lCons (eF (fLst (aCons (rVar 3) (aCons (rCB intD (aCons (rOp geD (rVar 3) (rOp powD (rCon (.int 10)) (rCon (.int 18)))) (aNil))) (aCons (rOp mulD (rCon (.int 31)) (rVar 2)) (aNil)))))) (lNil))))))))) (sRet (eLst (lCons (eMov 1) (lCons (eR (rCon (.int 0))) (lNil))))))
noncomputable def k__law_deck : KS :=
  k_sSeq (k_sSet 1 (k_eF (k_fLst k_aNil))) (k_sSeq (k_sDr [0, 2, 3] (k_sFor (k_lNo (k_aRng1 (k_aCons (k_rCB k_max2D (k_aCons (k_rCon (.int 1)) (k_aCons (k_rCB k_min2D (k_aCons (k_rCon (.int 63)) (k_aCons (k_rCB k_lenD (k_aCons (k_rVar 0) k_aNil)) k_aNil))) k_aNil))) k_aNil))) (k_gNm 2) (k_sSeq (k_sSet 3 (k_eR (k_rCon (.int 0)))) (k_sSeq (k_sIf (k_bT (k_asB (k_rOp k_ltD (k_rVar 2) (k_rCB k_lenD (k_aCons (k_rVar 0) k_aNil))))) (k_sSet 3 (k_eR (k_rOp k_ixD (k_rVar 0) (k_rVar 2)))) k_sNil) (k_sDr [2, 3] (k_sExpr (k_eMeth 1 k_mApp (k_lCons (k_eF (k_fLst (k_aCons (k_rVar 3) (k_aCons (k_rCB k_intD (k_aCons (k_rOp k_geD (k_rVar 3) (k_rOp k_powD (k_rCon (.int 10)) (k_rCon (.int 18)))) k_aNil)) (k_aCons (k_rOp k_mulD (k_rCon (.int 31)) (k_rVar 2)) k_aNil))))) k_lNil)))))))) (k_sRet (k_eLst (k_lCons (k_eMov 1) (k_lCons (k_eR (k_rCon (.int 0))) k_lNil)))))
theorem ad__law_deck : AdS k__law_deck w__law_deck :=
  q_sSeq (q_sSet 1 (q_eF (q_fLst q_aNil))) (q_sSeq (q_sDr [0, 2, 3] (q_sFor (q_lNo (q_aRng1 (q_aCons (q_rCB q_max2D (q_aCons (q_rCon (.int 1)) (q_aCons (q_rCB q_min2D (q_aCons (q_rCon (.int 63)) (q_aCons (q_rCB q_lenD (q_aCons (q_rVar 0) q_aNil)) q_aNil))) q_aNil))) q_aNil))) (q_gNm 2) (q_sSeq (q_sSet 3 (q_eR (q_rCon (.int 0)))) (q_sSeq (q_sIf (q_bT (q_asB (q_rOp q_ltD (q_rVar 2) (q_rCB q_lenD (q_aCons (q_rVar 0) q_aNil))))) (q_sSet 3 (q_eR (q_rOp q_ixD (q_rVar 0) (q_rVar 2)))) q_sNil) (q_sDr [2, 3] (q_sExpr (q_eMeth 1 q_mApp (q_lCons (q_eF (q_fLst (q_aCons (q_rVar 3) (q_aCons (q_rCB q_intD (q_aCons (q_rOp q_geD (q_rVar 3) (q_rOp q_powD (q_rCon (.int 10)) (q_rCon (.int 18)))) q_aNil)) (q_aCons (q_rOp q_mulD (q_rCon (.int 31)) (q_rVar 2)) q_aNil))))) q_lNil)))))))) (q_sRet (q_eLst (q_lCons (q_eMov 1) (q_lCons (q_eR (q_rCon (.int 0))) q_lNil)))))
noncomputable def c__law_deck : KF := fun ds => outF [false] (k__law_deck (env0 ds 4))
theorem u__law_deck (x0 : D) : c__law_deck [x0] = outF [false] (k__law_deck [some x0, none, none, none]) := rfl
abbrev s__law_deck : Stmt := topS 9
theorem sc__law_deck : FnScope ["script", "pools", "k", "cell"] ["script"] (defScope s__law_deck) := ⟨rfl, rfl, rfl, by decide +kernel, rfl, by decide +kernel, by decide +kernel⟩
theorem sd__law_deck {P : Program} {w : World} {K : PySem.W.Frag} {mg : Str → Option Value} {base : Heap} (z_len : mg "len" = none) (z_min : mg "min" = none) (z_max : mg "max" = none) (z_range : mg "range" = none) (z_int : mg "int" = none) {f : Addr} {cdv : Value} {Ar : Around} {outer : List PySem.Env} {s : Shared} {H : Hp} {E : XK}
    (hr : RoomG 0 (Ar.deeper (envOfC "_law_deck" (defScope s__law_deck) s.heap.objs.size f cdv))) : SndSs (bx P w K mg base ["script", "pools", "k", "cell"] "_law_deck" s__law_deck f cdv Ar outer s H E) K (wx E) (mutIx [false] 0) (defBody s__law_deck) w__law_deck :=
  have Sc := sc__law_deck
  (ss_cons (sset 1 (fun _ => Sc.nd) (e_f (f_lst a_nil))) (ss_cons (s_dr [0, 2, 3] (s_for bx_passes (by intro _; rfl) (ie_rng (by intro _; rfl) (fun _ => z_range) (a_cons (r_callB (fun _ => call_max2 rfl) ok_max2 (by intro _; rfl) (fun _ => z_max) (by decide +kernel) (a_cons r_int (a_cons (r_callB (fun _ => call_min2 rfl) ok_min2 (by intro _; rfl) (fun _ => z_min) (by decide +kernel) (a_cons r_int (a_cons (r_callB (fun _ => c_len rfl) ok_len (by intro _; rfl) (fun _ => z_len) (by decide +kernel) (a_cons (xv 0) a_nil)) a_nil))) a_nil))) a_nil)) (gnm 2 (fun _ => Sc.nd)) (ss_cons (sset 3 (fun _ => Sc.nd) (e_r r_int)) (ss_cons (s_if (b_t (t_cmp (fun _ => op_ltA rfl hr.units0) ok_ord (xv 2) (r_callB (fun _ => c_len rfl) ok_len (by intro _; rfl) (fun _ => z_len) (by decide +kernel) (a_cons (xv 0) a_nil)) (nomark _))) (ss_one (sset 3 (fun _ => Sc.nd) (e_r (r_ix (fun _ => ix_seq) ok_ix (xv 0) (xv 2) (fun _ _ => rfl))))) ss_nil) (ss_one (s_dr [2, 3] (s_expr (e_meth 1 ok_app (l_cons (e_f (f_lst (a_cons (xv 3) (a_cons (r_callTy (fun _ => call_int1) ok_int (by intro _; rfl) (fun _ => z_int) (by decide +kernel) (a_cons (r_cmp (fun _ => op_geA rfl hr.units0) ok_ord (xv 3) (r_bin (fun _ => op_pow) ok_pow r_int r_int) (nomark _)) a_nil)) (a_cons (r_bin (fun _ => op_mul) ok_mul r_int (xv 2)) a_nil))))) l_nil) (fun ta h j => pe_bm PySem.F.plainAttrs_list PySem.F.slot_list_append PySem.F.type_list_append mt_append (pv 1) (h j)))))))))) (ss_one (s_ret (e_lst (l_cons (xmov 1) (l_cons (e_r r_int) l_nil)))))))
theorem dk__law_deck {P : Program} {w : World} {K : PySem.W.Frag} {mg : Str → Option Value} {base : Heap} {f : Addr} {fd : FuncData} (F : L2.Fun K "_law_deck" "_law_deck" s__law_deck f fd) (hmg : mg "_law_deck" = some (.ref f)) (hb : Binds K fd ["script"] []) (z_len : mg "len" = none) (z_min : mg "min" = none) (z_max : mg "max" = none) (z_range : mg "range" = none) (z_int : mg "int" = none) : Dk P w K mg base 1 "_law_deck" [false] (spF c__law_deck) :=
  dk_mk F hmg hb sc__law_deck rfl (by decide) (fun cdv Ar outer s H E hr => sd__law_deck z_len z_min z_max z_range z_int hr) (fun ds P PX h hl => adF ad__law_deck h)
noncomputable def w__law_draw : WS :=
  wDraw (rOp modD (rOp ixD (rVar 0) (rCon (.int 1))) (rCB lenD (aCons (rOp ixD (rVar 0) (rCon (.int 0))) (aNil)))) (rOp addD (rOp ixD (rVar 0) (rCon (.int 1))) (rCon (.int 1))) (sSeq (sDr [3] (sIf (bT (tAndT (asB (rOp eqD (rOp ixD (rVar 2) (rCon (.int 1))) (rCon (.int 1)))) (asB (rOp gtD (rOp ixD (rVar 2) (rCon (.int 0))) (rCon (.int 0)))))) (sSeq (sSet 3 (eR (rOp modD (rOp ixD (rVar 2) (rCon (.int 0))) (rVar 1)))) (sSeq (sDr [1] (sSetIx 2 (rCon (.int 0)) (eR (rOp fdivD (rOp ixD (rVar 2) (rCon (.int 0))) (rVar 1))))) (sRet (eR (rVar 3))))) (sNil))) (sSeq (sSetIx 2 (rCon (.int 2)) (eR (rOp addD (rOp ixD (rVar 2) (rCon (.int 2))) (rCon (.int 1))))) (sSeq (sSet 4 (eR (rOp modD (rOp addD (rOp modD (rOp ixD (rVar 2) (rCon (.int 0))) (rCon (.int 99999999977))) (rOp mulD (rCon (.int 700001)) (rOp ixD (rVar 2) (rCon (.int 2))))) (rCon (.int 99999999947))))) (sSeq (sSet 4 (eR (rOp modD (rOp mulD (rVar 4) (rVar 4)) (rCon (.int 99999999821))))) (sSeq (sSet 4 (eR (rOp modD (rOp mulD (rVar 4) (rOp addD (rVar 4) (rCon (.int 19)))) (rCon (.int 9999999967))))) (sRet (eR (rOp modD (rOp fdivD (rVar 4) (rCon (.int 13))) (rVar 1)))))))))
noncomputable def k__law_draw : KS :=
  k_wDraw (k_rOp k_modD (k_rOp k_ixD (k_rVar 0) (k_rCon (.int 1))) (k_rCB k_lenD (k_aCons (k_rOp k_ixD (k_rVar 0) (k_rCon (.int 0))) k_aNil))) (k_rOp k_addD (k_rOp k_ixD (k_rVar 0) (k_rCon (.int 1))) (k_rCon (.int 1))) (k_sSeq (k_sDr [3] (k_sIf (k_bT (k_tAndT (k_asB (k_rOp k_eqD (k_rOp k_ixD (k_rVar 2) (k_rCon (.int 1))) (k_rCon (.int 1)))) (k_asB (k_rOp k_gtD (k_rOp k_ixD (k_rVar 2) (k_rCon (.int 0))) (k_rCon (.int 0)))))) (k_sSeq (k_sSet 3 (k_eR (k_rOp k_modD (k_rOp k_ixD (k_rVar 2) (k_rCon (.int 0))) (k_rVar 1)))) (k_sSeq (k_sDr [1] (k_sSetIx 2 (k_rCon (.int 0)) (k_eR (k_rOp k_fdivD (k_rOp k_ixD (k_rVar 2) (k_rCon (.int 0))) (k_rVar 1))))) (k_sRet (k_eR (k_rVar 3))))) k_sNil)) (k_sSeq (k_sSetIx 2 (k_rCon (.int 2)) (k_eR (k_rOp k_addD (k_rOp k_ixD (k_rVar 2) (k_rCon (.int 2))) (k_rCon (.int 1))))) (k_sSeq (k_sSet 4 (k_eR (k_rOp k_modD (k_rOp k_addD (k_rOp k_modD (k_rOp k_ixD (k_rVar 2) (k_rCon (.int 0))) (k_rCon (.int 99999999977))) (k_rOp k_mulD (k_rCon (.int 700001)) (k_rOp k_ixD (k_rVar 2) (k_rCon (.int 2))))) (k_rCon (.int 99999999947))))) (k_sSeq (k_sSet 4 (k_eR (k_rOp k_modD (k_rOp k_mulD (k_rVar 4) (k_rVar 4)) (k_rCon (.int 99999999821))))) (k_sSeq (k_sSet 4 (k_eR (k_rOp k_modD (k_rOp k_mulD (k_rVar 4) (k_rOp k_addD (k_rVar 4) (k_rCon (.int 19)))) (k_rCon (.int 9999999967))))) (k_sRet (k_eR (k_rOp k_modD (k_rOp k_fdivD (k_rVar 4) (k_rCon (.int 13))) (k_rVar 1)))))))))
theorem ad__law_draw : AdS k__law_draw w__law_draw :=
  q_wDraw (q_rOp q_modD (q_rOp q_ixD (q_rVar 0) (q_rCon (.int 1))) (q_rCB q_lenD (q_aCons (q_rOp q_ixD (q_rVar 0) (q_rCon (.int 0))) q_aNil))) (q_rOp q_addD (q_rOp q_ixD (q_rVar 0) (q_rCon (.int 1))) (q_rCon (.int 1))) (q_sSeq (q_sDr [3] (q_sIf (q_bT (q_tAndT (q_asB (q_rOp q_eqD (q_rOp q_ixD (q_rVar 2) (q_rCon (.int 1))) (q_rCon (.int 1)))) (q_asB (q_rOp q_gtD (q_rOp q_ixD (q_rVar 2) (q_rCon (.int 0))) (q_rCon (.int 0)))))) (q_sSeq (q_sSet 3 (q_eR (q_rOp q_modD (q_rOp q_ixD (q_rVar 2) (q_rCon (.int 0))) (q_rVar 1)))) (q_sSeq (q_sDr [1] (q_sSetIx 2 (q_rCon (.int 0)) (q_eR (q_rOp q_fdivD (q_rOp q_ixD (q_rVar 2) (q_rCon (.int 0))) (q_rVar 1))))) (q_sRet (q_eR (q_rVar 3))))) q_sNil)) (q_sSeq (q_sSetIx 2 (q_rCon (.int 2)) (q_eR (q_rOp q_addD (q_rOp q_ixD (q_rVar 2) (q_rCon (.int 2))) (q_rCon (.int 1))))) (q_sSeq (q_sSet 4 (q_eR (q_rOp q_modD (q_rOp q_addD (q_rOp q_modD (q_rOp q_ixD (q_rVar 2) (q_rCon (.int 0))) (q_rCon (.int 99999999977))) (q_rOp q_mulD (q_rCon (.int 700001)) (q_rOp q_ixD (q_rVar 2) (q_rCon (.int 2))))) (q_rCon (.int 99999999947))))) (q_sSeq (q_sSet 4 (q_eR (q_rOp q_modD (q_rOp q_mulD (q_rVar 4) (q_rVar 4)) (q_rCon (.int 99999999821))))) (q_sSeq (q_sSet 4 (q_eR (q_rOp q_modD (q_rOp q_mulD (q_rVar 4) (q_rOp q_addD (q_rVar 4) (q_rCon (.int 19)))) (q_rCon (.int 9999999967))))) (q_sRet (q_eR (q_rOp q_modD (q_rOp q_fdivD (q_rVar 4) (q_rCon (.int 13))) (q_rVar 1)))))))))
noncomputable def c__law_draw : KF := fun ds => outF [true, false] (k__law_draw (env0 ds 5))
theorem u__law_draw (x0 x1 : D) : c__law_draw [x0, x1] = outF [true, false] (k__law_draw [some x0, some x1, none, none, none]) := rfl
abbrev s__law_draw : Stmt := topS 10
theorem sc__law_draw : FnScope ["deck", "many", "pool", "found", "number"] ["deck", "many"] (defScope s__law_draw) := ⟨rfl, rfl, rfl, by decide +kernel, rfl, by decide +kernel, by decide +kernel⟩
theorem sd__law_draw {P : Program} {w : World} {K : PySem.W.Frag} {mg : Str → Option Value} {base : Heap} (z_len : mg "len" = none) {f : Addr} {cdv : Value} {Ar : Around} {outer : List PySem.Env} {s : Shared} {H : Hp} {E : XK}
    (hr : RoomG 0 (Ar.deeper (envOfC "_law_draw" (defScope s__law_draw) s.heap.objs.size f cdv))) : SndSs (bx P w K mg base ["deck", "many", "pool", "found", "number"] "_law_draw" s__law_draw f cdv Ar outer s H E) K (wx E) (mutIx [true, false] 0) (defBody s__law_draw) w__law_draw :=
  have Sc := sc__law_draw
  (s_draw (r_bin (fun _ => op_mod) ok_mod (r_ix (fun _ => ix_seq) ok_ix (xv 0) r_int (fun _ _ => rfl)) (r_callB (fun _ => c_len rfl) ok_len (by intro _; rfl) (fun _ => z_len) (by decide +kernel) (a_cons (r_ix (fun _ => ix_seq) ok_ix (xv 0) r_int (fun _ _ => rfl)) a_nil))) (r_bin (fun _ => op_addA rfl) ok_add (r_ix (fun _ => ix_seq) ok_ix (xv 0) r_int (fun _ _ => rfl)) r_int) (ss_cons (s_dr [3] (s_if (b_t (t_w (w_and (t_cmp (fun _ => op_eqD hr.u64) ok_eq (r_ix (fun _ => ix_seq) ok_ix (xv 2) r_int (fun _ _ => rfl)) r_int (nomark _)) (w_and1 (t_cmp (fun _ => op_gtA rfl hr.units0) ok_ord (r_ix (fun _ => ix_seq) ok_ix (xv 2) r_int (fun _ _ => rfl)) r_int (nomark _)))))) (ss_cons (sset 3 (fun _ => Sc.nd) (e_r (r_bin (fun _ => op_mod) ok_mod (r_ix (fun _ => ix_seq) ok_ix (xv 2) r_int (fun _ _ => rfl)) (xv 1)))) (ss_cons (s_dr [1] (s_setix 2 (e_r (r_bin (fun _ => op_fdiv) ok_fdiv (r_ix (fun _ => ix_seq) ok_ix (xv 2) r_int (fun _ _ => rfl)) (xv 1))) r_int (fun t ti h1 h2 j => ps_asg (h1 j) (pg_sub (pv 2) (h2 j) set_list)))) (ss_one (s_ret (e_r (xv 3)))))) ss_nil)) (ss_cons (s_setix 2 (e_r (r_bin (fun _ => op_addA rfl) ok_add (r_ix (fun _ => ix_seq) ok_ix (xv 2) r_int (fun _ _ => rfl)) r_int)) r_int (fun t ti h1 h2 j => ps_asg (h1 j) (pg_sub (pv 2) (h2 j) set_list))) (ss_cons (sset 4 (fun _ => Sc.nd) (e_r (r_bin (fun _ => op_mod) ok_mod (r_bin (fun _ => op_addA rfl) ok_add (r_bin (fun _ => op_mod) ok_mod (r_ix (fun _ => ix_seq) ok_ix (xv 2) r_int (fun _ _ => rfl)) r_int) (r_bin (fun _ => op_mul) ok_mul r_int (r_ix (fun _ => ix_seq) ok_ix (xv 2) r_int (fun _ _ => rfl)))) r_int))) (ss_cons (sset 4 (fun _ => Sc.nd) (e_r (r_bin (fun _ => op_mod) ok_mod (r_bin (fun _ => op_mul) ok_mul (xv 4) (xv 4)) r_int))) (ss_cons (sset 4 (fun _ => Sc.nd) (e_r (r_bin (fun _ => op_mod) ok_mod (r_bin (fun _ => op_mul) ok_mul (xv 4) (r_bin (fun _ => op_addA rfl) ok_add (xv 4) r_int)) r_int))) (ss_one (s_ret (e_r (r_bin (fun _ => op_mod) ok_mod (r_bin (fun _ => op_fdiv) ok_fdiv (xv 4) r_int) (xv 1)))))))))) (fun ti h j => ps_set Sc.nd rfl (Or.inl rfl) (pe_ix ix_seq (pe_ix ix_seq (pv 0) pe_int (fun _ _ => rfl)) (h j) (fun _ _ => rfl)) rfl (Or.inl rfl)) (fun ta h j => ps_asg (h j) (pg_sub (pv 0) pe_int set_list)))
theorem dk__law_draw {P : Program} {w : World} {K : PySem.W.Frag} {mg : Str → Option Value} {base : Heap} {f : Addr} {fd : FuncData} (F : L2.Fun K "_law_draw" "_law_draw" s__law_draw f fd) (hmg : mg "_law_draw" = some (.ref f)) (hb : Binds K fd ["deck", "many"] []) (z_len : mg "len" = none) : Dk P w K mg base 1 "_law_draw" [true, false] (spF c__law_draw) :=
  dk_mk F hmg hb sc__law_draw rfl (by decide) (fun cdv Ar outer s H E hr => sd__law_draw z_len hr) (fun ds P PX h hl => adF ad__law_draw h)
noncomputable def w__law_pairs : WS :=
  sSeq (sSet 1 (eF (fLst (aNil)))) (sSeq (sDr [0, 2] (sFor (lNo (aRng1 (aCons (rVar 0) (aNil)))) (gNm 2) (sDr [2] (sExpr (eMeth 1 mExt (lCons (eF (aComp (aRng1 (aCons (rVar 2) (aNil))) (gNm 3) (tT) (rTup (aCons (rVar 3) (aCons (rVar 2) (aNil)))) [3])) (lNil))))))) (sRet (eF (fCB sortedD (aCons (rVar 1) (aNil))))))
noncomputable def k__law_pairs : KS :=
  k_sSeq (k_sSet 1 (k_eF (k_fLst k_aNil))) (k_sSeq (k_sDr [0, 2] (k_sFor (k_lNo (k_aRng1 (k_aCons (k_rVar 0) k_aNil))) (k_gNm 2) (k_sDr [2] (k_sExpr (k_eMeth 1 k_mExt (k_lCons (k_eF (k_aComp (k_aRng1 (k_aCons (k_rVar 2) k_aNil)) (k_gNm 3) k_tT (k_rTup (k_aCons (k_rVar 3) (k_aCons (k_rVar 2) k_aNil))) [3])) k_lNil)))))) (k_sRet (k_eF (k_fCB k_sortedD (k_aCons (k_rVar 1) k_aNil)))))
theorem ad__law_pairs : AdS k__law_pairs w__law_pairs :=
  q_sSeq (q_sSet 1 (q_eF (q_fLst q_aNil))) (q_sSeq (q_sDr [0, 2] (q_sFor (q_lNo (q_aRng1 (q_aCons (q_rVar 0) q_aNil))) (q_gNm 2) (q_sDr [2] (q_sExpr (q_eMeth 1 q_mExt (q_lCons (q_eF (q_aComp (q_aRng1 (q_aCons (q_rVar 2) q_aNil)) (q_gNm 3) q_tT (q_rTup (q_aCons (q_rVar 3) (q_aCons (q_rVar 2) q_aNil))) [3])) q_lNil)))))) (q_sRet (q_eF (q_fCB q_sortedD (q_aCons (q_rVar 1) q_aNil)))))
noncomputable def c__law_pairs : KF := fun ds => outF [false] (k__law_pairs (env0 ds 4))
theorem u__law_pairs (x0 : D) : c__law_pairs [x0] = outF [false] (k__law_pairs [some x0, none, none, none]) := rfl
abbrev s__law_pairs : Stmt := topS 11
theorem sc__law_pairs : FnScope ["n", "found", "j", "i"] ["n"] (defScope s__law_pairs) := ⟨rfl, rfl, rfl, by decide +kernel, rfl, by decide +kernel, by decide +kernel⟩
theorem sd__law_pairs {P : Program} {w : World} {K : PySem.W.Frag} {mg : Str → Option Value} {base : Heap} (z_range : mg "range" = none) (z_sorted : mg "sorted" = none) {f : Addr} {cdv : Value} {Ar : Around} {outer : List PySem.Env} {s : Shared} {H : Hp} {E : XK}
    (hr : RoomG 0 (Ar.deeper (envOfC "_law_pairs" (defScope s__law_pairs) s.heap.objs.size f cdv))) : SndSs (bx P w K mg base ["n", "found", "j", "i"] "_law_pairs" s__law_pairs f cdv Ar outer s H E) K (wx E) (mutIx [false] 0) (defBody s__law_pairs) w__law_pairs :=
  have Sc := sc__law_pairs
  (ss_cons (sset 1 (fun _ => Sc.nd) (e_f (f_lst a_nil))) (ss_cons (s_dr [0, 2] (s_for bx_passes (by intro _; rfl) (ie_rng (by intro _; rfl) (fun _ => z_range) (a_cons (xv 0) a_nil)) (gnm 2 (fun _ => Sc.nd)) (ss_one (s_dr [2] (s_expr (e_meth 1 ok_ext (l_cons (e_f (f_comp (comp_read (own := [("i", 3)]) (i_rng1 (by intro _; rfl) (fun _ => z_range) (a_cons (xv 2) a_nil)) (gnm 3 (fun _ => Sc.nd)) ts_nil (r_tup (a_cons (xv 3) (a_cons (xv 2) a_nil)))) (by intro _; rfl) (fun _ => Sc.nd) (fun _ => blkOk_by (own := [("i", 3)]) rfl))) l_nil) (fun ta h j => pe_bm PySem.F.plainAttrs_list PySem.F.slot_list_extend PySem.F.type_list_extend mt_ext (pv 1) (h j)))))))) (ss_one (s_ret (e_f (f_callB (fun _ => c_sorted rfl hr.u80) ok_sorted (by intro _; rfl) (fun _ => z_sorted) (by decide +kernel) (a_cons (xv 1) a_nil)))))))
theorem dk__law_pairs {P : Program} {w : World} {K : PySem.W.Frag} {mg : Str → Option Value} {base : Heap} {f : Addr} {fd : FuncData} (F : L2.Fun K "_law_pairs" "_law_pairs" s__law_pairs f fd) (hmg : mg "_law_pairs" = some (.ref f)) (hb : Binds K fd ["n"] []) (z_range : mg "range" = none) (z_sorted : mg "sorted" = none) : Dk P w K mg base 1 "_law_pairs" [false] (spF c__law_pairs) :=
  dk_mk F hmg hb sc__law_pairs rfl (by decide) (fun cdv Ar outer s H E hr => sd__law_pairs z_range z_sorted hr) (fun ds P PX h hl => adF ad__law_pairs h)
noncomputable def w__law_own : WS :=
  sRet (eTup (lCons (eR (rOp ixD (rVar 0) (rCon (.int 0)))) (lCons (eR (rOp ixD (rVar 0) (rCon (.int 1)))) (lCons (eF (fCB listD (aCons (rOp ixD (rVar 0) (rCon (.int 2))) (aNil)))) (lNil)))))
noncomputable def k__law_own : KS :=
  k_sRet (k_eTup (k_lCons (k_eR (k_rOp k_ixD (k_rVar 0) (k_rCon (.int 0)))) (k_lCons (k_eR (k_rOp k_ixD (k_rVar 0) (k_rCon (.int 1)))) (k_lCons (k_eF (k_fCB k_listD (k_aCons (k_rOp k_ixD (k_rVar 0) (k_rCon (.int 2))) k_aNil))) k_lNil))))
theorem ad__law_own : AdS k__law_own w__law_own :=
  q_sRet (q_eTup (q_lCons (q_eR (q_rOp q_ixD (q_rVar 0) (q_rCon (.int 0)))) (q_lCons (q_eR (q_rOp q_ixD (q_rVar 0) (q_rCon (.int 1)))) (q_lCons (q_eF (q_fCB q_listD (q_aCons (q_rOp q_ixD (q_rVar 0) (q_rCon (.int 2))) q_aNil))) q_lNil))))
noncomputable def c__law_own : KF := fun ds => outF [false] (k__law_own (env0 ds 1))
theorem u__law_own (x0 : D) : c__law_own [x0] = outF [false] (k__law_own [some x0]) := rfl
abbrev s__law_own : Stmt := topS 14
theorem sc__law_own : FnScope ["league"] ["league"] (defScope s__law_own) := ⟨rfl, rfl, rfl, by decide +kernel, rfl, by decide +kernel, by decide +kernel⟩
theorem sd__law_own {P : Program} {w : World} {K : PySem.W.Frag} {mg : Str → Option Value} {base : Heap} (z_list : mg "list" = none) {f : Addr} {cdv : Value} {Ar : Around} {outer : List PySem.Env} {s : Shared} {H : Hp} {E : XK}
    (hr : RoomG 0 (Ar.deeper (envOfC "_law_own" (defScope s__law_own) s.heap.objs.size f cdv))) : SndSs (bx P w K mg base ["league"] "_law_own" s__law_own f cdv Ar outer s H E) K (wx E) (mutIx [false] 0) (defBody s__law_own) w__law_own :=
  have Sc := sc__law_own
  (ss_one (s_ret (e_tup (l_cons (e_r (r_ix (fun _ => ix_seq) ok_ix (xv 0) r_int (fun _ _ => rfl))) (l_cons (e_r (r_ix (fun _ => ix_seq) ok_ix (xv 0) r_int (fun _ _ => rfl))) (l_cons (e_f (f_callTy (fun _ => c_list rfl) ok_list (by intro _; rfl) (fun _ => z_list) (by decide +kernel) (a_cons (r_ix (fun _ => ix_seq) ok_ix (xv 0) r_int (fun _ _ => rfl)) a_nil))) l_nil))))))
theorem dk__law_own {P : Program} {w : World} {K : PySem.W.Frag} {mg : Str → Option Value} {base : Heap} {f : Addr} {fd : FuncData} (F : L2.Fun K "_law_own" "_law_own" s__law_own f fd) (hmg : mg "_law_own" = some (.ref f)) (hb : Binds K fd ["league"] []) (z_list : mg "list" = none) : Dk P w K mg base 1 "_law_own" [false] (spF c__law_own) :=
  dk_mk F hmg hb sc__law_own rfl (by decide) (fun cdv Ar outer s H E hr => sd__law_own z_list hr) (fun ds P PX h hl => adF ad__law_own h)
noncomputable def w__law_is_good_match : WS :=
  sSeq (sIf (bT (tOrT (tNotT (asB (rIsi' "tuple" (rVar 2)))) (asB (rOp neD (rCB lenD (aCons (rVar 2) (aNil))) (rCon (.int 3)))))) (sRet (eR (rCon (.bl false)))) (sNil)) (sSeq (sDr [2] (sUnp (gTp 3 (gsCons (gNm 3) (gsCons (gNm 4) (gsCons (gNm 5) (gsNil))))) (eZ [2] (rVar 2)))) (sSeq (sDr [1, 6] (sFor (lZ [3, 4] (asLst (rF (fLst (aCons (rVar 3) (aCons (rVar 4) (aNil))))))) (gNm 6) (sDr [6] (sIf (bT (tOrT (tNotT (asB (rIsi' "int" (rVar 6)))) (tOrT (asB (rIsi' "bool" (rVar 6))) (tNotT (asB (rChain leI ltI (rCon (.int 0)) (rVar 6) (rVar 1))))))) (sRet (eR (rCon (.bl false)))) (sNil))))) (sSeq (sDr [0] (sIf (bT (tOrT (asB (rOp geD (rVar 3) (rVar 4))) (asB (rOp isND (rVar 5) (rCon .non))))) (sRet (eR (rAnd (rOp ltD (rVar 3) (rVar 4)) (rOp eqD (rVar 0) (rCon (.str "ties")))))) (sNil))) (sRet (eR (rAnd (rIsi' "int" (rVar 5)) (rAnd (rNot (rIsi' "bool" (rVar 5))) (rOr (rOp eqD (rVar 5) (rVar 3)) (rOp eqD (rVar 5) (rVar 4))))))))))
noncomputable def k__law_is_good_match : KS :=
  k_sSeq (k_sIf (k_bT (k_tOrT (k_tNotT (k_asB (k_rIsi' "tuple" (k_rVar 2)))) (k_asB (k_rOp k_neD (k_rCB k_lenD (k_aCons (k_rVar 2) k_aNil)) (k_rCon (.int 3)))))) (k_sRet (k_eR (k_rCon (.bl false)))) k_sNil) (k_sSeq (k_sDr [2] (k_sUnp (k_gTp 3 (k_gsCons (k_gNm 3) (k_gsCons (k_gNm 4) (k_gsCons (k_gNm 5) k_gsNil)))) (k_eZ [2] (k_rVar 2)))) (k_sSeq (k_sDr [1, 6] (k_sFor (k_lZ [3, 4] (k_asLst (k_rF (k_fLst (k_aCons (k_rVar 3) (k_aCons (k_rVar 4) k_aNil)))))) (k_gNm 6) (k_sDr [6] (k_sIf (k_bT (k_tOrT (k_tNotT (k_asB (k_rIsi' "int" (k_rVar 6)))) (k_tOrT (k_asB (k_rIsi' "bool" (k_rVar 6))) (k_tNotT (k_asB (k_rChain k_leI k_ltI (k_rCon (.int 0)) (k_rVar 6) (k_rVar 1))))))) (k_sRet (k_eR (k_rCon (.bl false)))) k_sNil)))) (k_sSeq (k_sDr [0] (k_sIf (k_bT (k_tOrT (k_asB (k_rOp k_geD (k_rVar 3) (k_rVar 4))) (k_asB (k_rOp k_isND (k_rVar 5) (k_rCon .non))))) (k_sRet (k_eR (k_rAnd (k_rOp k_ltD (k_rVar 3) (k_rVar 4)) (k_rOp k_eqD (k_rVar 0) (k_rCon (.str "ties")))))) k_sNil)) (k_sRet (k_eR (k_rAnd (k_rIsi' "int" (k_rVar 5)) (k_rAnd (k_rNot (k_rIsi' "bool" (k_rVar 5))) (k_rOr (k_rOp k_eqD (k_rVar 5) (k_rVar 3)) (k_rOp k_eqD (k_rVar 5) (k_rVar 4))))))))))
theorem ad__law_is_good_match : AdS k__law_is_good_match w__law_is_good_match :=
  q_sSeq (q_sIf (q_bT (q_tOrT (q_tNotT (q_asB (q_rIsi' "tuple" (q_rVar 2)))) (q_asB (q_rOp q_neD (q_rCB q_lenD (q_aCons (q_rVar 2) q_aNil)) (q_rCon (.int 3)))))) (q_sRet (q_eR (q_rCon (.bl false)))) q_sNil) (q_sSeq (q_sDr [2] (q_sUnp (q_gTp 3 (q_gsCons (q_gNm 3) (q_gsCons (q_gNm 4) (q_gsCons (q_gNm 5) q_gsNil)))) (q_eZ [2] (q_rVar 2)))) (q_sSeq (q_sDr [1, 6] (q_sFor (q_lZ [3, 4] (q_asLst (q_rF (q_fLst (q_aCons (q_rVar 3) (q_aCons (q_rVar 4) q_aNil)))))) (q_gNm 6) (q_sDr [6] (q_sIf (q_bT (q_tOrT (q_tNotT (q_asB (q_rIsi' "int" (q_rVar 6)))) (q_tOrT (q_asB (q_rIsi' "bool" (q_rVar 6))) (q_tNotT (q_asB (q_rChain q_leI q_ltI (q_rCon (.int 0)) (q_rVar 6) (q_rVar 1))))))) (q_sRet (q_eR (q_rCon (.bl false)))) q_sNil)))) (q_sSeq (q_sDr [0] (q_sIf (q_bT (q_tOrT (q_asB (q_rOp q_geD (q_rVar 3) (q_rVar 4))) (q_asB (q_rOp q_isND (q_rVar 5) (q_rCon .non))))) (q_sRet (q_eR (q_rAnd (q_rOp q_ltD (q_rVar 3) (q_rVar 4)) (q_rOp q_eqD (q_rVar 0) (q_rCon (.str "ties")))))) q_sNil)) (q_sRet (q_eR (q_rAnd (q_rIsi' "int" (q_rVar 5)) (q_rAnd (q_rNot (q_rIsi' "bool" (q_rVar 5))) (q_rOr (q_rOp q_eqD (q_rVar 5) (q_rVar 3)) (q_rOp q_eqD (q_rVar 5) (q_rVar 4))))))))))
noncomputable def c__law_is_good_match : KF := fun ds => outF [false, false, false] (k__law_is_good_match (env0 ds 7))
theorem u__law_is_good_match (x0 x1 x2 : D) : c__law_is_good_match [x0, x1, x2] = outF [false, false, false] (k__law_is_good_match [some x0, some x1, some x2, none, none, none, none]) := rfl
abbrev s__law_is_good_match : Stmt := topS 18
theorem sc__law_is_good_match : FnScope ["kind", "n", "match", "i", "j", "w", "one"] ["kind", "n", "match"] (defScope s__law_is_good_match) := ⟨rfl, rfl, rfl, by decide +kernel, rfl, by decide +kernel, by decide +kernel⟩
theorem sd__law_is_good_match {P : Program} {w : World} {K : PySem.W.Frag} {mg : Str → Option Value} {base : Heap} (z_isinstance : mg "isinstance" = none) (z_tuple : mg "tuple" = none) (z_len : mg "len" = none) (z_int : mg "int" = none) (z_bool : mg "bool" = none) {f : Addr} {cdv : Value} {Ar : Around} {outer : List PySem.Env} {s : Shared} {H : Hp} {E : XK}
    (hr : RoomG 0 (Ar.deeper (envOfC "_law_is_good_match" (defScope s__law_is_good_match) s.heap.objs.size f cdv))) : SndSs (bx P w K mg base ["kind", "n", "match", "i", "j", "w", "one"] "_law_is_good_match" s__law_is_good_match f cdv Ar outer s H E) K (wx E) (mutIx [false, false, false] 0) (defBody s__law_is_good_match) w__law_is_good_match :=
  have Sc := sc__law_is_good_match
  (ss_cons (s_if (b_t (t_w (w_or (t_not (t_val (r_isi (by intro _; rfl) (xv 2) rfl (by intro _; rfl) (fun _ => z_isinstance) (by decide +kernel) (by intro _; rfl) (fun _ => z_tuple) (by decide +kernel) (by decide)))) (w_or1 (t_cmp (fun _ => op_neD hr.u64) ok_ne (r_callB (fun _ => c_len rfl) ok_len (by intro _; rfl) (fun _ => z_len) (by decide +kernel) (a_cons (xv 2) a_nil)) r_int (nomark _)))))) (ss_one (s_ret (e_r r_bl))) ss_nil) (ss_cons (s_dr [2] (s_unp (e_z [2] (xv 2)) (g_tup (by intro _; rfl) (gs_cons (gnm 3 (fun _ => Sc.nd)) (gs_cons (gnm 4 (fun _ => Sc.nd)) (gs_cons (gnm 5 (fun _ => Sc.nd)) gs_nil (fun t u h1 h2 j => pgs_cons (h1 j) (h2 j))) (fun t u h1 h2 j => pgs_cons (h1 j) (h2 j))) (fun t u h1 h2 j => pgs_cons (h1 j) (h2 j))) (fun u h j => pg_tup rfl (h j))) (fun t u h1 h2 j => ps_asg (h1 j) (h2 j)))) (ss_cons (s_dr [1, 6] (s_for bx_passes (by intro _; rfl) (ie_z [3, 4] (i_list (by intro _; rfl) (r_f (f_lst (a_cons (xv 3) (a_cons (xv 4) a_nil)))))) (gnm 6 (fun _ => Sc.nd)) (ss_one (s_dr [6] (s_if (b_t (t_w (w_or (t_not (t_val (r_isi (by intro _; rfl) (xv 6) rfl (by intro _; rfl) (fun _ => z_isinstance) (by decide +kernel) (by intro _; rfl) (fun _ => z_int) (by decide +kernel) (by decide)))) (w_or (t_val (r_isi (by intro _; rfl) (xv 6) rfl (by intro _; rfl) (fun _ => z_isinstance) (by decide +kernel) (by intro _; rfl) (fun _ => z_bool) (by decide +kernel) (by decide))) (w_or1 (t_not (t_chain (fun _ => op_le) (fun _ => op_lt) ok_le1 ok_lt1 r_int (xv 6) (xv 1)))))))) (ss_one (s_ret (e_r r_bl))) ss_nil))))) (ss_cons (s_dr [0] (s_if (b_t (t_w (w_or (t_cmp (fun _ => op_geA rfl hr.units0) ok_ord (xv 3) (xv 4) (nomark _)) (w_or1 (t_cmp (fun _ => op_isA) ok_is (xv 5) r_non (nomark _)))))) (ss_one (s_ret (e_r (r_and (r_cmp (fun _ => op_ltA rfl hr.units0) ok_ord (xv 3) (xv 4) (nomark _)) (r_one (r_cmp (fun _ => op_eqD hr.u64) ok_eq (xv 0) r_str (nomark _))))))) ss_nil)) (ss_one (s_ret (e_r (r_and (r_isi (by intro _; rfl) (xv 5) rfl (by intro _; rfl) (fun _ => z_isinstance) (by decide +kernel) (by intro _; rfl) (fun _ => z_int) (by decide +kernel) (by decide)) (r_and (r_not (r_isi (by intro _; rfl) (xv 5) rfl (by intro _; rfl) (fun _ => z_isinstance) (by decide +kernel) (by intro _; rfl) (fun _ => z_bool) (by decide +kernel) (by decide))) (r_one (r_or (r_cmp (fun _ => op_eqD hr.u64) ok_eq (xv 5) (xv 3) (nomark _)) (r_one (r_cmp (fun _ => op_eqD hr.u64) ok_eq (xv 5) (xv 4) (nomark _))))))))))))))
theorem dk__law_is_good_match {P : Program} {w : World} {K : PySem.W.Frag} {mg : Str → Option Value} {base : Heap} {f : Addr} {fd : FuncData} (F : L2.Fun K "_law_is_good_match" "_law_is_good_match" s__law_is_good_match f fd) (hmg : mg "_law_is_good_match" = some (.ref f)) (hb : Binds K fd ["kind", "n", "match"] []) (z_isinstance : mg "isinstance" = none) (z_tuple : mg "tuple" = none) (z_len : mg "len" = none) (z_int : mg "int" = none) (z_bool : mg "bool" = none) : Dk P w K mg base 1 "_law_is_good_match" [false, false, false] (spF c__law_is_good_match) :=
  dk_mk F hmg hb sc__law_is_good_match rfl (by decide) (fun cdv Ar outer s H E hr => sd__law_is_good_match z_isinstance z_tuple z_len z_int z_bool hr) (fun ds P PX h hl => adF ad__law_is_good_match h)
noncomputable def w_is_player : WS :=
  sRet (eR (rAnd (rCall (spF c_is_whole) 1 (aCons (rVar 1) (aNil))) (rChain leI ltI (rCon (.int 0)) (rVar 1) (rVar 0))))
noncomputable def k_is_player : KS :=
  k_sRet (k_eR (k_rAnd (k_rCall c_is_whole 1 (k_aCons (k_rVar 1) k_aNil)) (k_rChain k_leI k_ltI (k_rCon (.int 0)) (k_rVar 1) (k_rVar 0))))
theorem ad_is_player : AdS k_is_player w_is_player :=
  q_sRet (q_eR (q_rAnd (q_rCall c_is_whole 1 (q_aCons (q_rVar 1) q_aNil)) (q_rChain q_leI q_ltI (q_rCon (.int 0)) (q_rVar 1) (q_rVar 0))))
noncomputable def c_is_player : KF := fun ds => outF [false, false] (k_is_player (env0 ds 2))
theorem u_is_player (x0 x1 : D) : c_is_player [x0, x1] = outF [false, false] (k_is_player [some x0, some x1]) := rfl
abbrev s_is_player : Stmt := topS 5
theorem sc_is_player : FnScope ["n", "thing"] ["n", "thing"] (defScope s_is_player) := ⟨rfl, rfl, rfl, by decide +kernel, rfl, by decide +kernel, by decide +kernel⟩
theorem sd_is_player {P : Program} {w : World} {K : PySem.W.Frag} {mg : Str → Option Value} {base : Heap} (D_is_whole : Dk P w K mg base 1 "is_whole" [false] (spF c_is_whole)) {f : Addr} {cdv : Value} {Ar : Around} {outer : List PySem.Env} {s : Shared} {H : Hp} {E : XK}
    (hr : RoomG 1 (Ar.deeper (envOfC "is_player" (defScope s_is_player) s.heap.objs.size f cdv))) : SndSs (bx P w K mg base ["n", "thing"] "is_player" s_is_player f cdv Ar outer s H E) K (wx E) (mutIx [false, false] 0) (defBody s_is_player) w_is_player :=
  have Sc := sc_is_player
  (ss_one (s_ret (e_r (r_and (r_call (D_is_whole.df hr) (by intro _; rfl) (a_cons (xv 1) a_nil)) (r_one (r_chain (fun _ => op_le) (fun _ => op_lt) ok_le1 ok_lt1 r_int (xv 1) (xv 0)))))))
theorem dk_is_player {P : Program} {w : World} {K : PySem.W.Frag} {mg : Str → Option Value} {base : Heap} {f : Addr} {fd : FuncData} (F : L2.Fun K "is_player" "is_player" s_is_player f fd) (hmg : mg "is_player" = some (.ref f)) (hb : Binds K fd ["n", "thing"] []) (D_is_whole : Dk P w K mg base 1 "is_whole" [false] (spF c_is_whole)) : Dk P w K mg base 2 "is_player" [false, false] (spF c_is_player) :=
  dk_mk F hmg hb sc_is_player rfl (by decide) (fun cdv Ar outer s H E hr => sd_is_player D_is_whole hr) (fun ds P PX h hl => adF ad_is_player h)
noncomputable def w__law_outcome : WS :=
  sRet (eOp ixD (eF (fLst (aCons (rVar 2) (aCons (rVar 3) (aCons (rOp ixD (rF (fLst (aCons (rCon .non) (aCons (rVar 2) (aNil))))) (rCB intD (aCons (rOp eqD (rVar 1) (rCon (.str "plain"))) (aNil)))) (aNil)))))) (eCallMR (spF c__law_draw) [some 0, none] (aCons (rCon (.int 3)) (aNil))))
noncomputable def k__law_outcome : KS :=
  k_sRet (k_eOp k_ixD (k_eF (k_fLst (k_aCons (k_rVar 2) (k_aCons (k_rVar 3) (k_aCons (k_rOp k_ixD (k_rF (k_fLst (k_aCons (k_rCon .non) (k_aCons (k_rVar 2) k_aNil)))) (k_rCB k_intD (k_aCons (k_rOp k_eqD (k_rVar 1) (k_rCon (.str "plain"))) k_aNil))) k_aNil))))) (k_eCallMR c__law_draw [some 0, none] (k_aCons (k_rCon (.int 3)) k_aNil)))
theorem ad__law_outcome : AdS k__law_outcome w__law_outcome :=
  q_sRet (q_eOp q_ixD (q_eF (q_fLst (q_aCons (q_rVar 2) (q_aCons (q_rVar 3) (q_aCons (q_rOp q_ixD (q_rF (q_fLst (q_aCons (q_rCon .non) (q_aCons (q_rVar 2) q_aNil)))) (q_rCB q_intD (q_aCons (q_rOp q_eqD (q_rVar 1) (q_rCon (.str "plain"))) q_aNil))) q_aNil))))) (q_eCallMR c__law_draw [some 0, none] (q_aCons (q_rCon (.int 3)) q_aNil)))
noncomputable def c__law_outcome : KF := fun ds => outF [true, false, false, false] (k__law_outcome (env0 ds 4))
theorem u__law_outcome (x0 x1 x2 x3 : D) : c__law_outcome [x0, x1, x2, x3] = outF [true, false, false, false] (k__law_outcome [some x0, some x1, some x2, some x3]) := rfl
abbrev s__law_outcome : Stmt := topS 12
theorem sc__law_outcome : FnScope ["deck", "kind", "i", "j"] ["deck", "kind", "i", "j"] (defScope s__law_outcome) := ⟨rfl, rfl, rfl, by decide +kernel, rfl, by decide +kernel, by decide +kernel⟩
theorem sd__law_outcome {P : Program} {w : World} {K : PySem.W.Frag} {mg : Str → Option Value} {base : Heap} (z_int : mg "int" = none) (D__law_draw : Dk P w K mg base 1 "_law_draw" [true, false] (spF c__law_draw)) {f : Addr} {cdv : Value} {Ar : Around} {outer : List PySem.Env} {s : Shared} {H : Hp} {E : XK}
    (hr : RoomG 1 (Ar.deeper (envOfC "_law_outcome" (defScope s__law_outcome) s.heap.objs.size f cdv))) : SndSs (bx P w K mg base ["deck", "kind", "i", "j"] "_law_outcome" s__law_outcome f cdv Ar outer s H E) K (wx E) (mutIx [true, false, false, false] 0) (defBody s__law_outcome) w__law_outcome :=
  have Sc := sc__law_outcome
  (ss_one (s_ret (e_ix (fun _ => ix_seq) ok_ix (e_f (f_lst (a_cons (xv 2) (a_cons (xv 3) (a_cons (r_ix (fun _ => ix_seq) ok_ix (r_f (f_lst (a_cons r_non (a_cons (xv 2) a_nil)))) (r_callTy (fun _ => call_int1) ok_int (by intro _; rfl) (fun _ => z_int) (by decide +kernel) (a_cons (r_cmp (fun _ => op_eqD hr.u64) ok_eq (xv 1) r_str (nomark _)) a_nil)) (fun _ _ => rfl)) a_nil))))) (e_callMR bx_takes (D__law_draw.df hr) (by intro _; rfl) (mr_mut 0 (mr_val r_int mr_nil))) (fun _ _ => rfl))))
theorem dk__law_outcome {P : Program} {w : World} {K : PySem.W.Frag} {mg : Str → Option Value} {base : Heap} {f : Addr} {fd : FuncData} (F : L2.Fun K "_law_outcome" "_law_outcome" s__law_outcome f fd) (hmg : mg "_law_outcome" = some (.ref f)) (hb : Binds K fd ["deck", "kind", "i", "j"] []) (z_int : mg "int" = none) (D__law_draw : Dk P w K mg base 1 "_law_draw" [true, false] (spF c__law_draw)) : Dk P w K mg base 2 "_law_outcome" [true, false, false, false] (spF c__law_outcome) :=
  dk_mk F hmg hb sc__law_outcome rfl (by decide) (fun cdv Ar outer s H E hr => sd__law_outcome z_int D__law_draw hr) (fun ds P PX h hl => adF ad__law_outcome h)
noncomputable def w__law_no_match : WS :=
  sSeq (sDr [3] (sUnp (gTp 3 (gsCons (gNm 4) (gsCons (gNm 5) (gsCons (gNm 6) (gsNil))))) (eZ [3] (rVar 3)))) (sSeq (sSet 7 (eLst (lCons (eZ [4, 5, 6] (rTup (aCons (rVar 5) (aCons (rVar 4) (aCons (rVar 6) (aNil)))))) (lCons (eZ [4, 6] (rTup (aCons (rVar 4) (aCons (rVar 4) (aCons (rVar 6) (aNil)))))) (lCons (eR (rTup (aCons (rVar 4) (aCons (rVar 5) (aCons (rVar 2) (aNil)))))) (lCons (eR (rTup (aCons (rVar 4) (aCons (rVar 5) (aCons (rNeg (rCon (.int 1))) (aNil)))))) (lCons (eR (rTup (aCons (rVar 4) (aCons (rVar 2) (aCons (rVar 4) (aNil)))))) (lCons (eR (rTup (aCons (rNeg (rCon (.int 1))) (aCons (rVar 5) (aCons (rVar 5) (aNil)))))) (lCons (eR (rTup (aCons (rVar 4) (aCons (rVar 5) (aNil))))) (lCons (eZ [4, 5, 6] (rTup (aCons (rVar 4) (aCons (rVar 5) (aCons (rVar 6) (aCons (rCon (.int 0)) (aNil))))))) (lCons (eFZ [4, 5, 6] (fLst (aCons (rVar 4) (aCons (rVar 5) (aCons (rVar 6) (aNil)))))) (lCons (eR (rCon .non)) (lNil))))))))))))) (sSeq (sSet 7 (eFZ [4, 5, 7] (fCat (rVar 7) (rF (fLst (aCons (rTup (aCons (rVar 4) (aCons (rVar 5) (aCons (rCon .non) (aNil))))) (aCons (rTup (aCons (rVar 4) (aCons (rVar 5) (aCons (rCon (.bl true)) (aNil))))) (aCons (rTup (aCons (rVar 4) (aCons (rVar 5) (aCons (rCon (.bl false)) (aNil))))) (aCons (rTup (aCons (rCon (.bl true)) (aCons (rVar 5) (aCons (rVar 5) (aNil))))) (aCons (rTup (aCons (rVar 4) (aCons (rCon (.bl true)) (aCons (rVar 4) (aNil))))) (aCons (rTup (aCons (rCon (.bl false)) (aCons (rVar 5) (aCons (rVar 5) (aNil))))) (aCons (rTup (aCons (rVar 4) (aCons (rVar 5) (aCons (rCon (.str "0")) (aNil))))) (aNil))))))))))))) (sSeq (sDr [6] (sSet 7 (eFZ [4, 5, 6, 7] (fCat (rVar 7) (rF (fLst (aCons (rTup (aCons (rVar 4) (aCons (rVar 5) (aCons (rF (fLst (aCons (rVar 4) (aNil)))) (aNil))))) (aCons (rTup (aCons (rCB strD (aCons (rVar 4) (aNil))) (aCons (rVar 5) (aCons (rVar 5) (aNil))))) (aCons (rTup (aCons (rVar 4) (aCons (rCon .non) (aCons (rVar 4) (aNil))))) (aCons (rCon (.str "")) (aCons (rCon (.int 7)) (aCons (rDNew) (aCons (rTup (aNil)) (aCons (rTup (aCons (rTup (aCons (rVar 4) (aCons (rVar 5) (aNil)))) (aCons (rVar 6) (aNil)))) (aCons (rTup (aCons (rVar 4) (aCons (rVar 5) (aCons (rTup (aCons (rVar 6) (aNil))) (aNil))))) (aCons (rTup (aCons (rVar 4) (aCons (rVar 5) (aCons (rDNew) (aNil))))) (aNil))))))))))))))))) (sSeq (sDr [2] (sSet 8 (eCallMR (spF c__law_draw) [some 0, none] (aCons (rVar 2) (aNil))))) (sRet (eOp ixD (eFZ [4, 5, 7, 8] (fCat (rVar 7) (rF (fLst (aCons (rTup (aCons (rVar 4) (aCons (rVar 5) (aCons (rVar 8) (aNil))))) (aCons (rTup (aCons (rVar 4) (aCons (rVar 8) (aCons (rVar 4) (aNil))))) (aCons (rTup (aCons (rVar 8) (aCons (rVar 5) (aCons (rVar 5) (aNil))))) (aNil)))))))) (eCallMR (spF c__law_draw) [some 0, none] (aCons (rCon (.int 30)) (aNil)))))))))
noncomputable def k__law_no_match : KS :=
  k_sSeq (k_sDr [3] (k_sUnp (k_gTp 3 (k_gsCons (k_gNm 4) (k_gsCons (k_gNm 5) (k_gsCons (k_gNm 6) k_gsNil)))) (k_eZ [3] (k_rVar 3)))) (k_sSeq (k_sSet 7 (k_eLst (k_lCons (k_eZ [4, 5, 6] (k_rTup (k_aCons (k_rVar 5) (k_aCons (k_rVar 4) (k_aCons (k_rVar 6) k_aNil))))) (k_lCons (k_eZ [4, 6] (k_rTup (k_aCons (k_rVar 4) (k_aCons (k_rVar 4) (k_aCons (k_rVar 6) k_aNil))))) (k_lCons (k_eR (k_rTup (k_aCons (k_rVar 4) (k_aCons (k_rVar 5) (k_aCons (k_rVar 2) k_aNil))))) (k_lCons (k_eR (k_rTup (k_aCons (k_rVar 4) (k_aCons (k_rVar 5) (k_aCons (k_rNeg (k_rCon (.int 1))) k_aNil))))) (k_lCons (k_eR (k_rTup (k_aCons (k_rVar 4) (k_aCons (k_rVar 2) (k_aCons (k_rVar 4) k_aNil))))) (k_lCons (k_eR (k_rTup (k_aCons (k_rNeg (k_rCon (.int 1))) (k_aCons (k_rVar 5) (k_aCons (k_rVar 5) k_aNil))))) (k_lCons (k_eR (k_rTup (k_aCons (k_rVar 4) (k_aCons (k_rVar 5) k_aNil)))) (k_lCons (k_eZ [4, 5, 6] (k_rTup (k_aCons (k_rVar 4) (k_aCons (k_rVar 5) (k_aCons (k_rVar 6) (k_aCons (k_rCon (.int 0)) k_aNil)))))) (k_lCons (k_eFZ [4, 5, 6] (k_fLst (k_aCons (k_rVar 4) (k_aCons (k_rVar 5) (k_aCons (k_rVar 6) k_aNil))))) (k_lCons (k_eR (k_rCon .non)) k_lNil)))))))))))) (k_sSeq (k_sSet 7 (k_eFZ [4, 5, 7] (k_fCat (k_rVar 7) (k_rF (k_fLst (k_aCons (k_rTup (k_aCons (k_rVar 4) (k_aCons (k_rVar 5) (k_aCons (k_rCon .non) k_aNil)))) (k_aCons (k_rTup (k_aCons (k_rVar 4) (k_aCons (k_rVar 5) (k_aCons (k_rCon (.bl true)) k_aNil)))) (k_aCons (k_rTup (k_aCons (k_rVar 4) (k_aCons (k_rVar 5) (k_aCons (k_rCon (.bl false)) k_aNil)))) (k_aCons (k_rTup (k_aCons (k_rCon (.bl true)) (k_aCons (k_rVar 5) (k_aCons (k_rVar 5) k_aNil)))) (k_aCons (k_rTup (k_aCons (k_rVar 4) (k_aCons (k_rCon (.bl true)) (k_aCons (k_rVar 4) k_aNil)))) (k_aCons (k_rTup (k_aCons (k_rCon (.bl false)) (k_aCons (k_rVar 5) (k_aCons (k_rVar 5) k_aNil)))) (k_aCons (k_rTup (k_aCons (k_rVar 4) (k_aCons (k_rVar 5) (k_aCons (k_rCon (.str "0")) k_aNil)))) k_aNil)))))))))))) (k_sSeq (k_sDr [6] (k_sSet 7 (k_eFZ [4, 5, 6, 7] (k_fCat (k_rVar 7) (k_rF (k_fLst (k_aCons (k_rTup (k_aCons (k_rVar 4) (k_aCons (k_rVar 5) (k_aCons (k_rF (k_fLst (k_aCons (k_rVar 4) k_aNil))) k_aNil)))) (k_aCons (k_rTup (k_aCons (k_rCB k_strD (k_aCons (k_rVar 4) k_aNil)) (k_aCons (k_rVar 5) (k_aCons (k_rVar 5) k_aNil)))) (k_aCons (k_rTup (k_aCons (k_rVar 4) (k_aCons (k_rCon .non) (k_aCons (k_rVar 4) k_aNil)))) (k_aCons (k_rCon (.str "")) (k_aCons (k_rCon (.int 7)) (k_aCons k_rDNew (k_aCons (k_rTup k_aNil) (k_aCons (k_rTup (k_aCons (k_rTup (k_aCons (k_rVar 4) (k_aCons (k_rVar 5) k_aNil))) (k_aCons (k_rVar 6) k_aNil))) (k_aCons (k_rTup (k_aCons (k_rVar 4) (k_aCons (k_rVar 5) (k_aCons (k_rTup (k_aCons (k_rVar 6) k_aNil)) k_aNil)))) (k_aCons (k_rTup (k_aCons (k_rVar 4) (k_aCons (k_rVar 5) (k_aCons k_rDNew k_aNil)))) k_aNil)))))))))))))))) (k_sSeq (k_sDr [2] (k_sSet 8 (k_eCallMR c__law_draw [some 0, none] (k_aCons (k_rVar 2) k_aNil)))) (k_sRet (k_eOp k_ixD (k_eFZ [4, 5, 7, 8] (k_fCat (k_rVar 7) (k_rF (k_fLst (k_aCons (k_rTup (k_aCons (k_rVar 4) (k_aCons (k_rVar 5) (k_aCons (k_rVar 8) k_aNil)))) (k_aCons (k_rTup (k_aCons (k_rVar 4) (k_aCons (k_rVar 8) (k_aCons (k_rVar 4) k_aNil)))) (k_aCons (k_rTup (k_aCons (k_rVar 8) (k_aCons (k_rVar 5) (k_aCons (k_rVar 5) k_aNil)))) k_aNil))))))) (k_eCallMR c__law_draw [some 0, none] (k_aCons (k_rCon (.int 30)) k_aNil))))))))
theorem ad__law_no_match : AdS k__law_no_match w__law_no_match :=
  q_sSeq (q_sDr [3] (q_sUnp (q_gTp 3 (q_gsCons (q_gNm 4) (q_gsCons (q_gNm 5) (q_gsCons (q_gNm 6) q_gsNil)))) (q_eZ [3] (q_rVar 3)))) (q_sSeq (q_sSet 7 (q_eLst (q_lCons (q_eZ [4, 5, 6] (q_rTup (q_aCons (q_rVar 5) (q_aCons (q_rVar 4) (q_aCons (q_rVar 6) q_aNil))))) (q_lCons (q_eZ [4, 6] (q_rTup (q_aCons (q_rVar 4) (q_aCons (q_rVar 4) (q_aCons (q_rVar 6) q_aNil))))) (q_lCons (q_eR (q_rTup (q_aCons (q_rVar 4) (q_aCons (q_rVar 5) (q_aCons (q_rVar 2) q_aNil))))) (q_lCons (q_eR (q_rTup (q_aCons (q_rVar 4) (q_aCons (q_rVar 5) (q_aCons (q_rNeg (q_rCon (.int 1))) q_aNil))))) (q_lCons (q_eR (q_rTup (q_aCons (q_rVar 4) (q_aCons (q_rVar 2) (q_aCons (q_rVar 4) q_aNil))))) (q_lCons (q_eR (q_rTup (q_aCons (q_rNeg (q_rCon (.int 1))) (q_aCons (q_rVar 5) (q_aCons (q_rVar 5) q_aNil))))) (q_lCons (q_eR (q_rTup (q_aCons (q_rVar 4) (q_aCons (q_rVar 5) q_aNil)))) (q_lCons (q_eZ [4, 5, 6] (q_rTup (q_aCons (q_rVar 4) (q_aCons (q_rVar 5) (q_aCons (q_rVar 6) (q_aCons (q_rCon (.int 0)) q_aNil)))))) (q_lCons (q_eFZ [4, 5, 6] (q_fLst (q_aCons (q_rVar 4) (q_aCons (q_rVar 5) (q_aCons (q_rVar 6) q_aNil))))) (q_lCons (q_eR (q_rCon .non)) q_lNil)))))))))))) (q_sSeq (q_sSet 7 (q_eFZ [4, 5, 7] (q_fCat (q_rVar 7) (q_rF (q_fLst (q_aCons (q_rTup (q_aCons (q_rVar 4) (q_aCons (q_rVar 5) (q_aCons (q_rCon .non) q_aNil)))) (q_aCons (q_rTup (q_aCons (q_rVar 4) (q_aCons (q_rVar 5) (q_aCons (q_rCon (.bl true)) q_aNil)))) (q_aCons (q_rTup (q_aCons (q_rVar 4) (q_aCons (q_rVar 5) (q_aCons (q_rCon (.bl false)) q_aNil)))) (q_aCons (q_rTup (q_aCons (q_rCon (.bl true)) (q_aCons (q_rVar 5) (q_aCons (q_rVar 5) q_aNil)))) (q_aCons (q_rTup (q_aCons (q_rVar 4) (q_aCons (q_rCon (.bl true)) (q_aCons (q_rVar 4) q_aNil)))) (q_aCons (q_rTup (q_aCons (q_rCon (.bl false)) (q_aCons (q_rVar 5) (q_aCons (q_rVar 5) q_aNil)))) (q_aCons (q_rTup (q_aCons (q_rVar 4) (q_aCons (q_rVar 5) (q_aCons (q_rCon (.str "0")) q_aNil)))) q_aNil)))))))))))) (q_sSeq (q_sDr [6] (q_sSet 7 (q_eFZ [4, 5, 6, 7] (q_fCat (q_rVar 7) (q_rF (q_fLst (q_aCons (q_rTup (q_aCons (q_rVar 4) (q_aCons (q_rVar 5) (q_aCons (q_rF (q_fLst (q_aCons (q_rVar 4) q_aNil))) q_aNil)))) (q_aCons (q_rTup (q_aCons (q_rCB q_strD (q_aCons (q_rVar 4) q_aNil)) (q_aCons (q_rVar 5) (q_aCons (q_rVar 5) q_aNil)))) (q_aCons (q_rTup (q_aCons (q_rVar 4) (q_aCons (q_rCon .non) (q_aCons (q_rVar 4) q_aNil)))) (q_aCons (q_rCon (.str "")) (q_aCons (q_rCon (.int 7)) (q_aCons q_rDNew (q_aCons (q_rTup q_aNil) (q_aCons (q_rTup (q_aCons (q_rTup (q_aCons (q_rVar 4) (q_aCons (q_rVar 5) q_aNil))) (q_aCons (q_rVar 6) q_aNil))) (q_aCons (q_rTup (q_aCons (q_rVar 4) (q_aCons (q_rVar 5) (q_aCons (q_rTup (q_aCons (q_rVar 6) q_aNil)) q_aNil)))) (q_aCons (q_rTup (q_aCons (q_rVar 4) (q_aCons (q_rVar 5) (q_aCons q_rDNew q_aNil)))) q_aNil)))))))))))))))) (q_sSeq (q_sDr [2] (q_sSet 8 (q_eCallMR c__law_draw [some 0, none] (q_aCons (q_rVar 2) q_aNil)))) (q_sRet (q_eOp q_ixD (q_eFZ [4, 5, 7, 8] (q_fCat (q_rVar 7) (q_rF (q_fLst (q_aCons (q_rTup (q_aCons (q_rVar 4) (q_aCons (q_rVar 5) (q_aCons (q_rVar 8) q_aNil)))) (q_aCons (q_rTup (q_aCons (q_rVar 4) (q_aCons (q_rVar 8) (q_aCons (q_rVar 4) q_aNil)))) (q_aCons (q_rTup (q_aCons (q_rVar 8) (q_aCons (q_rVar 5) (q_aCons (q_rVar 5) q_aNil)))) q_aNil))))))) (q_eCallMR c__law_draw [some 0, none] (q_aCons (q_rCon (.int 30)) q_aNil))))))))
noncomputable def c__law_no_match : KF := fun ds => outF [true, false, false, false] (k__law_no_match (env0 ds 9))
theorem u__law_no_match (x0 x1 x2 x3 : D) : c__law_no_match [x0, x1, x2, x3] = outF [true, false, false, false] (k__law_no_match [some x0, some x1, some x2, some x3, none, none, none, none, none]) := rfl
abbrev s__law_no_match : Stmt := topS 15
theorem sc__law_no_match : FnScope ["deck", "kind", "n", "match", "i", "j", "w", "some", "third"] ["deck", "kind", "n", "match"] (defScope s__law_no_match) := ⟨rfl, rfl, rfl, by decide +kernel, rfl, by decide +kernel, by decide +kernel⟩
theorem sd__law_no_match {P : Program} {w : World} {K : PySem.W.Frag} {mg : Str → Option Value} {base : Heap} (z_str : mg "str" = none) (D__law_draw : Dk P w K mg base 1 "_law_draw" [true, false] (spF c__law_draw)) {f : Addr} {cdv : Value} {Ar : Around} {outer : List PySem.Env} {s : Shared} {H : Hp} {E : XK}
    (hr : RoomG 1 (Ar.deeper (envOfC "_law_no_match" (defScope s__law_no_match) s.heap.objs.size f cdv))) : SndSs (bx P w K mg base ["deck", "kind", "n", "match", "i", "j", "w", "some", "third"] "_law_no_match" s__law_no_match f cdv Ar outer s H E) K (wx E) (mutIx [true, false, false, false] 0) (defBody s__law_no_match) w__law_no_match :=
  have Sc := sc__law_no_match
  (ss_cons (s_dr [3] (s_unp (e_z [3] (xv 3)) (g_tup (by intro _; rfl) (gs_cons (gnm 4 (fun _ => Sc.nd)) (gs_cons (gnm 5 (fun _ => Sc.nd)) (gs_cons (gnm 6 (fun _ => Sc.nd)) gs_nil (fun t u h1 h2 j => pgs_cons (h1 j) (h2 j))) (fun t u h1 h2 j => pgs_cons (h1 j) (h2 j))) (fun t u h1 h2 j => pgs_cons (h1 j) (h2 j))) (fun u h j => pg_tup rfl (h j))) (fun t u h1 h2 j => ps_asg (h1 j) (h2 j)))) (ss_cons (sset 7 (fun _ => Sc.nd) (e_lst (l_cons (e_z [4, 5, 6] (r_tup (a_cons (xv 5) (a_cons (xv 4) (a_cons (xv 6) a_nil))))) (l_cons (e_z [4, 6] (r_tup (a_cons (xv 4) (a_cons (xv 4) (a_cons (xv 6) a_nil))))) (l_cons (e_r (r_tup (a_cons (xv 4) (a_cons (xv 5) (a_cons (xv 2) a_nil))))) (l_cons (e_r (r_tup (a_cons (xv 4) (a_cons (xv 5) (a_cons (r_neg r_int) a_nil))))) (l_cons (e_r (r_tup (a_cons (xv 4) (a_cons (xv 2) (a_cons (xv 4) a_nil))))) (l_cons (e_r (r_tup (a_cons (r_neg r_int) (a_cons (xv 5) (a_cons (xv 5) a_nil))))) (l_cons (e_r (r_tup (a_cons (xv 4) (a_cons (xv 5) a_nil)))) (l_cons (e_z [4, 5, 6] (r_tup (a_cons (xv 4) (a_cons (xv 5) (a_cons (xv 6) (a_cons r_int a_nil)))))) (l_cons (e_fz [4, 5, 6] (f_lst (a_cons (xv 4) (a_cons (xv 5) (a_cons (xv 6) a_nil))))) (l_cons (e_r r_non) l_nil)))))))))))) (ss_cons (sset 7 (fun _ => Sc.nd) (e_fz [4, 5, 7] (f_cat (xv 7) (r_f (f_lst (a_cons (r_tup (a_cons (xv 4) (a_cons (xv 5) (a_cons r_non a_nil)))) (a_cons (r_tup (a_cons (xv 4) (a_cons (xv 5) (a_cons r_bl a_nil)))) (a_cons (r_tup (a_cons (xv 4) (a_cons (xv 5) (a_cons r_bl a_nil)))) (a_cons (r_tup (a_cons r_bl (a_cons (xv 5) (a_cons (xv 5) a_nil)))) (a_cons (r_tup (a_cons (xv 4) (a_cons r_bl (a_cons (xv 4) a_nil)))) (a_cons (r_tup (a_cons r_bl (a_cons (xv 5) (a_cons (xv 5) a_nil)))) (a_cons (r_tup (a_cons (xv 4) (a_cons (xv 5) (a_cons r_str a_nil)))) a_nil)))))))))))) (ss_cons (s_dr [6] (sset 7 (fun _ => Sc.nd) (e_fz [4, 5, 6, 7] (f_cat (xv 7) (r_f (f_lst (a_cons (r_tup (a_cons (xv 4) (a_cons (xv 5) (a_cons (r_f (f_lst (a_cons (xv 4) a_nil))) a_nil)))) (a_cons (r_tup (a_cons (r_callTy (fun _ => c_strI) ok_strD (by intro _; rfl) (fun _ => z_str) (by decide +kernel) (a_cons (xv 4) a_nil)) (a_cons (xv 5) (a_cons (xv 5) a_nil)))) (a_cons (r_tup (a_cons (xv 4) (a_cons r_non (a_cons (xv 4) a_nil)))) (a_cons r_str (a_cons r_int (a_cons r_dnew (a_cons (r_tup a_nil) (a_cons (r_tup (a_cons (r_tup (a_cons (xv 4) (a_cons (xv 5) a_nil))) (a_cons (xv 6) a_nil))) (a_cons (r_tup (a_cons (xv 4) (a_cons (xv 5) (a_cons (r_tup (a_cons (xv 6) a_nil)) a_nil)))) (a_cons (r_tup (a_cons (xv 4) (a_cons (xv 5) (a_cons r_dnew a_nil)))) a_nil)))))))))))))))) (ss_cons (s_dr [2] (sset 8 (fun _ => Sc.nd) (e_callMR bx_takes (D__law_draw.df hr) (by intro _; rfl) (mr_mut 0 (mr_val (xv 2) mr_nil))))) (ss_one (s_ret (e_ix (fun _ => ix_seq) ok_ix (e_fz [4, 5, 7, 8] (f_cat (xv 7) (r_f (f_lst (a_cons (r_tup (a_cons (xv 4) (a_cons (xv 5) (a_cons (xv 8) a_nil)))) (a_cons (r_tup (a_cons (xv 4) (a_cons (xv 8) (a_cons (xv 4) a_nil)))) (a_cons (r_tup (a_cons (xv 8) (a_cons (xv 5) (a_cons (xv 5) a_nil)))) a_nil))))))) (e_callMR bx_takes (D__law_draw.df hr) (by intro _; rfl) (mr_mut 0 (mr_val r_int mr_nil))) (fun _ _ => rfl)))))))))
theorem dk__law_no_match {P : Program} {w : World} {K : PySem.W.Frag} {mg : Str → Option Value} {base : Heap} {f : Addr} {fd : FuncData} (F : L2.Fun K "_law_no_match" "_law_no_match" s__law_no_match f fd) (hmg : mg "_law_no_match" = some (.ref f)) (hb : Binds K fd ["deck", "kind", "n", "match"] []) (z_str : mg "str" = none) (D__law_draw : Dk P w K mg base 1 "_law_draw" [true, false] (spF c__law_draw)) : Dk P w K mg base 2 "_law_no_match" [true, false, false, false] (spF c__law_no_match) :=
  dk_mk F hmg hb sc__law_no_match rfl (by decide) (fun cdv Ar outer s H E hr => sd__law_no_match z_str D__law_draw hr) (fun ds P PX h hl => adF ad__law_no_match h)
noncomputable def w__law_good : WS :=
  sSeq (sIf (bT (tOrT (tNotT (asB (rIsi' "tuple" (rVar 0)))) (asB (rOp neD (rCB lenD (aCons (rVar 0) (aNil))) (rCon (.int 3)))))) (sRet (eR (rCon (.bl false)))) (sNil)) (sSeq (sDr [0] (sUnp (gTp 3 (gsCons (gNm 1) (gsCons (gNm 2) (gsCons (gNm 3) (gsNil))))) (eZ [0] (rVar 0)))) (sSeq (sIf (bT (tOrT (tNotT (asB (rIsi' "str" (rVar 1)))) (asB (rOp notInD (rVar 1) (rF (fLst (aCons (rCon (.str "plain")) (aCons (rCon (.str "ties")) (aNil))))))))) (sRet (eR (rCon (.bl false)))) (sNil)) (sSeq (sIf (bT (tOrT (tNotT (asB (rIsi' "int" (rVar 2)))) (tOrT (asB (rIsi' "bool" (rVar 2))) (tOrT (tNotT (asB (rChain leI leI (rCon (.int 2)) (rVar 2) (rCon (.int 6))))) (tNotT (asB (rIsi' "list" (rVar 3)))))))) (sRet (eR (rCon (.bl false)))) (sNil)) (sSeq (sSet 4 (eR (rTup (aCons (rNeg (rCon (.int 1))) (aCons (rNeg (rCon (.int 1))) (aNil)))))) (sSeq (sDr [1, 2, 3, 4, 5] (sFor (lZ [3] (asLst (rVar 3))) (gNm 5) (sSeq (sDr [4] (sIf (bT (tOrT (tNotT (asB (rCall (spF c__law_is_good_match) 3 (aCons (rVar 1) (aCons (rVar 2) (aCons (rVar 5) (aNil))))))) (asB (rOp leD (rSlT (rVar 5) (oNone) (oSome (rCon (.int 2)))) (rVar 4))))) (sRet (eR (rCon (.bl false)))) (sNil))) (sDr [5] (sSet 4 (eR (rSlT (rVar 5) (oNone) (oSome (rCon (.int 2)))))))))) (sRet (eR (rCon (.bl true)))))))))
noncomputable def k__law_good : KS :=
  k_sSeq (k_sIf (k_bT (k_tOrT (k_tNotT (k_asB (k_rIsi' "tuple" (k_rVar 0)))) (k_asB (k_rOp k_neD (k_rCB k_lenD (k_aCons (k_rVar 0) k_aNil)) (k_rCon (.int 3)))))) (k_sRet (k_eR (k_rCon (.bl false)))) k_sNil) (k_sSeq (k_sDr [0] (k_sUnp (k_gTp 3 (k_gsCons (k_gNm 1) (k_gsCons (k_gNm 2) (k_gsCons (k_gNm 3) k_gsNil)))) (k_eZ [0] (k_rVar 0)))) (k_sSeq (k_sIf (k_bT (k_tOrT (k_tNotT (k_asB (k_rIsi' "str" (k_rVar 1)))) (k_asB (k_rOp k_notInD (k_rVar 1) (k_rF (k_fLst (k_aCons (k_rCon (.str "plain")) (k_aCons (k_rCon (.str "ties")) k_aNil)))))))) (k_sRet (k_eR (k_rCon (.bl false)))) k_sNil) (k_sSeq (k_sIf (k_bT (k_tOrT (k_tNotT (k_asB (k_rIsi' "int" (k_rVar 2)))) (k_tOrT (k_asB (k_rIsi' "bool" (k_rVar 2))) (k_tOrT (k_tNotT (k_asB (k_rChain k_leI k_leI (k_rCon (.int 2)) (k_rVar 2) (k_rCon (.int 6))))) (k_tNotT (k_asB (k_rIsi' "list" (k_rVar 3)))))))) (k_sRet (k_eR (k_rCon (.bl false)))) k_sNil) (k_sSeq (k_sSet 4 (k_eR (k_rTup (k_aCons (k_rNeg (k_rCon (.int 1))) (k_aCons (k_rNeg (k_rCon (.int 1))) k_aNil))))) (k_sSeq (k_sDr [1, 2, 3, 4, 5] (k_sFor (k_lZ [3] (k_asLst (k_rVar 3))) (k_gNm 5) (k_sSeq (k_sDr [4] (k_sIf (k_bT (k_tOrT (k_tNotT (k_asB (k_rCall c__law_is_good_match 3 (k_aCons (k_rVar 1) (k_aCons (k_rVar 2) (k_aCons (k_rVar 5) k_aNil)))))) (k_asB (k_rOp k_leD (k_rSlT (k_rVar 5) k_oNone (k_oSome (k_rCon (.int 2)))) (k_rVar 4))))) (k_sRet (k_eR (k_rCon (.bl false)))) k_sNil)) (k_sDr [5] (k_sSet 4 (k_eR (k_rSlT (k_rVar 5) k_oNone (k_oSome (k_rCon (.int 2)))))))))) (k_sRet (k_eR (k_rCon (.bl true)))))))))
theorem ad__law_good : AdS k__law_good w__law_good :=
  q_sSeq (q_sIf (q_bT (q_tOrT (q_tNotT (q_asB (q_rIsi' "tuple" (q_rVar 0)))) (q_asB (q_rOp q_neD (q_rCB q_lenD (q_aCons (q_rVar 0) q_aNil)) (q_rCon (.int 3)))))) (q_sRet (q_eR (q_rCon (.bl false)))) q_sNil) (q_sSeq (q_sDr [0] (q_sUnp (q_gTp 3 (q_gsCons (q_gNm 1) (q_gsCons (q_gNm 2) (q_gsCons (q_gNm 3) q_gsNil)))) (q_eZ [0] (q_rVar 0)))) (q_sSeq (q_sIf (q_bT (q_tOrT (q_tNotT (q_asB (q_rIsi' "str" (q_rVar 1)))) (q_asB (q_rOp q_notInD (q_rVar 1) (q_rF (q_fLst (q_aCons (q_rCon (.str "plain")) (q_aCons (q_rCon (.str "ties")) q_aNil)))))))) (q_sRet (q_eR (q_rCon (.bl false)))) q_sNil) (q_sSeq (q_sIf (q_bT (q_tOrT (q_tNotT (q_asB (q_rIsi' "int" (q_rVar 2)))) (q_tOrT (q_asB (q_rIsi' "bool" (q_rVar 2))) (q_tOrT (q_tNotT (q_asB (q_rChain q_leI q_leI (q_rCon (.int 2)) (q_rVar 2) (q_rCon (.int 6))))) (q_tNotT (q_asB (q_rIsi' "list" (q_rVar 3)))))))) (q_sRet (q_eR (q_rCon (.bl false)))) q_sNil) (q_sSeq (q_sSet 4 (q_eR (q_rTup (q_aCons (q_rNeg (q_rCon (.int 1))) (q_aCons (q_rNeg (q_rCon (.int 1))) q_aNil))))) (q_sSeq (q_sDr [1, 2, 3, 4, 5] (q_sFor (q_lZ [3] (q_asLst (q_rVar 3))) (q_gNm 5) (q_sSeq (q_sDr [4] (q_sIf (q_bT (q_tOrT (q_tNotT (q_asB (q_rCall c__law_is_good_match 3 (q_aCons (q_rVar 1) (q_aCons (q_rVar 2) (q_aCons (q_rVar 5) q_aNil)))))) (q_asB (q_rOp q_leD (q_rSlT (q_rVar 5) q_oNone (q_oSome (q_rCon (.int 2)))) (q_rVar 4))))) (q_sRet (q_eR (q_rCon (.bl false)))) q_sNil)) (q_sDr [5] (q_sSet 4 (q_eR (q_rSlT (q_rVar 5) q_oNone (q_oSome (q_rCon (.int 2)))))))))) (q_sRet (q_eR (q_rCon (.bl true)))))))))
noncomputable def c__law_good : KF := fun ds => outF [false] (k__law_good (env0 ds 6))
theorem u__law_good (x0 : D) : c__law_good [x0] = outF [false] (k__law_good [some x0, none, none, none, none, none]) := rfl
abbrev s__law_good : Stmt := topS 19
theorem sc__law_good : FnScope ["thing", "kind", "n", "played", "last", "match"] ["thing"] (defScope s__law_good) := ⟨rfl, rfl, rfl, by decide +kernel, rfl, by decide +kernel, by decide +kernel⟩
theorem sd__law_good {P : Program} {w : World} {K : PySem.W.Frag} {mg : Str → Option Value} {base : Heap} (z_isinstance : mg "isinstance" = none) (z_tuple : mg "tuple" = none) (z_len : mg "len" = none) (z_str : mg "str" = none) (z_int : mg "int" = none) (z_bool : mg "bool" = none) (z_list : mg "list" = none) (D__law_is_good_match : Dk P w K mg base 1 "_law_is_good_match" [false, false, false] (spF c__law_is_good_match)) {f : Addr} {cdv : Value} {Ar : Around} {outer : List PySem.Env} {s : Shared} {H : Hp} {E : XK}
    (hr : RoomG 1 (Ar.deeper (envOfC "_law_good" (defScope s__law_good) s.heap.objs.size f cdv))) : SndSs (bx P w K mg base ["thing", "kind", "n", "played", "last", "match"] "_law_good" s__law_good f cdv Ar outer s H E) K (wx E) (mutIx [false] 0) (defBody s__law_good) w__law_good :=
  have Sc := sc__law_good
  (ss_cons (s_if (b_t (t_w (w_or (t_not (t_val (r_isi (by intro _; rfl) (xv 0) rfl (by intro _; rfl) (fun _ => z_isinstance) (by decide +kernel) (by intro _; rfl) (fun _ => z_tuple) (by decide +kernel) (by decide)))) (w_or1 (t_cmp (fun _ => op_neD hr.u64) ok_ne (r_callB (fun _ => c_len rfl) ok_len (by intro _; rfl) (fun _ => z_len) (by decide +kernel) (a_cons (xv 0) a_nil)) r_int (nomark _)))))) (ss_one (s_ret (e_r r_bl))) ss_nil) (ss_cons (s_dr [0] (s_unp (e_z [0] (xv 0)) (g_tup (by intro _; rfl) (gs_cons (gnm 1 (fun _ => Sc.nd)) (gs_cons (gnm 2 (fun _ => Sc.nd)) (gs_cons (gnm 3 (fun _ => Sc.nd)) gs_nil (fun t u h1 h2 j => pgs_cons (h1 j) (h2 j))) (fun t u h1 h2 j => pgs_cons (h1 j) (h2 j))) (fun t u h1 h2 j => pgs_cons (h1 j) (h2 j))) (fun u h j => pg_tup rfl (h j))) (fun t u h1 h2 j => ps_asg (h1 j) (h2 j)))) (ss_cons (s_if (b_t (t_w (w_or (t_not (t_val (r_isi (by intro _; rfl) (xv 1) rfl (by intro _; rfl) (fun _ => z_isinstance) (by decide +kernel) (by intro _; rfl) (fun _ => z_str) (by decide +kernel) (by decide)))) (w_or1 (t_cmp (fun _ => op_notInA rfl hr.u65) ok_notIn (xv 1) (r_f (f_lst (a_cons r_str (a_cons r_str a_nil)))) rfl))))) (ss_one (s_ret (e_r r_bl))) ss_nil) (ss_cons (s_if (b_t (t_w (w_or (t_not (t_val (r_isi (by intro _; rfl) (xv 2) rfl (by intro _; rfl) (fun _ => z_isinstance) (by decide +kernel) (by intro _; rfl) (fun _ => z_int) (by decide +kernel) (by decide)))) (w_or (t_val (r_isi (by intro _; rfl) (xv 2) rfl (by intro _; rfl) (fun _ => z_isinstance) (by decide +kernel) (by intro _; rfl) (fun _ => z_bool) (by decide +kernel) (by decide))) (w_or (t_not (t_chain (fun _ => op_le) (fun _ => op_le) ok_le1 ok_le1 r_int (xv 2) r_int)) (w_or1 (t_not (t_val (r_isi (by intro _; rfl) (xv 3) rfl (by intro _; rfl) (fun _ => z_isinstance) (by decide +kernel) (by intro _; rfl) (fun _ => z_list) (by decide +kernel) (by decide)))))))))) (ss_one (s_ret (e_r r_bl))) ss_nil) (ss_cons (sset 4 (fun _ => Sc.nd) (e_r (r_tup (a_cons (r_neg r_int) (a_cons (r_neg r_int) a_nil))))) (ss_cons (s_dr [1, 2, 3, 4, 5] (s_for bx_passes (by intro _; rfl) (ie_z [3] (i_list (by intro _; rfl) (xv 3))) (gnm 5 (fun _ => Sc.nd)) (ss_cons (s_dr [4] (s_if (b_t (t_w (w_or (t_not (t_val (r_call (D__law_is_good_match.df hr) (by intro _; rfl) (a_cons (xv 1) (a_cons (xv 2) (a_cons (xv 5) a_nil)))))) (w_or1 (t_cmp (fun _ => op_leA rfl hr.units0) ok_ord (r_slT (by intro _; rfl) (xv 5) o_none (o_some r_int)) (xv 4) (nomark _)))))) (ss_one (s_ret (e_r r_bl))) ss_nil)) (ss_one (s_dr [5] (sset 4 (fun _ => Sc.nd) (e_r (r_slT (by intro _; rfl) (xv 5) o_none (o_some r_int))))))))) (ss_one (s_ret (e_r r_bl)))))))))
theorem dk__law_good {P : Program} {w : World} {K : PySem.W.Frag} {mg : Str → Option Value} {base : Heap} {f : Addr} {fd : FuncData} (F : L2.Fun K "_law_good" "_law_good" s__law_good f fd) (hmg : mg "_law_good" = some (.ref f)) (hb : Binds K fd ["thing"] []) (z_isinstance : mg "isinstance" = none) (z_tuple : mg "tuple" = none) (z_len : mg "len" = none) (z_str : mg "str" = none) (z_int : mg "int" = none) (z_bool : mg "bool" = none) (z_list : mg "list" = none) (D__law_is_good_match : Dk P w K mg base 1 "_law_is_good_match" [false, false, false] (spF c__law_is_good_match)) : Dk P w K mg base 2 "_law_good" [false] (spF c__law_good) :=
  dk_mk F hmg hb sc__law_good rfl (by decide) (fun cdv Ar outer s H E hr => sd__law_good z_isinstance z_tuple z_len z_str z_int z_bool z_list D__law_is_good_match hr) (fun ds P PX h hl => adF ad__law_good h)
noncomputable def w_is_played : WS :=
  sSeq (sIf (bT (tOrT (tNotT (asB (rIsi' "tuple" (rVar 2)))) (asB (rOp neD (rCB lenD (aCons (rVar 2) (aNil))) (rCon (.int 3)))))) (sRet (eR (rCon (.bl false)))) (sNil)) (sSeq (sDr [2] (sUnp (gTp 3 (gsCons (gNm 3) (gsCons (gNm 4) (gsCons (gNm 5) (gsNil))))) (eZ [2] (rVar 2)))) (sSeq (sIf (bT (tOrT (tNotT (asB (rCall (spF c_is_player) 2 (aCons (rVar 1) (aCons (rVar 3) (aNil)))))) (tOrT (tNotT (asB (rCall (spF c_is_player) 2 (aCons (rVar 1) (aCons (rVar 4) (aNil)))))) (asB (rOp geD (rVar 3) (rVar 4)))))) (sRet (eR (rCon (.bl false)))) (sNil)) (sSeq (sDr [0] (sIf (bT (asB (rOp isND (rVar 5) (rCon .non)))) (sRet (eR (rOp eqD (rVar 0) (rCon (.str "ties"))))) (sNil))) (sRet (eR (rAnd (rCall (spF c_is_player) 2 (aCons (rVar 1) (aCons (rVar 5) (aNil)))) (rOp inD (rVar 5) (rTup (aCons (rVar 3) (aCons (rVar 4) (aNil)))))))))))
noncomputable def k_is_played : KS :=
  k_sSeq (k_sIf (k_bT (k_tOrT (k_tNotT (k_asB (k_rIsi' "tuple" (k_rVar 2)))) (k_asB (k_rOp k_neD (k_rCB k_lenD (k_aCons (k_rVar 2) k_aNil)) (k_rCon (.int 3)))))) (k_sRet (k_eR (k_rCon (.bl false)))) k_sNil) (k_sSeq (k_sDr [2] (k_sUnp (k_gTp 3 (k_gsCons (k_gNm 3) (k_gsCons (k_gNm 4) (k_gsCons (k_gNm 5) k_gsNil)))) (k_eZ [2] (k_rVar 2)))) (k_sSeq (k_sIf (k_bT (k_tOrT (k_tNotT (k_asB (k_rCall c_is_player 2 (k_aCons (k_rVar 1) (k_aCons (k_rVar 3) k_aNil))))) (k_tOrT (k_tNotT (k_asB (k_rCall c_is_player 2 (k_aCons (k_rVar 1) (k_aCons (k_rVar 4) k_aNil))))) (k_asB (k_rOp k_geD (k_rVar 3) (k_rVar 4)))))) (k_sRet (k_eR (k_rCon (.bl false)))) k_sNil) (k_sSeq (k_sDr [0] (k_sIf (k_bT (k_asB (k_rOp k_isND (k_rVar 5) (k_rCon .non)))) (k_sRet (k_eR (k_rOp k_eqD (k_rVar 0) (k_rCon (.str "ties"))))) k_sNil)) (k_sRet (k_eR (k_rAnd (k_rCall c_is_player 2 (k_aCons (k_rVar 1) (k_aCons (k_rVar 5) k_aNil))) (k_rOp k_inD (k_rVar 5) (k_rTup (k_aCons (k_rVar 3) (k_aCons (k_rVar 4) k_aNil))))))))))
theorem ad_is_played : AdS k_is_played w_is_played :=
  q_sSeq (q_sIf (q_bT (q_tOrT (q_tNotT (q_asB (q_rIsi' "tuple" (q_rVar 2)))) (q_asB (q_rOp q_neD (q_rCB q_lenD (q_aCons (q_rVar 2) q_aNil)) (q_rCon (.int 3)))))) (q_sRet (q_eR (q_rCon (.bl false)))) q_sNil) (q_sSeq (q_sDr [2] (q_sUnp (q_gTp 3 (q_gsCons (q_gNm 3) (q_gsCons (q_gNm 4) (q_gsCons (q_gNm 5) q_gsNil)))) (q_eZ [2] (q_rVar 2)))) (q_sSeq (q_sIf (q_bT (q_tOrT (q_tNotT (q_asB (q_rCall c_is_player 2 (q_aCons (q_rVar 1) (q_aCons (q_rVar 3) q_aNil))))) (q_tOrT (q_tNotT (q_asB (q_rCall c_is_player 2 (q_aCons (q_rVar 1) (q_aCons (q_rVar 4) q_aNil))))) (q_asB (q_rOp q_geD (q_rVar 3) (q_rVar 4)))))) (q_sRet (q_eR (q_rCon (.bl false)))) q_sNil) (q_sSeq (q_sDr [0] (q_sIf (q_bT (q_asB (q_rOp q_isND (q_rVar 5) (q_rCon .non)))) (q_sRet (q_eR (q_rOp q_eqD (q_rVar 0) (q_rCon (.str "ties"))))) q_sNil)) (q_sRet (q_eR (q_rAnd (q_rCall c_is_player 2 (q_aCons (q_rVar 1) (q_aCons (q_rVar 5) q_aNil))) (q_rOp q_inD (q_rVar 5) (q_rTup (q_aCons (q_rVar 3) (q_aCons (q_rVar 4) q_aNil))))))))))
noncomputable def c_is_played : KF := fun ds => outF [false, false, false] (k_is_played (env0 ds 6))
theorem u_is_played (x0 x1 x2 : D) : c_is_played [x0, x1, x2] = outF [false, false, false] (k_is_played [some x0, some x1, some x2, none, none, none]) := rfl
abbrev s_is_played : Stmt := topS 6
theorem sc_is_played : FnScope ["kind", "n", "thing", "i", "j", "w"] ["kind", "n", "thing"] (defScope s_is_played) := ⟨rfl, rfl, rfl, by decide +kernel, rfl, by decide +kernel, by decide +kernel⟩
theorem sd_is_played {P : Program} {w : World} {K : PySem.W.Frag} {mg : Str → Option Value} {base : Heap} (z_isinstance : mg "isinstance" = none) (z_tuple : mg "tuple" = none) (z_len : mg "len" = none) (D_is_player : Dk P w K mg base 2 "is_player" [false, false] (spF c_is_player)) {f : Addr} {cdv : Value} {Ar : Around} {outer : List PySem.Env} {s : Shared} {H : Hp} {E : XK}
    (hr : RoomG 2 (Ar.deeper (envOfC "is_played" (defScope s_is_played) s.heap.objs.size f cdv))) : SndSs (bx P w K mg base ["kind", "n", "thing", "i", "j", "w"] "is_played" s_is_played f cdv Ar outer s H E) K (wx E) (mutIx [false, false, false] 0) (defBody s_is_played) w_is_played :=
  have Sc := sc_is_played
  (ss_cons (s_if (b_t (t_w (w_or (t_not (t_val (r_isi (by intro _; rfl) (xv 2) rfl (by intro _; rfl) (fun _ => z_isinstance) (by decide +kernel) (by intro _; rfl) (fun _ => z_tuple) (by decide +kernel) (by decide)))) (w_or1 (t_cmp (fun _ => op_neD hr.u64) ok_ne (r_callB (fun _ => c_len rfl) ok_len (by intro _; rfl) (fun _ => z_len) (by decide +kernel) (a_cons (xv 2) a_nil)) r_int (nomark _)))))) (ss_one (s_ret (e_r r_bl))) ss_nil) (ss_cons (s_dr [2] (s_unp (e_z [2] (xv 2)) (g_tup (by intro _; rfl) (gs_cons (gnm 3 (fun _ => Sc.nd)) (gs_cons (gnm 4 (fun _ => Sc.nd)) (gs_cons (gnm 5 (fun _ => Sc.nd)) gs_nil (fun t u h1 h2 j => pgs_cons (h1 j) (h2 j))) (fun t u h1 h2 j => pgs_cons (h1 j) (h2 j))) (fun t u h1 h2 j => pgs_cons (h1 j) (h2 j))) (fun u h j => pg_tup rfl (h j))) (fun t u h1 h2 j => ps_asg (h1 j) (h2 j)))) (ss_cons (s_if (b_t (t_w (w_or (t_not (t_val (r_call (D_is_player.df hr) (by intro _; rfl) (a_cons (xv 1) (a_cons (xv 3) a_nil))))) (w_or (t_not (t_val (r_call (D_is_player.df hr) (by intro _; rfl) (a_cons (xv 1) (a_cons (xv 4) a_nil))))) (w_or1 (t_cmp (fun _ => op_geA rfl hr.units0) ok_ord (xv 3) (xv 4) (nomark _))))))) (ss_one (s_ret (e_r r_bl))) ss_nil) (ss_cons (s_dr [0] (s_if (b_t (t_cmp (fun _ => op_isA) ok_is (xv 5) r_non (nomark _))) (ss_one (s_ret (e_r (r_cmp (fun _ => op_eqD hr.u64) ok_eq (xv 0) r_str (nomark _))))) ss_nil)) (ss_one (s_ret (e_r (r_and (r_call (D_is_player.df hr) (by intro _; rfl) (a_cons (xv 1) (a_cons (xv 5) a_nil))) (r_one (r_cmp (fun _ => op_inA rfl hr.u65) ok_in (xv 5) (r_tup (a_cons (xv 3) (a_cons (xv 4) a_nil))) rfl))))))))))
theorem dk_is_played {P : Program} {w : World} {K : PySem.W.Frag} {mg : Str → Option Value} {base : Heap} {f : Addr} {fd : FuncData} (F : L2.Fun K "is_played" "is_played" s_is_played f fd) (hmg : mg "is_played" = some (.ref f)) (hb : Binds K fd ["kind", "n", "thing"] []) (z_isinstance : mg "isinstance" = none) (z_tuple : mg "tuple" = none) (z_len : mg "len" = none) (D_is_player : Dk P w K mg base 2 "is_player" [false, false] (spF c_is_player)) : Dk P w K mg base 3 "is_played" [false, false, false] (spF c_is_played) :=
  dk_mk F hmg hb sc_is_played rfl (by decide) (fun cdv Ar outer s H E hr => sd_is_played z_isinstance z_tuple z_len D_is_player hr) (fun ds P PX h hl => adF ad_is_played h)
noncomputable def w__law_some_league : WS :=
  sSeq (sSet 1 (eOp ixD (eF (fLst (aCons (rCon (.str "plain")) (aCons (rCon (.str "ties")) (aNil))))) (eCallMR (spF c__law_draw) [some 0, none] (aCons (rCon (.int 2)) (aNil))))) (sSeq (sSet 2 (eOp ixD (eLst (lCons (eOp addD (eR (rCon (.int 2))) (eCallMR (spF c__law_draw) [some 0, none] (aCons (rCon (.int 5)) (aNil)))) (lCons (eR (rCon (.int 6))) (lCons (eOp addD (eR (rCon (.int 4))) (eCallMR (spF c__law_draw) [some 0, none] (aCons (rCon (.int 3)) (aNil)))) (lNil))))) (eCallMR (spF c__law_draw) [some 0, none] (aCons (rCon (.int 3)) (aNil))))) (sSeq (sSet 3 (eCallMR (spF c__law_draw) [some 0, none] (aCons (rCon (.int 5)) (aNil)))) (sSeq (sSet 4 (eCallMR (spF c__law_draw) [some 0, none] (aCons (rCon (.int 16)) (aNil)))) (sSeq (sSet 5 (eF (fLst (aNil)))) (sSeq (sDr [3, 4, 6, 7, 8] (sFor (lEnum (lCons (eCallR (spF c__law_pairs) 1 (aCons (rVar 2) (aNil))) (lNil))) (gTp 2 (gsCons (gNm 6) (gsCons (gNm 7) (gsNil)))) (sSeq (sDr [6] (sSet 8 (eOp ixD (eLst (lCons (eR (rCon (.bl false))) (lCons (eR (rCon (.bl true))) (lCons (eOp eqD (eCallMR (spF c__law_draw) [some 0, none] (aCons (rCon (.int 2)) (aNil))) (eR (rCon (.int 0)))) (lCons (eOp eqD (eCallMR (spF c__law_draw) [some 0, none] (aCons (rCon (.int 5)) (aNil))) (eR (rCon (.int 0)))) (lCons (eR (rOp ltD (rVar 6) (rVar 4))) (lNil))))))) (eR (rVar 3))))) (sDr [7, 8] (sIf (bT (asB (rVar 8))) (sDr [7] (sExpr (eMeth 5 mApp (lCons (eTup (lCons (eR (rOp ixD (rVar 7) (rCon (.int 0)))) (lCons (eR (rOp ixD (rVar 7) (rCon (.int 1)))) (lCons (eCallMR (spF c__law_outcome) [some 0, none, none, none] (aCons (rVar 1) (aCons (rOp ixD (rVar 7) (rCon (.int 0))) (aCons (rOp ixD (rVar 7) (rCon (.int 1))) (aNil))))) (lNil))))) (lNil))))) (sNil)))))) (sRet (eTup (lCons (eR (rVar 1)) (lCons (eR (rVar 2)) (lCons (eMov 5) (lNil)))))))))))
noncomputable def k__law_some_league : KS :=
  k_sSeq (k_sSet 1 (k_eOp k_ixD (k_eF (k_fLst (k_aCons (k_rCon (.str "plain")) (k_aCons (k_rCon (.str "ties")) k_aNil)))) (k_eCallMR c__law_draw [some 0, none] (k_aCons (k_rCon (.int 2)) k_aNil)))) (k_sSeq (k_sSet 2 (k_eOp k_ixD (k_eLst (k_lCons (k_eOp k_addD (k_eR (k_rCon (.int 2))) (k_eCallMR c__law_draw [some 0, none] (k_aCons (k_rCon (.int 5)) k_aNil))) (k_lCons (k_eR (k_rCon (.int 6))) (k_lCons (k_eOp k_addD (k_eR (k_rCon (.int 4))) (k_eCallMR c__law_draw [some 0, none] (k_aCons (k_rCon (.int 3)) k_aNil))) k_lNil)))) (k_eCallMR c__law_draw [some 0, none] (k_aCons (k_rCon (.int 3)) k_aNil)))) (k_sSeq (k_sSet 3 (k_eCallMR c__law_draw [some 0, none] (k_aCons (k_rCon (.int 5)) k_aNil))) (k_sSeq (k_sSet 4 (k_eCallMR c__law_draw [some 0, none] (k_aCons (k_rCon (.int 16)) k_aNil))) (k_sSeq (k_sSet 5 (k_eF (k_fLst k_aNil))) (k_sSeq (k_sDr [3, 4, 6, 7, 8] (k_sFor (k_lEnum (k_lCons (k_eCallR c__law_pairs 1 (k_aCons (k_rVar 2) k_aNil)) k_lNil)) (k_gTp 2 (k_gsCons (k_gNm 6) (k_gsCons (k_gNm 7) k_gsNil))) (k_sSeq (k_sDr [6] (k_sSet 8 (k_eOp k_ixD (k_eLst (k_lCons (k_eR (k_rCon (.bl false))) (k_lCons (k_eR (k_rCon (.bl true))) (k_lCons (k_eOp k_eqD (k_eCallMR c__law_draw [some 0, none] (k_aCons (k_rCon (.int 2)) k_aNil)) (k_eR (k_rCon (.int 0)))) (k_lCons (k_eOp k_eqD (k_eCallMR c__law_draw [some 0, none] (k_aCons (k_rCon (.int 5)) k_aNil)) (k_eR (k_rCon (.int 0)))) (k_lCons (k_eR (k_rOp k_ltD (k_rVar 6) (k_rVar 4))) k_lNil)))))) (k_eR (k_rVar 3))))) (k_sDr [7, 8] (k_sIf (k_bT (k_asB (k_rVar 8))) (k_sDr [7] (k_sExpr (k_eMeth 5 k_mApp (k_lCons (k_eTup (k_lCons (k_eR (k_rOp k_ixD (k_rVar 7) (k_rCon (.int 0)))) (k_lCons (k_eR (k_rOp k_ixD (k_rVar 7) (k_rCon (.int 1)))) (k_lCons (k_eCallMR c__law_outcome [some 0, none, none, none] (k_aCons (k_rVar 1) (k_aCons (k_rOp k_ixD (k_rVar 7) (k_rCon (.int 0))) (k_aCons (k_rOp k_ixD (k_rVar 7) (k_rCon (.int 1))) k_aNil)))) k_lNil)))) k_lNil)))) k_sNil))))) (k_sRet (k_eTup (k_lCons (k_eR (k_rVar 1)) (k_lCons (k_eR (k_rVar 2)) (k_lCons (k_eMov 5) k_lNil))))))))))
theorem ad__law_some_league : AdS k__law_some_league w__law_some_league :=
  q_sSeq (q_sSet 1 (q_eOp q_ixD (q_eF (q_fLst (q_aCons (q_rCon (.str "plain")) (q_aCons (q_rCon (.str "ties")) q_aNil)))) (q_eCallMR c__law_draw [some 0, none] (q_aCons (q_rCon (.int 2)) q_aNil)))) (q_sSeq (q_sSet 2 (q_eOp q_ixD (q_eLst (q_lCons (q_eOp q_addD (q_eR (q_rCon (.int 2))) (q_eCallMR c__law_draw [some 0, none] (q_aCons (q_rCon (.int 5)) q_aNil))) (q_lCons (q_eR (q_rCon (.int 6))) (q_lCons (q_eOp q_addD (q_eR (q_rCon (.int 4))) (q_eCallMR c__law_draw [some 0, none] (q_aCons (q_rCon (.int 3)) q_aNil))) q_lNil)))) (q_eCallMR c__law_draw [some 0, none] (q_aCons (q_rCon (.int 3)) q_aNil)))) (q_sSeq (q_sSet 3 (q_eCallMR c__law_draw [some 0, none] (q_aCons (q_rCon (.int 5)) q_aNil))) (q_sSeq (q_sSet 4 (q_eCallMR c__law_draw [some 0, none] (q_aCons (q_rCon (.int 16)) q_aNil))) (q_sSeq (q_sSet 5 (q_eF (q_fLst q_aNil))) (q_sSeq (q_sDr [3, 4, 6, 7, 8] (q_sFor (q_lEnum (q_lCons (q_eCallR c__law_pairs 1 (q_aCons (q_rVar 2) q_aNil)) q_lNil)) (q_gTp 2 (q_gsCons (q_gNm 6) (q_gsCons (q_gNm 7) q_gsNil))) (q_sSeq (q_sDr [6] (q_sSet 8 (q_eOp q_ixD (q_eLst (q_lCons (q_eR (q_rCon (.bl false))) (q_lCons (q_eR (q_rCon (.bl true))) (q_lCons (q_eOp q_eqD (q_eCallMR c__law_draw [some 0, none] (q_aCons (q_rCon (.int 2)) q_aNil)) (q_eR (q_rCon (.int 0)))) (q_lCons (q_eOp q_eqD (q_eCallMR c__law_draw [some 0, none] (q_aCons (q_rCon (.int 5)) q_aNil)) (q_eR (q_rCon (.int 0)))) (q_lCons (q_eR (q_rOp q_ltD (q_rVar 6) (q_rVar 4))) q_lNil)))))) (q_eR (q_rVar 3))))) (q_sDr [7, 8] (q_sIf (q_bT (q_asB (q_rVar 8))) (q_sDr [7] (q_sExpr (q_eMeth 5 q_mApp (q_lCons (q_eTup (q_lCons (q_eR (q_rOp q_ixD (q_rVar 7) (q_rCon (.int 0)))) (q_lCons (q_eR (q_rOp q_ixD (q_rVar 7) (q_rCon (.int 1)))) (q_lCons (q_eCallMR c__law_outcome [some 0, none, none, none] (q_aCons (q_rVar 1) (q_aCons (q_rOp q_ixD (q_rVar 7) (q_rCon (.int 0))) (q_aCons (q_rOp q_ixD (q_rVar 7) (q_rCon (.int 1))) q_aNil)))) q_lNil)))) q_lNil)))) q_sNil))))) (q_sRet (q_eTup (q_lCons (q_eR (q_rVar 1)) (q_lCons (q_eR (q_rVar 2)) (q_lCons (q_eMov 5) q_lNil))))))))))
noncomputable def c__law_some_league : KF := fun ds => outF [true] (k__law_some_league (env0 ds 9))
theorem u__law_some_league (x0 : D) : c__law_some_league [x0] = outF [true] (k__law_some_league [some x0, none, none, none, none, none, none, none, none]) := rfl
abbrev s__law_some_league : Stmt := topS 13
theorem sc__law_some_league : FnScope ["deck", "kind", "n", "way", "most", "played", "k", "pair", "taken"] ["deck"] (defScope s__law_some_league) := ⟨rfl, rfl, rfl, by decide +kernel, rfl, by decide +kernel, by decide +kernel⟩
theorem sd__law_some_league {P : Program} {w : World} {K : PySem.W.Frag} {mg : Str → Option Value} {base : Heap} (z_enumerate : mg "enumerate" = none) (D__law_draw : Dk P w K mg base 1 "_law_draw" [true, false] (spF c__law_draw)) (D__law_pairs : Dk P w K mg base 1 "_law_pairs" [false] (spF c__law_pairs)) (D__law_outcome : Dk P w K mg base 2 "_law_outcome" [true, false, false, false] (spF c__law_outcome)) {f : Addr} {cdv : Value} {Ar : Around} {outer : List PySem.Env} {s : Shared} {H : Hp} {E : XK}
    (hr : RoomG 2 (Ar.deeper (envOfC "_law_some_league" (defScope s__law_some_league) s.heap.objs.size f cdv))) : SndSs (bx P w K mg base ["deck", "kind", "n", "way", "most", "played", "k", "pair", "taken"] "_law_some_league" s__law_some_league f cdv Ar outer s H E) K (wx E) (mutIx [true] 0) (defBody s__law_some_league) w__law_some_league :=
  have Sc := sc__law_some_league
  (ss_cons (sset 1 (fun _ => Sc.nd) (e_ix (fun _ => ix_seq) ok_ix (e_f (f_lst (a_cons r_str (a_cons r_str a_nil)))) (e_callMR bx_takes (D__law_draw.df hr) (by intro _; rfl) (mr_mut 0 (mr_val r_int mr_nil))) (fun _ _ => rfl))) (ss_cons (sset 2 (fun _ => Sc.nd) (e_ix (fun _ => ix_seq) ok_ix (e_lst (l_cons (e_bin (fun _ => op_addA rfl) ok_add (e_r r_int) (e_callMR bx_takes (D__law_draw.df hr) (by intro _; rfl) (mr_mut 0 (mr_val r_int mr_nil)))) (l_cons (e_r r_int) (l_cons (e_bin (fun _ => op_addA rfl) ok_add (e_r r_int) (e_callMR bx_takes (D__law_draw.df hr) (by intro _; rfl) (mr_mut 0 (mr_val r_int mr_nil)))) l_nil)))) (e_callMR bx_takes (D__law_draw.df hr) (by intro _; rfl) (mr_mut 0 (mr_val r_int mr_nil))) (fun _ _ => rfl))) (ss_cons (sset 3 (fun _ => Sc.nd) (e_callMR bx_takes (D__law_draw.df hr) (by intro _; rfl) (mr_mut 0 (mr_val r_int mr_nil)))) (ss_cons (sset 4 (fun _ => Sc.nd) (e_callMR bx_takes (D__law_draw.df hr) (by intro _; rfl) (mr_mut 0 (mr_val r_int mr_nil)))) (ss_cons (sset 5 (fun _ => Sc.nd) (e_f (f_lst a_nil))) (ss_cons (s_dr [3, 4, 6, 7, 8] (s_for bx_passes (by intro _; rfl) (ie_enum (by intro _; rfl) (by intro _; rfl) (fun _ => z_enumerate) (l_cons (e_callR bx_takes (D__law_pairs.df hr) (by intro _; rfl) (a_cons (xv 2) a_nil)) l_nil)) (g_tup (by intro _; rfl) (gs_cons (gnm 6 (fun _ => Sc.nd)) (gs_cons (gnm 7 (fun _ => Sc.nd)) gs_nil (fun t u h1 h2 j => pgs_cons (h1 j) (h2 j))) (fun t u h1 h2 j => pgs_cons (h1 j) (h2 j))) (fun u h j => pg_tup rfl (h j))) (ss_cons (s_dr [6] (sset 8 (fun _ => Sc.nd) (e_ix (fun _ => ix_seq) ok_ix (e_lst (l_cons (e_r r_bl) (l_cons (e_r r_bl) (l_cons (e_cmp (fun _ => op_eqD hr.u64) ok_eq (e_callMR bx_takes (D__law_draw.df hr) (by intro _; rfl) (mr_mut 0 (mr_val r_int mr_nil))) (e_r r_int) (nomark _)) (l_cons (e_cmp (fun _ => op_eqD hr.u64) ok_eq (e_callMR bx_takes (D__law_draw.df hr) (by intro _; rfl) (mr_mut 0 (mr_val r_int mr_nil))) (e_r r_int) (nomark _)) (l_cons (e_r (r_cmp (fun _ => op_ltA rfl hr.units0) ok_ord (xv 6) (xv 4) (nomark _))) l_nil)))))) (e_r (xv 3)) (fun _ _ => rfl)))) (ss_one (s_dr [7, 8] (s_if (b_t (t_val (xv 8))) (ss_one (s_dr [7] (s_expr (e_meth 5 ok_app (l_cons (e_tup (l_cons (e_r (r_ix (fun _ => ix_seq) ok_ix (xv 7) r_int (fun _ _ => rfl))) (l_cons (e_r (r_ix (fun _ => ix_seq) ok_ix (xv 7) r_int (fun _ _ => rfl))) (l_cons (e_callMR bx_takes (D__law_outcome.df hr) (by intro _; rfl) (mr_mut 0 (mr_val (xv 1) (mr_val (r_ix (fun _ => ix_seq) ok_ix (xv 7) r_int (fun _ _ => rfl)) (mr_val (r_ix (fun _ => ix_seq) ok_ix (xv 7) r_int (fun _ _ => rfl)) mr_nil))))) l_nil)))) l_nil) (fun ta h j => pe_bm PySem.F.plainAttrs_list PySem.F.slot_list_append PySem.F.type_list_append mt_append (pv 5) (h j)))))) ss_nil)))))) (ss_one (s_ret (e_tup (l_cons (e_r (xv 1)) (l_cons (e_r (xv 2)) (l_cons (xmov 5) l_nil))))))))))))
theorem dk__law_some_league {P : Program} {w : World} {K : PySem.W.Frag} {mg : Str → Option Value} {base : Heap} {f : Addr} {fd : FuncData} (F : L2.Fun K "_law_some_league" "_law_some_league" s__law_some_league f fd) (hmg : mg "_law_some_league" = some (.ref f)) (hb : Binds K fd ["deck"] []) (z_enumerate : mg "enumerate" = none) (D__law_draw : Dk P w K mg base 1 "_law_draw" [true, false] (spF c__law_draw)) (D__law_pairs : Dk P w K mg base 1 "_law_pairs" [false] (spF c__law_pairs)) (D__law_outcome : Dk P w K mg base 2 "_law_outcome" [true, false, false, false] (spF c__law_outcome)) : Dk P w K mg base 3 "_law_some_league" [true] (spF c__law_some_league) :=
  dk_mk F hmg hb sc__law_some_league rfl (by decide) (fun cdv Ar outer s H E hr => sd__law_some_league z_enumerate D__law_draw D__law_pairs D__law_outcome hr) (fun ds P PX h hl => adF ad__law_some_league h)
noncomputable def w__law_bent : WS :=
  sSeq (sSet 4 (eCallMR (spF c__law_draw) [some 0, none] (aCons (rOp addD (rCB lenD (aCons (rVar 3) (aNil))) (rCon (.int 1))) (aNil)))) (sSeq (sSet 5 (eCallR (spF c__law_pairs) 1 (aCons (rVar 2) (aNil)))) (sSeq (sDr [5] (sSet 6 (eOp ixD (eZ [5] (rVar 5)) (eCallMR (spF c__law_draw) [some 0, none] (aCons (rCB lenD (aCons (rVar 5) (aNil))) (aNil)))))) (sSeq (sDr [6] (sSet 7 (eTup (lCons (eR (rOp ixD (rVar 6) (rCon (.int 0)))) (lCons (eR (rOp ixD (rVar 6) (rCon (.int 1)))) (lCons (eCallMR (spF c__law_outcome) [some 0, none, none, none] (aCons (rVar 1) (aCons (rOp ixD (rVar 6) (rCon (.int 0))) (aCons (rOp ixD (rVar 6) (rCon (.int 1))) (aNil))))) (lNil))))))) (sSeq (sDr [1, 2] (sSet 8 (eCallM (spF c__law_no_match) [some 0, none, none, none] (lMut 0 (lCons (eR (rVar 1)) (lCons (eR (rVar 2)) (lCons (eR (rOp ixD (rOp addD (rVar 3) (rF (fLst (aCons (rVar 7) (aNil))))) (rVar 4))) (lNil)))))))) (sSeq (sSet 9 (eFZ [3, 4, 8] (fCat (rOp addD (rF (fSlL (rVar 3) (oNone) (oSome (rVar 4)))) (rF (fLst (aCons (rVar 8) (aNil))))) (rF (fSlL (rVar 3) (oSome (rOp addD (rVar 4) (rCon (.int 1)))) (oNone)))))) (sSeq (sDr [7] (sSet 10 (eFZ [3, 4, 7] (fCat (rOp addD (rF (fSlL (rVar 3) (oNone) (oSome (rVar 4)))) (rF (fLst (aCons (rVar 7) (aNil))))) (rF (fSlL (rVar 3) (oSome (rVar 4)) (oNone))))))) (sSeq (sSet 11 (eFZ [3, 4] (fCat (rOp addD (rF (fSlL (rVar 3) (oNone) (oSome (rVar 4)))) (rF (fRev (rF (fSlL (rVar 3) (oSome (rVar 4)) (oSome (rOp addD (rVar 4) (rCon (.int 2))))))))) (rF (fSlL (rVar 3) (oSome (rOp addD (rVar 4) (rCon (.int 2)))) (oNone)))))) (sSeq (sDr [8, 9, 10, 11] (sSet 12 (eLst (lCons (eZ [9] (rVar 9)) (lCons (eZ [9] (rVar 9)) (lCons (eZ [9] (rVar 9)) (lCons (eZ [10] (rVar 10)) (lCons (eFZ [3, 4, 8] (fCat (rOp addD (rF (fSlL (rVar 3) (oNone) (oSome (rVar 4)))) (rF (fLst (aCons (rVar 8) (aNil))))) (rF (fSlL (rVar 3) (oSome (rVar 4)) (oNone))))) (lCons (eZ [11] (rVar 11)) (lCons (eFZ [3, 4] (fCat (rF (fSlL (rVar 3) (oNone) (oSome (rVar 4)))) (rF (fSlL (rVar 3) (oSome (rOp addD (rVar 4) (rCon (.int 1)))) (oNone))))) (lNil))))))))))) (sSeq (sDr [4] (sSet 12 (eFZ [3, 4, 12] (fCat (rVar 12) (rF (fLst (aCons (rOp addD (rOp addD (rF (fSlL (rVar 3) (oNone) (oSome (rVar 4)))) (rF (fSlL (rVar 3) (oSome (rVar 4)) (oSome (rOp addD (rVar 4) (rCon (.int 1))))))) (rF (fSlL (rVar 3) (oSome (rVar 4)) (oNone)))) (aCons (rF (fRev (rVar 3))) (aCons (rCB tupleD (aCons (rVar 3) (aNil))) (aNil)))))))))) (sSeq (sDr [3] (sSet 12 (eFZ [3, 12] (fCat (rVar 12) (rF (fLst (aCons (rCon .non) (aCons (rDNew) (aCons (rCon (.str "")) (aCons (rCon (.int 0)) (aCons (rF (fLst (aCons (rVar 3) (aNil)))) (aNil)))))))))))) (sRet (eOp ixD (eZ [12] (rVar 12)) (eCallMR (spF c__law_draw) [some 0, none] (aCons (rCon (.int 15)) (aNil)))))))))))))))
noncomputable def k__law_bent : KS :=
  k_sSeq (k_sSet 4 (k_eCallMR c__law_draw [some 0, none] (k_aCons (k_rOp k_addD (k_rCB k_lenD (k_aCons (k_rVar 3) k_aNil)) (k_rCon (.int 1))) k_aNil))) (k_sSeq (k_sSet 5 (k_eCallR c__law_pairs 1 (k_aCons (k_rVar 2) k_aNil))) (k_sSeq (k_sDr [5] (k_sSet 6 (k_eOp k_ixD (k_eZ [5] (k_rVar 5)) (k_eCallMR c__law_draw [some 0, none] (k_aCons (k_rCB k_lenD (k_aCons (k_rVar 5) k_aNil)) k_aNil))))) (k_sSeq (k_sDr [6] (k_sSet 7 (k_eTup (k_lCons (k_eR (k_rOp k_ixD (k_rVar 6) (k_rCon (.int 0)))) (k_lCons (k_eR (k_rOp k_ixD (k_rVar 6) (k_rCon (.int 1)))) (k_lCons (k_eCallMR c__law_outcome [some 0, none, none, none] (k_aCons (k_rVar 1) (k_aCons (k_rOp k_ixD (k_rVar 6) (k_rCon (.int 0))) (k_aCons (k_rOp k_ixD (k_rVar 6) (k_rCon (.int 1))) k_aNil)))) k_lNil)))))) (k_sSeq (k_sDr [1, 2] (k_sSet 8 (k_eCallM c__law_no_match [some 0, none, none, none] (k_lMut 0 (k_lCons (k_eR (k_rVar 1)) (k_lCons (k_eR (k_rVar 2)) (k_lCons (k_eR (k_rOp k_ixD (k_rOp k_addD (k_rVar 3) (k_rF (k_fLst (k_aCons (k_rVar 7) k_aNil)))) (k_rVar 4))) k_lNil))))))) (k_sSeq (k_sSet 9 (k_eFZ [3, 4, 8] (k_fCat (k_rOp k_addD (k_rF (k_fSlL (k_rVar 3) k_oNone (k_oSome (k_rVar 4)))) (k_rF (k_fLst (k_aCons (k_rVar 8) k_aNil)))) (k_rF (k_fSlL (k_rVar 3) (k_oSome (k_rOp k_addD (k_rVar 4) (k_rCon (.int 1)))) k_oNone))))) (k_sSeq (k_sDr [7] (k_sSet 10 (k_eFZ [3, 4, 7] (k_fCat (k_rOp k_addD (k_rF (k_fSlL (k_rVar 3) k_oNone (k_oSome (k_rVar 4)))) (k_rF (k_fLst (k_aCons (k_rVar 7) k_aNil)))) (k_rF (k_fSlL (k_rVar 3) (k_oSome (k_rVar 4)) k_oNone)))))) (k_sSeq (k_sSet 11 (k_eFZ [3, 4] (k_fCat (k_rOp k_addD (k_rF (k_fSlL (k_rVar 3) k_oNone (k_oSome (k_rVar 4)))) (k_rF (k_fRev (k_rF (k_fSlL (k_rVar 3) (k_oSome (k_rVar 4)) (k_oSome (k_rOp k_addD (k_rVar 4) (k_rCon (.int 2))))))))) (k_rF (k_fSlL (k_rVar 3) (k_oSome (k_rOp k_addD (k_rVar 4) (k_rCon (.int 2)))) k_oNone))))) (k_sSeq (k_sDr [8, 9, 10, 11] (k_sSet 12 (k_eLst (k_lCons (k_eZ [9] (k_rVar 9)) (k_lCons (k_eZ [9] (k_rVar 9)) (k_lCons (k_eZ [9] (k_rVar 9)) (k_lCons (k_eZ [10] (k_rVar 10)) (k_lCons (k_eFZ [3, 4, 8] (k_fCat (k_rOp k_addD (k_rF (k_fSlL (k_rVar 3) k_oNone (k_oSome (k_rVar 4)))) (k_rF (k_fLst (k_aCons (k_rVar 8) k_aNil)))) (k_rF (k_fSlL (k_rVar 3) (k_oSome (k_rVar 4)) k_oNone)))) (k_lCons (k_eZ [11] (k_rVar 11)) (k_lCons (k_eFZ [3, 4] (k_fCat (k_rF (k_fSlL (k_rVar 3) k_oNone (k_oSome (k_rVar 4)))) (k_rF (k_fSlL (k_rVar 3) (k_oSome (k_rOp k_addD (k_rVar 4) (k_rCon (.int 1)))) k_oNone)))) k_lNil)))))))))) (k_sSeq (k_sDr [4] (k_sSet 12 (k_eFZ [3, 4, 12] (k_fCat (k_rVar 12) (k_rF (k_fLst (k_aCons (k_rOp k_addD (k_rOp k_addD (k_rF (k_fSlL (k_rVar 3) k_oNone (k_oSome (k_rVar 4)))) (k_rF (k_fSlL (k_rVar 3) (k_oSome (k_rVar 4)) (k_oSome (k_rOp k_addD (k_rVar 4) (k_rCon (.int 1))))))) (k_rF (k_fSlL (k_rVar 3) (k_oSome (k_rVar 4)) k_oNone))) (k_aCons (k_rF (k_fRev (k_rVar 3))) (k_aCons (k_rCB k_tupleD (k_aCons (k_rVar 3) k_aNil)) k_aNil))))))))) (k_sSeq (k_sDr [3] (k_sSet 12 (k_eFZ [3, 12] (k_fCat (k_rVar 12) (k_rF (k_fLst (k_aCons (k_rCon .non) (k_aCons k_rDNew (k_aCons (k_rCon (.str "")) (k_aCons (k_rCon (.int 0)) (k_aCons (k_rF (k_fLst (k_aCons (k_rVar 3) k_aNil))) k_aNil))))))))))) (k_sRet (k_eOp k_ixD (k_eZ [12] (k_rVar 12)) (k_eCallMR c__law_draw [some 0, none] (k_aCons (k_rCon (.int 15)) k_aNil))))))))))))))
theorem ad__law_bent : AdS k__law_bent w__law_bent :=
  q_sSeq (q_sSet 4 (q_eCallMR c__law_draw [some 0, none] (q_aCons (q_rOp q_addD (q_rCB q_lenD (q_aCons (q_rVar 3) q_aNil)) (q_rCon (.int 1))) q_aNil))) (q_sSeq (q_sSet 5 (q_eCallR c__law_pairs 1 (q_aCons (q_rVar 2) q_aNil))) (q_sSeq (q_sDr [5] (q_sSet 6 (q_eOp q_ixD (q_eZ [5] (q_rVar 5)) (q_eCallMR c__law_draw [some 0, none] (q_aCons (q_rCB q_lenD (q_aCons (q_rVar 5) q_aNil)) q_aNil))))) (q_sSeq (q_sDr [6] (q_sSet 7 (q_eTup (q_lCons (q_eR (q_rOp q_ixD (q_rVar 6) (q_rCon (.int 0)))) (q_lCons (q_eR (q_rOp q_ixD (q_rVar 6) (q_rCon (.int 1)))) (q_lCons (q_eCallMR c__law_outcome [some 0, none, none, none] (q_aCons (q_rVar 1) (q_aCons (q_rOp q_ixD (q_rVar 6) (q_rCon (.int 0))) (q_aCons (q_rOp q_ixD (q_rVar 6) (q_rCon (.int 1))) q_aNil)))) q_lNil)))))) (q_sSeq (q_sDr [1, 2] (q_sSet 8 (q_eCallM c__law_no_match [some 0, none, none, none] (q_lMut 0 (q_lCons (q_eR (q_rVar 1)) (q_lCons (q_eR (q_rVar 2)) (q_lCons (q_eR (q_rOp q_ixD (q_rOp q_addD (q_rVar 3) (q_rF (q_fLst (q_aCons (q_rVar 7) q_aNil)))) (q_rVar 4))) q_lNil))))))) (q_sSeq (q_sSet 9 (q_eFZ [3, 4, 8] (q_fCat (q_rOp q_addD (q_rF (q_fSlL (q_rVar 3) q_oNone (q_oSome (q_rVar 4)))) (q_rF (q_fLst (q_aCons (q_rVar 8) q_aNil)))) (q_rF (q_fSlL (q_rVar 3) (q_oSome (q_rOp q_addD (q_rVar 4) (q_rCon (.int 1)))) q_oNone))))) (q_sSeq (q_sDr [7] (q_sSet 10 (q_eFZ [3, 4, 7] (q_fCat (q_rOp q_addD (q_rF (q_fSlL (q_rVar 3) q_oNone (q_oSome (q_rVar 4)))) (q_rF (q_fLst (q_aCons (q_rVar 7) q_aNil)))) (q_rF (q_fSlL (q_rVar 3) (q_oSome (q_rVar 4)) q_oNone)))))) (q_sSeq (q_sSet 11 (q_eFZ [3, 4] (q_fCat (q_rOp q_addD (q_rF (q_fSlL (q_rVar 3) q_oNone (q_oSome (q_rVar 4)))) (q_rF (q_fRev (q_rF (q_fSlL (q_rVar 3) (q_oSome (q_rVar 4)) (q_oSome (q_rOp q_addD (q_rVar 4) (q_rCon (.int 2))))))))) (q_rF (q_fSlL (q_rVar 3) (q_oSome (q_rOp q_addD (q_rVar 4) (q_rCon (.int 2)))) q_oNone))))) (q_sSeq (q_sDr [8, 9, 10, 11] (q_sSet 12 (q_eLst (q_lCons (q_eZ [9] (q_rVar 9)) (q_lCons (q_eZ [9] (q_rVar 9)) (q_lCons (q_eZ [9] (q_rVar 9)) (q_lCons (q_eZ [10] (q_rVar 10)) (q_lCons (q_eFZ [3, 4, 8] (q_fCat (q_rOp q_addD (q_rF (q_fSlL (q_rVar 3) q_oNone (q_oSome (q_rVar 4)))) (q_rF (q_fLst (q_aCons (q_rVar 8) q_aNil)))) (q_rF (q_fSlL (q_rVar 3) (q_oSome (q_rVar 4)) q_oNone)))) (q_lCons (q_eZ [11] (q_rVar 11)) (q_lCons (q_eFZ [3, 4] (q_fCat (q_rF (q_fSlL (q_rVar 3) q_oNone (q_oSome (q_rVar 4)))) (q_rF (q_fSlL (q_rVar 3) (q_oSome (q_rOp q_addD (q_rVar 4) (q_rCon (.int 1)))) q_oNone)))) q_lNil)))))))))) (q_sSeq (q_sDr [4] (q_sSet 12 (q_eFZ [3, 4, 12] (q_fCat (q_rVar 12) (q_rF (q_fLst (q_aCons (q_rOp q_addD (q_rOp q_addD (q_rF (q_fSlL (q_rVar 3) q_oNone (q_oSome (q_rVar 4)))) (q_rF (q_fSlL (q_rVar 3) (q_oSome (q_rVar 4)) (q_oSome (q_rOp q_addD (q_rVar 4) (q_rCon (.int 1))))))) (q_rF (q_fSlL (q_rVar 3) (q_oSome (q_rVar 4)) q_oNone))) (q_aCons (q_rF (q_fRev (q_rVar 3))) (q_aCons (q_rCB q_tupleD (q_aCons (q_rVar 3) q_aNil)) q_aNil))))))))) (q_sSeq (q_sDr [3] (q_sSet 12 (q_eFZ [3, 12] (q_fCat (q_rVar 12) (q_rF (q_fLst (q_aCons (q_rCon .non) (q_aCons q_rDNew (q_aCons (q_rCon (.str "")) (q_aCons (q_rCon (.int 0)) (q_aCons (q_rF (q_fLst (q_aCons (q_rVar 3) q_aNil))) q_aNil))))))))))) (q_sRet (q_eOp q_ixD (q_eZ [12] (q_rVar 12)) (q_eCallMR c__law_draw [some 0, none] (q_aCons (q_rCon (.int 15)) q_aNil))))))))))))))
noncomputable def c__law_bent : KF := fun ds => outF [true, false, false, false] (k__law_bent (env0 ds 13))
theorem u__law_bent (x0 x1 x2 x3 : D) : c__law_bent [x0, x1, x2, x3] = outF [true, false, false, false] (k__law_bent [some x0, some x1, some x2, some x3, none, none, none, none, none, none, none, none, none]) := rfl
abbrev s__law_bent : Stmt := topS 16
theorem sc__law_bent : FnScope ["deck", "kind", "n", "played", "at", "pairs", "pair", "fresh", "odd", "changed", "longer", "turned", "some"] ["deck", "kind", "n", "played"] (defScope s__law_bent) := ⟨rfl, rfl, rfl, by decide +kernel, rfl, by decide +kernel, by decide +kernel⟩
theorem sd__law_bent {P : Program} {w : World} {K : PySem.W.Frag} {mg : Str → Option Value} {base : Heap} (z_len : mg "len" = none) (z_tuple : mg "tuple" = none) (D__law_draw : Dk P w K mg base 1 "_law_draw" [true, false] (spF c__law_draw)) (D__law_pairs : Dk P w K mg base 1 "_law_pairs" [false] (spF c__law_pairs)) (D__law_outcome : Dk P w K mg base 2 "_law_outcome" [true, false, false, false] (spF c__law_outcome)) (D__law_no_match : Dk P w K mg base 2 "_law_no_match" [true, false, false, false] (spF c__law_no_match)) {f : Addr} {cdv : Value} {Ar : Around} {outer : List PySem.Env} {s : Shared} {H : Hp} {E : XK}
    (hr : RoomG 2 (Ar.deeper (envOfC "_law_bent" (defScope s__law_bent) s.heap.objs.size f cdv))) : SndSs (bx P w K mg base ["deck", "kind", "n", "played", "at", "pairs", "pair", "fresh", "odd", "changed", "longer", "turned", "some"] "_law_bent" s__law_bent f cdv Ar outer s H E) K (wx E) (mutIx [true, false, false, false] 0) (defBody s__law_bent) w__law_bent :=
  have Sc := sc__law_bent
  (ss_cons (sset 4 (fun _ => Sc.nd) (e_callMR bx_takes (D__law_draw.df hr) (by intro _; rfl) (mr_mut 0 (mr_val (r_bin (fun _ => op_addA rfl) ok_add (r_callB (fun _ => c_len rfl) ok_len (by intro _; rfl) (fun _ => z_len) (by decide +kernel) (a_cons (xv 3) a_nil)) r_int) mr_nil)))) (ss_cons (sset 5 (fun _ => Sc.nd) (e_callR bx_takes (D__law_pairs.df hr) (by intro _; rfl) (a_cons (xv 2) a_nil))) (ss_cons (s_dr [5] (sset 6 (fun _ => Sc.nd) (e_ix (fun _ => ix_seq) ok_ix (e_z [5] (xv 5)) (e_callMR bx_takes (D__law_draw.df hr) (by intro _; rfl) (mr_mut 0 (mr_val (r_callB (fun _ => c_len rfl) ok_len (by intro _; rfl) (fun _ => z_len) (by decide +kernel) (a_cons (xv 5) a_nil)) mr_nil))) (fun _ _ => rfl)))) (ss_cons (s_dr [6] (sset 7 (fun _ => Sc.nd) (e_tup (l_cons (e_r (r_ix (fun _ => ix_seq) ok_ix (xv 6) r_int (fun _ _ => rfl))) (l_cons (e_r (r_ix (fun _ => ix_seq) ok_ix (xv 6) r_int (fun _ _ => rfl))) (l_cons (e_callMR bx_takes (D__law_outcome.df hr) (by intro _; rfl) (mr_mut 0 (mr_val (xv 1) (mr_val (r_ix (fun _ => ix_seq) ok_ix (xv 6) r_int (fun _ _ => rfl)) (mr_val (r_ix (fun _ => ix_seq) ok_ix (xv 6) r_int (fun _ _ => rfl)) mr_nil))))) l_nil)))))) (ss_cons (s_dr [1, 2] (sset 8 (fun _ => Sc.nd) (e_callM bx_takes (D__law_no_match.df hr) (by intro _; rfl) (mmut 0 (m_val (e_r (xv 1)) (m_val (e_r (xv 2)) (m_val (e_r (r_ix (fun _ => ix_seq) ok_ix (r_bin (fun _ => op_addA rfl) ok_add (xv 3) (r_f (f_lst (a_cons (xv 7) a_nil)))) (xv 4) (fun _ _ => rfl))) m_nil))))))) (ss_cons (sset 9 (fun _ => Sc.nd) (e_fz [3, 4, 8] (f_cat (r_bin (fun _ => op_addA rfl) ok_add (r_f (f_slL (by intro _; rfl) (xv 3) o_none (o_some (xv 4)))) (r_f (f_lst (a_cons (xv 8) a_nil)))) (r_f (f_slL (by intro _; rfl) (xv 3) (o_some (r_bin (fun _ => op_addA rfl) ok_add (xv 4) r_int)) o_none))))) (ss_cons (s_dr [7] (sset 10 (fun _ => Sc.nd) (e_fz [3, 4, 7] (f_cat (r_bin (fun _ => op_addA rfl) ok_add (r_f (f_slL (by intro _; rfl) (xv 3) o_none (o_some (xv 4)))) (r_f (f_lst (a_cons (xv 7) a_nil)))) (r_f (f_slL (by intro _; rfl) (xv 3) (o_some (xv 4)) o_none)))))) (ss_cons (sset 11 (fun _ => Sc.nd) (e_fz [3, 4] (f_cat (r_bin (fun _ => op_addA rfl) ok_add (r_f (f_slL (by intro _; rfl) (xv 3) o_none (o_some (xv 4)))) (r_f (f_rev (by intro _; rfl) (r_f (f_slL (by intro _; rfl) (xv 3) (o_some (xv 4)) (o_some (r_bin (fun _ => op_addA rfl) ok_add (xv 4) r_int))))))) (r_f (f_slL (by intro _; rfl) (xv 3) (o_some (r_bin (fun _ => op_addA rfl) ok_add (xv 4) r_int)) o_none))))) (ss_cons (s_dr [8, 9, 10, 11] (sset 12 (fun _ => Sc.nd) (e_lst (l_cons (e_z [9] (xv 9)) (l_cons (e_z [9] (xv 9)) (l_cons (e_z [9] (xv 9)) (l_cons (e_z [10] (xv 10)) (l_cons (e_fz [3, 4, 8] (f_cat (r_bin (fun _ => op_addA rfl) ok_add (r_f (f_slL (by intro _; rfl) (xv 3) o_none (o_some (xv 4)))) (r_f (f_lst (a_cons (xv 8) a_nil)))) (r_f (f_slL (by intro _; rfl) (xv 3) (o_some (xv 4)) o_none)))) (l_cons (e_z [11] (xv 11)) (l_cons (e_fz [3, 4] (f_cat (r_f (f_slL (by intro _; rfl) (xv 3) o_none (o_some (xv 4)))) (r_f (f_slL (by intro _; rfl) (xv 3) (o_some (r_bin (fun _ => op_addA rfl) ok_add (xv 4) r_int)) o_none)))) l_nil)))))))))) (ss_cons (s_dr [4] (sset 12 (fun _ => Sc.nd) (e_fz [3, 4, 12] (f_cat (xv 12) (r_f (f_lst (a_cons (r_bin (fun _ => op_addA rfl) ok_add (r_bin (fun _ => op_addA rfl) ok_add (r_f (f_slL (by intro _; rfl) (xv 3) o_none (o_some (xv 4)))) (r_f (f_slL (by intro _; rfl) (xv 3) (o_some (xv 4)) (o_some (r_bin (fun _ => op_addA rfl) ok_add (xv 4) r_int))))) (r_f (f_slL (by intro _; rfl) (xv 3) (o_some (xv 4)) o_none))) (a_cons (r_f (f_rev (by intro _; rfl) (xv 3))) (a_cons (r_callTy (fun _ => c_tuple rfl) ok_tuple (by intro _; rfl) (fun _ => z_tuple) (by decide +kernel) (a_cons (xv 3) a_nil)) a_nil))))))))) (ss_cons (s_dr [3] (sset 12 (fun _ => Sc.nd) (e_fz [3, 12] (f_cat (xv 12) (r_f (f_lst (a_cons r_non (a_cons r_dnew (a_cons r_str (a_cons r_int (a_cons (r_f (f_lst (a_cons (xv 3) a_nil))) a_nil))))))))))) (ss_one (s_ret (e_ix (fun _ => ix_seq) ok_ix (e_z [12] (xv 12)) (e_callMR bx_takes (D__law_draw.df hr) (by intro _; rfl) (mr_mut 0 (mr_val r_int mr_nil))) (fun _ _ => rfl)))))))))))))))
theorem dk__law_bent {P : Program} {w : World} {K : PySem.W.Frag} {mg : Str → Option Value} {base : Heap} {f : Addr} {fd : FuncData} (F : L2.Fun K "_law_bent" "_law_bent" s__law_bent f fd) (hmg : mg "_law_bent" = some (.ref f)) (hb : Binds K fd ["deck", "kind", "n", "played"] []) (z_len : mg "len" = none) (z_tuple : mg "tuple" = none) (D__law_draw : Dk P w K mg base 1 "_law_draw" [true, false] (spF c__law_draw)) (D__law_pairs : Dk P w K mg base 1 "_law_pairs" [false] (spF c__law_pairs)) (D__law_outcome : Dk P w K mg base 2 "_law_outcome" [true, false, false, false] (spF c__law_outcome)) (D__law_no_match : Dk P w K mg base 2 "_law_no_match" [true, false, false, false] (spF c__law_no_match)) : Dk P w K mg base 3 "_law_bent" [true, false, false, false] (spF c__law_bent) :=
  dk_mk F hmg hb sc__law_bent rfl (by decide) (fun cdv Ar outer s H E hr => sd__law_bent z_len z_tuple D__law_draw D__law_pairs D__law_outcome D__law_no_match hr) (fun ds P PX h hl => adF ad__law_bent h)
noncomputable def w_is_league : WS :=
  sSeq (sIf (bT (tOrT (tNotT (asB (rIsi' "tuple" (rVar 0)))) (asB (rOp neD (rCB lenD (aCons (rVar 0) (aNil))) (rCon (.int 3)))))) (sRet (eR (rCon (.bl false)))) (sNil)) (sSeq (sDr [0] (sUnp (gTp 3 (gsCons (gNm 1) (gsCons (gNm 2) (gsCons (gNm 3) (gsNil))))) (eZ [0] (rVar 0)))) (sSeq (sIf (bT (tOrT (tNotT (asB (rIsi' "str" (rVar 1)))) (tOrT (asB (rOp notInD (rVar 1) (rCon c_KINDS))) (tOrT (tNotT (asB (rCall (spF c_is_whole) 1 (aCons (rVar 2) (aNil))))) (tNotT (asB (rChain leI leI (rCon c_FEWEST) (rVar 2) (rCon c_MOST)))))))) (sRet (eR (rCon (.bl false)))) (sNil)) (sSeq (sDr [1, 2] (sIf (bT (tOrT (tNotT (asB (rIsi' "list" (rVar 3)))) (asB (rOp neE (rF (aComp (asLst (rVar 3)) (gNm 4) (tNotT (asB (rCall (spF c_is_played) 3 (aCons (rVar 1) (aCons (rVar 2) (aCons (rVar 4) (aNil))))))) (rVar 4) [4])) (rF (fLst (aNil))))))) (sRet (eR (rCon (.bl false)))) (sNil))) (sRet (eR (rOp eqD (rF (aComp (aRng2 (aCons (rCon (.int 1)) (aCons (rCB lenD (aCons (rVar 3) (aNil))) (aNil)))) (gNm 5) (asB (rOp geD (rSlT (rOp ixD (rVar 3) (rOp subD (rVar 5) (rCon (.int 1)))) (oNone) (oSome (rCon (.int 2)))) (rSlT (rOp ixD (rVar 3) (rVar 5)) (oNone) (oSome (rCon (.int 2)))))) (rVar 5) [5])) (rF (fLst (aNil)))))))))
noncomputable def k_is_league : KS :=
  k_sSeq (k_sIf (k_bT (k_tOrT (k_tNotT (k_asB (k_rIsi' "tuple" (k_rVar 0)))) (k_asB (k_rOp k_neD (k_rCB k_lenD (k_aCons (k_rVar 0) k_aNil)) (k_rCon (.int 3)))))) (k_sRet (k_eR (k_rCon (.bl false)))) k_sNil) (k_sSeq (k_sDr [0] (k_sUnp (k_gTp 3 (k_gsCons (k_gNm 1) (k_gsCons (k_gNm 2) (k_gsCons (k_gNm 3) k_gsNil)))) (k_eZ [0] (k_rVar 0)))) (k_sSeq (k_sIf (k_bT (k_tOrT (k_tNotT (k_asB (k_rIsi' "str" (k_rVar 1)))) (k_tOrT (k_asB (k_rOp k_notInD (k_rVar 1) (k_rCon c_KINDS))) (k_tOrT (k_tNotT (k_asB (k_rCall c_is_whole 1 (k_aCons (k_rVar 2) k_aNil)))) (k_tNotT (k_asB (k_rChain k_leI k_leI (k_rCon c_FEWEST) (k_rVar 2) (k_rCon c_MOST)))))))) (k_sRet (k_eR (k_rCon (.bl false)))) k_sNil) (k_sSeq (k_sDr [1, 2] (k_sIf (k_bT (k_tOrT (k_tNotT (k_asB (k_rIsi' "list" (k_rVar 3)))) (k_asB (k_rOp k_neE (k_rF (k_aComp (k_asLst (k_rVar 3)) (k_gNm 4) (k_tNotT (k_asB (k_rCall c_is_played 3 (k_aCons (k_rVar 1) (k_aCons (k_rVar 2) (k_aCons (k_rVar 4) k_aNil)))))) (k_rVar 4) [4])) (k_rF (k_fLst k_aNil)))))) (k_sRet (k_eR (k_rCon (.bl false)))) k_sNil)) (k_sRet (k_eR (k_rOp k_eqD (k_rF (k_aComp (k_aRng2 (k_aCons (k_rCon (.int 1)) (k_aCons (k_rCB k_lenD (k_aCons (k_rVar 3) k_aNil)) k_aNil))) (k_gNm 5) (k_asB (k_rOp k_geD (k_rSlT (k_rOp k_ixD (k_rVar 3) (k_rOp k_subD (k_rVar 5) (k_rCon (.int 1)))) k_oNone (k_oSome (k_rCon (.int 2)))) (k_rSlT (k_rOp k_ixD (k_rVar 3) (k_rVar 5)) k_oNone (k_oSome (k_rCon (.int 2)))))) (k_rVar 5) [5])) (k_rF (k_fLst k_aNil))))))))
theorem ad_is_league : AdS k_is_league w_is_league :=
  q_sSeq (q_sIf (q_bT (q_tOrT (q_tNotT (q_asB (q_rIsi' "tuple" (q_rVar 0)))) (q_asB (q_rOp q_neD (q_rCB q_lenD (q_aCons (q_rVar 0) q_aNil)) (q_rCon (.int 3)))))) (q_sRet (q_eR (q_rCon (.bl false)))) q_sNil) (q_sSeq (q_sDr [0] (q_sUnp (q_gTp 3 (q_gsCons (q_gNm 1) (q_gsCons (q_gNm 2) (q_gsCons (q_gNm 3) q_gsNil)))) (q_eZ [0] (q_rVar 0)))) (q_sSeq (q_sIf (q_bT (q_tOrT (q_tNotT (q_asB (q_rIsi' "str" (q_rVar 1)))) (q_tOrT (q_asB (q_rOp q_notInD (q_rVar 1) (q_rCon c_KINDS))) (q_tOrT (q_tNotT (q_asB (q_rCall c_is_whole 1 (q_aCons (q_rVar 2) q_aNil)))) (q_tNotT (q_asB (q_rChain q_leI q_leI (q_rCon c_FEWEST) (q_rVar 2) (q_rCon c_MOST)))))))) (q_sRet (q_eR (q_rCon (.bl false)))) q_sNil) (q_sSeq (q_sDr [1, 2] (q_sIf (q_bT (q_tOrT (q_tNotT (q_asB (q_rIsi' "list" (q_rVar 3)))) (q_asB (q_rOp q_neE (q_rF (q_aComp (q_asLst (q_rVar 3)) (q_gNm 4) (q_tNotT (q_asB (q_rCall c_is_played 3 (q_aCons (q_rVar 1) (q_aCons (q_rVar 2) (q_aCons (q_rVar 4) q_aNil)))))) (q_rVar 4) [4])) (q_rF (q_fLst q_aNil)))))) (q_sRet (q_eR (q_rCon (.bl false)))) q_sNil)) (q_sRet (q_eR (q_rOp q_eqD (q_rF (q_aComp (q_aRng2 (q_aCons (q_rCon (.int 1)) (q_aCons (q_rCB q_lenD (q_aCons (q_rVar 3) q_aNil)) q_aNil))) (q_gNm 5) (q_asB (q_rOp q_geD (q_rSlT (q_rOp q_ixD (q_rVar 3) (q_rOp q_subD (q_rVar 5) (q_rCon (.int 1)))) q_oNone (q_oSome (q_rCon (.int 2)))) (q_rSlT (q_rOp q_ixD (q_rVar 3) (q_rVar 5)) q_oNone (q_oSome (q_rCon (.int 2)))))) (q_rVar 5) [5])) (q_rF (q_fLst q_aNil))))))))
noncomputable def c_is_league : KF := fun ds => outF [false] (k_is_league (env0 ds 6))
theorem u_is_league (x0 : D) : c_is_league [x0] = outF [false] (k_is_league [some x0, none, none, none, none, none]) := rfl
abbrev s_is_league : Stmt := topS 7
theorem sc_is_league : FnScope ["thing", "kind", "n", "played", "match", "k"] ["thing"] (defScope s_is_league) := ⟨rfl, rfl, rfl, by decide +kernel, rfl, by decide +kernel, by decide +kernel⟩
theorem sd_is_league {P : Program} {w : World} {K : PySem.W.Frag} {mg : Str → Option Value} {base : Heap} (z_isinstance : mg "isinstance" = none) (z_tuple : mg "tuple" = none) (z_len : mg "len" = none) (z_str : mg "str" = none) (z_list : mg "list" = none) (z_range : mg "range" = none) {u_KINDS : Value} {x_KINDS : V} (m_KINDS : mg "KINDS" = some u_KINDS) (q_KINDS : RelV x_KINDS u_KINDS) (v_KINDS : ∀ H S, Vw K H S c_KINDS x_KINDS) {u_FEWEST : Value} {x_FEWEST : V} (m_FEWEST : mg "FEWEST" = some u_FEWEST) (q_FEWEST : RelV x_FEWEST u_FEWEST) (v_FEWEST : ∀ H S, Vw K H S c_FEWEST x_FEWEST) {u_MOST : Value} {x_MOST : V} (m_MOST : mg "MOST" = some u_MOST) (q_MOST : RelV x_MOST u_MOST) (v_MOST : ∀ H S, Vw K H S c_MOST x_MOST) (D_is_whole : Dk P w K mg base 1 "is_whole" [false] (spF c_is_whole)) (D_is_played : Dk P w K mg base 3 "is_played" [false, false, false] (spF c_is_played)) {f : Addr} {cdv : Value} {Ar : Around} {outer : List PySem.Env} {s : Shared} {H : Hp} {E : XK}
    (hr : RoomG 3 (Ar.deeper (envOfC "is_league" (defScope s_is_league) s.heap.objs.size f cdv))) : SndSs (bx P w K mg base ["thing", "kind", "n", "played", "match", "k"] "is_league" s_is_league f cdv Ar outer s H E) K (wx E) (mutIx [false] 0) (defBody s_is_league) w_is_league :=
  have Sc := sc_is_league
  (ss_cons (s_if (b_t (t_w (w_or (t_not (t_val (r_isi (by intro _; rfl) (xv 0) rfl (by intro _; rfl) (fun _ => z_isinstance) (by decide +kernel) (by intro _; rfl) (fun _ => z_tuple) (by decide +kernel) (by decide)))) (w_or1 (t_cmp (fun _ => op_neD hr.u64) ok_ne (r_callB (fun _ => c_len rfl) ok_len (by intro _; rfl) (fun _ => z_len) (by decide +kernel) (a_cons (xv 0) a_nil)) r_int (nomark _)))))) (ss_one (s_ret (e_r r_bl))) ss_nil) (ss_cons (s_dr [0] (s_unp (e_z [0] (xv 0)) (g_tup (by intro _; rfl) (gs_cons (gnm 1 (fun _ => Sc.nd)) (gs_cons (gnm 2 (fun _ => Sc.nd)) (gs_cons (gnm 3 (fun _ => Sc.nd)) gs_nil (fun t u h1 h2 j => pgs_cons (h1 j) (h2 j))) (fun t u h1 h2 j => pgs_cons (h1 j) (h2 j))) (fun t u h1 h2 j => pgs_cons (h1 j) (h2 j))) (fun u h j => pg_tup rfl (h j))) (fun t u h1 h2 j => ps_asg (h1 j) (h2 j)))) (ss_cons (s_if (b_t (t_w (w_or (t_not (t_val (r_isi (by intro _; rfl) (xv 1) rfl (by intro _; rfl) (fun _ => z_isinstance) (by decide +kernel) (by intro _; rfl) (fun _ => z_str) (by decide +kernel) (by decide)))) (w_or (t_cmp (fun _ => op_notInA rfl hr.u65) ok_notIn (xv 1) (r_glob (by intro _; rfl) (fun _ => m_KINDS) q_KINDS v_KINDS) rfl) (w_or (t_not (t_val (r_call (D_is_whole.df hr) (by intro _; rfl) (a_cons (xv 2) a_nil)))) (w_or1 (t_not (t_chain (fun _ => op_le) (fun _ => op_le) ok_le1 ok_le1 (r_glob (by intro _; rfl) (fun _ => m_FEWEST) q_FEWEST v_FEWEST) (xv 2) (r_glob (by intro _; rfl) (fun _ => m_MOST) q_MOST v_MOST))))))))) (ss_one (s_ret (e_r r_bl))) ss_nil) (ss_cons (s_dr [1, 2] (s_if (b_t (t_w (w_or (t_not (t_val (r_isi (by intro _; rfl) (xv 3) rfl (by intro _; rfl) (fun _ => z_isinstance) (by decide +kernel) (by intro _; rfl) (fun _ => z_list) (by decide +kernel) (by decide)))) (w_or1 (t_cmp (fun _ => op_neE rfl hr.u64) ok_neE (r_f (f_comp (comp_read (own := [("match", 4)]) (i_list (by intro _; rfl) (xv 3)) (gnm 4 (fun _ => Sc.nd)) (ts_one (t_not (t_val (r_call (D_is_played.df hr).bk (by intro _; rfl) (a_cons (xv 1) (a_cons (xv 2) (a_cons (xv 4) a_nil))))))) (xv 4)) (by intro _; rfl) (fun _ => Sc.nd) (fun _ => blkOk_by (own := [("match", 4)]) rfl))) (r_f (f_lst a_nil)) (nomark _)))))) (ss_one (s_ret (e_r r_bl))) ss_nil)) (ss_one (s_ret (e_r (r_cmp (fun _ => op_eqD hr.u64) ok_eq (r_f (f_comp (comp_read (own := [("k", 5)]) (i_rng2 (by intro _; rfl) (fun _ => z_range) (a_cons r_int (a_cons (r_callB (fun _ => c_len rfl) ok_len (by intro _; rfl) (fun _ => z_len) (by decide +kernel) (a_cons (xv 3) a_nil)) a_nil)) (mk := fun u h j => pi_range2 rfl z_range (h j))) (gnm 5 (fun _ => Sc.nd)) (ts_one (t_cmp (fun _ => op_geA rfl hr.units0) ok_ord (r_slT (by intro _; rfl) (r_ix (fun _ => ix_seq) ok_ix (xv 3) (r_bin (fun _ => op_sub) ok_sub (xv 5) r_int) (fun _ _ => rfl)) o_none (o_some r_int)) (r_slT (by intro _; rfl) (r_ix (fun _ => ix_seq) ok_ix (xv 3) (xv 5) (fun _ _ => rfl)) o_none (o_some r_int)) (nomark _))) (xv 5)) (by intro _; rfl) (fun _ => Sc.nd) (fun _ => blkOk_by (own := [("k", 5)]) rfl))) (r_f (f_lst a_nil)) (nomark _)))))))))
theorem dk_is_league {P : Program} {w : World} {K : PySem.W.Frag} {mg : Str → Option Value} {base : Heap} {f : Addr} {fd : FuncData} (F : L2.Fun K "is_league" "is_league" s_is_league f fd) (hmg : mg "is_league" = some (.ref f)) (hb : Binds K fd ["thing"] []) (z_isinstance : mg "isinstance" = none) (z_tuple : mg "tuple" = none) (z_len : mg "len" = none) (z_str : mg "str" = none) (z_list : mg "list" = none) (z_range : mg "range" = none) {u_KINDS : Value} {x_KINDS : V} (m_KINDS : mg "KINDS" = some u_KINDS) (q_KINDS : RelV x_KINDS u_KINDS) (v_KINDS : ∀ H S, Vw K H S c_KINDS x_KINDS) {u_FEWEST : Value} {x_FEWEST : V} (m_FEWEST : mg "FEWEST" = some u_FEWEST) (q_FEWEST : RelV x_FEWEST u_FEWEST) (v_FEWEST : ∀ H S, Vw K H S c_FEWEST x_FEWEST) {u_MOST : Value} {x_MOST : V} (m_MOST : mg "MOST" = some u_MOST) (q_MOST : RelV x_MOST u_MOST) (v_MOST : ∀ H S, Vw K H S c_MOST x_MOST) (D_is_whole : Dk P w K mg base 1 "is_whole" [false] (spF c_is_whole)) (D_is_played : Dk P w K mg base 3 "is_played" [false, false, false] (spF c_is_played)) : Dk P w K mg base 4 "is_league" [false] (spF c_is_league) :=
  dk_mk F hmg hb sc_is_league rfl (by decide) (fun cdv Ar outer s H E hr => sd_is_league z_isinstance z_tuple z_len z_str z_list z_range m_KINDS q_KINDS v_KINDS m_FEWEST q_FEWEST v_FEWEST m_MOST q_MOST v_MOST D_is_whole D_is_played hr) (fun ds P PX h hl => adF ad_is_league h)
noncomputable def w__law_no_league : WS :=
  sSeq (sDr [1] (sUnp (gTp 3 (gsCons (gNm 2) (gsCons (gNm 3) (gsCons (gNm 4) (gsNil))))) (eZ [1] (rVar 1)))) (sSeq (sSet 5 (eCallMR (spF c__law_draw) [some 0, none] (aCons (rCon (.int 8)) (aNil)))) (sSeq (sIf (bT (asB (rOp ltD (rVar 5) (rCon (.int 4))))) (sRet (eTup (lCons (eR (rVar 2)) (lCons (eR (rVar 3)) (lCons (eCallM (spF c__law_bent) [some 0, none, none, none] (lMut 0 (lCons (eR (rVar 2)) (lCons (eR (rVar 3)) (lCons (eZ [4] (rVar 4)) (lNil)))))) (lNil)))))) (sNil)) (sSeq (sDr [6, 7, 8] (sIf (bT (asB (rOp eqD (rVar 5) (rCon (.int 4))))) (sSeq (sSet 6 (eCallMR (spF c__law_draw) [some 0, none] (aCons (rCB lenD (aCons (rVar 2) (aNil))) (aNil)))) (sSeq (sSet 7 (eOp ixD (eR (rCon (.str "abcdefghijklmnopqrstuvwxyz"))) (eCallMR (spF c__law_draw) [some 0, none] (aCons (rCon (.int 26)) (aNil))))) (sSeq (sDr [6, 7] (sSet 8 (eF (fLst (aCons (rOp addD (rOp addD (rSlS (rVar 2) (oNone) (oSome (rVar 6))) (rVar 7)) (rSlS (rVar 2) (oSome (rOp addD (rVar 6) (rCon (.int 1)))) (oNone))) (aCons (rOp addD (rSlS (rVar 2) (oNone) (oSome (rVar 6))) (rSlS (rVar 2) (oSome (rOp addD (rVar 6) (rCon (.int 1)))) (oNone))) (aCons (rOp addD (rOp addD (rSlS (rVar 2) (oNone) (oSome (rVar 6))) (rVar 7)) (rSlS (rVar 2) (oSome (rVar 6)) (oNone))) (aCons (rCon (.str "plain")) (aNil))))))))) (sSeq (sDr [2] (sSet 8 (eFZ [2, 8] (fCat (rVar 8) (rF (fLst (aCons (rCon (.str "ties")) (aCons (rUp (rVar 2)) (aCons (rOp addD (rVar 2) (rCon (.str " "))) (aCons (rCon (.str "")) (aCons (rCon .non) (aCons (rCon (.int 0)) (aCons (rCon (.bl true)) (aCons (rF (fLst (aCons (rVar 2) (aNil)))) (aCons (rDNew) (aCons (rTup (aCons (rVar 2) (aNil))) (aCons (rOp addD (rCon (.str "\n")) (rVar 2)) (aNil)))))))))))))))))) (sRet (eTup (lCons (eOp ixD (eZ [8] (rVar 8)) (eCallMR (spF c__law_draw) [some 0, none] (aCons (rCon (.int 15)) (aNil)))) (lCons (eR (rVar 3)) (lCons (eMov 4) (lNil)))))))))) (sNil))) (sSeq (sDr [5, 9] (sIf (bT (asB (rOp eqD (rVar 5) (rCon (.int 5))))) (sSeq (sDr [3] (sSet 9 (eLst (lCons (eR (rOp subD (rVar 3) (rCon (.int 1)))) (lCons (eR (rOp addD (rVar 3) (rCon (.int 1)))) (lCons (eR (rCon (.int 0))) (lCons (eR (rCon (.int 1))) (lCons (eR (rCon (.int 7))) (lCons (eR (rNeg (rCon (.int 1)))) (lCons (eR (rOp powD (rCon (.int 10)) (rCon (.int 25)))) (lCons (eR (rCon (.bl true))) (lCons (eR (rCon .non)) (lCons (eR (rCon (.str "3"))) (lCons (eF (fLst (aCons (rVar 3) (aNil)))) (lCons (eR (rTup (aCons (rVar 3) (aNil)))) (lCons (eOp addD (eR (rCon (.int 2))) (eCallMR (spF c__law_draw) [some 0, none] (aCons (rCon (.int 6)) (aNil)))) (lCons (eDNew) (lNil)))))))))))))))))) (sRet (eTup (lCons (eR (rVar 2)) (lCons (eOp ixD (eZ [9] (rVar 9)) (eCallMR (spF c__law_draw) [some 0, none] (aCons (rCon (.int 14)) (aNil)))) (lCons (eMov 4) (lNil))))))) (sNil))) (sSeq (sSet 10 (eLst (lCons (eFZ [2, 3, 4] (fLst (aCons (rVar 2) (aCons (rVar 3) (aCons (rVar 4) (aNil)))))) (lCons (eR (rTup (aCons (rVar 2) (aCons (rVar 3) (aNil))))) (lCons (eZ [2, 3, 4] (rTup (aCons (rVar 2) (aCons (rVar 3) (aCons (rVar 4) (aCons (rCon (.int 0)) (aNil))))))) (lCons (eZ [2, 3, 4] (rTup (aCons (rVar 3) (aCons (rVar 2) (aCons (rVar 4) (aNil)))))) (lCons (eZ [2, 3, 4] (rTup (aCons (rVar 2) (aCons (rVar 4) (aCons (rVar 3) (aNil)))))) (lCons (eR (rCon .non)) (lCons (eR (rCon (.str ""))) (lCons (eR (rCon (.int 0))) (lCons (eDNew) (lNil)))))))))))) (sRet (eOp ixD (eFZ [2, 3, 4, 10] (fCat (rVar 10) (rF (fLst (aCons (rVar 4) (aCons (rTup (aNil)) (aCons (rCon (.bl true)) (aCons (rTup (aCons (rVar 2) (aNil))) (aCons (rVar 2) (aCons (rTup (aCons (rVar 4) (aCons (rVar 3) (aCons (rVar 2) (aNil))))) (aNil))))))))))) (eCallMR (spF c__law_draw) [some 0, none] (aCons (rCon (.int 15)) (aNil))))))))))
noncomputable def k__law_no_league : KS :=
  k_sSeq (k_sDr [1] (k_sUnp (k_gTp 3 (k_gsCons (k_gNm 2) (k_gsCons (k_gNm 3) (k_gsCons (k_gNm 4) k_gsNil)))) (k_eZ [1] (k_rVar 1)))) (k_sSeq (k_sSet 5 (k_eCallMR c__law_draw [some 0, none] (k_aCons (k_rCon (.int 8)) k_aNil))) (k_sSeq (k_sIf (k_bT (k_asB (k_rOp k_ltD (k_rVar 5) (k_rCon (.int 4))))) (k_sRet (k_eTup (k_lCons (k_eR (k_rVar 2)) (k_lCons (k_eR (k_rVar 3)) (k_lCons (k_eCallM c__law_bent [some 0, none, none, none] (k_lMut 0 (k_lCons (k_eR (k_rVar 2)) (k_lCons (k_eR (k_rVar 3)) (k_lCons (k_eZ [4] (k_rVar 4)) k_lNil))))) k_lNil))))) k_sNil) (k_sSeq (k_sDr [6, 7, 8] (k_sIf (k_bT (k_asB (k_rOp k_eqD (k_rVar 5) (k_rCon (.int 4))))) (k_sSeq (k_sSet 6 (k_eCallMR c__law_draw [some 0, none] (k_aCons (k_rCB k_lenD (k_aCons (k_rVar 2) k_aNil)) k_aNil))) (k_sSeq (k_sSet 7 (k_eOp k_ixD (k_eR (k_rCon (.str "abcdefghijklmnopqrstuvwxyz"))) (k_eCallMR c__law_draw [some 0, none] (k_aCons (k_rCon (.int 26)) k_aNil)))) (k_sSeq (k_sDr [6, 7] (k_sSet 8 (k_eF (k_fLst (k_aCons (k_rOp k_addD (k_rOp k_addD (k_rSlS (k_rVar 2) k_oNone (k_oSome (k_rVar 6))) (k_rVar 7)) (k_rSlS (k_rVar 2) (k_oSome (k_rOp k_addD (k_rVar 6) (k_rCon (.int 1)))) k_oNone)) (k_aCons (k_rOp k_addD (k_rSlS (k_rVar 2) k_oNone (k_oSome (k_rVar 6))) (k_rSlS (k_rVar 2) (k_oSome (k_rOp k_addD (k_rVar 6) (k_rCon (.int 1)))) k_oNone)) (k_aCons (k_rOp k_addD (k_rOp k_addD (k_rSlS (k_rVar 2) k_oNone (k_oSome (k_rVar 6))) (k_rVar 7)) (k_rSlS (k_rVar 2) (k_oSome (k_rVar 6)) k_oNone)) (k_aCons (k_rCon (.str "plain")) k_aNil)))))))) (k_sSeq (k_sDr [2] (k_sSet 8 (k_eFZ [2, 8] (k_fCat (k_rVar 8) (k_rF (k_fLst (k_aCons (k_rCon (.str "ties")) (k_aCons (k_rUp (k_rVar 2)) (k_aCons (k_rOp k_addD (k_rVar 2) (k_rCon (.str " "))) (k_aCons (k_rCon (.str "")) (k_aCons (k_rCon .non) (k_aCons (k_rCon (.int 0)) (k_aCons (k_rCon (.bl true)) (k_aCons (k_rF (k_fLst (k_aCons (k_rVar 2) k_aNil))) (k_aCons k_rDNew (k_aCons (k_rTup (k_aCons (k_rVar 2) k_aNil)) (k_aCons (k_rOp k_addD (k_rCon (.str "\n")) (k_rVar 2)) k_aNil))))))))))))))))) (k_sRet (k_eTup (k_lCons (k_eOp k_ixD (k_eZ [8] (k_rVar 8)) (k_eCallMR c__law_draw [some 0, none] (k_aCons (k_rCon (.int 15)) k_aNil))) (k_lCons (k_eR (k_rVar 3)) (k_lCons (k_eMov 4) k_lNil))))))))) k_sNil)) (k_sSeq (k_sDr [5, 9] (k_sIf (k_bT (k_asB (k_rOp k_eqD (k_rVar 5) (k_rCon (.int 5))))) (k_sSeq (k_sDr [3] (k_sSet 9 (k_eLst (k_lCons (k_eR (k_rOp k_subD (k_rVar 3) (k_rCon (.int 1)))) (k_lCons (k_eR (k_rOp k_addD (k_rVar 3) (k_rCon (.int 1)))) (k_lCons (k_eR (k_rCon (.int 0))) (k_lCons (k_eR (k_rCon (.int 1))) (k_lCons (k_eR (k_rCon (.int 7))) (k_lCons (k_eR (k_rNeg (k_rCon (.int 1)))) (k_lCons (k_eR (k_rOp k_powD (k_rCon (.int 10)) (k_rCon (.int 25)))) (k_lCons (k_eR (k_rCon (.bl true))) (k_lCons (k_eR (k_rCon .non)) (k_lCons (k_eR (k_rCon (.str "3"))) (k_lCons (k_eF (k_fLst (k_aCons (k_rVar 3) k_aNil))) (k_lCons (k_eR (k_rTup (k_aCons (k_rVar 3) k_aNil))) (k_lCons (k_eOp k_addD (k_eR (k_rCon (.int 2))) (k_eCallMR c__law_draw [some 0, none] (k_aCons (k_rCon (.int 6)) k_aNil))) (k_lCons k_eDNew k_lNil))))))))))))))))) (k_sRet (k_eTup (k_lCons (k_eR (k_rVar 2)) (k_lCons (k_eOp k_ixD (k_eZ [9] (k_rVar 9)) (k_eCallMR c__law_draw [some 0, none] (k_aCons (k_rCon (.int 14)) k_aNil))) (k_lCons (k_eMov 4) k_lNil)))))) k_sNil)) (k_sSeq (k_sSet 10 (k_eLst (k_lCons (k_eFZ [2, 3, 4] (k_fLst (k_aCons (k_rVar 2) (k_aCons (k_rVar 3) (k_aCons (k_rVar 4) k_aNil))))) (k_lCons (k_eR (k_rTup (k_aCons (k_rVar 2) (k_aCons (k_rVar 3) k_aNil)))) (k_lCons (k_eZ [2, 3, 4] (k_rTup (k_aCons (k_rVar 2) (k_aCons (k_rVar 3) (k_aCons (k_rVar 4) (k_aCons (k_rCon (.int 0)) k_aNil)))))) (k_lCons (k_eZ [2, 3, 4] (k_rTup (k_aCons (k_rVar 3) (k_aCons (k_rVar 2) (k_aCons (k_rVar 4) k_aNil))))) (k_lCons (k_eZ [2, 3, 4] (k_rTup (k_aCons (k_rVar 2) (k_aCons (k_rVar 4) (k_aCons (k_rVar 3) k_aNil))))) (k_lCons (k_eR (k_rCon .non)) (k_lCons (k_eR (k_rCon (.str ""))) (k_lCons (k_eR (k_rCon (.int 0))) (k_lCons k_eDNew k_lNil))))))))))) (k_sRet (k_eOp k_ixD (k_eFZ [2, 3, 4, 10] (k_fCat (k_rVar 10) (k_rF (k_fLst (k_aCons (k_rVar 4) (k_aCons (k_rTup k_aNil) (k_aCons (k_rCon (.bl true)) (k_aCons (k_rTup (k_aCons (k_rVar 2) k_aNil)) (k_aCons (k_rVar 2) (k_aCons (k_rTup (k_aCons (k_rVar 4) (k_aCons (k_rVar 3) (k_aCons (k_rVar 2) k_aNil)))) k_aNil)))))))))) (k_eCallMR c__law_draw [some 0, none] (k_aCons (k_rCon (.int 15)) k_aNil)))))))))
theorem ad__law_no_league : AdS k__law_no_league w__law_no_league :=
  q_sSeq (q_sDr [1] (q_sUnp (q_gTp 3 (q_gsCons (q_gNm 2) (q_gsCons (q_gNm 3) (q_gsCons (q_gNm 4) q_gsNil)))) (q_eZ [1] (q_rVar 1)))) (q_sSeq (q_sSet 5 (q_eCallMR c__law_draw [some 0, none] (q_aCons (q_rCon (.int 8)) q_aNil))) (q_sSeq (q_sIf (q_bT (q_asB (q_rOp q_ltD (q_rVar 5) (q_rCon (.int 4))))) (q_sRet (q_eTup (q_lCons (q_eR (q_rVar 2)) (q_lCons (q_eR (q_rVar 3)) (q_lCons (q_eCallM c__law_bent [some 0, none, none, none] (q_lMut 0 (q_lCons (q_eR (q_rVar 2)) (q_lCons (q_eR (q_rVar 3)) (q_lCons (q_eZ [4] (q_rVar 4)) q_lNil))))) q_lNil))))) q_sNil) (q_sSeq (q_sDr [6, 7, 8] (q_sIf (q_bT (q_asB (q_rOp q_eqD (q_rVar 5) (q_rCon (.int 4))))) (q_sSeq (q_sSet 6 (q_eCallMR c__law_draw [some 0, none] (q_aCons (q_rCB q_lenD (q_aCons (q_rVar 2) q_aNil)) q_aNil))) (q_sSeq (q_sSet 7 (q_eOp q_ixD (q_eR (q_rCon (.str "abcdefghijklmnopqrstuvwxyz"))) (q_eCallMR c__law_draw [some 0, none] (q_aCons (q_rCon (.int 26)) q_aNil)))) (q_sSeq (q_sDr [6, 7] (q_sSet 8 (q_eF (q_fLst (q_aCons (q_rOp q_addD (q_rOp q_addD (q_rSlS (q_rVar 2) q_oNone (q_oSome (q_rVar 6))) (q_rVar 7)) (q_rSlS (q_rVar 2) (q_oSome (q_rOp q_addD (q_rVar 6) (q_rCon (.int 1)))) q_oNone)) (q_aCons (q_rOp q_addD (q_rSlS (q_rVar 2) q_oNone (q_oSome (q_rVar 6))) (q_rSlS (q_rVar 2) (q_oSome (q_rOp q_addD (q_rVar 6) (q_rCon (.int 1)))) q_oNone)) (q_aCons (q_rOp q_addD (q_rOp q_addD (q_rSlS (q_rVar 2) q_oNone (q_oSome (q_rVar 6))) (q_rVar 7)) (q_rSlS (q_rVar 2) (q_oSome (q_rVar 6)) q_oNone)) (q_aCons (q_rCon (.str "plain")) q_aNil)))))))) (q_sSeq (q_sDr [2] (q_sSet 8 (q_eFZ [2, 8] (q_fCat (q_rVar 8) (q_rF (q_fLst (q_aCons (q_rCon (.str "ties")) (q_aCons (q_rUp (q_rVar 2)) (q_aCons (q_rOp q_addD (q_rVar 2) (q_rCon (.str " "))) (q_aCons (q_rCon (.str "")) (q_aCons (q_rCon .non) (q_aCons (q_rCon (.int 0)) (q_aCons (q_rCon (.bl true)) (q_aCons (q_rF (q_fLst (q_aCons (q_rVar 2) q_aNil))) (q_aCons q_rDNew (q_aCons (q_rTup (q_aCons (q_rVar 2) q_aNil)) (q_aCons (q_rOp q_addD (q_rCon (.str "\n")) (q_rVar 2)) q_aNil))))))))))))))))) (q_sRet (q_eTup (q_lCons (q_eOp q_ixD (q_eZ [8] (q_rVar 8)) (q_eCallMR c__law_draw [some 0, none] (q_aCons (q_rCon (.int 15)) q_aNil))) (q_lCons (q_eR (q_rVar 3)) (q_lCons (q_eMov 4) q_lNil))))))))) q_sNil)) (q_sSeq (q_sDr [5, 9] (q_sIf (q_bT (q_asB (q_rOp q_eqD (q_rVar 5) (q_rCon (.int 5))))) (q_sSeq (q_sDr [3] (q_sSet 9 (q_eLst (q_lCons (q_eR (q_rOp q_subD (q_rVar 3) (q_rCon (.int 1)))) (q_lCons (q_eR (q_rOp q_addD (q_rVar 3) (q_rCon (.int 1)))) (q_lCons (q_eR (q_rCon (.int 0))) (q_lCons (q_eR (q_rCon (.int 1))) (q_lCons (q_eR (q_rCon (.int 7))) (q_lCons (q_eR (q_rNeg (q_rCon (.int 1)))) (q_lCons (q_eR (q_rOp q_powD (q_rCon (.int 10)) (q_rCon (.int 25)))) (q_lCons (q_eR (q_rCon (.bl true))) (q_lCons (q_eR (q_rCon .non)) (q_lCons (q_eR (q_rCon (.str "3"))) (q_lCons (q_eF (q_fLst (q_aCons (q_rVar 3) q_aNil))) (q_lCons (q_eR (q_rTup (q_aCons (q_rVar 3) q_aNil))) (q_lCons (q_eOp q_addD (q_eR (q_rCon (.int 2))) (q_eCallMR c__law_draw [some 0, none] (q_aCons (q_rCon (.int 6)) q_aNil))) (q_lCons q_eDNew q_lNil))))))))))))))))) (q_sRet (q_eTup (q_lCons (q_eR (q_rVar 2)) (q_lCons (q_eOp q_ixD (q_eZ [9] (q_rVar 9)) (q_eCallMR c__law_draw [some 0, none] (q_aCons (q_rCon (.int 14)) q_aNil))) (q_lCons (q_eMov 4) q_lNil)))))) q_sNil)) (q_sSeq (q_sSet 10 (q_eLst (q_lCons (q_eFZ [2, 3, 4] (q_fLst (q_aCons (q_rVar 2) (q_aCons (q_rVar 3) (q_aCons (q_rVar 4) q_aNil))))) (q_lCons (q_eR (q_rTup (q_aCons (q_rVar 2) (q_aCons (q_rVar 3) q_aNil)))) (q_lCons (q_eZ [2, 3, 4] (q_rTup (q_aCons (q_rVar 2) (q_aCons (q_rVar 3) (q_aCons (q_rVar 4) (q_aCons (q_rCon (.int 0)) q_aNil)))))) (q_lCons (q_eZ [2, 3, 4] (q_rTup (q_aCons (q_rVar 3) (q_aCons (q_rVar 2) (q_aCons (q_rVar 4) q_aNil))))) (q_lCons (q_eZ [2, 3, 4] (q_rTup (q_aCons (q_rVar 2) (q_aCons (q_rVar 4) (q_aCons (q_rVar 3) q_aNil))))) (q_lCons (q_eR (q_rCon .non)) (q_lCons (q_eR (q_rCon (.str ""))) (q_lCons (q_eR (q_rCon (.int 0))) (q_lCons q_eDNew q_lNil))))))))))) (q_sRet (q_eOp q_ixD (q_eFZ [2, 3, 4, 10] (q_fCat (q_rVar 10) (q_rF (q_fLst (q_aCons (q_rVar 4) (q_aCons (q_rTup q_aNil) (q_aCons (q_rCon (.bl true)) (q_aCons (q_rTup (q_aCons (q_rVar 2) q_aNil)) (q_aCons (q_rVar 2) (q_aCons (q_rTup (q_aCons (q_rVar 4) (q_aCons (q_rVar 3) (q_aCons (q_rVar 2) q_aNil)))) q_aNil)))))))))) (q_eCallMR c__law_draw [some 0, none] (q_aCons (q_rCon (.int 15)) q_aNil)))))))))
noncomputable def c__law_no_league : KF := fun ds => outF [true, false] (k__law_no_league (env0 ds 11))
theorem u__law_no_league (x0 x1 : D) : c__law_no_league [x0, x1] = outF [true, false] (k__law_no_league [some x0, some x1, none, none, none, none, none, none, none, none, none]) := rfl
abbrev s__law_no_league : Stmt := topS 17
theorem sc__law_no_league : FnScope ["deck", "league", "kind", "n", "played", "way", "at", "letter", "kinds", "numbers", "some"] ["deck", "league"] (defScope s__law_no_league) := ⟨rfl, rfl, rfl, by decide +kernel, rfl, by decide +kernel, by decide +kernel⟩
theorem sd__law_no_league {P : Program} {w : World} {K : PySem.W.Frag} {mg : Str → Option Value} {base : Heap} (z_len : mg "len" = none) (D__law_draw : Dk P w K mg base 1 "_law_draw" [true, false] (spF c__law_draw)) (D__law_bent : Dk P w K mg base 3 "_law_bent" [true, false, false, false] (spF c__law_bent)) {f : Addr} {cdv : Value} {Ar : Around} {outer : List PySem.Env} {s : Shared} {H : Hp} {E : XK}
    (hr : RoomG 3 (Ar.deeper (envOfC "_law_no_league" (defScope s__law_no_league) s.heap.objs.size f cdv))) : SndSs (bx P w K mg base ["deck", "league", "kind", "n", "played", "way", "at", "letter", "kinds", "numbers", "some"] "_law_no_league" s__law_no_league f cdv Ar outer s H E) K (wx E) (mutIx [true, false] 0) (defBody s__law_no_league) w__law_no_league :=
  have Sc := sc__law_no_league
  (ss_cons (s_dr [1] (s_unp (e_z [1] (xv 1)) (g_tup (by intro _; rfl) (gs_cons (gnm 2 (fun _ => Sc.nd)) (gs_cons (gnm 3 (fun _ => Sc.nd)) (gs_cons (gnm 4 (fun _ => Sc.nd)) gs_nil (fun t u h1 h2 j => pgs_cons (h1 j) (h2 j))) (fun t u h1 h2 j => pgs_cons (h1 j) (h2 j))) (fun t u h1 h2 j => pgs_cons (h1 j) (h2 j))) (fun u h j => pg_tup rfl (h j))) (fun t u h1 h2 j => ps_asg (h1 j) (h2 j)))) (ss_cons (sset 5 (fun _ => Sc.nd) (e_callMR bx_takes (D__law_draw.df hr) (by intro _; rfl) (mr_mut 0 (mr_val r_int mr_nil)))) (ss_cons (s_if (b_t (t_cmp (fun _ => op_ltA rfl hr.units0) ok_ord (xv 5) r_int (nomark _))) (ss_one (s_ret (e_tup (l_cons (e_r (xv 2)) (l_cons (e_r (xv 3)) (l_cons (e_callM bx_takes (D__law_bent.df hr) (by intro _; rfl) (mmut 0 (m_val (e_r (xv 2)) (m_val (e_r (xv 3)) (m_val (e_z [4] (xv 4)) m_nil))))) l_nil)))))) ss_nil) (ss_cons (s_dr [6, 7, 8] (s_if (b_t (t_cmp (fun _ => op_eqD hr.u64) ok_eq (xv 5) r_int (nomark _))) (ss_cons (sset 6 (fun _ => Sc.nd) (e_callMR bx_takes (D__law_draw.df hr) (by intro _; rfl) (mr_mut 0 (mr_val (r_callB (fun _ => c_len rfl) ok_len (by intro _; rfl) (fun _ => z_len) (by decide +kernel) (a_cons (xv 2) a_nil)) mr_nil)))) (ss_cons (sset 7 (fun _ => Sc.nd) (e_ix (fun _ => ix_seq) ok_ix (e_r r_str) (e_callMR bx_takes (D__law_draw.df hr) (by intro _; rfl) (mr_mut 0 (mr_val r_int mr_nil))) (fun _ _ => rfl))) (ss_cons (s_dr [6, 7] (sset 8 (fun _ => Sc.nd) (e_f (f_lst (a_cons (r_bin (fun _ => op_addA rfl) ok_add (r_bin (fun _ => op_addA rfl) ok_add (r_slS (xv 2) o_none (o_some (xv 6))) (xv 7)) (r_slS (xv 2) (o_some (r_bin (fun _ => op_addA rfl) ok_add (xv 6) r_int)) o_none)) (a_cons (r_bin (fun _ => op_addA rfl) ok_add (r_slS (xv 2) o_none (o_some (xv 6))) (r_slS (xv 2) (o_some (r_bin (fun _ => op_addA rfl) ok_add (xv 6) r_int)) o_none)) (a_cons (r_bin (fun _ => op_addA rfl) ok_add (r_bin (fun _ => op_addA rfl) ok_add (r_slS (xv 2) o_none (o_some (xv 6))) (xv 7)) (r_slS (xv 2) (o_some (xv 6)) o_none)) (a_cons r_str a_nil)))))))) (ss_cons (s_dr [2] (sset 8 (fun _ => Sc.nd) (e_fz [2, 8] (f_cat (xv 8) (r_f (f_lst (a_cons r_str (a_cons (r_up (xv 2)) (a_cons (r_bin (fun _ => op_addA rfl) ok_add (xv 2) r_str) (a_cons r_str (a_cons r_non (a_cons r_int (a_cons r_bl (a_cons (r_f (f_lst (a_cons (xv 2) a_nil))) (a_cons r_dnew (a_cons (r_tup (a_cons (xv 2) a_nil)) (a_cons (r_bin (fun _ => op_addA rfl) ok_add r_str (xv 2)) a_nil))))))))))))))))) (ss_one (s_ret (e_tup (l_cons (e_ix (fun _ => ix_seq) ok_ix (e_z [8] (xv 8)) (e_callMR bx_takes (D__law_draw.df hr) (by intro _; rfl) (mr_mut 0 (mr_val r_int mr_nil))) (fun _ _ => rfl)) (l_cons (e_r (xv 3)) (l_cons (xmov 4) l_nil)))))))))) ss_nil)) (ss_cons (s_dr [5, 9] (s_if (b_t (t_cmp (fun _ => op_eqD hr.u64) ok_eq (xv 5) r_int (nomark _))) (ss_cons (s_dr [3] (sset 9 (fun _ => Sc.nd) (e_lst (l_cons (e_r (r_bin (fun _ => op_sub) ok_sub (xv 3) r_int)) (l_cons (e_r (r_bin (fun _ => op_addA rfl) ok_add (xv 3) r_int)) (l_cons (e_r r_int) (l_cons (e_r r_int) (l_cons (e_r r_int) (l_cons (e_r (r_neg r_int)) (l_cons (e_r (r_bin (fun _ => op_pow) ok_pow r_int r_int)) (l_cons (e_r r_bl) (l_cons (e_r r_non) (l_cons (e_r r_str) (l_cons (e_f (f_lst (a_cons (xv 3) a_nil))) (l_cons (e_r (r_tup (a_cons (xv 3) a_nil))) (l_cons (e_bin (fun _ => op_addA rfl) ok_add (e_r r_int) (e_callMR bx_takes (D__law_draw.df hr) (by intro _; rfl) (mr_mut 0 (mr_val r_int mr_nil)))) (l_cons e_dnew l_nil))))))))))))))))) (ss_one (s_ret (e_tup (l_cons (e_r (xv 2)) (l_cons (e_ix (fun _ => ix_seq) ok_ix (e_z [9] (xv 9)) (e_callMR bx_takes (D__law_draw.df hr) (by intro _; rfl) (mr_mut 0 (mr_val r_int mr_nil))) (fun _ _ => rfl)) (l_cons (xmov 4) l_nil))))))) ss_nil)) (ss_cons (sset 10 (fun _ => Sc.nd) (e_lst (l_cons (e_fz [2, 3, 4] (f_lst (a_cons (xv 2) (a_cons (xv 3) (a_cons (xv 4) a_nil))))) (l_cons (e_r (r_tup (a_cons (xv 2) (a_cons (xv 3) a_nil)))) (l_cons (e_z [2, 3, 4] (r_tup (a_cons (xv 2) (a_cons (xv 3) (a_cons (xv 4) (a_cons r_int a_nil)))))) (l_cons (e_z [2, 3, 4] (r_tup (a_cons (xv 3) (a_cons (xv 2) (a_cons (xv 4) a_nil))))) (l_cons (e_z [2, 3, 4] (r_tup (a_cons (xv 2) (a_cons (xv 4) (a_cons (xv 3) a_nil))))) (l_cons (e_r r_non) (l_cons (e_r r_str) (l_cons (e_r r_int) (l_cons e_dnew l_nil))))))))))) (ss_one (s_ret (e_ix (fun _ => ix_seq) ok_ix (e_fz [2, 3, 4, 10] (f_cat (xv 10) (r_f (f_lst (a_cons (xv 4) (a_cons (r_tup a_nil) (a_cons r_bl (a_cons (r_tup (a_cons (xv 2) a_nil)) (a_cons (xv 2) (a_cons (r_tup (a_cons (xv 4) (a_cons (xv 3) (a_cons (xv 2) a_nil)))) a_nil)))))))))) (e_callMR bx_takes (D__law_draw.df hr) (by intro _; rfl) (mr_mut 0 (mr_val r_int mr_nil))) (fun _ _ => rfl))))))))))
theorem dk__law_no_league {P : Program} {w : World} {K : PySem.W.Frag} {mg : Str → Option Value} {base : Heap} {f : Addr} {fd : FuncData} (F : L2.Fun K "_law_no_league" "_law_no_league" s__law_no_league f fd) (hmg : mg "_law_no_league" = some (.ref f)) (hb : Binds K fd ["deck", "league"] []) (z_len : mg "len" = none) (D__law_draw : Dk P w K mg base 1 "_law_draw" [true, false] (spF c__law_draw)) (D__law_bent : Dk P w K mg base 3 "_law_bent" [true, false, false, false] (spF c__law_bent)) : Dk P w K mg base 4 "_law_no_league" [true, false] (spF c__law_no_league) :=
  dk_mk F hmg hb sc__law_no_league rfl (by decide) (fun cdv Ar outer s H E hr => sd__law_no_league z_len D__law_draw D__law_bent hr) (fun ds P PX h hl => adF ad__law_no_league h)
noncomputable def w__law_right : WS :=
  sSeq (sSet 1 (eR (rCB reprD (aCons (rVar 0) (aNil))))) (sSeq (sDr [0, 1, 2, 3] (sFor (lNo (aRng1 (aCons (rCon (.int 2)) (aNil)))) (gNm 2) (sSeq (sDr [2] (sSet 3 (eCallR (spF c_is_league) 1 (aCons (rVar 0) (aNil))))) (sDr [3] (sIf (bT (tOrT (tNotT (asB (rIsi' "bool" (rVar 3)))) (tOrT (asB (rOp neD (rVar 3) (rCall (spF c__law_good) 1 (aCons (rVar 0) (aNil))))) (asB (rOp neE (rCB reprD (aCons (rVar 0) (aNil))) (rVar 1)))))) (sRet (eR (rCon (.bl false)))) (sNil)))))) (sRet (eR (rCon (.bl true)))))
noncomputable def k__law_right : KS :=
  k_sSeq (k_sSet 1 (k_eR (k_rCB k_reprD (k_aCons (k_rVar 0) k_aNil)))) (k_sSeq (k_sDr [0, 1, 2, 3] (k_sFor (k_lNo (k_aRng1 (k_aCons (k_rCon (.int 2)) k_aNil))) (k_gNm 2) (k_sSeq (k_sDr [2] (k_sSet 3 (k_eCallR c_is_league 1 (k_aCons (k_rVar 0) k_aNil)))) (k_sDr [3] (k_sIf (k_bT (k_tOrT (k_tNotT (k_asB (k_rIsi' "bool" (k_rVar 3)))) (k_tOrT (k_asB (k_rOp k_neD (k_rVar 3) (k_rCall c__law_good 1 (k_aCons (k_rVar 0) k_aNil)))) (k_asB (k_rOp k_neE (k_rCB k_reprD (k_aCons (k_rVar 0) k_aNil)) (k_rVar 1)))))) (k_sRet (k_eR (k_rCon (.bl false)))) k_sNil))))) (k_sRet (k_eR (k_rCon (.bl true)))))
theorem ad__law_right : AdS k__law_right w__law_right :=
  q_sSeq (q_sSet 1 (q_eR (q_rCB q_reprD (q_aCons (q_rVar 0) q_aNil)))) (q_sSeq (q_sDr [0, 1, 2, 3] (q_sFor (q_lNo (q_aRng1 (q_aCons (q_rCon (.int 2)) q_aNil))) (q_gNm 2) (q_sSeq (q_sDr [2] (q_sSet 3 (q_eCallR c_is_league 1 (q_aCons (q_rVar 0) q_aNil)))) (q_sDr [3] (q_sIf (q_bT (q_tOrT (q_tNotT (q_asB (q_rIsi' "bool" (q_rVar 3)))) (q_tOrT (q_asB (q_rOp q_neD (q_rVar 3) (q_rCall c__law_good 1 (q_aCons (q_rVar 0) q_aNil)))) (q_asB (q_rOp q_neE (q_rCB q_reprD (q_aCons (q_rVar 0) q_aNil)) (q_rVar 1)))))) (q_sRet (q_eR (q_rCon (.bl false)))) q_sNil))))) (q_sRet (q_eR (q_rCon (.bl true)))))
noncomputable def c__law_right : KF := fun ds => outF [false] (k__law_right (env0 ds 4))
theorem u__law_right (x0 : D) : c__law_right [x0] = outF [false] (k__law_right [some x0, none, none, none]) := rfl
abbrev s__law_right : Stmt := topS 20
theorem sc__law_right : FnScope ["thing", "kept", "turn", "found"] ["thing"] (defScope s__law_right) := ⟨rfl, rfl, rfl, by decide +kernel, rfl, by decide +kernel, by decide +kernel⟩
theorem sd__law_right {P : Program} {w : World} {K : PySem.W.Frag} {mg : Str → Option Value} {base : Heap} (z_repr : mg "repr" = none) (z_range : mg "range" = none) (z_isinstance : mg "isinstance" = none) (z_bool : mg "bool" = none) (D_is_league : Dk P w K mg base 4 "is_league" [false] (spF c_is_league)) (D__law_good : Dk P w K mg base 2 "_law_good" [false] (spF c__law_good)) {f : Addr} {cdv : Value} {Ar : Around} {outer : List PySem.Env} {s : Shared} {H : Hp} {E : XK}
    (hr : RoomG 4 (Ar.deeper (envOfC "_law_right" (defScope s__law_right) s.heap.objs.size f cdv))) : SndSs (bx P w K mg base ["thing", "kept", "turn", "found"] "_law_right" s__law_right f cdv Ar outer s H E) K (wx E) (mutIx [false] 0) (defBody s__law_right) w__law_right :=
  have Sc := sc__law_right
  (ss_cons (sset 1 (fun _ => Sc.nd) (e_r (r_callB (fun _ => c_repr rfl hr.gd hr.u80) ok_repr (by intro _; rfl) (fun _ => z_repr) (by decide +kernel) (a_cons (xv 0) a_nil)))) (ss_cons (s_dr [0, 1, 2, 3] (s_for bx_passes (by intro _; rfl) (ie_rng (by intro _; rfl) (fun _ => z_range) (a_cons r_int a_nil)) (gnm 2 (fun _ => Sc.nd)) (ss_cons (s_dr [2] (sset 3 (fun _ => Sc.nd) (e_callR bx_takes (D_is_league.df hr) (by intro _; rfl) (a_cons (xv 0) a_nil)))) (ss_one (s_dr [3] (s_if (b_t (t_w (w_or (t_not (t_val (r_isi (by intro _; rfl) (xv 3) rfl (by intro _; rfl) (fun _ => z_isinstance) (by decide +kernel) (by intro _; rfl) (fun _ => z_bool) (by decide +kernel) (by decide)))) (w_or (t_cmp (fun _ => op_neD hr.u64) ok_ne (xv 3) (r_call (D__law_good.df hr) (by intro _; rfl) (a_cons (xv 0) a_nil)) (nomark _)) (w_or1 (t_cmp (fun _ => op_neE rfl hr.u64) ok_neE (r_callB (fun _ => c_repr rfl hr.gd hr.u80) ok_repr (by intro _; rfl) (fun _ => z_repr) (by decide +kernel) (a_cons (xv 0) a_nil)) (xv 1) (nomark _))))))) (ss_one (s_ret (e_r r_bl))) ss_nil)))))) (ss_one (s_ret (e_r r_bl)))))
theorem dk__law_right {P : Program} {w : World} {K : PySem.W.Frag} {mg : Str → Option Value} {base : Heap} {f : Addr} {fd : FuncData} (F : L2.Fun K "_law_right" "_law_right" s__law_right f fd) (hmg : mg "_law_right" = some (.ref f)) (hb : Binds K fd ["thing"] []) (z_repr : mg "repr" = none) (z_range : mg "range" = none) (z_isinstance : mg "isinstance" = none) (z_bool : mg "bool" = none) (D_is_league : Dk P w K mg base 4 "is_league" [false] (spF c_is_league)) (D__law_good : Dk P w K mg base 2 "_law_good" [false] (spF c__law_good)) : Dk P w K mg base 5 "_law_right" [false] (spF c__law_right) :=
  dk_mk F hmg hb sc__law_right rfl (by decide) (fun cdv Ar outer s H E hr => sd__law_right z_repr z_range z_isinstance z_bool D_is_league D__law_good hr) (fun ds P PX h hl => adF ad__law_right h)
noncomputable def w_law : WS :=
  sSeq (sDr [0] (sSet 1 (eCallR (spF c__law_deck) 1 (aCons (rVar 0) (aNil))))) (sSeq (sDr [1, 2, 3, 4] (sFor (lNo (aRng1 (aCons (rCon (.int 12)) (aNil)))) (gNm 2) (sSeq (sDr [2] (sSet 3 (eCallMR (spF c__law_some_league) [some 1] (aNil)))) (sSeq (sIf (bT (asB (rOp notND (rCall (spF c_is_league) 1 (aCons (rCall (spF c__law_own) 1 (aCons (rVar 3) (aNil))) (aNil))) (rCon (.bl true))))) (sRet (eR (rCon (.bl false)))) (sNil)) (sDr [3, 4] (sFor (lNo (aRng1 (aCons (rCon (.int 12)) (aNil)))) (gNm 4) (sDr [4] (sIf (bNot (bE (eCallL (spF c__law_right) 1 (lCons (eCallM (spF c__law_no_league) [some 1, none] (lMut 1 (lCons (eZ [3] (rVar 3)) (lNil)))) (lNil))))) (sRet (eR (rCon (.bl false)))) (sNil))))))))) (sSeq (sSet 5 (eLst (lCons (eR (rCon .non)) (lCons (eR (rCon (.int 0))) (lCons (eR (rCon (.bl true))) (lCons (eR (rCon (.str ""))) (lCons (eR (rCon (.str "plain 2"))) (lCons (eF (fLst (aNil))) (lCons (eR (rTup (aNil))) (lCons (eDNew) (lCons (eZ [] (rTup (aCons (rCon (.str "plain")) (aCons (rCon (.int 2)) (aCons (rF (fLst (aNil))) (aNil)))))) (lCons (eZ [] (rTup (aCons (rCon (.str "ties")) (aCons (rCon (.int 6)) (aCons (rF (fLst (aNil))) (aNil)))))) (lNil))))))))))))) (sSeq (sDr [5, 6] (sFor (lZ [5] (asLst (rOp addD (rVar 5) (rF (fLst (aCons (rTup (aCons (rCon (.str "plain")) (aCons (rCon (.int 1)) (aCons (rF (fLst (aNil))) (aNil))))) (aCons (rTup (aCons (rCon (.str "ties")) (aCons (rCon (.int 7)) (aCons (rF (fLst (aNil))) (aNil))))) (aNil)))))))) (gNm 6) (sDr [6] (sIf (bT (tNotT (asB (rCall (spF c__law_right) 1 (aCons (rVar 6) (aNil)))))) (sRet (eR (rCon (.bl false)))) (sNil))))) (sRet (eR (rCon (.bl true)))))))
noncomputable def k_law : KS :=
  k_sSeq (k_sDr [0] (k_sSet 1 (k_eCallR c__law_deck 1 (k_aCons (k_rVar 0) k_aNil)))) (k_sSeq (k_sDr [1, 2, 3, 4] (k_sFor (k_lNo (k_aRng1 (k_aCons (k_rCon (.int 12)) k_aNil))) (k_gNm 2) (k_sSeq (k_sDr [2] (k_sSet 3 (k_eCallMR c__law_some_league [some 1] k_aNil))) (k_sSeq (k_sIf (k_bT (k_asB (k_rOp k_notND (k_rCall c_is_league 1 (k_aCons (k_rCall c__law_own 1 (k_aCons (k_rVar 3) k_aNil)) k_aNil)) (k_rCon (.bl true))))) (k_sRet (k_eR (k_rCon (.bl false)))) k_sNil) (k_sDr [3, 4] (k_sFor (k_lNo (k_aRng1 (k_aCons (k_rCon (.int 12)) k_aNil))) (k_gNm 4) (k_sDr [4] (k_sIf (k_bNot (k_bE (k_eCallL c__law_right 1 (k_lCons (k_eCallM c__law_no_league [some 1, none] (k_lMut 1 (k_lCons (k_eZ [3] (k_rVar 3)) k_lNil))) k_lNil)))) (k_sRet (k_eR (k_rCon (.bl false)))) k_sNil)))))))) (k_sSeq (k_sSet 5 (k_eLst (k_lCons (k_eR (k_rCon .non)) (k_lCons (k_eR (k_rCon (.int 0))) (k_lCons (k_eR (k_rCon (.bl true))) (k_lCons (k_eR (k_rCon (.str ""))) (k_lCons (k_eR (k_rCon (.str "plain 2"))) (k_lCons (k_eF (k_fLst k_aNil)) (k_lCons (k_eR (k_rTup k_aNil)) (k_lCons k_eDNew (k_lCons (k_eZ [] (k_rTup (k_aCons (k_rCon (.str "plain")) (k_aCons (k_rCon (.int 2)) (k_aCons (k_rF (k_fLst k_aNil)) k_aNil))))) (k_lCons (k_eZ [] (k_rTup (k_aCons (k_rCon (.str "ties")) (k_aCons (k_rCon (.int 6)) (k_aCons (k_rF (k_fLst k_aNil)) k_aNil))))) k_lNil)))))))))))) (k_sSeq (k_sDr [5, 6] (k_sFor (k_lZ [5] (k_asLst (k_rOp k_addD (k_rVar 5) (k_rF (k_fLst (k_aCons (k_rTup (k_aCons (k_rCon (.str "plain")) (k_aCons (k_rCon (.int 1)) (k_aCons (k_rF (k_fLst k_aNil)) k_aNil)))) (k_aCons (k_rTup (k_aCons (k_rCon (.str "ties")) (k_aCons (k_rCon (.int 7)) (k_aCons (k_rF (k_fLst k_aNil)) k_aNil)))) k_aNil))))))) (k_gNm 6) (k_sDr [6] (k_sIf (k_bT (k_tNotT (k_asB (k_rCall c__law_right 1 (k_aCons (k_rVar 6) k_aNil))))) (k_sRet (k_eR (k_rCon (.bl false)))) k_sNil)))) (k_sRet (k_eR (k_rCon (.bl true)))))))
theorem ad_law : AdS k_law w_law :=
  q_sSeq (q_sDr [0] (q_sSet 1 (q_eCallR c__law_deck 1 (q_aCons (q_rVar 0) q_aNil)))) (q_sSeq (q_sDr [1, 2, 3, 4] (q_sFor (q_lNo (q_aRng1 (q_aCons (q_rCon (.int 12)) q_aNil))) (q_gNm 2) (q_sSeq (q_sDr [2] (q_sSet 3 (q_eCallMR c__law_some_league [some 1] q_aNil))) (q_sSeq (q_sIf (q_bT (q_asB (q_rOp q_notND (q_rCall c_is_league 1 (q_aCons (q_rCall c__law_own 1 (q_aCons (q_rVar 3) q_aNil)) q_aNil)) (q_rCon (.bl true))))) (q_sRet (q_eR (q_rCon (.bl false)))) q_sNil) (q_sDr [3, 4] (q_sFor (q_lNo (q_aRng1 (q_aCons (q_rCon (.int 12)) q_aNil))) (q_gNm 4) (q_sDr [4] (q_sIf (q_bNot (q_bE (q_eCallL c__law_right 1 (q_lCons (q_eCallM c__law_no_league [some 1, none] (q_lMut 1 (q_lCons (q_eZ [3] (q_rVar 3)) q_lNil))) q_lNil)))) (q_sRet (q_eR (q_rCon (.bl false)))) q_sNil)))))))) (q_sSeq (q_sSet 5 (q_eLst (q_lCons (q_eR (q_rCon .non)) (q_lCons (q_eR (q_rCon (.int 0))) (q_lCons (q_eR (q_rCon (.bl true))) (q_lCons (q_eR (q_rCon (.str ""))) (q_lCons (q_eR (q_rCon (.str "plain 2"))) (q_lCons (q_eF (q_fLst q_aNil)) (q_lCons (q_eR (q_rTup q_aNil)) (q_lCons q_eDNew (q_lCons (q_eZ [] (q_rTup (q_aCons (q_rCon (.str "plain")) (q_aCons (q_rCon (.int 2)) (q_aCons (q_rF (q_fLst q_aNil)) q_aNil))))) (q_lCons (q_eZ [] (q_rTup (q_aCons (q_rCon (.str "ties")) (q_aCons (q_rCon (.int 6)) (q_aCons (q_rF (q_fLst q_aNil)) q_aNil))))) q_lNil)))))))))))) (q_sSeq (q_sDr [5, 6] (q_sFor (q_lZ [5] (q_asLst (q_rOp q_addD (q_rVar 5) (q_rF (q_fLst (q_aCons (q_rTup (q_aCons (q_rCon (.str "plain")) (q_aCons (q_rCon (.int 1)) (q_aCons (q_rF (q_fLst q_aNil)) q_aNil)))) (q_aCons (q_rTup (q_aCons (q_rCon (.str "ties")) (q_aCons (q_rCon (.int 7)) (q_aCons (q_rF (q_fLst q_aNil)) q_aNil)))) q_aNil))))))) (q_gNm 6) (q_sDr [6] (q_sIf (q_bT (q_tNotT (q_asB (q_rCall c__law_right 1 (q_aCons (q_rVar 6) q_aNil))))) (q_sRet (q_eR (q_rCon (.bl false)))) q_sNil)))) (q_sRet (q_eR (q_rCon (.bl true)))))))
noncomputable def c_law : KF := fun ds => outF [false] (k_law (env0 ds 7))
theorem u_law (x0 : D) : c_law [x0] = outF [false] (k_law [some x0, none, none, none, none, none, none]) := rfl
abbrev s_law : Stmt := topS 21
theorem sc_law : FnScope ["script", "deck", "k", "league", "turn", "things", "thing"] ["script"] (defScope s_law) := ⟨rfl, rfl, rfl, by decide +kernel, rfl, by decide +kernel, by decide +kernel⟩
theorem sd_law {P : Program} {w : World} {K : PySem.W.Frag} {mg : Str → Option Value} {base : Heap} (z_range : mg "range" = none) (D__law_deck : Dk P w K mg base 1 "_law_deck" [false] (spF c__law_deck)) (D__law_some_league : Dk P w K mg base 3 "_law_some_league" [true] (spF c__law_some_league)) (D__law_own : Dk P w K mg base 1 "_law_own" [false] (spF c__law_own)) (D_is_league : Dk P w K mg base 4 "is_league" [false] (spF c_is_league)) (D__law_no_league : Dk P w K mg base 4 "_law_no_league" [true, false] (spF c__law_no_league)) (D__law_right : Dk P w K mg base 5 "_law_right" [false] (spF c__law_right)) {f : Addr} {cdv : Value} {Ar : Around} {outer : List PySem.Env} {s : Shared} {H : Hp} {E : XK}
    (hr : RoomG 5 (Ar.deeper (envOfC "law" (defScope s_law) s.heap.objs.size f cdv))) : SndSs (bx P w K mg base ["script", "deck", "k", "league", "turn", "things", "thing"] "law" s_law f cdv Ar outer s H E) K (wx E) (mutIx [false] 0) (defBody s_law) w_law :=
  have Sc := sc_law
  (ss_cons (s_dr [0] (sset 1 (fun _ => Sc.nd) (e_callR bx_takes (D__law_deck.df hr) (by intro _; rfl) (a_cons (xv 0) a_nil)))) (ss_cons (s_dr [1, 2, 3, 4] (s_for bx_passes (by intro _; rfl) (ie_rng (by intro _; rfl) (fun _ => z_range) (a_cons r_int a_nil)) (gnm 2 (fun _ => Sc.nd)) (ss_cons (s_dr [2] (sset 3 (fun _ => Sc.nd) (e_callMR bx_takes (D__law_some_league.df hr) (by intro _; rfl) (mr_mut 1 mr_nil)))) (ss_cons (s_if (b_t (t_cmp (fun _ => op_isNotA) ok_isNot (r_call (D_is_league.df hr) (by intro _; rfl) (a_cons (r_call (D__law_own.df hr) (by intro _; rfl) (a_cons (xv 3) a_nil)) a_nil)) r_bl (nomark _))) (ss_one (s_ret (e_r r_bl))) ss_nil) (ss_one (s_dr [3, 4] (s_for bx_passes (by intro _; rfl) (ie_rng (by intro _; rfl) (fun _ => z_range) (a_cons r_int a_nil)) (gnm 4 (fun _ => Sc.nd)) (ss_one (s_dr [4] (s_if (b_not (b_e (e_callL bx_takes (D__law_right.df hr) (by intro _; rfl) (l_cons (e_callM bx_takes (D__law_no_league.df hr) (by intro _; rfl) (mmut 1 (m_val (e_z [3] (xv 3)) m_nil))) l_nil)))) (ss_one (s_ret (e_r r_bl))) ss_nil)))))))))) (ss_cons (sset 5 (fun _ => Sc.nd) (e_lst (l_cons (e_r r_non) (l_cons (e_r r_int) (l_cons (e_r r_bl) (l_cons (e_r r_str) (l_cons (e_r r_str) (l_cons (e_f (f_lst a_nil)) (l_cons (e_r (r_tup a_nil)) (l_cons e_dnew (l_cons (e_z [] (r_tup (a_cons r_str (a_cons r_int (a_cons (r_f (f_lst a_nil)) a_nil))))) (l_cons (e_z [] (r_tup (a_cons r_str (a_cons r_int (a_cons (r_f (f_lst a_nil)) a_nil))))) l_nil)))))))))))) (ss_cons (s_dr [5, 6] (s_for bx_passes (by intro _; rfl) (ie_z [5] (i_list (by intro _; rfl) (r_bin (fun _ => op_addA rfl) ok_add (xv 5) (r_f (f_lst (a_cons (r_tup (a_cons r_str (a_cons r_int (a_cons (r_f (f_lst a_nil)) a_nil)))) (a_cons (r_tup (a_cons r_str (a_cons r_int (a_cons (r_f (f_lst a_nil)) a_nil)))) a_nil))))))) (gnm 6 (fun _ => Sc.nd)) (ss_one (s_dr [6] (s_if (b_t (t_not (t_val (r_call (D__law_right.df hr) (by intro _; rfl) (a_cons (xv 6) a_nil))))) (ss_one (s_ret (e_r r_bl))) ss_nil))))) (ss_one (s_ret (e_r r_bl)))))))
theorem dk_law {P : Program} {w : World} {K : PySem.W.Frag} {mg : Str → Option Value} {base : Heap} {f : Addr} {fd : FuncData} (F : L2.Fun K "law" "law" s_law f fd) (hmg : mg "law" = some (.ref f)) (hb : Binds K fd ["script"] []) (z_range : mg "range" = none) (D__law_deck : Dk P w K mg base 1 "_law_deck" [false] (spF c__law_deck)) (D__law_some_league : Dk P w K mg base 3 "_law_some_league" [true] (spF c__law_some_league)) (D__law_own : Dk P w K mg base 1 "_law_own" [false] (spF c__law_own)) (D_is_league : Dk P w K mg base 4 "is_league" [false] (spF c_is_league)) (D__law_no_league : Dk P w K mg base 4 "_law_no_league" [true, false] (spF c__law_no_league)) (D__law_right : Dk P w K mg base 5 "_law_right" [false] (spF c__law_right)) : Dk P w K mg base 6 "law" [false] (spF c_law) :=
  dk_mk F hmg hb sc_law rfl (by decide) (fun cdv Ar outer s H E hr => sd_law z_range D__law_deck D__law_some_league D__law_own D_is_league D__law_no_league D__law_right hr) (fun ds P PX h hl => adF ad_law h)
end T
namespace T
open PySem PySem.Spec PyProof.Rows L2
/-! ### the program: leagues -/
@[simp] theorem e_is_whole (i : Int) : c_is_whole [.int i] = .ret (.bl true) [] := by
  simp -implicitDefEqProofs [-List.map_map, u_is_whole, k_is_whole]
@[simp] theorem e_is_player (n i : Int) : c_is_player [.int n, .int i] = .ret (.bl (decide (0 ≤ i ∧ i < n))) [] := by
  simp -implicitDefEqProofs [-List.map_map, u_is_player, k_is_player]
theorem e_is_played {k : Bool} {n : Nat} {m : M} (h : okM k n m) : c_is_played [.str (kS k), .int n, mD m] = .ret (.bl true) [] := by
  obtain ⟨h1, h2, h3, h4⟩ := h
  obtain ⟨i, j, w⟩ := m
  simp only at h1 h2 h3
  have h5 : 0 ≤ j := by omega
  have h6 : i < n := by omega
  have h7 : ¬ j ≤ i := by omega
  rcases h4 with ⟨h4, hk⟩ | h4 | h4 <;> simp only at h4 <;> subst h4 <;> simp [u_is_played, k_is_played, mD, h1, h2, h3, h5, h6, h7]
  exact hk
theorem e_is_league {L : Lg} (h : okL L) : c_is_league [lgD false L] = .ret (.bl true) [] := by
  have e1 := h.n2
  have e2 := h.n6
  have e3 := h.len
  have e4 : L.ms.length ≤ 100000 := by omega
  have e5 : (L.ms.length : Int) < 4611686018427387904 := by omega
  have e6 : L.ms.length - 1 ≤ 100000 := by omega
  have e7 : ¬ ((L.n : Int) < 2 ∨ 6 < (L.n : Int)) := by omega
  simp -implicitDefEqProofs [-List.map_map, u_is_league, k_is_league, c_KINDS, c_FEWEST, c_MOST, e1, e2, e4, e5, e6, e7]
  rw [kComp_congr (g := fun _ => some none) fun m hm => by simp [e_is_played (h.okm m hm)]]
  simp -implicitDefEqProofs [-List.map_map, e5, e6, rangeD]
  rw [kComp_congr (g := fun _ => some none) fun i hi => ?_]
  · simp
  · have hi := List.mem_range.mp hi
    have hp := List.pairwise_iff_getElem.mp h.lt i (i + 1) (by omega) (by omega) (by omega)
    have a1 : atI (L.ms.map mD) (1 + (i : Int)) = some (mD (L.ms[i + 1]'(by omega))) := by
      have := atI_nat (xs := L.ms) (i := i + 1) (by omega)
      rw [atI_map, show (1 + (i : Int)) = ((i + 1 : Nat) : Int) by omega, this]
      rfl
    have a2 : atI (L.ms.map mD) (1 + (i : Int) - 1) = some (mD (L.ms[i]'(by omega))) := by
      have := atI_nat (xs := L.ms) (i := i) (by omega)
      rw [atI_map, show (1 + (i : Int) - 1) = (i : Int) by omega, this]
      rfl
    have hp' : ltP (key L.ms[i]) (key L.ms[i + 1]) := hp
    simp [a1, a2, hp']
end T
namespace T
open PySem PySem.Spec PyProof.Rows L2
end T
namespace T
open PySem PySem.Spec PyProof.Rows L2
/-! ### the program: whether any thing is a league -/
theorem e_is_player_any {n : Nat} {x : D} (hx : okD x = true) : c_is_player [.int n, x] = .ret (.bl (isPl n x)) [] := by
  cases x with
  | int i => simp -implicitDefEqProofs [-List.map_map, u_is_player, k_is_player, u_is_whole, k_is_whole, isPl]
  | obj _ _ _ _ => cases hx
  | scr _ => cases hx
  | _ => simp -implicitDefEqProofs [-List.map_map, u_is_player, k_is_player, u_is_whole, k_is_whole, isPl]
theorem good_okD {d : D} (h : goodR d = true) : okD d = true := by cases d <;> first | rfl | (simp [goodR] at h)
theorem goodL_mem : ∀ {xs : List D}, goodL xs = true → ∀ x ∈ xs, goodR x = true
  | [], _, _, m => by cases m
  | x :: xs, h, y, m => by
    simp only [goodL, Bool.and_eq_true] at h
    rcases List.mem_cons.mp m with z | z
    · subst z; exact h.1
    · exact goodL_mem h.2 y z
/-- the outcome fits -/
def gW (k : Bool) (i j : Int) : D → Bool
  | .non => k
  | .int x => decide (x = i ∨ x = j)
  | _ => false
/-- a played match -/
def gM (k : Bool) (n : Nat) : D → Bool
  | .tup [.int i, .int j, w] => decide (0 ≤ i ∧ i < j ∧ j < n) && gW k i j w
  | _ => false
theorem gM_iff {k : Bool} {n : Nat} {d : D} (h : gM k n d = true) : ∃ m, d = mD m ∧ okM k n m := by
  unfold gM at h
  split at h
  · rename_i i j w
    simp only [Bool.and_eq_true, decide_eq_true_eq] at h
    obtain ⟨⟨h1, h2, h3⟩, h4⟩ := h
    cases w with
    | non => exact ⟨(i, j, none), rfl, h1, h2, h3, .inl ⟨rfl, by simpa [gW] using h4⟩⟩
    | int x =>
      have h4 : x = i ∨ x = j := by simpa [gW] using h4
      exact ⟨(i, j, some x), rfl, h1, h2, h3, by rcases h4 with rfl | rfl <;> simp [okW]⟩
    | _ => simp [gW] at h4
  · cases h
theorem gM_of {k : Bool} {n : Nat} {m : M} (h : okM k n m) : gM k n (mD m) = true := by
  obtain ⟨i, j, w⟩ := m
  obtain ⟨h1, h2, h3, h4⟩ := h
  simp only at h1 h2 h3 h4
  rcases h4 with ⟨rfl, hk⟩ | rfl | rfl <;> simp [mD, wD, gM, gW, h1, h2, h3, *]
theorem gM_frz {k : Bool} {n : Nat} {d : D} : gM k n (frz d) = gM k n d := by
  cases d with
  | tup xs =>
    rcases xs with _ | ⟨a, _ | ⟨b, _ | ⟨c, _ | ⟨e, xs⟩⟩⟩⟩
    · rfl
    · cases a <;> rfl
    · cases a <;> first | rfl | (cases b <;> rfl)
    · cases a <;> first | rfl | (cases b <;> first | rfl | (cases c <;> rfl))
    · cases a <;> first | rfl | (cases b <;> rfl)
  | _ => rfl
theorem gMs {k : Bool} {n : Nat} : ∀ {xs : List D}, (∀ x ∈ xs, gM k n x = true) → ∃ ms : List M, xs = ms.map mD ∧ ∀ m ∈ ms, okM k n m
  | [], _ => ⟨[], rfl, fun _ m => by cases m⟩
  | x :: xs, h => by
    obtain ⟨ms, rfl, h2⟩ := gMs fun y m => h y (List.mem_cons_of_mem _ m)
    obtain ⟨m, rfl, h1⟩ := gM_iff (h x List.mem_cons_self)
    exact ⟨m :: ms, rfl, fun a ha => by rcases List.mem_cons.mp ha with z | z; subst z; exact h1; exact h2 a z⟩
theorem e_is_played_any {k : Bool} {n : Nat} {t : D} (ht : goodR t = true) : c_is_played [.str (kS k), .int n, frz t] = .ret (.bl (gM k n t)) [] := by
  cases t with
  | tup xs =>
    rcases xs with _ | ⟨a, _ | ⟨b, _ | ⟨c, _ | ⟨e, xs⟩⟩⟩⟩
    · simp -implicitDefEqProofs [-List.map_map, u_is_played, k_is_played, frz_frz, frzL_frzL, gM]
    · simp -implicitDefEqProofs [-List.map_map, u_is_played, k_is_played, frz_frz, frzL_frzL, gM]
    · simp -implicitDefEqProofs [-List.map_map, u_is_played, k_is_played, frz_frz, frzL_frzL, gM]
    · have hg := goodL_mem (show goodL [a, b, c] = true by simpa [goodR] using ht)
      have pa := e_is_player_any (n := n) (x := frz a) (by rw [okD_frz]; exact good_okD (hg a (by simp)))
      have pb := e_is_player_any (n := n) (x := frz b) (by rw [okD_frz]; exact good_okD (hg b (by simp)))
      have pc := e_is_player_any (n := n) (x := frz c) (by rw [okD_frz]; exact good_okD (hg c (by simp)))
      have fr : ∀ x, isPl n (frz x) = isPl n x := fun x => by cases x <;> rfl
      rw [fr] at pa pb pc
      by_cases ha : isPl n a = true
      · by_cases hb : isPl n b = true
        · rw [ha] at pa
          rw [hb] at pb
          cases a <;> simp only [isPl, decide_eq_true_eq] at ha <;> try cases ha
          cases b <;> simp only [isPl, decide_eq_true_eq] at hb <;> try cases hb
          rename_i i i1 i2 j j1 j2
          have gc := hg c (by simp)
          have c1 : ¬ (n : Int) ≤ i := by omega
          have c2 : ¬ j < 0 := by omega
          by_cases hij : j ≤ i
          · have : ¬ (0 ≤ i ∧ i < j ∧ j < n) := by omega
            simp -implicitDefEqProofs [-List.map_map, u_is_played, k_is_played, frz_frz, frzL_frzL, pa, pb, hij, gM, this]
          · have h3 : (0 ≤ i ∧ i < j ∧ j < n) := by omega
            cases c with
            | non => simp -implicitDefEqProofs [-List.map_map, u_is_played, k_is_played, frz_frz, frzL_frzL, pa, pb, hij, gM, h3, gW, c1, c2]
            | int x =>
              by_cases hx : x = i ∨ x = j
              · have d1 : 0 ≤ x := by omega
                have d2 : x < n := by omega
                simp -implicitDefEqProofs [-List.map_map, u_is_played, k_is_played, frz_frz, frzL_frzL, pa, pb, pc, hij, gM, h3, gW, c1, c2, hx, d1, d2]
              · obtain ⟨hx1, hx2⟩ : ¬ x = i ∧ ¬ x = j := ⟨fun z => hx (.inl z), fun z => hx (.inr z)⟩
                cases hp : isPl n (.int x) with
                | true =>
                  simp only [isPl, decide_eq_true_eq] at hp
                  obtain ⟨d1, d2⟩ := hp
                  simp -implicitDefEqProofs [-List.map_map, u_is_played, k_is_played, frz_frz, frzL_frzL, pa, pb, hij, gM, h3, gW, c1, c2, hx1, hx2, d1, d2]
                | false =>
                  have d1 : ¬ (0 ≤ x ∧ x < n) := by simpa [isPl] using hp
                  have d2 : 0 ≤ x → ¬ x < n := fun z y => d1 ⟨z, y⟩
                  by_cases d3 : 0 ≤ x
                  · have d4 := d2 d3
                    simp -implicitDefEqProofs [-List.map_map, u_is_played, k_is_played, frz_frz, frzL_frzL, pa, pb, hij, gM, h3, gW, c1, c2, hx1, hx2, d3, d4]
                  · simp -implicitDefEqProofs [-List.map_map, u_is_played, k_is_played, frz_frz, frzL_frzL, pa, pb, hij, gM, h3, gW, c1, c2, hx1, hx2, d3]
            | scr _ => simp [goodR] at gc
            | obj _ _ _ _ => simp [goodR] at gc
            | _ =>
              simp only [isPl, frz] at pc
              simp -implicitDefEqProofs [-List.map_map, u_is_played, k_is_played, frz_frz, frzL_frzL, pa, pb, pc, hij, gM, h3, gW, c1, c2]
        · have hb : isPl n b = false := by simpa using hb
          rw [hb] at pb
          rw [ha] at pa
          have : gM k n (.tup [a, b, c]) = false := by
            cases a <;> try rfl
            cases b <;> try rfl
            simp only [isPl, decide_eq_false_iff_not, decide_eq_true_eq] at hb ha
            simp only [gM, Bool.and_eq_false_iff, decide_eq_false_iff_not]
            left; omega
          simp -implicitDefEqProofs [-List.map_map, u_is_played, k_is_played, frz_frz, frzL_frzL, pa, pb, this]
      · have ha : isPl n a = false := by simpa using ha
        rw [ha] at pa
        have : gM k n (.tup [a, b, c]) = false := by
          cases a <;> try rfl
          cases b <;> try rfl
          simp only [isPl, decide_eq_false_iff_not] at ha
          simp only [gM, Bool.and_eq_false_iff, decide_eq_false_iff_not]
          left; omega
        simp -implicitDefEqProofs [-List.map_map, u_is_played, k_is_played, frz_frz, frzL_frzL, pa, this]
    · have : ¬ ((xs.length : Int) + 1 + 1 + 1 + 1 = 3) := by omega
      simp -implicitDefEqProofs [-List.map_map, u_is_played, k_is_played, frz_frz, frzL_frzL, gM, this]
  | scr _ => simp [goodR] at ht
  | obj _ _ _ _ => simp [goodR] at ht
  | _ => simp -implicitDefEqProofs [-List.map_map, u_is_played, k_is_played, frz_frz, frzL_frzL, gM]
theorem adj_pw {α : Type} (R : α → α → Prop) (tr : ∀ a b c, R a b → R b c → R a c) : ∀ (l : List α), (∀ i (h : i + 1 < l.length), R (l[i]'(by omega)) l[i + 1]) → l.Pairwise R
  | [], _ => .nil
  | [a], _ => List.pairwise_singleton _ _
  | a :: b :: l, h => by
    have ih := adj_pw R tr (b :: l) fun i hi => by
      have := h (i + 1) (by simp at hi ⊢; omega)
      simpa using this
    have ab := h 0 (by simp)
    simp at ab
    refine List.pairwise_cons.mpr ⟨fun x m => ?_, ih⟩
    rcases List.mem_cons.mp m with z | z
    · subst z; exact ab
    · exact tr a b x ab ((List.pairwise_cons.mp ih).1 x z)
theorem ltM_tr (a b c : M) (h1 : ltM a b) (h2 : ltM b c) : ltM a c := by unfold ltM at *; omega
/-- somewhere the matches do not rise -/
def dnM (ms : List M) : Bool := (List.range (ms.length - 1)).any fun i => decide (¬ ltP (key (ms.getD i (0, 0, none))) (key (ms.getD (i + 1) (0, 0, none))))
theorem dnM_pw {ms : List M} (h : dnM ms = false) : ms.Pairwise ltM := by
  refine adj_pw _ ltM_tr ms fun i hi => ?_
  unfold dnM at h
  rw [List.any_eq_false] at h
  have := h i (List.mem_range.mpr (by omega))
  simp only [List.getD_eq_getElem?_getD, List.getElem?_eq_getElem hi, List.getElem?_eq_getElem (show i < ms.length by omega), Option.getD_some, decide_eq_true_eq, Classical.not_not] at this
  exact this
theorem mem_kinds (z : Str) : mem (.str z) [.str (Str.ofString "plain"), .str (Str.ofString "ties")] = decide (z = Str.ofString "plain" ∨ z = Str.ofString "ties") := by
  have e : ∀ a b : Str, PyData.eqv (.str a) (.str b) = decide (a = b) := fun a b => by
    simp only [PyData.eqv]
    rw [Bool.eq_iff_iff]
    simp
  simp only [mem, pyL, py, List.any_cons, List.any_nil, e, Bool.or_false]
  rw [Bool.eq_iff_iff]
  simp only [Bool.or_eq_true, decide_eq_true_eq]
  exact ⟨fun h => h.imp (·.symm) (·.symm), fun h => h.imp (·.symm) (·.symm)⟩
/-- a thing that may be asked whether it is a league -/
structure Lq (t : D) : Prop where
  good : goodR t = true
  kind : ∀ z b c, t = .tup [.str z, b, c] → shp (.str z) = true
  len : ∀ a b o xs, t = .tup [a, b, .lst o xs] → xs.length ≤ 1000
def isLg (t : D) : Prop := ∃ L o, okL L ∧ t = .tup [.str (kS L.k), .int L.n, .lst o (L.ms.map mD)]
open Classical in
noncomputable def gL (t : D) : Bool := decide (isLg t)
theorem gL_yes {t : D} (h : isLg t) : gL t = true := @decide_eq_true _ (Classical.propDecidable _) h
theorem gL_no {t : D} (h : ¬ isLg t) : gL t = false := @decide_eq_false _ (Classical.propDecidable _) h
theorem lg_frz (o : Bool) (L : Lg) : frz (.tup [.str (kS L.k), .int L.n, .lst o (L.ms.map mD)]) = lgD false L := by simp [lgD, -fold_lgD]
theorem kS_of {z : Str} (h : z = Str.ofString "plain" ∨ z = Str.ofString "ties") : ∃ k, z = kS k := by
  rcases h with rfl | rfl
  · exact ⟨false, rfl⟩
  · exact ⟨true, rfl⟩
theorem deq_map_nil {α : Type} (f : α → D) {ys : List α} (h : ys ≠ []) : deqL (ys.map f) [] = false := by
  cases ys with
  | nil => exact absurd rfl h
  | cons y ys => rfl
theorem e_is_league_any {t : D} (h : Lq t) : c_is_league [frz t] = .ret (.bl (gL t)) [] := by
  by_cases hg : isLg t
  · rw [gL_yes hg]
    obtain ⟨L, o, hL, rfl⟩ := hg
    rw [lg_frz]
    exact e_is_league hL
  rw [gL_no hg]
  have hgood := h.good
  cases t with
  | tup xs =>
    rcases xs with _ | ⟨a, _ | ⟨b, _ | ⟨c, _ | ⟨e, xs⟩⟩⟩⟩
    · simp -implicitDefEqProofs [-List.map_map, u_is_league, k_is_league]
    · simp -implicitDefEqProofs [-List.map_map, u_is_league, k_is_league]
    · simp -implicitDefEqProofs [-List.map_map, u_is_league, k_is_league]
    · have hm := goodL_mem (show goodL [a, b, c] = true by simpa [goodR] using hgood)
      have ga := hm a (by simp)
      have gb := hm b (by simp)
      have gc := hm c (by simp)
      cases a with
      | str z =>
        by_cases hz : z = Str.ofString "plain" ∨ z = Str.ofString "ties"
        · have hz2 := hz
          obtain ⟨k, rfl⟩ := kS_of hz
          cases b with
          | int n =>
            by_cases hn : 2 ≤ n ∧ n ≤ 6
            · obtain ⟨h2, h6⟩ := hn
              obtain ⟨N, rfl⟩ : ∃ N : Nat, n = N := ⟨n.toNat, by omega⟩
              cases c with
              | lst o xs =>
                have hl := h.len _ _ _ _ rfl
                have gx := goodL_mem (show goodL xs = true by simpa [goodR] using gc)
                have l1 : xs.length ≤ 100000 := by omega
                by_cases hp : ∀ x ∈ xs, gM k N x = true
                · obtain ⟨ms, rfl, hok⟩ := gMs hp
                  rw [List.length_map] at hl
                  have hd : dnM ms = true := by
                    cases hd : dnM ms with
                    | true => rfl
                    | false => exact absurd ⟨⟨k, N, ms⟩, o, ⟨by show 2 ≤ N; omega, by show N ≤ 6; omega, hok, dnM_pw hd⟩, rfl⟩ hg
                  have l3 : ms.length ≤ 100000 := by omega
                  have l4 : ((ms.length : Int) - 1).toNat = ms.length - 1 := by omega
                  have l5 : ms.length - 1 ≤ 100000 := by omega
                  have l6 : (ms.length : Int) < 4611686018427387904 := by omega
                  have l7 : (-4611686018427387904 : Int) ≤ ms.length := by omega
                  simp -implicitDefEqProofs [-List.map_map, u_is_league, k_is_league, c_KINDS, c_FEWEST, c_MOST, mem_kinds, hz2, h2, h6, l3]
                  rw [kComp_congr (g := fun _ => some none) fun m hm => by
                    have := e_is_played (hok m hm)
                    simp -implicitDefEqProofs [-List.map_map, this]]
                  simp -implicitDefEqProofs [-List.map_map, l3, l4, l5, l6, l7, rangeD_int]
                  rw [kComp_congr (g := fun (i : Nat) => some (if ¬ ltP (key (ms.getD i (0, 0, none))) (key (ms.getD (i + 1) (0, 0, none))) then some (D.int (1 + (i : Int))) else none)) fun i hi => by
                    have hi := List.mem_range.mp hi
                    have a1 : atI (ms.map mD) (1 + (i : Int)) = some (mD (ms.getD (i + 1) (0, 0, none))) := by
                      rw [atI_map, show (1 + (i : Int)) = ((i + 1 : Nat) : Int) by omega, atI_nat (show i + 1 < ms.length by omega), List.getD_eq_getElem?_getD, List.getElem?_eq_getElem (show i + 1 < ms.length by omega)]
                      rfl
                    have a2 : atI (ms.map mD) (1 + (i : Int) - 1) = some (mD (ms.getD i (0, 0, none))) := by
                      rw [atI_map, show (1 + (i : Int) - 1) = (i : Int) by omega, atI_nat (show i < ms.length by omega), List.getD_eq_getElem?_getD, List.getElem?_eq_getElem (show i < ms.length by omega)]
                      rfl
                    generalize ms.getD (i + 1) (0, 0, none) = b at a1 ⊢
                    generalize ms.getD i (0, 0, none) = a at a2 ⊢
                    by_cases c : ltP (key a) (key b) <;> simp -implicitDefEqProofs [-List.map_map, a1, a2, c]]
                  have hf : ¬ (List.range (ms.length - 1)).filter (fun i => !decide (ltP (key (ms.getD i (0, 0, none))) (key (ms.getD (i + 1) (0, 0, none))))) = [] := by
                    intro z
                    obtain ⟨i, hi, c⟩ := List.any_eq_true.mp hd
                    have := List.filter_eq_nil_iff.mp z i hi
                    exact this (by simpa using c)
                  have hh := deq_map_nil (fun x : Nat => D.int (1 + (x : Int))) hf
                  simp only [List.getD_eq_getElem?_getD] at hh
                  simp -implicitDefEqProofs [-List.map_map, hh]
                  done
                · have hx2 : ∃ x, x ∈ xs ∧ gM k N x = false := by simpa using hp
                  have hn0 : ¬ xs = [] := by rintro rfl; exact hp fun _ m => by cases m
                  simp -implicitDefEqProofs [-List.map_map, u_is_league, k_is_league, c_KINDS, c_FEWEST, c_MOST, mem_kinds, hz2, h2, h6, l1, frzL_frzL]
                  rw [frzL_map, kComp_map, kComp_congr (g := fun x => some (if gM k N x = true then none else some (frz x))) fun x m => by
                    have e := e_is_played_any (k := k) (n := N) (gx x m)
                    cases c : gM k N x <;> rw [c] at e <;> simp -implicitDefEqProofs [-List.map_map, e, frz_frz]]
                  simp -implicitDefEqProofs [-List.map_map, hx2]
                  done
              | scr _ => simp [goodR] at gc
              | obj _ _ _ _ => simp [goodR] at gc
              | _ => simp -implicitDefEqProofs [-List.map_map, u_is_league, k_is_league, c_KINDS, c_FEWEST, c_MOST, mem_kinds, hz2, h2, h6]
            · have hn2 : 2 ≤ n → ¬ n ≤ 6 := fun x y => hn ⟨x, y⟩
              by_cases h2 : 2 ≤ n
              · have h6 := hn2 h2
                simp -implicitDefEqProofs [-List.map_map, u_is_league, k_is_league, c_KINDS, c_FEWEST, c_MOST, mem_kinds, hz2, h2, h6]
              · simp -implicitDefEqProofs [-List.map_map, u_is_league, k_is_league, c_KINDS, c_FEWEST, c_MOST, mem_kinds, hz2, h2]
          | scr _ => simp [goodR] at gb
          | obj _ _ _ _ => simp [goodR] at gb
          | _ => simp -implicitDefEqProofs [-List.map_map, u_is_league, k_is_league, c_KINDS, c_FEWEST, c_MOST, mem_kinds, hz2, u_is_whole, k_is_whole]
        · simp -implicitDefEqProofs [-List.map_map, u_is_league, k_is_league, c_KINDS, mem_kinds, hz]
      | scr _ => simp [goodR] at ga
      | obj _ _ _ _ => simp [goodR] at ga
      | _ => simp -implicitDefEqProofs [-List.map_map, u_is_league, k_is_league]
    · have : ¬ ((xs.length : Int) + 1 + 1 + 1 + 1 = 3) := by omega
      simp -implicitDefEqProofs [-List.map_map, u_is_league, k_is_league, this]
  | scr _ => simp [goodR] at hgood
  | obj _ _ _ _ => simp [goodR] at hgood
  | _ => simp -implicitDefEqProofs [-List.map_map, u_is_league, k_is_league]
end T
namespace T
open PySem PySem.Spec PyProof.Rows L2
/-! ### family A: numbers drawn from a deck -/
abbrev Pool := Int × Int × Int
def plD (p : Pool) : D := .lst true [.int p.1, .int p.2.1, .int p.2.2]
structure Dek where
  ps : List Pool
  c : Int
  ne : ps ≠ []
def dkD (S : Dek) : D := .lst true [.lst true (S.ps.map plD), .int S.c]
@[simp] theorem owndL_pl (ps : List Pool) : owndL (ps.map plD) = true := owndL_all fun x h => by
  obtain ⟨p, _, rfl⟩ := List.mem_map.mp h
  rfl
@[simp] theorem ownd_dkD (S : Dek) : ownd (dkD S) = true := by simp [dkD]
theorem e_draw (S : Dek) {many : Int} (h0 : 0 < many) (h1 : many < 1000000) : ∃ r S', 0 ≤ r ∧ r < many ∧ c__law_draw [dkD S, .int many] = .ret (.int r) [dkD S'] := by
  obtain ⟨ps, c, ne⟩ := S
  have hlen : 0 < ps.length := List.length_pos_iff.mpr ne
  have hl : ¬ (ps.length : Int) = 0 := by omega
  have hl1 : 0 < (ps.length : Int) := by omega
  have hi : ixN ps.length (c % ps.length) = some (c % (ps.length : Int)).toNat := ixN_nn (Int.emod_nonneg _ hl) (Int.emod_lt_of_pos _ hl1)
  have hk : (c % (ps.length : Int)).toNat < ps.length := by
    have := Int.emod_nonneg c hl
    have := Int.emod_lt_of_pos c hl1
    omega
  generalize hq : (c % (ps.length : Int)).toNat = k at hi hk
  obtain ⟨a, b, e, hps⟩ : ∃ a b e, ps[k] = (a, b, e) := ⟨_, _, _, rfl⟩
  have hg : ps[k]? = some (a, b, e) := by rw [List.getElem?_eq_getElem hk, hps]
  have fin : ∀ (p' : Pool) (r : Int), (Fr.ret (.int r) [.lst true [.lst true ((ps.map plD).set k (plD p')), .int (c + 1)]]) = .ret (.int r) [dkD ⟨ps.set k p', c + 1, by intro z; have := congrArg List.length z; rw [List.length_set, List.length_nil] at this; omega⟩] := fun p' r => by
    simp [dkD, List.map_set]
  have i0 : ixN 3 0 = some 0 := rfl
  have i2 : ixN 3 2 = some 2 := rfl
  have cm : ∀ x y : Int, CMul (x % 99999999947) y = True := fun x y => eq_true (.inl ⟨by have := Int.emod_nonneg x (show (99999999947 : Int) ≠ 0 by decide); omega, by have := Int.emod_lt_of_pos x (show (0 : Int) < 99999999947 by decide); omega⟩)
  have cm2 : ∀ x y : Int, CMul (x % 99999999821) y = True := fun x y => eq_true (.inl ⟨by have := Int.emod_nonneg x (show (99999999821 : Int) ≠ 0 by decide); omega, by have := Int.emod_lt_of_pos x (show (0 : Int) < 99999999821 by decide); omega⟩)
  have cm3 : ∀ y : Int, CMul 700001 y = True := fun y => eq_true (.inl ⟨by decide, by decide⟩)
  have cd : ∀ x : Int, CDiv x 13 = True := fun x => eq_true ⟨by decide, by decide⟩
  have h2 : many < 1073741824 := by omega
  have dv : CDiv a many = True := eq_true ⟨h0, by omega⟩
  by_cases hb : b = 1 ∧ 0 < a
  · obtain ⟨rfl, ha⟩ := hb
    refine ⟨a % many, _, Int.emod_nonneg _ (by omega), Int.emod_lt_of_pos _ h0, Eq.trans ?_ (fin (a / many, 1, e) _)⟩
    simp -implicitDefEqProofs [-List.map_map, u__law_draw, k__law_draw, k_wDraw, dkD, hlen, hi, hg, ha, h0, i0, i2, plD, h2]
  · have key : c__law_draw [dkD ⟨ps, c, ne⟩, .int many] = .ret (.int (((((a % 99999999977 + 700001 * (e + 1)) % 99999999947 * ((a % 99999999977 + 700001 * (e + 1)) % 99999999947) % 99999999821) * ((a % 99999999977 + 700001 * (e + 1)) % 99999999947 * ((a % 99999999977 + 700001 * (e + 1)) % 99999999947) % 99999999821 + 19) % 9999999967) / 13) % many)) [.lst true [.lst true ((ps.map plD).set k (plD (a, b, e + 1))), .int (c + 1)]] := by
      have hb' : b = 1 → ¬ 0 < a := fun x y => hb ⟨x, y⟩
      by_cases hb1 : b = 1
      · have := hb' hb1
        subst hb1
        simp -implicitDefEqProofs [-List.map_map, u__law_draw, k__law_draw, k_wDraw, dkD, hlen, hi, hg, this, h0, i0, i2, plD, h2, cm, cm2, cm3, cd]
      · simp -implicitDefEqProofs [-List.map_map, u__law_draw, k__law_draw, k_wDraw, dkD, hlen, hi, hg, hb1, h0, i0, i2, plD, h2, cm, cm2, cm3, cd]
    exact ⟨_, _, Int.emod_nonneg _ (by omega), Int.emod_lt_of_pos _ h0, key.trans (fin (a, b, e + 1) _)⟩
def cellA (ns : List Int) (k : Nat) : Int := if h : k < ns.length then ns[k] else 0
def poolA (ns : List Int) (k : Nat) : Pool := (cellA ns k, if 1000000000000000000 ≤ cellA ns k then 1 else 0, 31 * k)
theorem e_deck (ns : List Int) : ∃ S, c__law_deck [.scr ns] = .ret (dkD S) [] := by
  have cm : ∀ y : Int, CMul 31 y = True := fun y => eq_true (.inl ⟨by decide, by decide⟩)
  obtain ⟨nz, hz, z1, z2⟩ : ∃ nz : Int, (if 1 < (if (ns.length : Int) < 63 then (ns.length : Int) else 63) then (if (ns.length : Int) < 63 then (ns.length : Int) else 63) else 1) = nz ∧ 1 ≤ nz ∧ nz ≤ 63 := ⟨_, rfl, by split <;> omega, by split <;> (try split) <;> omega⟩
  obtain ⟨n, rfl⟩ : ∃ n : Nat, nz = n := ⟨nz.toNat, by omega⟩
  have b1 : (-4611686018427387904 : Int) ≤ n := by omega
  have b2 : (n : Int) < 4611686018427387904 := by omega
  simp -implicitDefEqProofs [-List.map_map, u__law_deck, k__law_deck, hz, b1, b2, rangeD_nat]
  generalize hX : kLoop _ _ _ = X
  have hx := fold_w hX (fun ps : List Pool => [some (.scr ns), some (.lst true (ps.map plD)), none, none]) (fun ps k => ps ++ [poolA ns k]) [] rfl (by
    intro acc k rest hk
    rw [foldl_snoc]
    have lk : acc.length < 100000 := by
      have := congrArg List.length hk
      simp at this
      omega
    by_cases h : k < ns.length
    · by_cases h3 : 1000000000000000000 ≤ ns[k]
      · simp -implicitDefEqProofs [-List.map_map, poolA, cellA, h, atI_nat h, h3, cm, lk, plD]
      · simp -implicitDefEqProofs [-List.map_map, poolA, cellA, h, atI_nat h, h3, cm, lk, plD]
    · simp -implicitDefEqProofs [-List.map_map, poolA, cellA, h, cm, lk, plD])
  subst hx
  rw [foldl_snoc]
  refine ⟨⟨(List.range n).map (poolA ns), 0, by intro z; have := congrArg List.length z; simp at this; omega⟩, ?_⟩
  simp -implicitDefEqProofs [-List.map_map, dkD]
theorem e_outcome (S : Dek) (k : Bool) (i j : Int) : ∃ w S', okW k i j w ∧ c__law_outcome [dkD S, .str (kS k), .int i, .int j] = .ret (wD w) [dkD S'] := by
  obtain ⟨r, S', h0, h1, e⟩ := e_draw S (many := 3) (by decide) (by decide)
  have : r = 0 ∨ r = 1 ∨ r = 2 := by omega
  rcases this with rfl | rfl | rfl
  · exact ⟨some i, S', .inr (.inl rfl), by cases k <;> simp -implicitDefEqProofs [-List.map_map, u__law_outcome, k__law_outcome, e]⟩
  · exact ⟨some j, S', .inr (.inr rfl), by cases k <;> simp -implicitDefEqProofs [-List.map_map, u__law_outcome, k__law_outcome, e]⟩
  · cases k
    · exact ⟨some i, S', .inr (.inl rfl), by simp -implicitDefEqProofs [-List.map_map, u__law_outcome, k__law_outcome, e]⟩
    · exact ⟨none, S', .inl ⟨rfl, rfl⟩, by simp -implicitDefEqProofs [-List.map_map, u__law_outcome, k__law_outcome, e]⟩
theorem e_own {L : Lg} : c__law_own [lgD false L] = .ret (lgD true L) [] := by
  simp -implicitDefEqProofs [-List.map_map, u__law_own, k__law_own]
theorem pairs_perm {n : Nat} (h2 : 2 ≤ n) (h6 : n ≤ 6) : ((List.range n).flatMap fun j => (List.range j).map fun (i : Nat) => ((i : Int), (j : Int))).Perm (allP n) := by
  rcases n_cases h2 h6 with rfl | rfl | rfl | rfl | rfl <;> decide +kernel
theorem e_pairs {n : Nat} (h2 : 2 ≤ n) (h6 : n ≤ 6) : c__law_pairs [.int n] = .ret (.lst true ((allP n).map pD)) [] := by
  have ep := sort_pairs (pairs_perm h2 h6) (allP_lt h6) (by rw [(pairs_perm h2 h6).length_eq]; have := allP_len h6; omega)
  have b2 : (n : Int) < 4611686018427387904 := by omega
  simp -implicitDefEqProofs [-List.map_map, u__law_pairs, k__law_pairs, rangeD_nat, b2]
  generalize hX : kLoop _ _ _ = X
  have hx := fold_w hX (fun acc : List (Int × Int) => [some (.int n), some (.lst true (acc.map pD)), none, none]) (fun acc j => acc ++ (List.range j).map fun (i : Nat) => ((i : Int), (j : Int))) [] rfl (by
    intro acc j rest hj
    have j1 : j < n := by
      have : j ∈ List.range n := by rw [hj]; simp
      exact List.mem_range.mp this
    have l1 : acc.length ≤ 6 := by
      have := congrArg List.length hj
      simp at this
      omega
    have l2 := flatMap_len (f := fun j => (List.range j).map fun (i : Nat) => ((i : Int), (j : Int))) (k := 6) (xs := acc) fun x hx => by
      have : x ∈ List.range n := by rw [hj]; simp [hx]
      have := List.mem_range.mp this
      simp
      omega
    rw [foldl_app, List.nil_append]
    generalize acc.flatMap _ = as at l2 ⊢
    have b3 : (j : Int) < 4611686018427387904 := by omega
    have l3 : as.length + j < 100000 := by omega
    have b4 : j ≤ 100000 := by omega
    have e5 : (List.range j).map (fun (x : Nat) => pD ((x : Int), (j : Int))) = ((List.range j).map fun (i : Nat) => ((i : Int), (j : Int))).map pD := by rw [List.map_map]; rfl
    simp -implicitDefEqProofs [-List.map_map, b3, b4, l3, rangeD_nat, e5])
  subst hx
  rw [foldl_app]
  simp -implicitDefEqProofs [-List.map_map, ep]
theorem enum_map {α : Type} (f : α → D) (l : List α) : enumD (l.map f) = l.zipIdx.map fun q => D.tup [.int (q.2 : Int), f q.1] := by
  apply List.ext_getElem?
  intro i
  rw [enumD_get]
  simp [List.getElem?_zipIdx]
  cases l[i]? <;> rfl
theorem zipIdx_fst {α : Type} (l : List α) : l.zipIdx.map (·.1) = l := by
  apply List.ext_getElem?
  intro i
  simp [List.getElem?_zipIdx]
theorem fst_zipIdx {α : Type} {l : List α} {q : α × Nat} (h : q ∈ l.zipIdx) : q.1 ∈ l := by
  have := List.mem_map_of_mem (f := (·.1)) h
  rw [zipIdx_fst] at this
  exact this
theorem w_some_league (S : Dek) (P : D → List D → Prop) (hP : ∀ L S', okL L → P (lgD true L) [dkD S']) : Fr.is (c__law_some_league [dkD S]) P := by
  obtain ⟨r, S, h0, h1, e⟩ := e_draw S (many := 2) (by decide) (by decide)
  obtain ⟨k, hk⟩ : ∃ k : Bool, atI [D.str "plain", D.str "ties"] r = some (.str (kS k)) := by
    have : r = 0 ∨ r = 1 := by omega
    rcases this with rfl | rfl
    · exact ⟨false, rfl⟩
    · exact ⟨true, rfl⟩
  obtain ⟨r1, S1, h10, h11, e1⟩ := e_draw S (many := 5) (by decide) (by decide)
  obtain ⟨r2, S2, h20, h21, e2⟩ := e_draw S1 (many := 3) (by decide) (by decide)
  obtain ⟨r3, S3, h30, h31, e3⟩ := e_draw S2 (many := 3) (by decide) (by decide)
  obtain ⟨nz, ⟨z2, z6⟩, hx⟩ : ∃ nz : Int, (2 ≤ nz ∧ nz ≤ 6) ∧ atI [D.int (2 + r1), D.int 6, D.int (4 + r2)] r3 = some (.int nz) := by
    have : r3 = 0 ∨ r3 = 1 ∨ r3 = 2 := by omega
    rcases this with rfl | rfl | rfl
    · exact ⟨2 + r1, by omega, rfl⟩
    · exact ⟨6, by omega, rfl⟩
    · exact ⟨4 + r2, by omega, rfl⟩
  obtain ⟨n, rfl⟩ : ∃ n : Nat, nz = n := ⟨nz.toNat, by omega⟩
  have n2 : 2 ≤ n := by omega
  have n6 : n ≤ 6 := by omega
  have pl := allP_len n6
  have pl2 : (allP n).length ≤ 100000 := by omega
  obtain ⟨r4, S4, h40, h41, e4⟩ := e_draw S3 (many := 5) (by decide) (by decide)
  obtain ⟨r5, S5, h50, h51, e5⟩ := e_draw S4 (many := 16) (by decide) (by decide)
  simp -implicitDefEqProofs [-List.map_map, u__law_some_league, k__law_some_league, e, hk, e1, e2, e3, hx, e_pairs n2 n6, e4, e5, pl2]
  rw [enum_map]
  generalize hX : kLoop _ _ _ = X
  refine Exists.elim (loop_w (fun (rest : List ((Int × Int) × Nat)) G => ∃ (S' : Dek) (ms : List M), G = [some (dkD S'), some (.str (kS k)), some (.int n), some (.int r4), some (.int r5), some (.lst true (ms.map mD)), none, none, none] ∧ ms.Pairwise ltM ∧ (∀ m ∈ ms, okM k n m) ∧ (∀ m ∈ ms, ∀ q ∈ rest, ltP (key m) q.1) ∧ (rest.map (·.1)).Pairwise ltP ∧ (∀ q ∈ rest, q.1 ∈ allP n) ∧ ms.length + rest.length ≤ 15) hX ?_ ?_) ?_
  · refine ⟨S5, [], rfl, .nil, ?_, ?_, ?_, fun q hq => fst_zipIdx hq, ?_⟩
    · intro m hm
      cases hm
    · intro m hm
      cases hm
    · rw [zipIdx_fst]
      exact allP_lt n6
    · simp
      omega
  · rintro ⟨⟨i, j⟩, x⟩ rest G ⟨S6, ms, rfl, lt, ok, bef, prs, sub, len⟩ P hQ
    obtain ⟨a1, S7, b10, b11, ea⟩ := e_draw S6 (many := 2) (by decide) (by decide)
    obtain ⟨a2, S8, b20, b21, eb⟩ := e_draw S7 (many := 5) (by decide) (by decide)
    obtain ⟨b, hb⟩ : ∃ b, atI [D.bl false, D.bl true, D.bl (decide (a1 = 0)), D.bl (decide (a2 = 0)), D.bl (decide ((x : Int) < r5))] r4 = some (.bl b) := by
      have : r4 = 0 ∨ r4 = 1 ∨ r4 = 2 ∨ r4 = 3 ∨ r4 = 4 := by omega
      rcases this with rfl | rfl | rfl | rfl | rfl <;> exact ⟨_, rfl⟩
    have hij := mem_allP.mp (sub _ List.mem_cons_self)
    simp only at hij
    have lk : ms.length < 100000 := by simp at len; omega
    rw [List.map_cons] at prs
    have prs2 := (List.pairwise_cons.mp prs)
    cases b with
    | false =>
      simp -implicitDefEqProofs [-List.map_map, ea, eb, hb]
      exact hQ _ ⟨S8, ms, rfl, lt, ok, fun m hm q hq => bef m hm q (List.mem_cons_of_mem _ hq), prs2.2, fun q hq => sub q (List.mem_cons_of_mem _ hq), by simp at len; omega⟩
    | true =>
      obtain ⟨w, S9, hw, ew⟩ := e_outcome S8 k i j
      simp -implicitDefEqProofs [-List.map_map, ea, eb, hb, ew, lk]
      refine hQ _ ⟨S9, ms ++ [(i, j, w)], by rw [List.map_append]; rfl, List.pairwise_append.mpr ⟨lt, List.pairwise_singleton _ _, fun m hm a ha => ?_⟩, fun m hm => ?_, fun m hm q hq => ?_, prs2.2, fun q hq => sub q (List.mem_cons_of_mem _ hq), by simp at len ⊢; omega⟩
      · rw [List.mem_singleton.mp ha]
        exact bef m hm _ List.mem_cons_self
      · rcases List.mem_append.mp hm with z | z
        · exact ok m z
        · rw [List.mem_singleton.mp z]
          exact ⟨hij.1, hij.2.1, hij.2.2, hw⟩
      · rcases List.mem_append.mp hm with z | z
        · exact bef m z q (List.mem_cons_of_mem _ hq)
        · rw [List.mem_singleton.mp z]
          exact prs2.1 _ (List.mem_map_of_mem hq)
  · rintro G ⟨⟨S6, ms, rfl, lt, ok, _, _, _, len⟩, rfl⟩
    simp -implicitDefEqProofs [-List.map_map]
    exact hP ⟨k, n, ms⟩ S6 ⟨n2, n6, ok, lt⟩
theorem e_some_league (S : Dek) : ∃ L S', okL L ∧ c__law_some_league [dkD S] = .ret (lgD true L) [dkD S'] := by
  obtain ⟨d, ms, e, L, S', h1, rfl, rfl⟩ := w_some_league S (fun d ms => ∃ L S', okL L ∧ d = lgD true L ∧ ms = [dkD S']) fun L S' h1 => ⟨L, S', h1, rfl, rfl⟩
  exact ⟨L, S', h1, e⟩
theorem nL_ix {n q : Nat} {i : Int} (f : Nat → Int) (h : ixN n i = some q) (hq : q < n) : atI (nL n f) i = some (.int (f q)) := by
  unfold atI
  rw [nL_len, h]
  exact nL_get hq
end T
namespace T
open PySem PySem.Spec PyProof.Rows L2
/-! ### family A: what the law tells of a thing as a league; leagues with something otherwise -/
theorem e_good_match {k : Bool} {n : Nat} {t : D} (ht : goodR t = true) : c__law_is_good_match [.str (kS k), .int n, frz t] = .ret (.bl (gM k n t)) [] := by
  cases t with
  | tup xs =>
    rcases xs with _ | ⟨a, _ | ⟨b, _ | ⟨c, _ | ⟨e, xs⟩⟩⟩⟩
    · simp -implicitDefEqProofs [-List.map_map, u__law_is_good_match, k__law_is_good_match, gM]
    · simp -implicitDefEqProofs [-List.map_map, u__law_is_good_match, k__law_is_good_match, gM]
    · simp -implicitDefEqProofs [-List.map_map, u__law_is_good_match, k__law_is_good_match, gM]
    · have hg := goodL_mem (show goodL [a, b, c] = true by simpa [goodR] using ht)
      have ga := hg a (by simp)
      have gb := hg b (by simp)
      have gc := hg c (by simp)
      by_cases ha : isPl n a = true
      · cases a <;> simp only [isPl, decide_eq_true_eq] at ha <;> try cases ha
        rename_i i i1 i2
        by_cases hb : isPl n b = true
        · cases b <;> simp only [isPl, decide_eq_true_eq] at hb <;> try cases hb
          rename_i j j1 j2
          by_cases hij : j ≤ i
          · have h3 : ¬ (0 ≤ i ∧ i < j ∧ j < n) := by omega
            have h4 : ¬ i < j := by omega
            simp -implicitDefEqProofs [-List.map_map, u__law_is_good_match, k__law_is_good_match, kLoop_cons, i1, i2, j1, j2, hij, gM, h3, h4]
          · have h3 : (0 ≤ i ∧ i < j ∧ j < n) := by omega
            have h4 : i < j := by omega
            cases c with
            | non => simp -implicitDefEqProofs [-List.map_map, u__law_is_good_match, k__law_is_good_match, kLoop_cons, i1, i2, j1, j2, hij, gM, h3, h4, gW]
            | int x =>
              by_cases x1 : x = i <;> by_cases x2 : x = j <;> simp -implicitDefEqProofs [-List.map_map, u__law_is_good_match, k__law_is_good_match, kLoop_cons, i1, i2, j1, j2, hij, gM, h3, h4, gW, x1, x2]
            | scr _ => simp [goodR] at gc
            | obj _ _ _ _ => simp [goodR] at gc
            | _ => simp -implicitDefEqProofs [-List.map_map, u__law_is_good_match, k__law_is_good_match, kLoop_cons, i1, i2, j1, j2, hij, gM, h3, h4, gW, frz_frz, frzL_frzL]
        · have hb : isPl n b = false := by simpa using hb
          have hgm : gM k n (.tup [.int i, b, c]) = false := by
            cases b <;> try rfl
            simp only [isPl, decide_eq_false_iff_not] at hb
            simp only [gM, Bool.and_eq_false_iff, decide_eq_false_iff_not]
            left; omega
          cases b with
          | int j =>
            have hb : ¬ (0 ≤ j ∧ j < n) := by simpa [isPl] using hb
            by_cases j1 : 0 ≤ j
            · have j2 : ¬ j < n := fun z => hb ⟨j1, z⟩
              simp -implicitDefEqProofs [-List.map_map, u__law_is_good_match, k__law_is_good_match, kLoop_cons, i1, i2, j1, j2, hgm, frz_frz, frzL_frzL]
            · simp -implicitDefEqProofs [-List.map_map, u__law_is_good_match, k__law_is_good_match, kLoop_cons, i1, i2, j1, hgm, frz_frz, frzL_frzL]
          | scr _ => simp [goodR] at gb
          | obj _ _ _ _ => simp [goodR] at gb
          | _ => simp -implicitDefEqProofs [-List.map_map, u__law_is_good_match, k__law_is_good_match, kLoop_cons, i1, i2, hgm, frz_frz, frzL_frzL]
      · have ha : isPl n a = false := by simpa using ha
        have hgm : gM k n (.tup [a, b, c]) = false := by
          cases a <;> try rfl
          cases b <;> try rfl
          simp only [isPl, decide_eq_false_iff_not] at ha
          simp only [gM, Bool.and_eq_false_iff, decide_eq_false_iff_not]
          left; omega
        cases a with
        | int j =>
          have hb : ¬ (0 ≤ j ∧ j < n) := by simpa [isPl] using ha
          by_cases j1 : 0 ≤ j
          · have j2 : ¬ j < n := fun z => hb ⟨j1, z⟩
            simp -implicitDefEqProofs [-List.map_map, u__law_is_good_match, k__law_is_good_match, kLoop_cons, j1, j2, hgm, frz_frz, frzL_frzL]
          · simp -implicitDefEqProofs [-List.map_map, u__law_is_good_match, k__law_is_good_match, kLoop_cons, j1, hgm, frz_frz, frzL_frzL]
        | scr _ => simp [goodR] at ga
        | obj _ _ _ _ => simp [goodR] at ga
        | _ => simp -implicitDefEqProofs [-List.map_map, u__law_is_good_match, k__law_is_good_match, kLoop_cons, hgm, frz_frz, frzL_frzL]
    · have : ¬ ((xs.length : Int) + 1 + 1 + 1 + 1 = 3) := by omega
      simp -implicitDefEqProofs [-List.map_map, u__law_is_good_match, k__law_is_good_match, gM, this]
  | scr _ => simp [goodR] at ht
  | obj _ _ _ _ => simp [goodR] at ht
  | _ => simp -implicitDefEqProofs [-List.map_map, u__law_is_good_match, k__law_is_good_match, gM]
def keyD : D → Int × Int
  | .tup [.int i, .int j, _] => (i, j)
  | _ => (0, 0)
def stM (k : Bool) (n : Nat) (l : Int × Int) (x : D) : Option (Int × Int) := if gM k n x = true ∧ ltP l (keyD x) then some (keyD x) else none
theorem keyD_m (m : M) : keyD (mD m) = key m := rfl
theorem stM_frz {k : Bool} {n : Nat} {l : Int × Int} {x : D} (h : gM k n x = true) : ∃ m, x = mD m ∧ okM k n m := gM_iff h
theorem ltP_tr {a b c : Int × Int} (h1 : ltP a b) (h2 : ltP b c) : ltP a c := by unfold ltP at *; omega
theorem foldM_some {k : Bool} {n : Nat} : ∀ {xs : List D} {l : Int × Int}, (foldO (stM k n) l xs).isSome = true → ∃ ms : List M, xs = ms.map mD ∧ (∀ m ∈ ms, okM k n m ∧ ltP l (key m)) ∧ ms.Pairwise ltM
  | [], _, _ => ⟨[], rfl, fun _ m => (by cases m), .nil⟩
  | x :: xs, l, h => by
    by_cases c : gM k n x = true ∧ ltP l (keyD x)
    · have h' : (foldO (stM k n) (keyD x) xs).isSome = true := by simpa [foldO, stM, c] using h
      obtain ⟨ms, rfl, h1, h2⟩ := foldM_some h'
      obtain ⟨m, rfl, hm⟩ := gM_iff c.1
      rw [keyD_m] at c h1
      refine ⟨m :: ms, rfl, fun a ha => ?_, List.pairwise_cons.mpr ⟨fun a ha => (h1 a ha).2, h2⟩⟩
      rcases List.mem_cons.mp ha with z | z
      · subst z; exact ⟨hm, c.2⟩
      · exact ⟨(h1 a z).1, ltP_tr c.2 (h1 a z).2⟩
    · simp [foldO, stM, c] at h
theorem foldM_of {k : Bool} {n : Nat} : ∀ {ms : List M} {l : Int × Int}, (∀ m ∈ ms, okM k n m ∧ ltP l (key m)) → ms.Pairwise ltM → (foldO (stM k n) l (ms.map mD)).isSome = true
  | [], _, _, _ => rfl
  | m :: ms, l, h, hp => by
    obtain ⟨h1, h2⟩ := h m List.mem_cons_self
    obtain ⟨p1, p2⟩ := List.pairwise_cons.mp hp
    have c : gM k n (mD m) = true ∧ ltP l (keyD (mD m)) := ⟨gM_of h1, h2⟩
    have := foldM_of (l := key m) (fun a ha => ⟨(h a (List.mem_cons_of_mem _ ha)).1, p1 a ha⟩) p2
    simpa [foldO, stM, gM_of h1, keyD_m, h2] using this
theorem foldM_lg {k : Bool} {N : Nat} {o : Bool} {xs : List D} (h2 : 2 ≤ N) (h6 : N ≤ 6) : (foldO (stM k N) (-1, -1) xs).isSome = gL (.tup [.str (kS k), .int N, .lst o xs]) := by
  cases hf : (foldO (stM k N) (-1, -1) xs).isSome with
  | true =>
    obtain ⟨ms, rfl, h1, hp⟩ := foldM_some hf
    exact (gL_yes ⟨⟨k, N, ms⟩, o, ⟨h2, h6, fun m hm => (h1 m hm).1, hp⟩, rfl⟩).symm
  | false =>
    refine (gL_no ?_).symm
    rintro ⟨L, o', hL, e⟩
    injection e with e
    injection e with e1 e
    injection e with e2 e
    injection e with e3 _
    injection e1 with e1
    injection e2 with e2
    injection e3 with e3 e4
    have ek : L.k = k := kS_inj e1.symm
    have en : L.n = N := by omega
    subst e4
    have := foldM_of (k := k) (n := N) (l := (-1, -1)) (ms := L.ms) (fun m hm => by
      have ok := hL.okm m hm
      rw [ek, en] at ok
      refine ⟨ok, ?_⟩
      obtain ⟨q1, q2, _⟩ := ok
      unfold ltP key
      simp only
      omega) hL.lt
    rw [this] at hf
    cases hf
theorem e_law_good {t : D} (h : Lq t) : c__law_good [frz t] = .ret (.bl (gL t)) [] := by
  have hgood := h.good
  cases t with
  | tup xs =>
    rcases xs with _ | ⟨a, _ | ⟨b, _ | ⟨c, _ | ⟨e, xs⟩⟩⟩⟩
    · rw [gL_no (by rintro ⟨L, o, _, e⟩; simp [-fold_lgD] at e)]; simp -implicitDefEqProofs [-List.map_map, u__law_good, k__law_good]
    · rw [gL_no (by rintro ⟨L, o, _, e⟩; simp [-fold_lgD] at e)]; simp -implicitDefEqProofs [-List.map_map, u__law_good, k__law_good]
    · rw [gL_no (by rintro ⟨L, o, _, e⟩; simp [-fold_lgD] at e)]; simp -implicitDefEqProofs [-List.map_map, u__law_good, k__law_good]
    · have hm := goodL_mem (show goodL [a, b, c] = true by simpa [goodR] using hgood)
      have ga := hm a (by simp)
      have gb := hm b (by simp)
      have gc := hm c (by simp)
      cases a with
      | str z =>
        have hsz := h.kind _ _ _ rfl
        by_cases hz : z = Str.ofString "plain" ∨ z = Str.ofString "ties"
        · have hz2 := hz
          obtain ⟨k, rfl⟩ := kS_of hz
          cases b with
          | int n =>
            by_cases hn : 2 ≤ n ∧ n ≤ 6
            · obtain ⟨h2, h6⟩ := hn
              obtain ⟨N, rfl⟩ : ∃ N : Nat, n = N := ⟨n.toNat, by omega⟩
              cases c with
              | lst o xs =>
                have hl := h.len _ _ _ _ rfl
                have gx := goodL_mem (show goodL xs = true by simpa [goodR] using gc)
                have l1 : xs.length ≤ 100000 := by omega
                rw [← foldM_lg (by omega) (by omega)]
                simp -implicitDefEqProofs [-List.map_map, u__law_good, k__law_good, mem_kinds, hz2, h2, h6, l1, frzL_frzL, hsz]
                rw [frzL_map]
                generalize hX : kLoop _ _ _ = X
                have hs := loop_st hX (fun l : Int × Int => [none, some (.str (kS k)), some (.int N), some (.lst false (xs.map frz)), some (pD l), none]) (stM k N) (-1, -1) rfl (.bl false) (fun G' => mutsOf [false] G' = some []) (fun l x hm => by
                  have e := e_good_match (k := k) (n := N) (gx x hm)
                  by_cases c1 : gM k N x = true
                  · rw [c1] at e
                    obtain ⟨m, rfl, ok⟩ := gM_iff c1
                    rw [frz_mD] at e
                    by_cases c2 : ltP l (key m)
                    · refine ⟨fun s' e' => ?_, fun e' => ?_⟩
                      · have : key m = s' := by simpa [stM, c1, keyD_m, c2] using e'
                        subst this
                        simp -implicitDefEqProofs [-List.map_map, e, c2]
                      · simp [stM, c1, keyD_m, c2] at e'
                    · refine ⟨fun s' e' => ?_, fun e' => ⟨[none, some (.str (kS k)), some (.int N), some (.lst false (xs.map frz)), some (pD l), some (mD m)], ?_, rfl⟩⟩
                      · simp [stM, keyD_m, c2] at e'
                      · simp -implicitDefEqProofs [-List.map_map, e, c2]
                  · have c2 : gM k N x = false := by simpa using c1
                    rw [c2] at e
                    refine ⟨fun s' e' => ?_, fun e' => ⟨[none, some (.str (kS k)), some (.int N), some (.lst false (xs.map frz)), some (pD l), some (frz x)], ?_, rfl⟩⟩
                    · simp [stM, c2] at e'
                    · simp -implicitDefEqProofs [-List.map_map, e, frz_frz])
                cases hf : foldO (stM k N) (-1, -1) xs with
                | none =>
                  obtain ⟨G', e, r⟩ := hs.2 hf
                  rw [e]
                  simp
                  rw [r]
                | some s' =>
                  rw [hs.1 s' hf]
                  simp -implicitDefEqProofs [-List.map_map]
              | scr _ => simp [goodR] at gc
              | obj _ _ _ _ => simp [goodR] at gc
              | _ => rw [gL_no (by rintro ⟨L, o, _, e⟩; simp [-fold_lgD] at e)]; simp -implicitDefEqProofs [-List.map_map, u__law_good, k__law_good, mem_kinds, hz2, h2, h6, hsz]
            · rw [gL_no (by
                rintro ⟨L, o, hL, e⟩
                injection e with e
                injection e with _ e
                injection e with e2 _
                injection e2 with e2
                have := hL.n2
                have := hL.n6
                omega)]
              have hn2 : 2 ≤ n → ¬ n ≤ 6 := fun x y => hn ⟨x, y⟩
              by_cases h2 : 2 ≤ n
              · have h6 := hn2 h2
                simp -implicitDefEqProofs [-List.map_map, u__law_good, k__law_good, mem_kinds, hz2, h2, h6, hsz]
              · simp -implicitDefEqProofs [-List.map_map, u__law_good, k__law_good, mem_kinds, hz2, h2, hsz]
          | scr _ => simp [goodR] at gb
          | obj _ _ _ _ => simp [goodR] at gb
          | _ => rw [gL_no (by rintro ⟨L, o, _, e⟩; simp [-fold_lgD] at e)]; simp -implicitDefEqProofs [-List.map_map, u__law_good, k__law_good, mem_kinds, hz2, hsz]
        · rw [gL_no (by
            rintro ⟨L, o, _, e⟩
            injection e with e
            injection e with e1 _
            injection e1 with e1
            exact hz (by rw [e1]; cases L.k <;> simp [kS]))]
          simp -implicitDefEqProofs [-List.map_map, u__law_good, k__law_good, mem_kinds, hz, hsz]
      | scr _ => simp [goodR] at ga
      | obj _ _ _ _ => simp [goodR] at ga
      | _ => rw [gL_no (by rintro ⟨L, o, _, e⟩; simp [-fold_lgD] at e)]; simp -implicitDefEqProofs [-List.map_map, u__law_good, k__law_good]
    · rw [gL_no (by rintro ⟨L, o, _, e⟩; simp [-fold_lgD] at e)]
      have : ¬ ((xs.length : Int) + 1 + 1 + 1 + 1 = 3) := by omega
      simp -implicitDefEqProofs [-List.map_map, u__law_good, k__law_good, this]
  | scr _ => simp [goodR] at hgood
  | obj _ _ _ _ => simp [goodR] at hgood
  | _ => rw [gL_no (by rintro ⟨L, o, _, e⟩; simp [-fold_lgD] at e)]; simp -implicitDefEqProofs [-List.map_map, u__law_good, k__law_good]
theorem w_no_match (S : Dek) {k : Bool} {n : Nat} (n2 : 2 ≤ n) (n6 : n ≤ 6) {m : M} (hm : okM k n m) (P : D → List D → Prop) (hP : ∀ t S', Sm 3 700 t → P (frz t) [dkD S']) :
    Fr.is (c__law_no_match [dkD S, .str (kS k), .int n, mD m]) P := by
  obtain ⟨a, S1, a0, a1, e1⟩ := e_draw S (many := n) (by omega) (by omega)
  obtain ⟨b, S2, b0, b1, e2⟩ := e_draw S1 (many := 30) (by decide) (by decide)
  obtain ⟨i, j, w⟩ := m
  obtain ⟨h1, h2, h3, h4⟩ := hm
  simp only at h1 h2 h3 h4
  have lg : i.natAbs.log2 < 1920 := by
    by_cases z : i.natAbs = 0
    · rw [z]; decide
    · exact (Nat.log2_lt z (k := 1920)).mpr (Nat.lt_of_lt_of_le (show i.natAbs < 2 ^ 10 by omega) (by decide))
  simp -implicitDefEqProofs [-List.map_map, u__law_no_match, k__law_no_match, e1, e2, lg]
  generalize hv : atI _ b = v
  have f0 : ∀ x : Int, -100 ≤ x → x ≤ 100 → Sm 1 150 (.int x) := fun x y z => (Sm.int (k := 1) (by omega) (by omega)).mono
  have f1 := f0 i (by omega) (by omega)
  have f2 := f0 j (by omega) (by omega)
  have f3 := f0 n (by omega) (by omega)
  have f4 := f0 a (by omega) (by omega)
  have f5 := f0 (-1) (by decide) (by decide)
  have f6 := f0 0 (by decide) (by decide)
  have f7 := f0 7 (by decide) (by decide)
  have f8 : Sm 1 150 (.bl true) := (Sm.bl (k := 1) true).mono
  have f9 : Sm 1 150 (.bl false) := (Sm.bl (k := 1) false).mono
  have g1 : Sm 1 150 .non := (Sm.non (k := 1)).mono
  have g2 : Sm 1 150 (wD w) := by
    rcases h4 with ⟨rfl, _⟩ | rfl | rfl
    · exact g1
    · exact f1
    · exact f2
  have g3 : Sm 1 150 (.str (Str.ofString "0")) := Sm.str (by decide +kernel)
  have g4 : Sm 1 150 (.str (Str.ofString "")) := Sm.str (by decide +kernel)
  have g5 : Sm 1 150 (.str (Str.ofString i.repr)) := by
    have : i = 0 ∨ i = 1 ∨ i = 2 ∨ i = 3 ∨ i = 4 ∨ i = 5 := by omega
    rcases this with rfl | rfl | rfl | rfl | rfl | rfl <;> exact Sm.str (by decide +kernel)
  have g6 : Sm 1 150 (.dic false [] []) := (Sm.dic0 (k := 0)).mono
  have one : ∀ x, (∃ z : Int, x = .int z ∧ -100 ≤ z ∧ z ≤ 100) ∨ x = .non → Sm 0 45 x := fun x hx => by
    rcases hx with ⟨z, rfl, z1, z2⟩ | rfl
    · exact Sm.int (by omega) (by omega)
    · exact (Sm.non (k := 0)).mono
  have g7 : Sm 1 150 (.lst false [.int i]) := (Sm.lstN (k := 0) (s := 45) (m := 1) (by intro y hy; rw [List.mem_singleton.mp hy]; exact one _ (.inl ⟨i, rfl, by omega, by omega⟩)) (by simp)).mono
  have g8 : Sm 1 150 (.tup [wD w]) := (Sm.tupN (k := 0) (s := 45) (m := 1) (by
    intro y hy
    rw [List.mem_singleton.mp hy]
    rcases h4 with ⟨rfl, _⟩ | rfl | rfl
    · exact one _ (.inr rfl)
    · exact one _ (.inl ⟨i, rfl, by omega, by omega⟩)
    · exact one _ (.inl ⟨j, rfl, by omega, by omega⟩)) (by simp)).mono
  have g9 : Sm 1 150 (pD (i, j)) := (Sm.tupN (k := 0) (s := 45) (m := 2) (xs := [.int i, .int j]) (by
    intro y hy
    simp only [List.mem_cons, List.not_mem_nil, or_false] at hy
    rcases hy with rfl | rfl
    · exact one _ (.inl ⟨i, rfl, by omega, by omega⟩)
    · exact one _ (.inl ⟨j, rfl, by omega, by omega⟩)) (by simp)).mono
  have tq : ∀ xs : List D, xs.length ≤ 4 → (∀ x ∈ xs, Sm 1 150 x) → Sm 3 700 (.tup xs) := fun xs hl h => (Sm.tupN h hl).mono
  have lq : ∀ xs : List D, xs.length ≤ 4 → (∀ x ∈ xs, Sm 1 150 x) → Sm 3 700 (.lst false xs) := fun xs hl h => (Sm.lstN h hl).mono
  have aq : ∀ x, Sm 1 150 x → Sm 3 700 x := fun x h => h.mono
  obtain ⟨d, hd, rfl⟩ := atI_some hv b0 (by simpa using b1) (Sm 3 700) (by
    intro x hx
    simp only [List.mem_cons, List.not_mem_nil, or_false] at hx
    rcases hx with rfl | rfl | rfl | rfl | rfl | rfl | rfl | rfl | rfl | rfl | rfl | rfl | rfl | rfl | rfl | rfl | rfl | rfl | rfl | rfl | rfl | rfl | rfl | rfl | rfl | rfl | rfl | rfl | rfl | rfl
    all_goals first
      | exact aq _ (by assumption)
      | (refine tq _ (by simp) ?_; simp only [List.mem_cons, List.not_mem_nil, or_false, forall_eq_or_imp, forall_eq, false_imp_iff, implies_true, f1, f2, f3, f4, f5, f6, f7, f8, f9, g1, g2, g3, g4, g5, g6, g7, g8, g9, and_self]; done)
      | (refine tq _ (by simp) ?_; intro y hy; simp only [List.not_mem_nil] at hy; done)
      | (refine lq _ (by simp) ?_; simp only [List.mem_cons, List.not_mem_nil, or_false, forall_eq_or_imp, forall_eq, false_imp_iff, implies_true, f1, f2, g2, and_self]; done)
      | (unfold mD; refine tq _ (by simp) ?_; simp only [List.mem_cons, List.not_mem_nil, or_false, forall_eq_or_imp, forall_eq, f1, f2, g2, and_self]; done))
  simp -implicitDefEqProofs [-List.map_map]
  exact hP d S2 hd
theorem sm_mD {k : Bool} {n : Nat} {m : M} (hn : n ≤ 6) (h : okM k n m) : Sm 1 144 (mD m) := by
  obtain ⟨h1, h2, h3, h4⟩ := h
  obtain ⟨i, j, w⟩ := m
  simp only at h1 h2 h3 h4
  refine Sm.tupN (k := 0) (s := 45) (m := 3) (fun x hx => ?_) (by simp)
  simp only [List.mem_cons, List.not_mem_nil, or_false] at hx
  rcases hx with rfl | rfl | rfl
  · exact Sm.int (by omega) (by omega)
  · exact Sm.int (by omega) (by omega)
  · rcases h4 with ⟨rfl, _⟩ | rfl | rfl
    · exact (Sm.non (k := 0)).mono
    · exact Sm.int (by omega) (by omega)
    · exact Sm.int (by omega) (by omega)
/-- played matches, or what stands for them -/
structure Bq (t : D) : Prop where
  sm : Sm 5 13000 t
  len : ∀ o xs, t = .lst o xs → xs.length ≤ 1000
theorem w_bent (S : Dek) {L : Lg} (h : okL L) (P : D → List D → Prop) (hP : ∀ t S', Bq t → P (frz t) [dkD S']) :
    Fr.is (c__law_bent [dkD S, .str (kS L.k), .int L.n, .lst false (L.ms.map mD)]) P := by
  have hl := h.len
  have n2 := h.n2
  have n6 := h.n6
  have pl := allP_len n6
  have pl0 : 0 < (allP L.n).length := by rcases n_cases n2 n6 with z | z | z | z | z <;> rw [z] <;> decide
  obtain ⟨a, S1, a0, a1, e1⟩ := e_draw S (many := (L.ms.length : Int) + 1) (by omega) (by omega)
  obtain ⟨b, S2, b0, b1, e2⟩ := e_draw S1 (many := (allP L.n).length) (by omega) (by omega)
  obtain ⟨bn, rfl⟩ : ∃ bn : Nat, b = bn := ⟨b.toNat, by omega⟩
  have hbn : bn < (allP L.n).length := by omega
  have eb : atI ((allP L.n).map pD) (bn : Int) = some (pD ((allP L.n)[bn])) := by rw [atI_map, atI_nat hbn]; rfl
  have hij := mem_allP.mp (List.getElem_mem hbn)
  generalize (allP L.n)[bn] = p at eb hij
  obtain ⟨i, j⟩ := p
  simp only at hij
  obtain ⟨w, S3, hw, e3⟩ := e_outcome S2 L.k i j
  have okf : okM L.k L.n (i, j, w) := ⟨hij.1, hij.2.1, hij.2.2, hw⟩
  obtain ⟨an, rfl⟩ : ∃ an : Nat, a = an := ⟨a.toNat, by omega⟩
  have han : an < (L.ms ++ [(i, j, w)]).length := by simp; omega
  have oka : okM L.k L.n (L.ms ++ [(i, j, w)])[an] := by
    have := List.getElem_mem han
    rcases List.mem_append.mp this with z | z
    · exact h.okm _ z
    · rw [List.mem_singleton.mp z]; exact okf
  have ea : atI (L.ms.map mD ++ [mD (i, j, w)]) (an : Int) = some (mD (L.ms ++ [(i, j, w)])[an]) := by
    have : L.ms.map mD ++ [mD (i, j, w)] = (L.ms ++ [(i, j, w)]).map mD := by rw [List.map_append]; rfl
    rw [this, atI_map, atI_nat han]
    rfl
  generalize (L.ms ++ [(i, j, w)])[an] = ma at oka ea
  obtain ⟨_, _, e4, od, S4, ho, rfl, rfl⟩ := w_no_match S3 n2 n6 oka (fun d ms => ∃ t S', Sm 3 700 t ∧ d = frz t ∧ ms = [dkD S']) fun t S' h1 => ⟨t, S', h1, rfl, rfl⟩
  obtain ⟨c, S5, c0, c1, e5⟩ := e_draw S4 (many := 15) (by decide) (by decide)
  have l1 : L.ms.length ≤ 100000 := by omega
  have l2 : L.ms.length ≤ 99999 := by omega
  have l3 : (allP L.n).length ≤ 100000 := by omega
  have cl : ∀ l u, (cutD L.ms l u).length ≤ 15 := fun l u => Nat.le_trans (cutD_len L.ms l u) hl
  have q1 : ∀ l u, (cutD L.ms l u).length ≤ 99999 := fun l u => by have := cl l u; omega
  have q2 : ∀ l u, (cutD L.ms l u).length ≤ 100000 := fun l u => by have := cl l u; omega
  have q3 : ∀ l u l' u', (cutD L.ms l u).length + (cutD L.ms l' u').length ≤ 99999 := fun l u l' u' => by have := cl l u; have := cl l' u'; omega
  have q4 : ∀ l u l' u', (cutD L.ms l u).length + (cutD L.ms l' u').length ≤ 100000 := fun l u l' u' => by have := cl l u; have := cl l' u'; omega
  have q5 : ∀ l u l' u', (cutD L.ms l u).length + ((cutD L.ms l' u').length + 1) ≤ 100000 := fun l u l' u' => by have := cl l u; have := cl l' u'; omega
  have q6 : ∀ l u l' u', (cutD L.ms l u).length + 1 + (cutD L.ms l' u').length ≤ 100000 := fun l u l' u' => by have := cl l u; have := cl l' u'; omega
  have q7 : ∀ l u l' u' l2 u2, (cutD L.ms l u).length + (cutD L.ms l' u').length + (cutD L.ms l2 u2).length ≤ 100000 := fun l u l' u' l2 u2 => by have := cl l u; have := cl l' u'; have := cl l2 u2; omega
  simp -implicitDefEqProofs [-List.map_map, u__law_bent, k__law_bent, e1, e_pairs n2 n6, e2, l1, l2, l3, eb, e3, ea, e4, e5, cutD_map, q1, q2, q3, q4, q5, q6, q7, frz_frz]
  generalize hv : atI _ c = v
  have nq : ∀ x ∈ L.ms.map mD, Sm 3 700 x := fun x hx => by
    obtain ⟨y, hy, rfl⟩ := List.mem_map.mp hx
    exact (sm_mD n6 (h.okm y hy)).mono
  have cq : ∀ l u, ∀ x ∈ (cutD L.ms l u).map mD, Sm 3 700 x := fun l u x hx => by
    obtain ⟨y, hy, rfl⟩ := List.mem_map.mp hx
    exact nq _ (List.mem_map_of_mem (cutD_mem hy))
  have oq : Sm 3 700 (frz od) := ho.frz
  have fq : Sm 3 700 (mD (i, j, w)) := (sm_mD n6 okf).mono
  have lq : ∀ xs : List D, xs.length ≤ 18 → (∀ x ∈ xs, Sm 3 700 x) → Bq (.lst false xs) := fun xs hl h =>
    ⟨(Sm.lstN h hl).mono, fun o ys e => by cases e; omega⟩
  have aq : ∀ d, (∀ o xs, d ≠ .lst o xs) → Sm 5 13000 d → Bq d := fun d h2 h3 => ⟨h3, fun o xs e => absurd e (h2 o xs)⟩
  have k1 := cut_pre L.ms an
  have k2 := cut_post L.ms an
  have k3 := cut_post L.ms (an + 1)
  have k4 := cut_mid L.ms an 2
  have k5 := cut_mid L.ms an 1
  have k6 := cut_post L.ms (an + 2)
  simp only [Int.natCast_add, Int.cast_ofNat_Int] at k3 k4 k5 k6
  have ha' : an ≤ L.ms.length := by simp at han; omega
  obtain ⟨d, hd, rfl⟩ := atI_some hv c0 (by simpa using c1) Bq (by
    intro x hx
    simp only [List.mem_cons, List.not_mem_nil, or_false] at hx
    rcases hx with rfl | rfl | rfl | rfl | rfl | rfl | rfl | rfl | rfl | rfl | rfl | rfl | rfl | rfl | rfl
    any_goals
      refine lq _ (by simp; try omega) fun x hx => ?_
      simp only [List.mem_append, List.mem_cons, List.mem_reverse, List.not_mem_nil, or_false] at hx <;> first
        | (exact nq x hx)
        | (rcases hx with hx | rfl | hx <;> first | exact cq _ _ x hx | exact oq | exact fq)
        | (rcases hx with hx | hx | hx <;> exact cq _ _ x hx)
        | (rcases hx with hx | hx <;> exact cq _ _ x hx)
    · exact aq _ (by intro _ _ z; cases z) (by exact (Sm.tupN (k := 3) (s := 700) (m := 15) nq (by simpa using hl)).mono)
    · exact aq _ (by intro _ _ z; cases z) (by exact (Sm.non (k := 5)).mono)
    · exact aq _ (by intro _ _ z; cases z) (by exact (Sm.dic0 (k := 4)).mono)
    · exact aq _ (by intro _ _ z; cases z) (by exact Sm.str (by decide +kernel))
    · exact aq _ (by intro _ _ z; cases z) (by exact (Sm.int (k := 5) (by decide) (by decide)).mono)
    · refine ⟨(Sm.lstN (k := 2) (s := 2193) (m := 1) (fun y hy => ?_) (by simp)).mono, fun o ys e => by cases e; simp⟩
      rw [List.mem_singleton.mp hy]
      refine Sm.lstN (k := 1) (s := 144) (m := 15) (fun z hz => ?_) (by simpa using hl)
      obtain ⟨m, hm, rfl⟩ := List.mem_map.mp hz
      exact sm_mD n6 (h.okm m hm))
  simp -implicitDefEqProofs [-List.map_map]
  exact hP d S5 hd
/-- a short text -/
def okz (z : Str) : Prop := PyData.strOk z = true ∧ z.length ≤ 20
theorem okz_app {a b : Str} (h1 : PyData.strOk a = true) (h2 : PyData.strOk b = true) : PyData.strOk (a ++ b) = true := by
  unfold PyData.strOk at *
  show (a.cps ++ b.cps).all _ = true
  rw [Array.all_append, h1, h2]
  rfl
theorem okz_cut {a : Str} (h : PyData.strOk a = true) (l u : Option Int) : PyData.strOk (cutS a l u) = true := by
  unfold PyData.strOk at *
  rw [Array.all_eq_true_iff_forall_mem] at *
  intro x hx
  refine h x ?_
  unfold cutS at hx
  have := List.mem_toArray.mp hx
  exact Array.mem_toList_iff.mp (List.mem_of_mem_drop (List.mem_of_mem_take this))
theorem okz_sm {z : Str} (h : okz z) : Sm 0 500 (.str z) := by
  refine Sm.str ?_
  have hc : (PyData.str z).leavesShort 8 = true := by
    have h1 := h.1
    unfold PyData.strOk at h1
    simp only [PyData.leavesShort, List.all_eq_true, decide_eq_true_eq]
    intro c hc
    have := (Array.all_eq_true_iff_forall_mem.mp h1) c (Array.mem_toList_iff.mp hc)
    have h2 : c < 0x110000 := by simpa using this
    have e : (16 : Nat) ^ 8 = 4294967296 := by decide
    omega
  have := PyData.shown_le 8 (by decide) (.str z) hc
  have hz : (PyData.str z).weight = z.length := by simp only [PyData.weight]; rfl
  rw [hz] at this
  simp only [PyData.shown] at this
  have := h.2
  omega
theorem okz_kS (k : Bool) : okz (kS k) := by cases k <;> exact ⟨by decide +kernel, by decide +kernel⟩
theorem Lq3 {x y z : D} (h : goodR (.tup [x, y, z]) = true) (h1 : ∀ s, x = .str s → PyData.strOk s = true) (h2 : ∀ o xs, z = .lst o xs → xs.length ≤ 1000) : Lq (.tup [x, y, z]) :=
  ⟨h, fun s b c e => by
    injection e with e
    injection e with e1 _
    exact shp_str (h1 s e1), fun a b o xs e => by
    injection e with e
    injection e with _ e
    injection e with _ e
    injection e with e3 _
    exact h2 o xs e3⟩
theorem LqN {t : D} (h : goodR t = true) (hn : ∀ a b c, t ≠ .tup [a, b, c]) : Lq t := ⟨h, fun _ _ _ e => absurd e (hn _ _ _), fun _ _ _ _ e => absurd e (hn _ _ _)⟩
theorem ix_abc0 : ∀ n : Fin 26, (match ixS (Str.ofString "abcdefghijklmnopqrstuvwxyz") (n : Nat) with | some (.str z) => PyData.strOk z && z.length == 1 | _ => false) = true := by decide +kernel
theorem ix_abc {b : Int} (h0 : 0 ≤ b) (h1 : b < 26) : ∃ z, ixS (Str.ofString "abcdefghijklmnopqrstuvwxyz") b = some (.str z) ∧ PyData.strOk z = true ∧ z.length = 1 := by
  obtain ⟨n, rfl⟩ : ∃ n : Nat, b = n := ⟨b.toNat, by omega⟩
  have := ix_abc0 ⟨n, by omega⟩
  simp only at this
  split at this
  · rename_i z e
    simp only [Bool.and_eq_true, beq_iff_eq] at this
    exact ⟨z, e, this.1, this.2⟩
  · cases this
theorem w_no_league (S : Dek) {L : Lg} (h : okL L) (P : D → List D → Prop) (hP : ∀ t S', Lq t → Sm 7 14009 t → P (frz t) [dkD S']) :
    Fr.is (c__law_no_league [dkD S, lgD false L]) P := by
  have hl := h.len
  have n2 := h.n2
  have n6 := h.n6
  have skS : Sm 6 500 (.str (kS L.k)) := (okz_sm (okz_kS L.k)).mono
  have sN : Sm 6 500 (.int L.n) := (Sm.int (k := 6) (by omega) (by omega)).mono
  have sP : Sm 6 3000 (.lst false (L.ms.map mD)) := (Sm.lstN (k := 1) (s := 144) (m := 15) (fun x hx => by
    obtain ⟨m, hm, rfl⟩ := List.mem_map.mp hx
    exact sm_mD n6 (h.okm m hm)) (by simpa using hl)).mono
  have fP : frz (.lst false (L.ms.map mD)) = .lst false (L.ms.map mD) := by simp
  have lP : ∀ o xs, (D.lst false (L.ms.map mD)) = .lst o xs → xs.length ≤ 1000 := fun o xs e => by cases e; simp; omega
  obtain ⟨r, S1, r0, r1, e1⟩ := e_draw S (many := 8) (by decide) (by decide)
  by_cases c1 : r < 4
  · obtain ⟨_, _, e2, t, S2, ht, rfl, rfl⟩ := w_bent S1 h (fun d ms => ∃ t S', Bq t ∧ d = frz t ∧ ms = [dkD S']) fun t S' h1 => ⟨t, S', h1, rfl, rfl⟩
    simp -implicitDefEqProofs [-List.map_map, u__law_no_league, k__law_no_league, e1, c1, e2, frz_frz]
    have sm : Sm 7 14009 (.tup [.str (kS L.k), .int L.n, t]) := Sm.tup3 skS sN (ht.sm.mono (k' := 6) (s' := 13000))
    exact hP (.tup [.str (kS L.k), .int L.n, t]) S2 (Lq3 sm.good (fun s e => by injection e with e; rw [← e]; exact (okz_kS L.k).1) ht.len) sm
  by_cases c2 : r = 4
  · have hk : 0 < (kS L.k).length ∧ (kS L.k).length ≤ 5 := by cases L.k <;> decide +kernel
    obtain ⟨a, S2, a0, a1, e2⟩ := e_draw S1 (many := ((kS L.k).length : Int)) (by omega) (by omega)
    obtain ⟨b, S3, b0, b1, e3⟩ := e_draw S2 (many := 26) (by decide) (by decide)
    obtain ⟨c, S4, d0, d1, e4⟩ := e_draw S3 (many := 15) (by decide) (by decide)
    have hk2 : (kS L.k).length ≤ 100000 := by omega
    obtain ⟨lt, el, l1, l2⟩ := ix_abc b0 b1
    have cs : ∀ l u, (cutS (kS L.k) l u).length ≤ 5 := fun l u => Nat.le_trans (cutS_length _ l u) hk.2
    have t1 : ∀ l u, (cutS (kS L.k) l u).length + lt.length ≤ 100000 := fun l u => by have := cs l u; omega
    have t2 : ∀ l u l' u', (cutS (kS L.k) l u ++ lt).length + (cutS (kS L.k) l' u').length ≤ 100000 := fun l u l' u' => by have := cs l u; have := cs l' u'; rw [strLen_append]; omega
    have t3 : ∀ l u l' u', (cutS (kS L.k) l u).length + (cutS (kS L.k) l' u').length ≤ 100000 := fun l u l' u' => by have := cs l u; have := cs l' u'; omega
    have t4 : (kS L.k).length + (Str.ofString " ").length ≤ 100000 := by have : (Str.ofString " ").length = 1 := rfl; omega
    have t5 : (Str.ofString "\n").length + (kS L.k).length ≤ 100000 := by have : (Str.ofString "\n").length = 1 := rfl; omega
    simp -implicitDefEqProofs [-List.map_map, u__law_no_league, k__law_no_league, e1, c1, c2, e2, e3, e4, hk2, el, t1, t2, t3, t4, t5]
    generalize hv : atI _ c = v
    have s0 : ∀ z : Str, okz z → Sm 6 600 (.str z) ∧ ∀ s, D.str z = .str s → PyData.strOk s = true := fun z hz => ⟨(okz_sm hz).mono, fun s e => by injection e with e; rw [← e]; exact hz.1⟩
    have co : ∀ l u, PyData.strOk (cutS (kS L.k) l u) = true := fun l u => okz_cut (okz_kS L.k).1 l u
    obtain ⟨d, ⟨hd1, hd2⟩, rfl⟩ := atI_some hv d0 (by simpa using d1) (fun d => Sm 6 600 d ∧ ∀ s, d = .str s → PyData.strOk s = true) (by
      intro x hx
      simp only [List.mem_cons, List.not_mem_nil, or_false] at hx
      rcases hx with rfl | rfl | rfl | rfl | rfl | rfl | rfl | rfl | rfl | rfl | rfl | rfl | rfl | rfl | rfl
      · exact s0 _ ⟨okz_app (okz_app (co _ _) l1) (co _ _), by have := cs none (some a); have := cs (some (a + 1)) none; rw [strLen_append, strLen_append]; omega⟩
      · exact s0 _ ⟨okz_app (co _ _) (co _ _), by have := cs none (some a); have := cs (some (a + 1)) none; rw [strLen_append]; omega⟩
      · exact s0 _ ⟨okz_app (okz_app (co _ _) l1) (co _ _), by have := cs none (some a); have := cs (some a) none; rw [strLen_append, strLen_append]; omega⟩
      · exact s0 _ ⟨by decide +kernel, by decide +kernel⟩
      · exact s0 _ ⟨by decide +kernel, by decide +kernel⟩
      · exact s0 _ (by cases L.k <;> exact ⟨by decide +kernel, by decide +kernel⟩)
      · exact s0 _ (by cases L.k <;> exact ⟨by decide +kernel, by decide +kernel⟩)
      · exact s0 _ ⟨by decide +kernel, by decide +kernel⟩
      · exact ⟨(Sm.non (k := 6)).mono, fun _ e => by cases e⟩
      · exact ⟨(Sm.int (k := 6) (by decide) (by decide)).mono, fun _ e => by cases e⟩
      · exact ⟨(Sm.bl (k := 6) true).mono, fun _ e => by cases e⟩
      · exact ⟨(Sm.lstN (k := 0) (s := 500) (m := 1) (fun y hy => by rw [List.mem_singleton.mp hy]; exact okz_sm (okz_kS L.k)) (by simp)).mono, fun _ e => by cases e⟩
      · exact ⟨(Sm.dic0 (k := 5)).mono, fun _ e => by cases e⟩
      · exact ⟨(Sm.tupN (k := 0) (s := 500) (m := 1) (fun y hy => by rw [List.mem_singleton.mp hy]; exact okz_sm (okz_kS L.k)) (by simp)).mono, fun _ e => by cases e⟩
      · exact s0 _ (by cases L.k <;> exact ⟨by decide +kernel, by decide +kernel⟩))
    simp -implicitDefEqProofs [-List.map_map, frz_frz]
    have sm : Sm 7 4109 (.tup [d, .int L.n, .lst false (L.ms.map mD)]) := Sm.tup3 hd1 sN sP
    have := hP (.tup [d, .int L.n, .lst false (L.ms.map mD)]) S4 (Lq3 sm.good hd2 lP) sm.mono
    simpa using this
  by_cases c3 : r = 5
  · obtain ⟨a, S2, a0, a1, e2⟩ := e_draw S1 (many := 6) (by decide) (by decide)
    obtain ⟨c, S3, d0, d1, e3⟩ := e_draw S2 (many := 14) (by decide) (by decide)
    simp -implicitDefEqProofs [-List.map_map, u__law_no_league, k__law_no_league, e1, c1, c2, c3, e2, e3]
    generalize hv : atI _ c = v
    have i0 : ∀ x : Int, -10 ^ 30 < x → x < 10 ^ 30 → Sm 6 600 (.int x) := fun x h1 h2 => (Sm.int (k := 6) (by omega) (by omega)).mono
    obtain ⟨d, hd1, rfl⟩ := atI_some hv d0 (by simpa using d1) (fun d => Sm 6 600 d) (by
      intro x hx
      simp only [List.mem_cons, List.not_mem_nil, or_false] at hx
      rcases hx with rfl | rfl | rfl | rfl | rfl | rfl | rfl | rfl | rfl | rfl | rfl | rfl | rfl | rfl
      · exact i0 _ (by omega) (by omega)
      · exact i0 _ (by omega) (by omega)
      · exact i0 _ (by omega) (by omega)
      · exact i0 _ (by omega) (by omega)
      · exact i0 _ (by omega) (by omega)
      · exact i0 _ (by omega) (by omega)
      · exact i0 _ (by omega) (by omega)
      · exact (Sm.bl (k := 6) true).mono
      · exact (Sm.non (k := 6)).mono
      · exact (Sm.str (k := 6) (s := 30) (by decide +kernel)).mono
      · exact (Sm.lstN (k := 0) (s := 45) (m := 1) (fun y hy => by rw [List.mem_singleton.mp hy]; exact Sm.int (by omega) (by omega)) (by simp)).mono
      · exact (Sm.tupN (k := 0) (s := 45) (m := 1) (fun y hy => by rw [List.mem_singleton.mp hy]; exact Sm.int (by omega) (by omega)) (by simp)).mono
      · exact i0 _ (by omega) (by omega)
      · first | exact (Sm.dicN (k := 5)).mono | exact (Sm.dicN (k := 5)).frz.mono)
    simp -implicitDefEqProofs [-List.map_map, frz_frz]
    have sm : Sm 7 4109 (.tup [.str (kS L.k), d, .lst false (L.ms.map mD)]) := Sm.tup3 skS hd1 sP
    have := hP (.tup [.str (kS L.k), d, .lst false (L.ms.map mD)]) S3 (Lq3 sm.good (fun s e => by injection e with e; rw [← e]; exact (okz_kS L.k).1) lP) sm.mono
    simpa using this
  · obtain ⟨c, S2, d0, d1, e2⟩ := e_draw S1 (many := 15) (by decide) (by decide)
    simp -implicitDefEqProofs [-List.map_map, u__law_no_league, k__law_no_league, e1, c1, c2, c3, e2]
    generalize hv : atI _ c = v
    have m3 : ∀ xs : List D, (∀ x ∈ xs, x = .str (kS L.k) ∨ x = .int L.n ∨ x = .lst false (L.ms.map mD) ∨ x = .int 0) → ∀ x ∈ xs, Sm 6 3000 x := fun xs h x hx => by
      rcases h x hx with rfl | rfl | rfl | rfl
      · exact skS.mono
      · exact sN.mono
      · exact sP
      · exact (Sm.int (k := 6) (by decide) (by decide)).mono
    obtain ⟨d, ⟨hd1, hd2⟩, rfl⟩ := atI_some hv d0 (by simpa using d1) (fun d => Lq d ∧ Sm 7 14009 d) (by
      intro x hx
      simp only [List.mem_cons, List.not_mem_nil, or_false] at hx
      have nn : ∀ t, Sm 7 14009 t → (∀ a b c, t ≠ .tup [a, b, c]) → Lq t ∧ Sm 7 14009 t := fun t h1 h2 => ⟨LqN h1.good h2, h1⟩
      rcases hx with rfl | rfl | rfl | rfl | rfl | rfl | rfl | rfl | rfl | rfl | rfl | rfl | rfl | rfl | rfl
      · exact nn _ (by exact (Sm.lst3 skS sN sP).mono) (by intro a b c e; cases e)
      · exact nn _ (by exact (Sm.tupN (k := 6) (s := 3000) (m := 2) (m3 _ (by simp)) (by simp)).mono) (by intro a b c e; injection e with e; injection e with _ e; injection e with _ e; cases e)
      · exact nn _ (by exact (Sm.tupN (k := 6) (s := 3000) (m := 4) (m3 _ (by simp)) (by simp)).mono) (by intro a b c e; injection e with e; injection e with _ e; injection e with _ e; injection e with _ e; cases e)
      · have sm := Sm.tup3 sN skS sP
        exact ⟨Lq3 sm.good (fun s e => by cases e) lP, sm.mono⟩
      · have sm := Sm.tup3 skS sP sN
        exact ⟨Lq3 sm.good (fun s e => by injection e with e; rw [← e]; exact (okz_kS L.k).1) (fun o xs e => by cases e), sm.mono⟩
      · exact nn _ (by exact (Sm.non (k := 7)).mono) (by intro a b c e; cases e)
      · exact nn _ (by exact (Sm.str (k := 7) (s := 30) (by decide +kernel)).mono) (by intro a b c e; cases e)
      · exact nn _ (by exact (Sm.int (k := 7) (by decide) (by decide)).mono) (by intro a b c e; cases e)
      · exact nn _ (by exact (Sm.dicN (k := 6)).frz.frz.frz.mono) (by intro a b c e; cases e)
      · exact nn _ (by exact sP.mono) (by intro a b c e; cases e)
      · exact nn _ (by exact (Sm.tupN (k := 6) (s := 3000) (m := 0) (m3 _ (by simp)) (by simp)).mono) (by intro a b c e; injection e with e; cases e)
      · exact nn _ (by exact (Sm.bl (k := 7) true).mono) (by intro a b c e; cases e)
      · exact nn _ (by exact (Sm.tupN (k := 6) (s := 3000) (m := 1) (m3 _ (by simp)) (by simp)).mono) (by intro a b c e; injection e with e; injection e with _ e; cases e)
      · exact nn _ (by exact skS.mono) (by intro a b c e; cases e)
      · have sm := Sm.tup3 sP sN skS
        exact ⟨Lq3 sm.good (fun s e => by cases e) (fun o xs e => by cases e), sm.mono⟩)
    simp -implicitDefEqProofs [-List.map_map]
    exact hP d S2 hd1 hd2
end T
namespace T
open PySem PySem.Spec PyProof.Rows L2
/-! ### law k01 -/
theorem e_right {t : D} (h : Lq t) (hs : Sm 7 14009 t) : c__law_right [frz t] = .ret (.bl true) [] := by
  have e1 := e_is_league_any h
  have e2 := e_law_good h
  have hq : okQ (frz t) = true := hs.frz.ok
  have r2 : rangeD 0 2 = [D.int 0, D.int 1] := rfl
  simp -implicitDefEqProofs [-List.map_map, u__law_right, k__law_right, hq, r2, kLoop_cons, e1, e2, frz_frz]
  done
theorem right_c {t : D} (h : Lq t) (hs : Sm 7 14009 t) (hf : frz t = t) : c__law_right [t] = .ret (.bl true) [] := by
  have := e_right h hs
  rwa [hf] at this
theorem law_true (ns : List Int) (hn : ns.length ≤ 63) : ∃ ms, c_law [.scr ns] = .ret (.bl true) ms := by
  suffices h : ∀ P : D → List D → Prop, (∀ ms, P (.bl true) ms) → Fr.is (c_law [.scr ns]) P by
    obtain ⟨d, ms, e, rfl⟩ := h (fun d _ => d = .bl true) fun _ => rfl
    exact ⟨ms, e⟩
  intro P hP
  obtain ⟨S, eS⟩ := e_deck ns
  simp -implicitDefEqProofs [-List.map_map, u_law, k_law, eS, rangeD_int]
  generalize hX : kLoop _ _ _ = X
  refine Exists.elim (loop_w (fun rest G => ∃ S : Dek, G = [none, some (dkD S), none, none, none, none, none]) hX ⟨S, rfl⟩ ?_) ?_
  · rintro i rest G ⟨S, rfl⟩ Q hQ
    obtain ⟨L, S1, hL, e1⟩ := e_some_league S
    simp -implicitDefEqProofs [-List.map_map, e1, e_own, e_is_league hL, rangeD_int]
    generalize hX : kLoop _ _ _ = X
    refine Exists.elim (loop_w (fun rest G => ∃ (S : Dek) (o : Bool), G = [none, some (dkD S), none, some (lgD o L), none, none, none]) hX ⟨S1, true, rfl⟩ ?_) ?_
    · rintro i rest G ⟨S2, o, rfl⟩ Q hQ
      obtain ⟨_, _, e2, t, S3, t1, t2, rfl, rfl⟩ := w_no_league S2 hL (fun d ms => ∃ t S', Lq t ∧ Sm 7 14009 t ∧ d = frz t ∧ ms = [dkD S']) fun t S' h1 h2 => ⟨t, S', h1, h2, rfl, rfl⟩
      have e3 := e_right t1 t2
      simp -implicitDefEqProofs [-List.map_map, e2, e3, frz_frz]
      exact hQ _ ⟨S3, false, rfl⟩
    · rintro G ⟨⟨S2, o, rfl⟩, rfl⟩
      simp -implicitDefEqProofs [-List.map_map]
      exact hQ _ ⟨S2, rfl⟩
  · rintro G ⟨⟨S, rfl⟩, rfl⟩
    have nn : ∀ t, Sm 7 14009 t → (∀ a b c, t ≠ .tup [a, b, c]) → frz t = t → c__law_right [t] = .ret (.bl true) [] := fun t h1 h2 h3 => right_c (LqN h1.good h2) h1 h3
    have n3 : ∀ (z : Str) (n : Int), okz z → -10 ≤ n → n ≤ 10 → c__law_right [.tup [.str z, .int n, .lst false []]] = .ret (.bl true) [] := fun z n h1 h2 h3 => by
      have sm : Sm 7 1057 (.tup [.str z, .int n, .lst false []]) := Sm.tup3 (k := 6) (s1 := 500) (s2 := 45) (s3 := 503) (okz_sm h1).mono (Sm.int (by omega) (by omega)) (Sm.lstN (k := 5) (s := 498) (m := 1) (fun x hx => by cases hx) (by simp))
      exact right_c (Lq3 sm.good (fun s e => by injection e with e; rw [← e]; exact h1.1) (fun o xs e => by cases e; simp)) sm.mono rfl
    have r1 := nn .non (Sm.non (k := 7)).mono (by intro a b c e; cases e) rfl
    have r2 := nn (.int 0) (Sm.int (k := 7) (by decide) (by decide)).mono (by intro a b c e; cases e) rfl
    have r3 := nn (.bl true) (Sm.bl (k := 7) true).mono (by intro a b c e; cases e) rfl
    have r4 := nn (.str (Str.ofString "")) (Sm.str (k := 7) (s := 30) (by decide +kernel)).mono (by intro a b c e; cases e) rfl
    have r5 := nn (.str (Str.ofString "plain 2")) (Sm.str (k := 7) (s := 30) (by decide +kernel)).mono (by intro a b c e; cases e) rfl
    have r6 := nn (.lst false []) (Sm.lstN (k := 6) (s := 5) (m := 1) (fun x hx => by cases hx) (by simp)).mono (by intro a b c e; cases e) rfl
    have r7 := nn (.tup []) (Sm.tupN (k := 6) (s := 5) (m := 1) (fun x hx => by cases hx) (by simp)).mono (by intro a b c e; injection e with e; cases e) rfl
    have r8 := nn (frz (dcT true [])) (Sm.dicN (k := 6)).frz.mono (by intro a b c e; cases e) rfl
    have r9 := n3 (Str.ofString "plain") 2 ⟨by decide +kernel, by decide +kernel⟩ (by decide) (by decide)
    have q1 := n3 (Str.ofString "ties") 6 ⟨by decide +kernel, by decide +kernel⟩ (by decide) (by decide)
    have q2 := n3 (Str.ofString "plain") 1 ⟨by decide +kernel, by decide +kernel⟩ (by decide) (by decide)
    have q3 := n3 (Str.ofString "ties") 7 ⟨by decide +kernel, by decide +kernel⟩ (by decide) (by decide)
    simp -implicitDefEqProofs [-List.map_map, kLoop_cons, r1, r2, r3, r4, r5, r6, r7, r8, r9, q1, q2, q3, frz_frz]
    exact hP _
end T
namespace T
open PySem PySem.Spec PyProof.Rows L2
theorem all_mk {l : PySem.W.OpenLaw} {w : World} {K : PySem.W.Frag} {h : Heap} {mg : Str → Option Value} {fa : Addr} (X : K.In h) (G : h.Ns mainGlobals mg) (hfa : mg "law" = some (.ref fa))
    {f0 : Addr} {od0 an0 : Option Addr} {sl0 : Array (Option Value)} {oc0 kV0 dc0 pm0 cd0 ct0 : Value}
    (a0 : PySem.W.nsIn K mainGlobals "is_whole" = some (some (.ref f0))) (l0 : K.lookup f0 = some ⟨oc0, od0, .func (PySem.W.fnOf "is_whole" "is_whole" (defArgs s_is_whole) (defBody s_is_whole) (defScope s_is_whole) .none kV0 dc0 pm0 an0 cd0 ct0), sl0⟩) (c0 : PySem.W.codeIn K cd0 "is_whole" = true) (k0 : PySem.W.keepIn K (.ref f0) = true)
    {f1 : Addr} {od1 an1 : Option Addr} {sl1 : Array (Option Value)} {oc1 kV1 dc1 pm1 cd1 ct1 : Value}
    (a1 : PySem.W.nsIn K mainGlobals "_law_deck" = some (some (.ref f1))) (l1 : K.lookup f1 = some ⟨oc1, od1, .func (PySem.W.fnOf "_law_deck" "_law_deck" (defArgs s__law_deck) (defBody s__law_deck) (defScope s__law_deck) .none kV1 dc1 pm1 an1 cd1 ct1), sl1⟩) (c1 : PySem.W.codeIn K cd1 "_law_deck" = true) (k1 : PySem.W.keepIn K (.ref f1) = true)
    {f2 : Addr} {od2 an2 : Option Addr} {sl2 : Array (Option Value)} {oc2 kV2 dc2 pm2 cd2 ct2 : Value}
    (a2 : PySem.W.nsIn K mainGlobals "_law_draw" = some (some (.ref f2))) (l2 : K.lookup f2 = some ⟨oc2, od2, .func (PySem.W.fnOf "_law_draw" "_law_draw" (defArgs s__law_draw) (defBody s__law_draw) (defScope s__law_draw) .none kV2 dc2 pm2 an2 cd2 ct2), sl2⟩) (c2 : PySem.W.codeIn K cd2 "_law_draw" = true) (k2 : PySem.W.keepIn K (.ref f2) = true)
    {f3 : Addr} {od3 an3 : Option Addr} {sl3 : Array (Option Value)} {oc3 kV3 dc3 pm3 cd3 ct3 : Value}
    (a3 : PySem.W.nsIn K mainGlobals "_law_pairs" = some (some (.ref f3))) (l3 : K.lookup f3 = some ⟨oc3, od3, .func (PySem.W.fnOf "_law_pairs" "_law_pairs" (defArgs s__law_pairs) (defBody s__law_pairs) (defScope s__law_pairs) .none kV3 dc3 pm3 an3 cd3 ct3), sl3⟩) (c3 : PySem.W.codeIn K cd3 "_law_pairs" = true) (k3 : PySem.W.keepIn K (.ref f3) = true)
    {f4 : Addr} {od4 an4 : Option Addr} {sl4 : Array (Option Value)} {oc4 kV4 dc4 pm4 cd4 ct4 : Value}
    (a4 : PySem.W.nsIn K mainGlobals "_law_own" = some (some (.ref f4))) (l4 : K.lookup f4 = some ⟨oc4, od4, .func (PySem.W.fnOf "_law_own" "_law_own" (defArgs s__law_own) (defBody s__law_own) (defScope s__law_own) .none kV4 dc4 pm4 an4 cd4 ct4), sl4⟩) (c4 : PySem.W.codeIn K cd4 "_law_own" = true) (k4 : PySem.W.keepIn K (.ref f4) = true)
    {f5 : Addr} {od5 an5 : Option Addr} {sl5 : Array (Option Value)} {oc5 kV5 dc5 pm5 cd5 ct5 : Value}
    (a5 : PySem.W.nsIn K mainGlobals "_law_is_good_match" = some (some (.ref f5))) (l5 : K.lookup f5 = some ⟨oc5, od5, .func (PySem.W.fnOf "_law_is_good_match" "_law_is_good_match" (defArgs s__law_is_good_match) (defBody s__law_is_good_match) (defScope s__law_is_good_match) .none kV5 dc5 pm5 an5 cd5 ct5), sl5⟩) (c5 : PySem.W.codeIn K cd5 "_law_is_good_match" = true) (k5 : PySem.W.keepIn K (.ref f5) = true)
    {f6 : Addr} {od6 an6 : Option Addr} {sl6 : Array (Option Value)} {oc6 kV6 dc6 pm6 cd6 ct6 : Value}
    (a6 : PySem.W.nsIn K mainGlobals "is_player" = some (some (.ref f6))) (l6 : K.lookup f6 = some ⟨oc6, od6, .func (PySem.W.fnOf "is_player" "is_player" (defArgs s_is_player) (defBody s_is_player) (defScope s_is_player) .none kV6 dc6 pm6 an6 cd6 ct6), sl6⟩) (c6 : PySem.W.codeIn K cd6 "is_player" = true) (k6 : PySem.W.keepIn K (.ref f6) = true)
    {f7 : Addr} {od7 an7 : Option Addr} {sl7 : Array (Option Value)} {oc7 kV7 dc7 pm7 cd7 ct7 : Value}
    (a7 : PySem.W.nsIn K mainGlobals "_law_outcome" = some (some (.ref f7))) (l7 : K.lookup f7 = some ⟨oc7, od7, .func (PySem.W.fnOf "_law_outcome" "_law_outcome" (defArgs s__law_outcome) (defBody s__law_outcome) (defScope s__law_outcome) .none kV7 dc7 pm7 an7 cd7 ct7), sl7⟩) (c7 : PySem.W.codeIn K cd7 "_law_outcome" = true) (k7 : PySem.W.keepIn K (.ref f7) = true)
    {f8 : Addr} {od8 an8 : Option Addr} {sl8 : Array (Option Value)} {oc8 kV8 dc8 pm8 cd8 ct8 : Value}
    (a8 : PySem.W.nsIn K mainGlobals "_law_no_match" = some (some (.ref f8))) (l8 : K.lookup f8 = some ⟨oc8, od8, .func (PySem.W.fnOf "_law_no_match" "_law_no_match" (defArgs s__law_no_match) (defBody s__law_no_match) (defScope s__law_no_match) .none kV8 dc8 pm8 an8 cd8 ct8), sl8⟩) (c8 : PySem.W.codeIn K cd8 "_law_no_match" = true) (k8 : PySem.W.keepIn K (.ref f8) = true)
    {f9 : Addr} {od9 an9 : Option Addr} {sl9 : Array (Option Value)} {oc9 kV9 dc9 pm9 cd9 ct9 : Value}
    (a9 : PySem.W.nsIn K mainGlobals "_law_good" = some (some (.ref f9))) (l9 : K.lookup f9 = some ⟨oc9, od9, .func (PySem.W.fnOf "_law_good" "_law_good" (defArgs s__law_good) (defBody s__law_good) (defScope s__law_good) .none kV9 dc9 pm9 an9 cd9 ct9), sl9⟩) (c9 : PySem.W.codeIn K cd9 "_law_good" = true) (k9 : PySem.W.keepIn K (.ref f9) = true)
    {f10 : Addr} {od10 an10 : Option Addr} {sl10 : Array (Option Value)} {oc10 kV10 dc10 pm10 cd10 ct10 : Value}
    (a10 : PySem.W.nsIn K mainGlobals "is_played" = some (some (.ref f10))) (l10 : K.lookup f10 = some ⟨oc10, od10, .func (PySem.W.fnOf "is_played" "is_played" (defArgs s_is_played) (defBody s_is_played) (defScope s_is_played) .none kV10 dc10 pm10 an10 cd10 ct10), sl10⟩) (c10 : PySem.W.codeIn K cd10 "is_played" = true) (k10 : PySem.W.keepIn K (.ref f10) = true)
    {f11 : Addr} {od11 an11 : Option Addr} {sl11 : Array (Option Value)} {oc11 kV11 dc11 pm11 cd11 ct11 : Value}
    (a11 : PySem.W.nsIn K mainGlobals "_law_some_league" = some (some (.ref f11))) (l11 : K.lookup f11 = some ⟨oc11, od11, .func (PySem.W.fnOf "_law_some_league" "_law_some_league" (defArgs s__law_some_league) (defBody s__law_some_league) (defScope s__law_some_league) .none kV11 dc11 pm11 an11 cd11 ct11), sl11⟩) (c11 : PySem.W.codeIn K cd11 "_law_some_league" = true) (k11 : PySem.W.keepIn K (.ref f11) = true)
    {f12 : Addr} {od12 an12 : Option Addr} {sl12 : Array (Option Value)} {oc12 kV12 dc12 pm12 cd12 ct12 : Value}
    (a12 : PySem.W.nsIn K mainGlobals "_law_bent" = some (some (.ref f12))) (l12 : K.lookup f12 = some ⟨oc12, od12, .func (PySem.W.fnOf "_law_bent" "_law_bent" (defArgs s__law_bent) (defBody s__law_bent) (defScope s__law_bent) .none kV12 dc12 pm12 an12 cd12 ct12), sl12⟩) (c12 : PySem.W.codeIn K cd12 "_law_bent" = true) (k12 : PySem.W.keepIn K (.ref f12) = true)
    {f13 : Addr} {od13 an13 : Option Addr} {sl13 : Array (Option Value)} {oc13 kV13 dc13 pm13 cd13 ct13 : Value}
    (a13 : PySem.W.nsIn K mainGlobals "is_league" = some (some (.ref f13))) (l13 : K.lookup f13 = some ⟨oc13, od13, .func (PySem.W.fnOf "is_league" "is_league" (defArgs s_is_league) (defBody s_is_league) (defScope s_is_league) .none kV13 dc13 pm13 an13 cd13 ct13), sl13⟩) (c13 : PySem.W.codeIn K cd13 "is_league" = true) (k13 : PySem.W.keepIn K (.ref f13) = true)
    {f14 : Addr} {od14 an14 : Option Addr} {sl14 : Array (Option Value)} {oc14 kV14 dc14 pm14 cd14 ct14 : Value}
    (a14 : PySem.W.nsIn K mainGlobals "_law_no_league" = some (some (.ref f14))) (l14 : K.lookup f14 = some ⟨oc14, od14, .func (PySem.W.fnOf "_law_no_league" "_law_no_league" (defArgs s__law_no_league) (defBody s__law_no_league) (defScope s__law_no_league) .none kV14 dc14 pm14 an14 cd14 ct14), sl14⟩) (c14 : PySem.W.codeIn K cd14 "_law_no_league" = true) (k14 : PySem.W.keepIn K (.ref f14) = true)
    {f15 : Addr} {od15 an15 : Option Addr} {sl15 : Array (Option Value)} {oc15 kV15 dc15 pm15 cd15 ct15 : Value}
    (a15 : PySem.W.nsIn K mainGlobals "_law_right" = some (some (.ref f15))) (l15 : K.lookup f15 = some ⟨oc15, od15, .func (PySem.W.fnOf "_law_right" "_law_right" (defArgs s__law_right) (defBody s__law_right) (defScope s__law_right) .none kV15 dc15 pm15 an15 cd15 ct15), sl15⟩) (c15 : PySem.W.codeIn K cd15 "_law_right" = true) (k15 : PySem.W.keepIn K (.ref f15) = true)
    {f16 : Addr} {od16 an16 : Option Addr} {sl16 : Array (Option Value)} {oc16 kV16 dc16 pm16 cd16 ct16 : Value}
    (a16 : PySem.W.nsIn K mainGlobals "law" = some (some (.ref f16))) (l16 : K.lookup f16 = some ⟨oc16, od16, .func (PySem.W.fnOf "law" "law" (defArgs s_law) (defBody s_law) (defScope s_law) .none kV16 dc16 pm16 an16 cd16 ct16), sl16⟩) (c16 : PySem.W.codeIn K cd16 "law" = true) (k16 : PySem.W.keepIn K (.ref f16) = true)
    (z_isinstance : PySem.W.nsIn K mainGlobals "isinstance" = some none)
    (z_int : PySem.W.nsIn K mainGlobals "int" = some none)
    (z_bool : PySem.W.nsIn K mainGlobals "bool" = some none)
    (z_len : PySem.W.nsIn K mainGlobals "len" = some none)
    (z_min : PySem.W.nsIn K mainGlobals "min" = some none)
    (z_max : PySem.W.nsIn K mainGlobals "max" = some none)
    (z_range : PySem.W.nsIn K mainGlobals "range" = some none)
    (z_sorted : PySem.W.nsIn K mainGlobals "sorted" = some none)
    (z_list : PySem.W.nsIn K mainGlobals "list" = some none)
    (z_tuple : PySem.W.nsIn K mainGlobals "tuple" = some none)
    (z_str : PySem.W.nsIn K mainGlobals "str" = some none)
    (z_enumerate : PySem.W.nsIn K mainGlobals "enumerate" = some none)
    (z_repr : PySem.W.nsIn K mainGlobals "repr" = some none)
    {tk0_KINDS tk1_KINDS : Tok}    {r_KINDS : Addr} {n_KINDS : Nat} {d_KINDS : Option Addr} {sl_KINDS : Array (Option Value)} (m_KINDS : PySem.W.nsIn K mainGlobals "KINDS" = some (some (.ref r_KINDS))) (t_KINDS : K.lookup r_KINDS = some ⟨.type "tuple", d_KINDS, .seq #[.str "plain" tk0_KINDS, .str "ties" tk1_KINDS] n_KINDS, sl_KINDS⟩)
    {tk_FEWEST : Tok} (m_FEWEST : PySem.W.nsIn K mainGlobals "FEWEST" = some (some (.int 2 tk_FEWEST)))
    {tk_MOST : Tok} (m_MOST : PySem.W.nsIn K mainGlobals "MOST" = some (some (.int 6 tk_MOST)))
    : ∃ fd : FuncData, (∀ (s : Shared) (v : Value), BindsTo s fd ⟨[v], []⟩ [("script", v)]) ∧ ∀ base : Heap, K.In base → base.Ns mainGlobals mg → FnG l.prog w K mg base (L2.CX l.prog w) 6 fa fd ["script"] (conc K [false] (spF c_law)) := by
  have e := hfa.symm.trans (PySem.W.mg_of X G a16)
  cases e
  have z_isinstance := PySem.W.mg_none_of X G z_isinstance
  have z_int := PySem.W.mg_none_of X G z_int
  have z_bool := PySem.W.mg_none_of X G z_bool
  have z_len := PySem.W.mg_none_of X G z_len
  have z_min := PySem.W.mg_none_of X G z_min
  have z_max := PySem.W.mg_none_of X G z_max
  have z_range := PySem.W.mg_none_of X G z_range
  have z_sorted := PySem.W.mg_none_of X G z_sorted
  have z_list := PySem.W.mg_none_of X G z_list
  have z_tuple := PySem.W.mg_none_of X G z_tuple
  have z_str := PySem.W.mg_none_of X G z_str
  have z_enumerate := PySem.W.mg_none_of X G z_enumerate
  have z_repr := PySem.W.mg_none_of X G z_repr
  have m_KINDS := PySem.W.mg_of X G m_KINDS
  have q_KINDS : L2.RelV (V.ref r_KINDS) (Value.ref r_KINDS) := rfl
  have v_KINDS : ∀ H S, Vw K H S c_KINDS (V.ref r_KINDS) := fun _ _ => .tup (vs := [.str "plain", .str "ties"]) (.inr ⟨_, _, _, t_KINDS, rfl, rfl, small_line (show 2 ≤ 100000 by decide), by first | exact .cons ⟨_, rfl⟩ (.cons ⟨_, rfl⟩ (.nil)) | simp [L2.Vals, L2.RelV]⟩) (.cons (.str _) (.cons (.str _) (.nil)))
  have m_FEWEST := PySem.W.mg_of X G m_FEWEST
  have q_FEWEST : L2.RelV (V.int 2) (Value.int 2 tk_FEWEST) := ⟨_, rfl⟩
  have v_FEWEST : ∀ H S, Vw K H S c_FEWEST (V.int 2) := fun _ _ => .int _
  have m_MOST := PySem.W.mg_of X G m_MOST
  have q_MOST : L2.RelV (V.int 6) (Value.int 6 tk_MOST) := ⟨_, rfl⟩
  have v_MOST : ∀ H S, Vw K H S c_MOST (V.int 6) := fun _ _ => .int _
  refine ⟨PySem.W.fnOf "law" "law" (defArgs s_law) (defBody s_law) (defScope s_law) .none kV16 dc16 pm16 an16 cd16 ct16, fun s v => .of_eq rfl, fun base _ _ => ?_⟩
  have F_is_whole := fun_mk (st := s_is_whole) l0 c0 k0
  have D_is_whole : Dk l.prog w K mg base 1 "is_whole" [false] (spF c_is_whole) := dk_is_whole F_is_whole (PySem.W.mg_of X G a0) (F_is_whole.binds (ps := ["thing"]) fun _ _ _ _ _ _ us hl => match us, hl with | [_], _ => rfl) z_isinstance z_int z_bool
  have F__law_deck := fun_mk (st := s__law_deck) l1 c1 k1
  have D__law_deck : Dk l.prog w K mg base 1 "_law_deck" [false] (spF c__law_deck) := dk__law_deck F__law_deck (PySem.W.mg_of X G a1) (F__law_deck.binds (ps := ["script"]) fun _ _ _ _ _ _ us hl => match us, hl with | [_], _ => rfl) z_len z_min z_max z_range z_int
  have F__law_draw := fun_mk (st := s__law_draw) l2 c2 k2
  have D__law_draw : Dk l.prog w K mg base 1 "_law_draw" [true, false] (spF c__law_draw) := dk__law_draw F__law_draw (PySem.W.mg_of X G a2) (F__law_draw.binds (ps := ["deck", "many"]) fun _ _ _ _ _ _ us hl => match us, hl with | [_, _], _ => rfl) z_len
  have F__law_pairs := fun_mk (st := s__law_pairs) l3 c3 k3
  have D__law_pairs : Dk l.prog w K mg base 1 "_law_pairs" [false] (spF c__law_pairs) := dk__law_pairs F__law_pairs (PySem.W.mg_of X G a3) (F__law_pairs.binds (ps := ["n"]) fun _ _ _ _ _ _ us hl => match us, hl with | [_], _ => rfl) z_range z_sorted
  have F__law_own := fun_mk (st := s__law_own) l4 c4 k4
  have D__law_own : Dk l.prog w K mg base 1 "_law_own" [false] (spF c__law_own) := dk__law_own F__law_own (PySem.W.mg_of X G a4) (F__law_own.binds (ps := ["league"]) fun _ _ _ _ _ _ us hl => match us, hl with | [_], _ => rfl) z_list
  have F__law_is_good_match := fun_mk (st := s__law_is_good_match) l5 c5 k5
  have D__law_is_good_match : Dk l.prog w K mg base 1 "_law_is_good_match" [false, false, false] (spF c__law_is_good_match) := dk__law_is_good_match F__law_is_good_match (PySem.W.mg_of X G a5) (F__law_is_good_match.binds (ps := ["kind", "n", "match"]) fun _ _ _ _ _ _ us hl => match us, hl with | [_, _, _], _ => rfl) z_isinstance z_tuple z_len z_int z_bool
  have F_is_player := fun_mk (st := s_is_player) l6 c6 k6
  have D_is_player : Dk l.prog w K mg base 2 "is_player" [false, false] (spF c_is_player) := dk_is_player F_is_player (PySem.W.mg_of X G a6) (F_is_player.binds (ps := ["n", "thing"]) fun _ _ _ _ _ _ us hl => match us, hl with | [_, _], _ => rfl) D_is_whole
  have F__law_outcome := fun_mk (st := s__law_outcome) l7 c7 k7
  have D__law_outcome : Dk l.prog w K mg base 2 "_law_outcome" [true, false, false, false] (spF c__law_outcome) := dk__law_outcome F__law_outcome (PySem.W.mg_of X G a7) (F__law_outcome.binds (ps := ["deck", "kind", "i", "j"]) fun _ _ _ _ _ _ us hl => match us, hl with | [_, _, _, _], _ => rfl) z_int D__law_draw
  have F__law_no_match := fun_mk (st := s__law_no_match) l8 c8 k8
  have D__law_no_match : Dk l.prog w K mg base 2 "_law_no_match" [true, false, false, false] (spF c__law_no_match) := dk__law_no_match F__law_no_match (PySem.W.mg_of X G a8) (F__law_no_match.binds (ps := ["deck", "kind", "n", "match"]) fun _ _ _ _ _ _ us hl => match us, hl with | [_, _, _, _], _ => rfl) z_str D__law_draw
  have F__law_good := fun_mk (st := s__law_good) l9 c9 k9
  have D__law_good : Dk l.prog w K mg base 2 "_law_good" [false] (spF c__law_good) := dk__law_good F__law_good (PySem.W.mg_of X G a9) (F__law_good.binds (ps := ["thing"]) fun _ _ _ _ _ _ us hl => match us, hl with | [_], _ => rfl) z_isinstance z_tuple z_len z_str z_int z_bool z_list D__law_is_good_match
  have F_is_played := fun_mk (st := s_is_played) l10 c10 k10
  have D_is_played : Dk l.prog w K mg base 3 "is_played" [false, false, false] (spF c_is_played) := dk_is_played F_is_played (PySem.W.mg_of X G a10) (F_is_played.binds (ps := ["kind", "n", "thing"]) fun _ _ _ _ _ _ us hl => match us, hl with | [_, _, _], _ => rfl) z_isinstance z_tuple z_len D_is_player
  have F__law_some_league := fun_mk (st := s__law_some_league) l11 c11 k11
  have D__law_some_league : Dk l.prog w K mg base 3 "_law_some_league" [true] (spF c__law_some_league) := dk__law_some_league F__law_some_league (PySem.W.mg_of X G a11) (F__law_some_league.binds (ps := ["deck"]) fun _ _ _ _ _ _ us hl => match us, hl with | [_], _ => rfl) z_enumerate D__law_draw D__law_pairs D__law_outcome
  have F__law_bent := fun_mk (st := s__law_bent) l12 c12 k12
  have D__law_bent : Dk l.prog w K mg base 3 "_law_bent" [true, false, false, false] (spF c__law_bent) := dk__law_bent F__law_bent (PySem.W.mg_of X G a12) (F__law_bent.binds (ps := ["deck", "kind", "n", "played"]) fun _ _ _ _ _ _ us hl => match us, hl with | [_, _, _, _], _ => rfl) z_len z_tuple D__law_draw D__law_pairs D__law_outcome D__law_no_match
  have F_is_league := fun_mk (st := s_is_league) l13 c13 k13
  have D_is_league : Dk l.prog w K mg base 4 "is_league" [false] (spF c_is_league) := dk_is_league F_is_league (PySem.W.mg_of X G a13) (F_is_league.binds (ps := ["thing"]) fun _ _ _ _ _ _ us hl => match us, hl with | [_], _ => rfl) z_isinstance z_tuple z_len z_str z_list z_range m_KINDS q_KINDS v_KINDS m_FEWEST q_FEWEST v_FEWEST m_MOST q_MOST v_MOST D_is_whole D_is_played
  have F__law_no_league := fun_mk (st := s__law_no_league) l14 c14 k14
  have D__law_no_league : Dk l.prog w K mg base 4 "_law_no_league" [true, false] (spF c__law_no_league) := dk__law_no_league F__law_no_league (PySem.W.mg_of X G a14) (F__law_no_league.binds (ps := ["deck", "league"]) fun _ _ _ _ _ _ us hl => match us, hl with | [_, _], _ => rfl) z_len D__law_draw D__law_bent
  have F__law_right := fun_mk (st := s__law_right) l15 c15 k15
  have D__law_right : Dk l.prog w K mg base 5 "_law_right" [false] (spF c__law_right) := dk__law_right F__law_right (PySem.W.mg_of X G a15) (F__law_right.binds (ps := ["thing"]) fun _ _ _ _ _ _ us hl => match us, hl with | [_], _ => rfl) z_repr z_range z_isinstance z_bool D_is_league D__law_good
  have Fl := fun_mk (st := s_law) l16 c16 k16
  exact fn_ok Fl sc_law rfl (by decide) (fun cdv Ar outer s H E hr => sd_law z_range D__law_deck D__law_some_league D__law_own D_is_league D__law_no_league D__law_right hr) (fun ds P PX h hl => adF ad_law h)

theorem law_sp {K : PySem.W.Frag} (hl : ∀ ns : List Int, ns.length ≤ 63 → ∃ ms, c_law [.scr ns] = .ret (.bl true) ms) (H : Hp) (a : Addr) (ns : List Int) (h : ns.length ≤ 63) (hO : Only H) (hS : SqL K H a (ns.map V.int)) : conc K [false] (spF c_law) [.ref a] H (fun v _ => v = .bl true) (fun _ _ _ => False) := by
  have sa : ScrAt K H a ns := by
    rcases hS with (hS | hS) | hS
    · rcases hO a with z | ⟨o, xs, z⟩
      · rw [z] at hS; cases hS
      · rw [z] at hS; cases hS
    · exact .inl hS
    · exact .inr hS
  refine ⟨fun _ => False, [.scr ns], [], fun d _ => d = .bl true, fun _ _ => False, fun a z => z.elim, .bor (.scr sa) rfl .nil, Own.nil, ?_, fun d ds' pd v H' o2 o1 _ _ _ r => ?_, fun c ds' pd => pd.elim⟩
  · obtain ⟨ms, e⟩ := hl ns h
    unfold spF
    rw [e]
    exact rfl
  subst pd
  exact (rp_bl r).1
end T
open PySem PySem.W PyProof.Rows
set_option maxHeartbeats 0 in
theorem PySem.Challenge.cw_wintold_k01_what_is_a_league_holds : PySem.Challenge.rw_wintold_k01_what_is_a_league.Holds := by
  w_on; o_law; k_head; (case hw => w_witness2)
  k_fill
  refine T.walk_ofG (l := PySem.Challenge.rw_wintold_k01_what_is_a_league) (n := 63) (k := 6) (x := "script") (cx := fun w => L2.CX (PySem.Challenge.rw_wintold_k01_what_is_a_league).prog w) (sp := fun w => T.conc _ [false] (T.spF T.c_law)) rfl (by decide) rfl ⟨⟨rfl, by decide, by decide⟩, rfl⟩ (fun w h Y => PySem.W.kIn_of Y) ?F (fun _ H a ns hl hO hS => T.law_sp T.law_true H a ns hl hO hS) (fun w H s e s' h => by obtain ⟨_, _, _, _, _, _, _, _, _, _, _, _, hE⟩ := h; exact hE)
  case F =>
    intro w mg fa h KX G hmg
    refine' T.all_mk KX G hmg ?a0 ?l0 ?c0 ?k0 ?a1 ?l1 ?c1 ?k1 ?a2 ?l2 ?c2 ?k2 ?a3 ?l3 ?c3 ?k3 ?a4 ?l4 ?c4 ?k4 ?a5 ?l5 ?c5 ?k5 ?a6 ?l6 ?c6 ?k6 ?a7 ?l7 ?c7 ?k7 ?a8 ?l8 ?c8 ?k8 ?a9 ?l9 ?c9 ?k9 ?a10 ?l10 ?c10 ?k10 ?a11 ?l11 ?c11 ?k11 ?a12 ?l12 ?c12 ?k12 ?a13 ?l13 ?c13 ?k13 ?a14 ?l14 ?c14 ?k14 ?a15 ?l15 ?c15 ?k15 ?a16 ?l16 ?c16 ?k16 ?z_isinstance ?z_int ?z_bool ?z_len ?z_min ?z_max ?z_range ?z_sorted ?z_list ?z_tuple ?z_str ?z_enumerate ?z_repr ?m_KINDS ?t_KINDS ?m_FEWEST ?m_MOST
    (case a0 => k_is); (case l0 => k_is); (case c0 => k_is); (case k0 => k_is); (case a1 => k_is); (case l1 => k_is); (case c1 => k_is); (case k1 => k_is); (case a2 => k_is); (case l2 => k_is); (case c2 => k_is); (case k2 => k_is); (case a3 => k_is); (case l3 => k_is); (case c3 => k_is); (case k3 => k_is); (case a4 => k_is); (case l4 => k_is); (case c4 => k_is); (case k4 => k_is); (case a5 => k_is); (case l5 => k_is); (case c5 => k_is); (case k5 => k_is); (case a6 => k_is); (case l6 => k_is); (case c6 => k_is); (case k6 => k_is); (case a7 => k_is); (case l7 => k_is); (case c7 => k_is); (case k7 => k_is); (case a8 => k_is); (case l8 => k_is); (case c8 => k_is); (case k8 => k_is); (case a9 => k_is); (case l9 => k_is); (case c9 => k_is); (case k9 => k_is); (case a10 => k_is); (case l10 => k_is); (case c10 => k_is); (case k10 => k_is); (case a11 => k_is); (case l11 => k_is); (case c11 => k_is); (case k11 => k_is); (case a12 => k_is); (case l12 => k_is); (case c12 => k_is); (case k12 => k_is); (case a13 => k_is); (case l13 => k_is); (case c13 => k_is); (case k13 => k_is); (case a14 => k_is); (case l14 => k_is); (case c14 => k_is); (case k14 => k_is); (case a15 => k_is); (case l15 => k_is); (case c15 => k_is); (case k15 => k_is); (case a16 => k_is); (case l16 => k_is); (case c16 => k_is); (case k16 => k_is); (case z_isinstance => k_is); (case z_int => k_is); (case z_bool => k_is); (case z_len => k_is); (case z_min => k_is); (case z_max => k_is); (case z_range => k_is); (case z_sorted => k_is); (case z_list => k_is); (case z_tuple => k_is); (case z_str => k_is); (case z_enumerate => k_is); (case z_repr => k_is); (case m_KINDS => k_is); (case t_KINDS => k_is); (case m_FEWEST => k_is); (case m_MOST => k_is)
