import PyProof.Rows.All
import Wide.All
import OpenK.AllK
import Wide.FinOn
import KE.KStateDown
import PySem.Challenge.RW_idealroom_k07_rings
import HandS.ForMost
import HandS.ForExc
import HandS.Zip
import HandS.Wide
import HandS.IsInst
import HandS.ClsMeth
import HandS.Defaults
import HandS.Head0
import HandS.Head1
import HandS.Head2
import HandS.HeadEnd
import HandS.HeadHook1
import HandS.HeadHook2
import HandS.TupAny
import HandS.TupLe
import HandS.Rev
import HandS.New0
import HandS.SortKw
import KE.DataMinMax
import KE.DataMinKey
import HandS.Conv
import HandS.DictTup
import PyProof.DictMoreH
import HandS.Iter
import KE.SortKeyHeap
import KE.DataFind
import HandS.DictEq
import HandS.TupLen
import KE.KDictCopyH
import KE.KDictOf
set_option Elab.async false
set_option linter.all false
set_option maxRecDepth 100000
set_option maxHeartbeats 4000000
set_option maxHeartbeats 4000000
/-! DA1: values as data (D), owned trees (M), how a heap bears them, the slots of a def -/
namespace DA
open PySem L2

/-- a value as data: what the objects at and behind it hold -/
inductive D where
  | non | bl (b : Bool) | int (i : Int) | str (x : Str)
  | tup (xs : List D) | lst (xs : List D)
  | dic (ks : List (List Key)) (ds : List D)
  | dik (ks : List Key) (ds : List D)
  | obj (C : Str) (fs : List Str) (ds : List D)
  | loc (a : Addr)

/-- data with the cells that are nobody else's: they may be written -/
inductive M where
  | dat (d : D)
  | lst (ms : List M)
  | dic (ks : List (List Key)) (ms : List M)
  | dik (ks : List Key) (ms : List M)
  | tup (ms : List M)
  | obj (C : Str) (fs : List Str) (ms : List M)
  | at (a : Addr) (m : M)

mutual
/-- owned cells forgotten -/
def M.er : M → D
  | .dat d => d
  | .lst ms => .lst (M.ers ms)
  | .dic ks ms => .dic ks (M.ers ms)
  | .dik ks ms => .dik ks (M.ers ms)
  | .tup ms => .tup (M.ers ms)
  | .obj C fs ms => .obj C fs (M.ers ms)
  | .at _ m => M.er m
def M.ers : List M → List D
  | [] => []
  | m :: ms => M.er m :: M.ers ms
end
theorem ers_map : ∀ ms : List M, M.ers ms = ms.map M.er
  | [] => by simp [M.ers]
  | m :: ms => by rw [M.ers, ers_map ms]; rfl
theorem ers_dats : ∀ ds : List D, M.ers (ds.map M.dat) = ds
  | [] => by simp [M.ers]
  | d :: ds => by simp [M.ers, M.er, ers_dats ds]

section
variable (ca : Str → Option Addr) (K : PySem.W.Frag) (H : Hp)
mutual
def Is : D → V → Prop
  | .non, v => v = .non
  | .bl b, v => v = .bl b
  | .int i, v => v = .int i
  | .str x, v => v = .str x
  | .loc a, v => v = .ref a
  | .tup xs, v => ∃ a vs, v = .ref a ∧ H a = some (.tup vs) ∧ IsL xs vs
  | .lst xs, v => ∃ a vs, v = .ref a ∧ SqL K H a vs ∧ IsL xs vs
  | .dic ks ds, v => ∃ a kvs, v = .ref a ∧ Rd H a (.dT kvs) ∧ kvs.map (·.1) = ks ∧ IsL ds (kvs.map (·.2))
  | .dik ks ds, v => ∃ a kvs, v = .ref a ∧ Rd H a (.dK kvs) ∧ kvs.map (·.1) = ks ∧ IsL ds (kvs.map (·.2))
  | .obj C fs ds, v => ∃ a Ca dx kvs, v = .ref a ∧ ca C = some Ca ∧ H a = some (.ins Ca dx kvs) ∧ kvs.map (·.1) = fs ∧ IsL ds (kvs.map (·.2))
def IsL : List D → List V → Prop
  | [], vs => vs = []
  | d :: ds, vs => ∃ v vs', vs = v :: vs' ∧ Is d v ∧ IsL ds vs'
end
end

/-- the heap without the cells at G -/
def cut (H : Hp) (G : List Addr) : Hp := fun a => if a ∈ G then none else H a
theorem cut_in {H : Hp} {G : List Addr} {a : Addr} (h : a ∈ G) : cut H G a = none := by unfold cut; rw [if_pos h]
theorem cut_out {H : Hp} {G : List Addr} {a : Addr} (h : a ∉ G) : cut H G a = H a := by unfold cut; rw [if_neg h]
theorem cut_some {H : Hp} {G : List Addr} {a : Addr} {u : HO} (h : cut H G a = some u) : a ∉ G ∧ H a = some u := by
  unfold cut at h
  by_cases e : a ∈ G
  · rw [if_pos e] at h; cases h
  · rw [if_neg e] at h; exact ⟨e, h⟩
theorem cut_nil (H : Hp) : cut H [] = H := by funext a; exact cut_out (by simp)

/-- what stood stands -/
structure Le (H H' : Hp) : Prop where
  same : ∀ a u, H a = some u → H' a = some u
section
variable {H H' : Hp}
theorem Le.tup (l : Le H H') : ∀ a xs, H a = some (.tup xs) → H' a = some (.tup xs) := fun a _ h => l.same a _ h
theorem Le.ins (l : Le H H') : ∀ a C dx fs, H a = some (.ins C dx fs) → H' a = some (.ins C dx fs) := fun a _ _ _ h => l.same a _ h
theorem Le.rd (l : Le H H') {a : Addr} {u : HO} (r : Rd H a u) : Rd H' a u := by
  rcases r with r | ⟨o, r⟩
  · exact .inl (l.same _ _ r)
  · exact .inr ⟨o, l.same _ _ r⟩
theorem Le.lst (l : Le H H') : ∀ a xs, Rd H a (.lst xs) → Rd H' a (.lst xs) := fun _ _ => l.rd
theorem Le.dT (l : Le H H') : ∀ a kvs, Rd H a (.dT kvs) → Rd H' a (.dT kvs) := fun _ _ => l.rd
theorem Le.dK (l : Le H H') : ∀ a kvs, Rd H a (.dK kvs) → Rd H' a (.dK kvs) := fun _ _ => l.rd
theorem Le.dom (l : Le H H') : ∀ a, H' a = none → H a = none := fun a e => by
  cases q : H a with
  | none => rfl
  | some u => rw [l.same a u q] at e; cases e
end
theorem Le.refl (H : Hp) : Le H H := ⟨fun _ _ h => h⟩
theorem Le.trans {H H1 H2 : Hp} (a : Le H H1) (b : Le H1 H2) : Le H H2 := ⟨fun x u h => b.same x u (a.same x u h)⟩
theorem Le.of_same {H H' : Hp} (h : ∀ a u, H a = some u → H' a = some u) : Le H H' := ⟨h⟩
theorem Le.new {H : Hp} {p : Addr} {o : HO} (h : H p = none) : Le H (upd H p o) := Le.of_same fun a u e => by
  rw [upd_ne (ne_of_none e h)]; exact e
theorem rd_cut {H : Hp} {G : List Addr} {a : Addr} {u : HO} (h : Rd (cut H G) a u) : a ∉ G ∧ Rd H a u := by
  rcases h with h | ⟨o, h⟩
  · exact ⟨(cut_some h).1, .inl (cut_some h).2⟩
  · exact ⟨(cut_some h).1, .inr ⟨o, (cut_some h).2⟩⟩
theorem rd_cut_of {H : Hp} {G : List Addr} {a : Addr} {u : HO} (n : a ∉ G) (h : Rd H a u) : Rd (cut H G) a u := by
  rcases h with h | ⟨o, h⟩
  · exact .inl ((cut_out n).trans h)
  · exact .inr ⟨o, (cut_out n).trans h⟩
theorem rd_ne {H : Hp} {a : Addr} {u : HO} (h : Rd H a u) : H a ≠ none := by
  rcases h with h | ⟨o, h⟩ <;> (rw [h]; simp)
theorem Le.cut {H H' : Hp} {G G' : List Addr} (l : Le H H') (g : ∀ a, a ∉ G → H a ≠ none → a ∉ G') (gd : ∀ a, a ∈ G' → H' a ≠ none) : Le (cut H G) (cut H' G') := ⟨fun a u h => by
  obtain ⟨n, h⟩ := cut_some h
  exact (cut_out (g a n (by rw [h]; simp))).trans (l.same a u h)⟩

section
variable {ca : Str → Option Addr} {K : PySem.W.Frag} {H H' : Hp}
theorem sqL_le {a : Addr} {xs : List V} (l : Le H H') (h : SqL K H a xs) : SqL K H' a xs := by
  rcases h with h | h
  · exact .inl (l.lst _ _ h)
  · exact .inr h
mutual
theorem Is.le (l : Le H H') : ∀ {d : D} {v : V}, Is ca K H d v → Is ca K H' d v
  | .non, _, h => by unfold Is at *; exact h
  | .bl b, _, h => by unfold Is at *; exact h
  | .int i, _, h => by unfold Is at *; exact h
  | .str x, _, h => by unfold Is at *; exact h
  | .loc a, _, h => by unfold Is at *; exact h
  | .tup xs, _, h => by
    unfold Is at *
    obtain ⟨a, vs, e, h, r⟩ := h
    exact ⟨a, vs, e, l.tup _ _ h, IsL.le l r⟩
  | .lst xs, _, h => by
    unfold Is at *
    obtain ⟨a, vs, e, h, r⟩ := h
    exact ⟨a, vs, e, sqL_le l h, IsL.le l r⟩
  | .dic ks ds, _, h => by
    unfold Is at *
    obtain ⟨a, kvs, e, h, k, r⟩ := h
    exact ⟨a, kvs, e, l.dT _ _ h, k, IsL.le l r⟩
  | .dik ks ds, _, h => by
    unfold Is at *
    obtain ⟨a, kvs, e, h, k, r⟩ := h
    exact ⟨a, kvs, e, l.dK _ _ h, k, IsL.le l r⟩
  | .obj C fs ds, _, h => by
    unfold Is at *
    obtain ⟨a, Ca, dx, kvs, e, c, h, k, r⟩ := h
    exact ⟨a, Ca, dx, kvs, e, c, l.ins _ _ _ _ h, k, IsL.le l r⟩
theorem IsL.le (l : Le H H') : ∀ {ds : List D} {vs : List V}, IsL ca K H ds vs → IsL ca K H' ds vs
  | [], _, h => by unfold IsL at *; exact h
  | d :: ds, _, h => by
    unfold IsL at *
    obtain ⟨v, vs', e, h, r⟩ := h
    exact ⟨v, vs', e, Is.le l h, IsL.le l r⟩
end
end

section
variable {ca : Str → Option Addr} {K : PySem.W.Frag} {H : Hp}
theorem is_non {v : V} : Is ca K H .non v ↔ v = .non := by unfold Is; exact Iff.rfl
theorem is_bl {b : Bool} {v : V} : Is ca K H (.bl b) v ↔ v = .bl b := by unfold Is; exact Iff.rfl
theorem is_int {i : Int} {v : V} : Is ca K H (.int i) v ↔ v = .int i := by unfold Is; exact Iff.rfl
theorem is_str {x : Str} {v : V} : Is ca K H (.str x) v ↔ v = .str x := by unfold Is; exact Iff.rfl
theorem is_loc {a : Addr} {v : V} : Is ca K H (.loc a) v ↔ v = .ref a := by unfold Is; exact Iff.rfl
theorem is_tup {xs : List D} {v : V} : Is ca K H (.tup xs) v ↔ ∃ a vs, v = .ref a ∧ H a = some (.tup vs) ∧ IsL ca K H xs vs := by rw [Is]
theorem is_lst {xs : List D} {v : V} : Is ca K H (.lst xs) v ↔ ∃ a vs, v = .ref a ∧ SqL K H a vs ∧ IsL ca K H xs vs := by rw [Is]
theorem is_dic {ks : List (List Key)} {ds : List D} {v : V} : Is ca K H (.dic ks ds) v ↔ ∃ a kvs, v = .ref a ∧ Rd H a (.dT kvs) ∧ kvs.map (·.1) = ks ∧ IsL ca K H ds (kvs.map (·.2)) := by rw [Is]
theorem is_dik {ks : List Key} {ds : List D} {v : V} : Is ca K H (.dik ks ds) v ↔ ∃ a kvs, v = .ref a ∧ Rd H a (.dK kvs) ∧ kvs.map (·.1) = ks ∧ IsL ca K H ds (kvs.map (·.2)) := by rw [Is]
theorem is_obj {C : Str} {fs : List Str} {ds : List D} {v : V} : Is ca K H (.obj C fs ds) v ↔ ∃ a Ca dx kvs, v = .ref a ∧ ca C = some Ca ∧ H a = some (.ins Ca dx kvs) ∧ kvs.map (·.1) = fs ∧ IsL ca K H ds (kvs.map (·.2)) := by rw [Is]
theorem isL_nil {vs : List V} : IsL ca K H [] vs ↔ vs = [] := by rw [IsL]
theorem isL_cons {d : D} {ds : List D} {vs : List V} : IsL ca K H (d :: ds) vs ↔ ∃ v vs', vs = v :: vs' ∧ Is ca K H d v ∧ IsL ca K H ds vs' := by rw [IsL]
theorem IsL.cons {d : D} {ds : List D} {v : V} {vs : List V} (h : Is ca K H d v) (r : IsL ca K H ds vs) : IsL ca K H (d :: ds) (v :: vs) := isL_cons.mpr ⟨v, vs, rfl, h, r⟩
theorem IsL.nil : IsL ca K H [] [] := isL_nil.mpr rfl
theorem IsL.len : ∀ {ds : List D} {vs : List V}, IsL ca K H ds vs → ds.length = vs.length
  | [], _, h => by rw [isL_nil.mp h]; rfl
  | d :: ds, _, h => by
    obtain ⟨v, vs', rfl, _, r⟩ := isL_cons.mp h
    simp [IsL.len r]
theorem IsL.get : ∀ {ds : List D} {vs : List V} {i : Nat} {d : D}, IsL ca K H ds vs → ds[i]? = some d → ∃ v, vs[i]? = some v ∧ Is ca K H d v
  | [], _, _, _, _, e => by simp at e
  | d :: ds, _, 0, _, h, e => by
    obtain ⟨v, vs', rfl, h, r⟩ := isL_cons.mp h
    have e' : d = _ := Option.some.inj e
    subst e'
    exact ⟨v, rfl, h⟩
  | d :: ds, _, i + 1, _, h, e => by
    obtain ⟨v, vs', rfl, h, r⟩ := isL_cons.mp h
    obtain ⟨w, e1, e2⟩ := IsL.get (i := i) r (by simpa using e)
    exact ⟨w, by simpa using e1, e2⟩
theorem IsL.app : ∀ {ds es : List D} {vs ws : List V}, IsL ca K H ds vs → IsL ca K H es ws → IsL ca K H (ds ++ es) (vs ++ ws)
  | [], _, _, _, h, g => by rw [isL_nil.mp h]; exact g
  | d :: ds, _, _, _, h, g => by
    obtain ⟨v, vs', rfl, h, r⟩ := isL_cons.mp h
    exact IsL.cons h (IsL.app r g)
theorem IsL.set : ∀ {ds : List D} {vs : List V} {i : Nat} {d : D} {v : V}, IsL ca K H ds vs → Is ca K H d v → IsL ca K H (ds.set i d) (vs.set i v)
  | [], _, _, _, _, h, g => by rw [isL_nil.mp h]; exact IsL.nil
  | e :: ds, _, 0, _, _, h, g => by
    obtain ⟨v, vs', rfl, h, r⟩ := isL_cons.mp h
    exact IsL.cons g r
  | e :: ds, _, i + 1, _, _, h, g => by
    obtain ⟨v, vs', rfl, h, r⟩ := isL_cons.mp h
    exact IsL.cons h (IsL.set r g)
theorem IsL.take : ∀ {ds : List D} {vs : List V} {n : Nat}, IsL ca K H ds vs → IsL ca K H (ds.take n) (vs.take n)
  | [], _, n, h => by rw [isL_nil.mp h]; simp; exact IsL.nil
  | e :: ds, _, 0, h => by simp; exact IsL.nil
  | e :: ds, _, n + 1, h => by
    obtain ⟨v, vs', rfl, h, r⟩ := isL_cons.mp h
    exact IsL.cons h (IsL.take r)
theorem IsL.drop : ∀ {ds : List D} {vs : List V} {n : Nat}, IsL ca K H ds vs → IsL ca K H (ds.drop n) (vs.drop n)
  | [], _, n, h => by rw [isL_nil.mp h]; simp; exact IsL.nil
  | e :: ds, _, 0, h => h
  | e :: ds, _, n + 1, h => by
    obtain ⟨v, vs', rfl, h, r⟩ := isL_cons.mp h
    exact IsL.drop (n := n) r
theorem IsL.rev {ds : List D} {vs : List V} (h : IsL ca K H ds vs) : IsL ca K H ds.reverse vs.reverse := by
  induction ds generalizing vs with
  | nil => rw [isL_nil.mp h]; exact IsL.nil
  | cons d ds ih =>
    obtain ⟨v, vs', rfl, h, r⟩ := isL_cons.mp h
    rw [List.reverse_cons, List.reverse_cons]
    exact IsL.app (ih r) (IsL.cons h IsL.nil)
theorem IsL.ints : ∀ {is : List Int}, IsL ca K H (is.map D.int) (is.map V.int)
  | [] => IsL.nil
  | i :: is => IsL.cons (is_int.mpr rfl) IsL.ints
theorem IsL.ints_inv : ∀ {is : List Int} {vs : List V}, IsL ca K H (is.map D.int) vs → vs = is.map V.int
  | [], _, h => isL_nil.mp h
  | i :: is, _, h => by
    obtain ⟨v, vs', rfl, h, r⟩ := isL_cons.mp h
    rw [is_int.mp h, IsL.ints_inv r]
    rfl
end

/-! ### owned trees -/
section
variable (ca : Str → Option Addr) (K : PySem.W.Frag) (G : List Addr) (H : Hp)
mutual
/-- v is the tree m; its own cells are F; its data holds without the cells at G -/
def Ow : M → V → List Addr → Prop
  | .dat d, v, F => F = [] ∧ Is ca K (cut H G) d v
  | .lst ms, v, F => ∃ a vs F', v = .ref a ∧ H a = some (.lst vs) ∧ OwL ms vs F' ∧ F = a :: F'
  | .dic ks ms, v, F => ∃ a kvs F', v = .ref a ∧ H a = some (.dT kvs) ∧ kvs.map (·.1) = ks ∧ OwL ms (kvs.map (·.2)) F' ∧ F = a :: F'
  | .dik ks ms, v, F => ∃ a kvs F', v = .ref a ∧ H a = some (.dK kvs) ∧ kvs.map (·.1) = ks ∧ OwL ms (kvs.map (·.2)) F' ∧ F = a :: F'
  | .tup ms, v, F => ∃ a vs, v = .ref a ∧ H a = some (.tup vs) ∧ OwL ms vs F
  | .obj C fs ms, v, F => ∃ a Ca dx kvs F', v = .ref a ∧ ca C = some Ca ∧ H a = some (.ins Ca dx kvs) ∧ kvs.map (·.1) = fs ∧ OwL ms (kvs.map (·.2)) F' ∧ F = a :: F'
  | .at a m, v, F => v = .ref a ∧ Ow m v F
def OwL : List M → List V → List Addr → Prop
  | [], vs, F => vs = [] ∧ F = []
  | m :: ms, vs, F => ∃ v vs' F1 F2, vs = v :: vs' ∧ Ow m v F1 ∧ OwL ms vs' F2 ∧ F = F1 ++ F2
end
end
section
variable {ca : Str → Option Addr} {K : PySem.W.Frag} {G G' : List Addr} {H H' : Hp}
theorem ow_dat {d : D} {v : V} {F : List Addr} : Ow ca K G H (.dat d) v F ↔ F = [] ∧ Is ca K (cut H G) d v := by rw [Ow]
theorem ow_lst {ms : List M} {v : V} {F : List Addr} : Ow ca K G H (.lst ms) v F ↔ ∃ a vs F', v = .ref a ∧ H a = some (.lst vs) ∧ OwL ca K G H ms vs F' ∧ F = a :: F' := by rw [Ow]
theorem ow_dic {ks : List (List Key)} {ms : List M} {v : V} {F : List Addr} : Ow ca K G H (.dic ks ms) v F ↔ ∃ a kvs F', v = .ref a ∧ H a = some (.dT kvs) ∧ kvs.map (·.1) = ks ∧ OwL ca K G H ms (kvs.map (·.2)) F' ∧ F = a :: F' := by rw [Ow]
theorem ow_dik {ks : List Key} {ms : List M} {v : V} {F : List Addr} : Ow ca K G H (.dik ks ms) v F ↔ ∃ a kvs F', v = .ref a ∧ H a = some (.dK kvs) ∧ kvs.map (·.1) = ks ∧ OwL ca K G H ms (kvs.map (·.2)) F' ∧ F = a :: F' := by rw [Ow]
theorem ow_tup {ms : List M} {v : V} {F : List Addr} : Ow ca K G H (.tup ms) v F ↔ ∃ a vs, v = .ref a ∧ H a = some (.tup vs) ∧ OwL ca K G H ms vs F := by rw [Ow]
theorem ow_obj {C : Str} {fs : List Str} {ms : List M} {v : V} {F : List Addr} : Ow ca K G H (.obj C fs ms) v F ↔ ∃ a Ca dx kvs F', v = .ref a ∧ ca C = some Ca ∧ H a = some (.ins Ca dx kvs) ∧ kvs.map (·.1) = fs ∧ OwL ca K G H ms (kvs.map (·.2)) F' ∧ F = a :: F' := by rw [Ow]
theorem ow_at {a : Addr} {m : M} {v : V} {F : List Addr} : Ow ca K G H (.at a m) v F ↔ v = .ref a ∧ Ow ca K G H m v F := by rw [Ow]
theorem owL_nil {vs : List V} {F : List Addr} : OwL ca K G H [] vs F ↔ vs = [] ∧ F = [] := by rw [OwL]
theorem owL_cons {m : M} {ms : List M} {vs : List V} {F : List Addr} : OwL ca K G H (m :: ms) vs F ↔ ∃ v vs' F1 F2, vs = v :: vs' ∧ Ow ca K G H m v F1 ∧ OwL ca K G H ms vs' F2 ∧ F = F1 ++ F2 := by rw [OwL]
theorem OwL.len : ∀ {ms : List M} {vs : List V} {F : List Addr}, OwL ca K G H ms vs F → ms.length = vs.length
  | [], _, _, h => by rw [(owL_nil.mp h).1]; rfl
  | d :: ds, _, _, h => by
    obtain ⟨v, vs', _, _, rfl, _, r, _⟩ := owL_cons.mp h
    simp [OwL.len r]
mutual
theorem Ow.mono (l : Le (cut H G) (cut H' G')) : ∀ {m : M} {v : V} {F : List Addr}, (∀ a ∈ F, H' a = H a) → (∀ a xs, H a = some (.tup xs) → H' a = some (.tup xs)) → Ow ca K G H m v F → Ow ca K G' H' m v F
  | .dat d, _, _, k, t, h => by
    obtain ⟨e, h⟩ := ow_dat.mp h
    exact ow_dat.mpr ⟨e, h.le l⟩
  | .lst ms, _, _, k, t, h => by
    obtain ⟨a, vs, F', e, hh, r, rfl⟩ := ow_lst.mp h
    exact ow_lst.mpr ⟨a, vs, F', e, (k a (by simp)).trans hh, OwL.mono l (fun b hb => k b (List.mem_cons_of_mem _ hb)) t r, rfl⟩
  | .dic ks ms, _, _, k, t, h => by
    obtain ⟨a, vs, F', e, hh, ek, r, rfl⟩ := ow_dic.mp h
    exact ow_dic.mpr ⟨a, vs, F', e, (k a (by simp)).trans hh, ek, OwL.mono l (fun b hb => k b (List.mem_cons_of_mem _ hb)) t r, rfl⟩
  | .dik ks ms, _, _, k, t, h => by
    obtain ⟨a, vs, F', e, hh, ek, r, rfl⟩ := ow_dik.mp h
    exact ow_dik.mpr ⟨a, vs, F', e, (k a (by simp)).trans hh, ek, OwL.mono l (fun b hb => k b (List.mem_cons_of_mem _ hb)) t r, rfl⟩
  | .tup ms, _, _, k, t, h => by
    obtain ⟨a, vs, e, hh, r⟩ := ow_tup.mp h
    exact ow_tup.mpr ⟨a, vs, e, t _ _ hh, OwL.mono l k t r⟩
  | .obj C fs ms, _, _, k, t, h => by
    obtain ⟨a, Ca, dx, vs, F', e, c, hh, ek, r, rfl⟩ := ow_obj.mp h
    exact ow_obj.mpr ⟨a, Ca, dx, vs, F', e, c, (k a (by simp)).trans hh, ek, OwL.mono l (fun b hb => k b (List.mem_cons_of_mem _ hb)) t r, rfl⟩
  | .at a m, _, _, k, t, h => by
    obtain ⟨e, h⟩ := ow_at.mp h
    exact ow_at.mpr ⟨e, Ow.mono l k t h⟩
theorem OwL.mono (l : Le (cut H G) (cut H' G')) : ∀ {ms : List M} {vs : List V} {F : List Addr}, (∀ a ∈ F, H' a = H a) → (∀ a xs, H a = some (.tup xs) → H' a = some (.tup xs)) → OwL ca K G H ms vs F → OwL ca K G' H' ms vs F
  | [], _, _, k, t, h => by
    obtain ⟨e, f⟩ := owL_nil.mp h
    exact owL_nil.mpr ⟨e, f⟩
  | m :: ms, _, _, k, t, h => by
    obtain ⟨v, vs', F1, F2, e, h1, r, rfl⟩ := owL_cons.mp h
    exact owL_cons.mpr ⟨v, vs', F1, F2, e, Ow.mono l (fun b hb => k b (List.mem_append_left _ hb)) t h1, OwL.mono l (fun b hb => k b (List.mem_append_right _ hb)) t r, rfl⟩
end
/-- owned cells are such as may be written -/
def Mu (o : Option HO) : Prop := (∃ xs, o = some (.lst xs)) ∨ (∃ k, o = some (.dT k)) ∨ (∃ k, o = some (.dK k)) ∨ ∃ C dx fs, o = some (.ins C dx fs)
theorem Mu.ne {o : Option HO} (h : Mu o) : o ≠ none := by
  rcases h with ⟨_, h⟩ | ⟨_, h⟩ | ⟨_, h⟩ | ⟨_, _, _, h⟩ <;> (rw [h]; simp)
theorem Mu.noTup {H : Hp} {a : Addr} {xs : List V} (h : Mu (H a)) (e : H a = some (.tup xs)) : False := by
  rcases h with ⟨_, h⟩ | ⟨_, h⟩ | ⟨_, h⟩ | ⟨_, _, _, h⟩ <;> (rw [h] at e; cases e)
mutual
theorem Ow.mu : ∀ {m : M} {v : V} {F : List Addr}, Ow ca K G H m v F → ∀ a ∈ F, Mu (H a)
  | .dat d, _, _, h, a, ha => by
    obtain ⟨rfl, _⟩ := ow_dat.mp h
    cases ha
  | .lst ms, _, _, h, b, hb => by
    obtain ⟨a, vs, F', e, hh, r, rfl⟩ := ow_lst.mp h
    rcases List.mem_cons.mp hb with rfl | hb
    · exact .inl ⟨_, hh⟩
    · exact OwL.mu r b hb
  | .dic ks ms, _, _, h, b, hb => by
    obtain ⟨a, vs, F', e, hh, ek, r, rfl⟩ := ow_dic.mp h
    rcases List.mem_cons.mp hb with rfl | hb
    · exact .inr (.inl ⟨_, hh⟩)
    · exact OwL.mu r b hb
  | .dik ks ms, _, _, h, b, hb => by
    obtain ⟨a, vs, F', e, hh, ek, r, rfl⟩ := ow_dik.mp h
    rcases List.mem_cons.mp hb with rfl | hb
    · exact .inr (.inr (.inl ⟨_, hh⟩))
    · exact OwL.mu r b hb
  | .tup ms, _, _, h, b, hb => by
    obtain ⟨a, vs, e, hh, r⟩ := ow_tup.mp h
    exact OwL.mu r b hb
  | .obj C fs ms, _, _, h, b, hb => by
    obtain ⟨a, Ca, dx, vs, F', e, c, hh, ek, r, rfl⟩ := ow_obj.mp h
    rcases List.mem_cons.mp hb with rfl | hb
    · exact .inr (.inr (.inr ⟨_, _, _, hh⟩))
    · exact OwL.mu r b hb
  | .at a m, _, _, h, b, hb => Ow.mu (ow_at.mp h).2 b hb
theorem OwL.mu : ∀ {ms : List M} {vs : List V} {F : List Addr}, OwL ca K G H ms vs F → ∀ a ∈ F, Mu (H a)
  | [], _, _, h, a, ha => by
    obtain ⟨_, rfl⟩ := owL_nil.mp h
    cases ha
  | m :: ms, _, _, h, b, hb => by
    obtain ⟨v, vs', F1, F2, e, h1, r, rfl⟩ := owL_cons.mp h
    rcases List.mem_append.mp hb with hb | hb
    · exact Ow.mu h1 b hb
    · exact OwL.mu r b hb
end
mutual
/-- the cells are no longer guarded: the tree is data -/
theorem Ow.er (n : ∀ a, a ∉ G → a ∉ G') : ∀ {m : M} {v : V} {F : List Addr}, (∀ a ∈ F, a ∉ G') → (∀ a xs, H a = some (.tup xs) → a ∉ G') → Ow ca K G H m v F → Is ca K (cut H G') m.er v
  | .dat d, _, _, k, t, h => by
    obtain ⟨e, h⟩ := ow_dat.mp h
    exact h.le ⟨fun a u h => (cut_out (n a (cut_some h).1)).trans (cut_some h).2⟩
  | .lst ms, _, _, k, t, h => by
    obtain ⟨a, vs, F', e, hh, r, rfl⟩ := ow_lst.mp h
    rw [M.er]
    exact is_lst.mpr ⟨a, vs, e, .inl (.inl ((cut_out (k a (by simp))).trans hh)), OwL.er n (fun b hb => k b (List.mem_cons_of_mem _ hb)) t r⟩
  | .dic ks ms, _, _, k, t, h => by
    obtain ⟨a, vs, F', e, hh, ek, r, rfl⟩ := ow_dic.mp h
    rw [M.er]
    exact is_dic.mpr ⟨a, vs, e, .inl ((cut_out (k a (by simp))).trans hh), ek, OwL.er n (fun b hb => k b (List.mem_cons_of_mem _ hb)) t r⟩
  | .dik ks ms, _, _, k, t, h => by
    obtain ⟨a, vs, F', e, hh, ek, r, rfl⟩ := ow_dik.mp h
    rw [M.er]
    exact is_dik.mpr ⟨a, vs, e, .inl ((cut_out (k a (by simp))).trans hh), ek, OwL.er n (fun b hb => k b (List.mem_cons_of_mem _ hb)) t r⟩
  | .tup ms, _, _, k, t, h => by
    obtain ⟨a, vs, e, hh, r⟩ := ow_tup.mp h
    rw [M.er]
    exact is_tup.mpr ⟨a, vs, e, (cut_out (t a _ hh)).trans hh, OwL.er n k t r⟩
  | .obj C fs ms, _, _, k, t, h => by
    obtain ⟨a, Ca, dx, vs, F', e, c, hh, ek, r, rfl⟩ := ow_obj.mp h
    rw [M.er]
    exact is_obj.mpr ⟨a, Ca, dx, vs, e, c, (cut_out (k a (by simp))).trans hh, ek, OwL.er n (fun b hb => k b (List.mem_cons_of_mem _ hb)) t r⟩
  | .at a m, _, _, k, t, h => by
    rw [M.er]
    exact Ow.er n k t (ow_at.mp h).2
theorem OwL.er (n : ∀ a, a ∉ G → a ∉ G') : ∀ {ms : List M} {vs : List V} {F : List Addr}, (∀ a ∈ F, a ∉ G') → (∀ a xs, H a = some (.tup xs) → a ∉ G') → OwL ca K G H ms vs F → IsL ca K (cut H G') (M.ers ms) vs
  | [], _, _, k, t, h => by
    rw [(owL_nil.mp h).1, M.ers]
    exact IsL.nil
  | m :: ms, _, _, k, t, h => by
    obtain ⟨v, vs', F1, F2, rfl, h1, r, rfl⟩ := owL_cons.mp h
    rw [M.ers]
    exact IsL.cons (Ow.er n (fun b hb => k b (List.mem_append_left _ hb)) t h1) (OwL.er n (fun b hb => k b (List.mem_append_right _ hb)) t r)
end
theorem OwL.of_dats : ∀ {ds : List D} {vs : List V}, IsL ca K (cut H G) ds vs → OwL ca K G H (ds.map M.dat) vs []
  | [], _, h => owL_nil.mpr ⟨isL_nil.mp h, rfl⟩
  | d :: ds, _, h => by
    obtain ⟨v, vs', rfl, h, r⟩ := isL_cons.mp h
    exact owL_cons.mpr ⟨v, vs', [], [], rfl, ow_dat.mpr ⟨rfl, h⟩, OwL.of_dats r, rfl⟩
theorem OwL.to_dats : ∀ {ds : List D} {vs : List V} {F : List Addr}, OwL ca K G H (ds.map M.dat) vs F → F = [] ∧ IsL ca K (cut H G) ds vs
  | [], _, _, h => ⟨(owL_nil.mp h).2, isL_nil.mpr (owL_nil.mp h).1⟩
  | d :: ds, _, _, h => by
    obtain ⟨v, vs', F1, F2, rfl, h1, r, rfl⟩ := owL_cons.mp h
    obtain ⟨rfl, h2⟩ := ow_dat.mp h1
    obtain ⟨rfl, r2⟩ := OwL.to_dats r
    exact ⟨rfl, IsL.cons h2 r2⟩
theorem OwL.app : ∀ {ms ns : List M} {vs ws : List V} {F F' : List Addr}, OwL ca K G H ms vs F → OwL ca K G H ns ws F' → OwL ca K G H (ms ++ ns) (vs ++ ws) (F ++ F')
  | [], _, _, _, _, _, h, g => by
    obtain ⟨rfl, rfl⟩ := owL_nil.mp h
    exact g
  | m :: ms, _, _, _, _, _, h, g => by
    obtain ⟨v, vs', F1, F2, rfl, h1, r, rfl⟩ := owL_cons.mp h
    rw [List.append_assoc]
    exact owL_cons.mpr ⟨v, _, F1, _, rfl, h1, OwL.app r g, rfl⟩
end
end DA
set_option maxHeartbeats 4000000
/-! DA2: the slots of a def, as data and owned trees -/
namespace DA
open PySem L2

abbrev Rn := List (Option M)

section
variable (ca : Str → Option Addr) (K : PySem.W.Frag) (G : List Addr) (H : Hp)
def OwO : Option M → Option V → List Addr → Prop
  | none, _, F => F = []
  | some m, w, F => ∃ v, w = some v ∧ Ow ca K G H m v F
def OwS : Rn → St → List Addr → Prop
  | [], σ, F => σ = [] ∧ F = []
  | o :: ρ, σ, F => ∃ w σ' F1 F2, σ = w :: σ' ∧ OwO ca K G H o w F1 ∧ OwS ρ σ' F2 ∧ F = F1 ++ F2
end
section
variable {ca : Str → Option Addr} {K : PySem.W.Frag} {G G' : List Addr} {H H' : Hp}
theorem owO_some {m : M} {w : Option V} {F : List Addr} : OwO ca K G H (some m) w F ↔ ∃ v, w = some v ∧ Ow ca K G H m v F := Iff.rfl
theorem OwO.mono (l : Le (cut H G) (cut H' G')) : ∀ {o : Option M} {w : Option V} {F : List Addr}, (∀ a ∈ F, H' a = H a) → (∀ a xs, H a = some (.tup xs) → H' a = some (.tup xs)) → OwO ca K G H o w F → OwO ca K G' H' o w F
  | none, _, _, _, _, h => h
  | some m, _, _, k, t, ⟨v, e, h⟩ => ⟨v, e, h.mono l k t⟩
theorem OwO.mu : ∀ {o : Option M} {w : Option V} {F : List Addr}, OwO ca K G H o w F → ∀ a ∈ F, Mu (H a)
  | none, _, _, h, a, ha => by
    have e : _ = [] := h
    rw [e] at ha; cases ha
  | some m, _, _, ⟨v, e, h⟩, a, ha => h.mu a ha
theorem OwS.nil : OwS ca K G H [] [] [] := ⟨rfl, rfl⟩
theorem OwS.cons {o : Option M} {w : Option V} {ρ : Rn} {σ : St} {F1 F2 : List Addr} (h : OwO ca K G H o w F1) (r : OwS ca K G H ρ σ F2) : OwS ca K G H (o :: ρ) (w :: σ) (F1 ++ F2) := ⟨w, σ, F1, F2, rfl, h, r, rfl⟩
theorem OwS.len : ∀ {ρ : Rn} {σ : St} {F : List Addr}, OwS ca K G H ρ σ F → ρ.length = σ.length
  | [], _, _, ⟨e, _⟩ => by rw [e]; rfl
  | o :: ρ, _, _, ⟨w, σ', F1, F2, e, _, r, _⟩ => by rw [e]; simp [OwS.len r]
theorem OwS.mono (l : Le (cut H G) (cut H' G')) : ∀ {ρ : Rn} {σ : St} {F : List Addr}, (∀ a ∈ F, H' a = H a) → (∀ a xs, H a = some (.tup xs) → H' a = some (.tup xs)) → OwS ca K G H ρ σ F → OwS ca K G' H' ρ σ F
  | [], _, _, _, _, h => h
  | o :: ρ, _, _, k, t, ⟨w, σ', F1, F2, e, h, r, ef⟩ => by
    subst ef
    exact ⟨w, σ', F1, F2, e, h.mono l (fun a ha => k a (List.mem_append_left _ ha)) t, OwS.mono l (fun a ha => k a (List.mem_append_right _ ha)) t r, rfl⟩
theorem OwS.mu : ∀ {ρ : Rn} {σ : St} {F : List Addr}, OwS ca K G H ρ σ F → ∀ a ∈ F, Mu (H a)
  | [], _, _, ⟨_, e⟩, a, ha => by rw [e] at ha; cases ha
  | o :: ρ, _, _, ⟨w, σ', F1, F2, e, h, r, ef⟩, a, ha => by
    subst ef
    rcases List.mem_append.mp ha with ha | ha
    · exact h.mu a ha
    · exact OwS.mu r a ha
theorem OwS.app : ∀ {ρ ρ' : Rn} {σ σ' : St} {F F' : List Addr}, OwS ca K G H ρ σ F → OwS ca K G H ρ' σ' F' → OwS ca K G H (ρ ++ ρ') (σ ++ σ') (F ++ F')
  | [], _, _, _, _, _, ⟨e, f⟩, g => by rw [e, f]; exact g
  | o :: ρ, _, _, _, _, _, ⟨w, σ', F1, F2, e, h, r, ef⟩, g => by
    rw [e, ef, List.append_assoc]
    exact OwS.cons h (OwS.app r g)
theorem OwS.unapp : ∀ {ρ ρ' : Rn} {σ : St} {F : List Addr}, OwS ca K G H (ρ ++ ρ') σ F → ∃ σ1 σ2 F1 F2, σ = σ1 ++ σ2 ∧ F = F1 ++ F2 ∧ OwS ca K G H ρ σ1 F1 ∧ OwS ca K G H ρ' σ2 F2
  | [], _, σ, F, h => ⟨[], σ, [], F, rfl, rfl, OwS.nil, h⟩
  | o :: ρ, _, _, _, ⟨w, σ', F1, F2, e, h, r, ef⟩ => by
    obtain ⟨σ1, σ2, A, B, e1, e2, r1, r2⟩ := OwS.unapp r
    exact ⟨w :: σ1, σ2, F1 ++ A, B, by rw [e, e1]; rfl, by rw [ef, e2, List.append_assoc], OwS.cons h r1, r2⟩
/-- one slot taken out, and put back otherwise -/
theorem OwS.split : ∀ {ρ : Rn} {σ : St} {F : List Addr} {i : Nat} {o : Option M}, OwS ca K G H ρ σ F → ρ[i]? = some o → ∃ w A Fi B, F = A ++ (Fi ++ B) ∧ σ[i]? = some w ∧ OwO ca K G H o w Fi ∧
    ∀ (G' : List Addr) (H' : Hp) (o' : Option M) (w' : Option V) (Fi' : List Addr), Le (cut H G) (cut H' G') → (∀ a ∈ A ++ B, H' a = H a) → (∀ a xs, H a = some (.tup xs) → H' a = some (.tup xs)) → OwO ca K G' H' o' w' Fi' →
      OwS ca K G' H' (ρ.set i o') (σ.set i w') (A ++ (Fi' ++ B))
  | [], _, _, _, _, _, e => by simp at e
  | o :: ρ, _, _, 0, o2, ⟨w, σ', F1, F2, e, h, r, ef⟩, ei => by
    have e' : o = o2 := Option.some.inj ei
    subst e' e ef
    refine ⟨w, [], F1, F2, rfl, rfl, h, fun G' H' o' w' Fi' l k t h' => ?_⟩
    exact ⟨w', σ', Fi', F2, rfl, h', r.mono l (fun a ha => k a ha) t, rfl⟩
  | o :: ρ, _, _, i + 1, o2, ⟨w, σ', F1, F2, e, h, r, ef⟩, ei => by
    obtain ⟨w2, A, Fi, B, e2, e3, h2, back⟩ := OwS.split (i := i) r (by simpa using ei)
    subst e ef e2
    refine ⟨w2, F1 ++ A, Fi, B, by simp [List.append_assoc], by simpa using e3, h2, fun G' H' o' w' Fi' l k t h' => ?_⟩
    have q := back G' H' o' w' Fi' l (fun a ha => k a (by rcases List.mem_append.mp ha with z | z <;> simp [z])) t h'
    rw [List.append_assoc]
    exact ⟨w, _, F1, _, rfl, h.mono l (fun a ha => k a (by simp [ha])) t, q, rfl⟩
end

/-! ### the state of a def -/
section
variable (ca : Str → Option Addr) (K : PySem.W.Frag)
/-- H0: the heap at the def's entry, Fa: the callers' cells; ρ, σ: the slots; F: the cells of the slots -/
structure EnvF (H0 : Hp) (Fa : List Addr) (ρ : Rn) (σ : St) (H : Hp) (F : List Addr) : Prop where
  le : Le H0 H
  keep : ∀ a ∈ Fa, H a = H0 a
  mu : ∀ a ∈ Fa, Mu (H0 a)
  nd : F.Nodup
  fresh : ∀ a ∈ F, H0 a = none
  own : OwS ca K (Fa ++ F) H ρ σ F
def Env (H0 : Hp) (Fa : List Addr) (ρ : Rn) (σ : St) (H : Hp) : Prop := ∃ F, EnvF ca K H0 Fa ρ σ H F
end
section
variable {ca : Str → Option Addr} {K : PySem.W.Frag} {H0 H H' : Hp} {Fa F F' : List Addr} {ρ : Rn} {σ : St} {m : M} {v : V}
theorem EnvF.muG (E : EnvF ca K H0 Fa ρ σ H F) : ∀ a ∈ Fa ++ F, Mu (H a) := fun a ha => by
  rcases List.mem_append.mp ha with ha | ha
  · rw [E.keep a ha]; exact E.mu a ha
  · exact E.own.mu a ha
theorem EnvF.apart (E : EnvF ca K H0 Fa ρ σ H F) : ∀ a ∈ F, a ∉ Fa := fun a ha hb => (E.mu a hb).ne (E.fresh a ha)
/-- the same, behind steps that leave the guarded cells -/
theorem EnvF.go (E : EnvF ca K H0 Fa ρ σ H F) (l : Le H H') (k : ∀ a ∈ Fa ++ F, H' a = H a) : EnvF ca K H0 Fa ρ σ H' F where
  le := E.le.trans l
  keep := fun a ha => (k a (List.mem_append_left _ ha)).trans (E.keep a ha)
  mu := E.mu
  nd := E.nd
  fresh := E.fresh
  own := E.own.mono (l.cut (fun a n _ => n) (fun a ha => by rw [k a ha]; exact (E.muG a ha).ne)) (fun a ha => k a (List.mem_append_right _ ha)) l.tup
/-- the cells told in another order -/
theorem EnvF.re (E : EnvF ca K H0 Fa ρ σ H F) {ρ' : Rn} {σ' : St} (nd : F'.Nodup) (sub : ∀ a ∈ F', a ∈ F) (own : OwS ca K (Fa ++ F') H ρ' σ' F') : EnvF ca K H0 Fa ρ' σ' H F' :=
  ⟨E.le, E.keep, E.mu, nd, fun a ha => E.fresh a (sub a ha), own⟩
theorem le_shrink {G G' : List Addr} (s : ∀ a ∈ G', a ∈ G) (gd : ∀ a ∈ G', H a ≠ none) : Le (cut H G) (cut H G') := (Le.refl H).cut (fun a n _ z => n (s a z)) gd
/-- a value more, on top -/
theorem EnvF.push (E : EnvF ca K H0 Fa ρ σ H F) (l : Le H H') (k : ∀ a ∈ Fa ++ F, H' a = H a) (nd : F'.Nodup) (fr : ∀ a ∈ F', H a = none) (h : Ow ca K (Fa ++ (F' ++ F)) H' m v F') :
    EnvF ca K H0 Fa (some m :: ρ) (some v :: σ) H' (F' ++ F) where
  le := E.le.trans l
  keep := fun a ha => (k a (List.mem_append_left _ ha)).trans (E.keep a ha)
  mu := E.mu
  nd := List.nodup_append.mpr ⟨nd, E.nd, fun a ha b hb e => by
    subst e
    exact (E.muG a (List.mem_append_right _ hb)).ne (fr a ha)⟩
  fresh := fun a ha => by
    rcases List.mem_append.mp ha with ha | ha
    · exact E.le.dom a (fr a ha)
    · exact E.fresh a ha
  own := by
    refine OwS.cons ⟨v, rfl, h⟩ (E.own.mono (l.cut (fun a n hn => ?_) (fun a ha => ?_)) (fun a ha => k a (List.mem_append_right _ ha)) l.tup)
    · simp only [List.mem_append, not_or] at n ⊢
      exact ⟨n.1, fun z => hn (fr a z), n.2⟩
    · simp only [List.mem_append] at ha
      rcases ha with ha | ha | ha
      · rw [k a (List.mem_append_left _ ha)]; exact (E.muG a (List.mem_append_left _ ha)).ne
      · exact (h.mu a ha).ne
      · rw [k a (List.mem_append_right _ ha)]; exact (E.muG a (List.mem_append_right _ ha)).ne
theorem Env.go (E : EnvF ca K H0 Fa ρ σ H F) (l : Le H H') (k : ∀ a ∈ Fa ++ F, H' a = H a) : Env ca K H0 Fa ρ σ H' := ⟨F, E.go l k⟩
/-- data on top -/
theorem EnvF.pushD {d : D} (E : EnvF ca K H0 Fa ρ σ H F) (l : Le H H') (k : ∀ a ∈ Fa ++ F, H' a = H a) (h : Is ca K (cut H' (Fa ++ F)) d v) : EnvF ca K H0 Fa (some (.dat d) :: ρ) (some v :: σ) H' F :=
  E.push (F' := []) l k List.nodup_nil (fun _ z => nomatch z) (ow_dat.mpr ⟨rfl, h⟩)
theorem EnvF.pop {o : Option M} {w : Option V} (E : EnvF ca K H0 Fa (o :: ρ) (w :: σ) H F) : Env ca K H0 Fa ρ σ H := by
  obtain ⟨w', σ', F1, F2, e, h, r, ef⟩ := E.own
  injection e with e1 e2
  subst e1 e2 ef
  refine ⟨F2, E.re (List.nodup_append.mp E.nd).2.1 (fun a ha => List.mem_append_right _ ha) (r.mono (le_shrink (fun a ha => ?_) fun a ha => ?_) (fun _ _ => rfl) fun _ _ z => z)⟩
  · rcases List.mem_append.mp ha with z | z <;> simp [z]
  · refine (E.muG a ?_).ne
    rcases List.mem_append.mp ha with z | z <;> simp [z]
theorem Env.pop {o : Option M} {w : Option V} : Env ca K H0 Fa (o :: ρ) (w :: σ) H → Env ca K H0 Fa ρ σ H := fun ⟨_, E⟩ => E.pop
/-- the tree on top is data now -/
theorem EnvF.frz (E : EnvF ca K H0 Fa (some m :: ρ) (some v :: σ) H F) : Env ca K H0 Fa (some (.dat m.er) :: ρ) (some v :: σ) H := by
  obtain ⟨w', σ', F1, F2, e, ⟨v', ev, h⟩, r, ef⟩ := E.own
  injection e with e1 e2
  subst e1 e2 ef
  cases ev
  have sub : ∀ a ∈ Fa ++ F2, a ∈ Fa ++ (F1 ++ F2) := fun a ha => by rcases List.mem_append.mp ha with z | z <;> simp [z]
  have nd := List.nodup_append.mp E.nd
  refine ⟨F2, E.re nd.2.1 (fun a ha => List.mem_append_right _ ha) ?_⟩
  have q : Is ca K (cut H (Fa ++ F2)) m.er v := h.er (fun a n z => n (sub a z)) (fun a ha z => by
    rcases List.mem_append.mp z with z | z
    · exact E.apart a (List.mem_append_left _ ha) z
    · exact nd.2.2 a ha a z rfl) fun a xs ha z => (E.muG a (sub a z)).noTup ha
  exact OwS.cons (F1 := []) ⟨v, rfl, ow_dat.mpr ⟨rfl, q⟩⟩ (r.mono (le_shrink sub fun a ha => (E.muG a (sub a ha)).ne) (fun _ _ => rfl) fun _ _ z => z)
theorem Env.frz : Env ca K H0 Fa (some m :: ρ) (some v :: σ) H → Env ca K H0 Fa (some (.dat m.er) :: ρ) (some v :: σ) H := fun ⟨_, E⟩ => E.frz
/-- what a slot holds as data -/
theorem EnvF.get {d : D} {i : Nat} (E : EnvF ca K H0 Fa ρ σ H F) (h : ρ[i]? = some (some (.dat d))) : ∃ v, σ[i]? = some (some v) ∧ Is ca K (cut H (Fa ++ F)) d v := by
  obtain ⟨w, A, Fi, B, _, e2, ⟨v, e3, o⟩, _⟩ := E.own.split h
  exact ⟨v, by rw [e2, e3], (ow_dat.mp o).2⟩
theorem Env.get {d : D} {i : Nat} (h : ρ[i]? = some (some (.dat d))) : Env ca K H0 Fa ρ σ H → ∃ F v, EnvF ca K H0 Fa ρ σ H F ∧ σ[i]? = some (some v) ∧ Is ca K (cut H (Fa ++ F)) d v := fun ⟨F, E⟩ => by
  obtain ⟨v, a, b⟩ := E.get h
  exact ⟨F, v, E, a, b⟩
theorem Env.len : Env ca K H0 Fa ρ σ H → ρ.length = σ.length := fun ⟨_, E⟩ => E.own.len
theorem le_of_cut (_ : ∀ a ∈ F, H a ≠ none) : Le (cut H F) H := ⟨fun _ _ h => (cut_some h).2⟩
/-- data as it stands in the whole heap -/
theorem EnvF.whole {d : D} (E : EnvF ca K H0 Fa ρ σ H F) (h : Is ca K (cut H (Fa ++ F)) d v) : Is ca K H d v := h.le (le_of_cut fun a ha => (E.muG a ha).ne)
/-- the value on top goes to a slot -/
theorem EnvF.store {i : Nat} {o : Option M} {w : Option V} {ρ1 : Rn} {σ1 : St} (E : EnvF ca K H0 Fa (o :: ρ1) (w :: σ1) H F) (hi : i < ρ1.length) : Env ca K H0 Fa (ρ1.set i o) (σ1.set i w) H := by
  obtain ⟨w', σ', F1, F2, e, h, r, ef⟩ := E.own
  injection e with e1 e2
  subst e1 e2 ef
  obtain ⟨w2, A, Fi, B, eF, e3, h2, back⟩ := r.split (List.getElem?_eq_getElem hi)
  subst eF
  have sub : ∀ a ∈ Fa ++ (A ++ (F1 ++ B)), a ∈ Fa ++ (F1 ++ (A ++ (Fi ++ B))) := fun a ha => by
    simp only [List.mem_append] at ha ⊢
    rcases ha with z | z | z | z <;> simp [z]
  have ls := le_shrink (H := H) sub fun a ha => (E.muG a (sub a ha)).ne
  refine ⟨A ++ (F1 ++ B), E.re ?_ (fun a ha => ?_) (back _ H o w F1 ls (fun _ _ => rfl) (fun _ _ z => z) (h.mono ls (fun _ _ => rfl) fun _ _ z => z))⟩
  · have nd := E.nd
    simp only [List.nodup_append, List.mem_append] at nd ⊢
    obtain ⟨n1, ⟨nA, ⟨nFi, nB, d1⟩, d2⟩, d3⟩ := nd
    refine ⟨nA, ⟨n1, nB, fun a ha b hb => d3 a ha b (.inr (.inr hb))⟩, fun a ha b hb => ?_⟩
    rcases hb with hb | hb
    · exact fun z => d3 b hb a (.inl ha) z.symm
    · exact d2 a ha b (.inr hb)
  · simp only [List.mem_append] at ha ⊢
    rcases ha with z | z | z <;> simp [z]
end
end DA
set_option maxHeartbeats 4000000
/-! DA3: what expressions, tests, targets, statements and defs are worth, as functions of data -/
namespace DA
open PySem PySem.Spec PyProof.Rows L2

/-- no answer is told | an error of a class | a value -/
inductive Out (α : Type) where
  | stuck | exc (n : Str) | ok (a : α)
def Out.bind {α β : Type} : Out α → (α → Out β) → Out β
  | .stuck, _ => .stuck
  | .exc n, _ => .exc n
  | .ok a, f => f a
def Out.map {α β : Type} (f : α → β) : Out α → Out β
  | .stuck => .stuck
  | .exc n => .exc n
  | .ok a => .ok (f a)
def OutE {α : Type} (o : Out α) (P : α → Prop) (X : Str → Prop) : Prop := match o with
  | .stuck => False
  | .exc n => X n
  | .ok a => P a
theorem bind_ok {α β : Type} (a : α) (f : α → Out β) : (Out.ok a).bind f = f a := rfl
theorem bind_exc {α β : Type} (n : Str) (f : α → Out β) : (Out.exc n).bind f = .exc n := rfl
theorem bind_stuck {α β : Type} (f : α → Out β) : (Out.stuck : Out α).bind f = .stuck := rfl
theorem map_ok {α β : Type} (a : α) (f : α → β) : (Out.ok a).map f = .ok (f a) := rfl
theorem map_exc {α β : Type} (n : Str) (f : α → β) : (Out.exc n).map f = .exc n := rfl
theorem map_stuck {α β : Type} (f : α → β) : (Out.stuck : Out α).map f = .stuck := rfl
theorem OutE.bind {α β : Type} {o : Out α} {f : α → Out β} {P : β → Prop} {X : Str → Prop} (h : OutE (o.bind f) P X) : OutE o (fun a => OutE (f a) P X) X := by
  cases o with
  | stuck => exact h
  | exc n => exact h
  | ok a => exact h
theorem OutE.map {α β : Type} {o : Out α} {f : α → β} {P : β → Prop} {X : Str → Prop} (h : OutE (o.map f) P X) : OutE o (fun a => P (f a)) X := by
  cases o with
  | stuck => exact h
  | exc n => exact h
  | ok a => exact h
theorem OutE.imp {α : Type} {o : Out α} {P P' : α → Prop} {X X' : Str → Prop} (h : OutE o P X) (hp : ∀ a, P a → P' a) (hx : ∀ n, X n → X' n) : OutE o P' X' := by
  cases o with
  | stuck => exact h
  | exc n => exact hx n h
  | ok a => exact hp a h

/-- how a statement goes on -/
inductive Fl where
  | nx | bk | ct | rt (m : M)
abbrev SOut := Out (Fl × Rn)

structure Frm (H0 : Hp) (Fa : List Addr) (H : Hp) : Prop where
  le : Le H0 H
  keep : ∀ a ∈ Fa, H a = H0 a
section
variable {ca : Str → Option Addr} {K : PySem.W.Frag} {H0 H H' : Hp} {Fa F F' : List Addr} {ρ ts : Rn} {σ us : L2.St} {m : M} {v : V} {d : D}
theorem EnvF.frm (E : EnvF ca K H0 Fa ρ σ H F) : Frm H0 Fa H := ⟨E.le, E.keep⟩
theorem Env.frm : Env ca K H0 Fa ρ σ H → Frm H0 Fa H := fun ⟨_, E⟩ => E.frm
/-- the data on top, taken off -/
theorem EnvF.popD (E : EnvF ca K H0 Fa (some (.dat d) :: ρ) (some v :: σ) H F) : EnvF ca K H0 Fa ρ σ H F ∧ Is ca K (cut H (Fa ++ F)) d v := by
  obtain ⟨w', σ', F1, F2, e, ⟨v', ev, h⟩, r, ef⟩ := E.own
  injection e with e1 e2
  subst e1 e2 ef
  cases ev
  obtain ⟨rfl, h⟩ := ow_dat.mp h
  exact ⟨⟨E.le, E.keep, E.mu, E.nd, E.fresh, r⟩, h⟩
theorem EnvF.top (E : EnvF ca K H0 Fa ρ σ H F) (h : Is ca K (cut H (Fa ++ F)) d v) : EnvF ca K H0 Fa (some (.dat d) :: ρ) (some v :: σ) H F := E.pushD (Le.refl H) (fun _ _ => rfl) h
theorem drop_get {α : Type} {ts ρ : List α} {i : Nat} : (ts ++ ρ)[ts.length + i]? = ρ[i]? := by
  rw [List.getElem?_append_right (Nat.le_add_right _ _), Nat.add_sub_cancel_left]
theorem drop_set {α : Type} {ts ρ : List α} {i : Nat} {x : α} : (ts ++ ρ).set (ts.length + i) x = ts ++ ρ.set i x := by
  rw [List.set_append_right _ _ (Nat.le_add_right _ _), Nat.add_sub_cancel_left]
end

section
variable (ca : Str → Option Addr)
/-- te is worth f ρ, data -/
def EvD (K : PySem.W.Frag) (W : WX) (te : TE) (f : Rn → Out D) : Prop := ∀ (H0 : Hp) (Fa : List Addr) (ts : Rn) (us : L2.St) (ρ : Rn) (σ : L2.St) (H : Hp) (Q : VK), ts.length = us.length → Env ca K H0 Fa (ts ++ ρ) (us ++ σ) H →
  OutE (f ρ) (fun d => ∀ v H2 F, EnvF ca K H0 Fa (ts ++ ρ) (us ++ σ) H2 F → Is ca K (cut H2 (Fa ++ F)) d v → Q v H2) (fun n => ∀ a H2, ca n = some a → Env ca K H0 Fa (ts ++ ρ) (us ++ σ) H2 → W (.ref a) none σ H2) → te σ H Q
/-- te is worth f ρ, a tree of new cells -/
def EvM (K : PySem.W.Frag) (W : WX) (te : TE) (f : Rn → Out M) : Prop := ∀ (H0 : Hp) (Fa : List Addr) (ts : Rn) (us : L2.St) (ρ : Rn) (σ : L2.St) (H : Hp) (Q : VK), ts.length = us.length → Env ca K H0 Fa (ts ++ ρ) (us ++ σ) H →
  OutE (f ρ) (fun m => ∀ v H2, Env ca K H0 Fa (some m :: (ts ++ ρ)) (some v :: (us ++ σ)) H2 → Q v H2) (fun n => ∀ a H2, ca n = some a → Env ca K H0 Fa (ts ++ ρ) (us ++ σ) H2 → W (.ref a) none σ H2) → te σ H Q
def EvB (K : PySem.W.Frag) (W : WX) (tt : TT) (f : Rn → Out Bool) : Prop := ∀ (H0 : Hp) (Fa : List Addr) (ts : Rn) (us : L2.St) (ρ : Rn) (σ : L2.St) (H : Hp) (Q : Bool → Hp → Prop), ts.length = us.length → Env ca K H0 Fa (ts ++ ρ) (us ++ σ) H →
  OutE (f ρ) (fun b => ∀ H2, Env ca K H0 Fa (ts ++ ρ) (us ++ σ) H2 → Q b H2) (fun n => ∀ a H2, ca n = some a → Env ca K H0 Fa (ts ++ ρ) (us ++ σ) H2 → W (.ref a) none σ H2) → tt σ H Q
def EvA (K : PySem.W.Frag) (W : WX) (ta : TA) (f : Rn → Out (List D)) : Prop := ∀ (H0 : Hp) (Fa : List Addr) (ts : Rn) (us : L2.St) (ρ : Rn) (σ : L2.St) (H : Hp) (Q : List V → Hp → Prop), ts.length = us.length → Env ca K H0 Fa (ts ++ ρ) (us ++ σ) H →
  OutE (f ρ) (fun ds => ∀ vs H2 F, EnvF ca K H0 Fa (ts ++ ρ) (us ++ σ) H2 F → IsL ca K (cut H2 (Fa ++ F)) ds vs → Q vs H2) (fun n => ∀ a H2, ca n = some a → Env ca K H0 Fa (ts ++ ρ) (us ++ σ) H2 → W (.ref a) none σ H2) → ta σ H Q
def SPost (K : PySem.W.Frag) (W : WX) (H0 : Hp) (Fa : List Addr) (ts : Rn) (us : L2.St) (D : Ends) : SOut → Prop
  | .stuck => False
  | .exc n => ∀ a σ' H2, ca n = some a → Frm H0 Fa H2 → W (.ref a) none σ' H2
  | .ok (.nx, ρ') => ∀ σ' H2, Env ca K H0 Fa (ts ++ ρ') (us ++ σ') H2 → D.nx σ' H2
  | .ok (.bk, ρ') => ∀ σ' H2, Env ca K H0 Fa (ts ++ ρ') (us ++ σ') H2 → D.bk σ' H2
  | .ok (.ct, ρ') => ∀ σ' H2, Env ca K H0 Fa (ts ++ ρ') (us ++ σ') H2 → D.ct σ' H2
  | .ok (.rt m, _) => ∀ v H2, Env ca K H0 Fa [some m] [some v] H2 → D.rt v H2
def StM (K : PySem.W.Frag) (W : WX) (t : TS) (s : Rn → SOut) : Prop := ∀ (H0 : Hp) (Fa : List Addr) (ts : Rn) (us : L2.St) (ρ : Rn) (σ : L2.St) (H : Hp) (D : Ends), ts.length = us.length → Env ca K H0 Fa (ts ++ ρ) (us ++ σ) H →
  SPost ca K W H0 Fa ts us D (s ρ) → t D σ H
def TgM (K : PySem.W.Frag) (t : TG) (g : D → Rn → Out Rn) : Prop := ∀ (H0 : Hp) (Fa : List Addr) (ts : Rn) (us : L2.St) (ρ : Rn) (σ : L2.St) (H : Hp) (F : List Addr) (d : D) (v : V) (Q : L2.St → Hp → Prop), ts.length = us.length → EnvF ca K H0 Fa (ts ++ ρ) (us ++ σ) H F → Is ca K (cut H (Fa ++ F)) d v →
  OutE (g d ρ) (fun ρ' => ∀ σ' H2, Env ca K H0 Fa (ts ++ ρ') (us ++ σ') H2 → Q σ' H2) (fun _ => False) → t v σ H Q
end

section
variable (ca : Str → Option Addr) (X : Cx) (W : WX)
def ED (e : Expr) (f : Rn → Out D) : Prop := ∃ te, PE X e te ∧ EvD ca X.K W te f
def EM (e : Expr) (f : Rn → Out M) : Prop := ∃ te, PE X e te ∧ EvM ca X.K W te f
def EB (e : Expr) (f : Rn → Out Bool) : Prop := ∃ te, PT X e te ∧ EvB ca X.K W te f
def EW (e : Expr) (f : Rn → Out Bool) : Prop := ∃ te, PW X e te ∧ EvB ca X.K W te f
def EA (es : List Expr) (f : Rn → Out (List D)) : Prop := ∃ te, PA X es te ∧ EvA ca X.K W te f
def SS (st : Stmt) (s : Rn → SOut) : Prop := ∃ t, PS X st t ∧ StM ca X.K W t s
def SSs (sts : List Stmt) (s : Rn → SOut) : Prop := ∃ t, PSs X sts t ∧ StM ca X.K W t s
def TGt (e : Expr) (g : D → Rn → Out Rn) : Prop := ∃ t, PG X e t ∧ TgM ca X.K t g
end

section
variable {ca : Str → Option Addr} {X : Cx} {W : WX} {e a b c : Expr} {pos : Pos}

/-! ### data and trees -/
theorem em_of {f : Rn → Out D} (h : ED ca X W e f) : EM ca X W e (fun ρ => (f ρ).map .dat) := by
  obtain ⟨te, p, h⟩ := h
  refine ⟨te, p, fun H0 Fa ts us ρ σ H Q hl E o => h H0 Fa ts us ρ σ H Q hl E (o.map.imp (fun d q v H2 F E2 i => q v H2 ⟨F, E2.top i⟩) fun n q => q)⟩
theorem ed_of {f : Rn → Out M} (h : EM ca X W e f) : ED ca X W e (fun ρ => (f ρ).map M.er) := by
  obtain ⟨te, p, h⟩ := h
  refine ⟨te, p, fun H0 Fa ts us ρ σ H Q hl E o => h H0 Fa ts us ρ σ H Q hl E (o.map.imp (fun m q v H2 E2 => ?_) fun n q => q)⟩
  obtain ⟨F, E3⟩ := E2.frz
  obtain ⟨E4, i⟩ := E3.popD
  exact q v H2 F E4 i

/-! ### names and constants -/
def rd (i : Nat) (ρ : Rn) : Out D := match ρ[i]? with
  | some (some (.dat d)) => .ok d
  | _ => .stuck
theorem ed_var (i : Nat) {x : Str} (hN : X.N[i]? = some x := by rfl) (hv : Vis X.env.scope x := by first | exact Or.inl rfl | exact Or.inr (Or.inl rfl) | exact Or.inr (Or.inr rfl)) (hd : (x == ("__debug__" : Str)) = false := by decide)
    (hcd : (x == ("__classdict__" : Str)) = false := by decide) : ED ca X W (.Name x pos) (rd i) := by
  refine ⟨_, pe_var hN hv hd hcd, fun H0 Fa ts us ρ σ H Q hl E o => ?_⟩
  unfold rd at o
  split at o
  · rename_i d hρ
    obtain ⟨F, v, E1, e1, i1⟩ := Env.get (i := ts.length + i) (by rw [drop_get]; exact hρ) E
    rw [hl, drop_get] at e1
    exact ⟨v, e1, o v H F E1 i1⟩
  · exact o.elim
theorem ed_c {d : D} {v : V} (p : PE X e (tC v)) (hi : ∀ H, Is ca X.K H d v) : ED ca X W e (fun _ => .ok d) := by
  refine ⟨_, p, fun H0 Fa ts us ρ σ H Q hl E o => ?_⟩
  obtain ⟨F, E⟩ := E
  exact o v H F E (hi _)
theorem ed_int {i : Int} {j : Nat} : ED ca X W (.Constant (.int i) j pos) (fun _ => .ok (.int i)) := ed_c pe_int fun _ => is_int.mpr rfl
theorem ed_bl {i : Bool} {j : Nat} : ED ca X W (.Constant (.bool i) j pos) (fun _ => .ok (.bl i)) := ed_c pe_bl fun _ => is_bl.mpr rfl
theorem ed_str {i : Str} {j : Nat} : ED ca X W (.Constant (.str i) j pos) (fun _ => .ok (.str i)) := ed_c pe_str fun _ => is_str.mpr rfl
theorem ed_non {j : Nat} : ED ca X W (.Constant .none j pos) (fun _ => .ok .non) := ed_c pe_non fun _ => is_non.mpr rfl

/-! ### operators, by values -/
/-- what an operator of two values does, as data -/
def OpD (ca : Str → Option Addr) (K : PySem.W.Frag) (r : R2) (g : D → D → Out D) : Prop := ∀ (G : List Addr) (H : Hp) (d1 d2 : D) (v1 v2 : V) (Q : VK), (∀ a ∈ G, Mu (H a)) → Is ca K (cut H G) d1 v1 → Is ca K (cut H G) d2 v2 →
  OutE (g d1 d2) (fun d => ∀ v H2, (∀ a u, H a = some u → H2 a = some u) → Is ca K (cut H2 G) d v → Q v H2) (fun _ => False) → r v1 v2 H Q
def UnD (ca : Str → Option Addr) (K : PySem.W.Frag) (r : V → Hp → VK → Prop) (g : D → Out D) : Prop := ∀ (G : List Addr) (H : Hp) (d1 : D) (v1 : V) (Q : VK), (∀ a ∈ G, Mu (H a)) → Is ca K (cut H G) d1 v1 →
  OutE (g d1) (fun d => ∀ v H2, (∀ a u, H a = some u → H2 a = some u) → Is ca K (cut H2 G) d v → Q v H2) (fun _ => False) → r v1 H Q
def CaD (ca : Str → Option Addr) (K : PySem.W.Frag) (r : List V → Hp → VK → Prop) (g : List D → Out D) : Prop := ∀ (G : List Addr) (H : Hp) (ds : List D) (vs : List V) (Q : VK), (∀ a ∈ G, Mu (H a)) → IsL ca K (cut H G) ds vs →
  OutE (g ds) (fun d => ∀ v H2, (∀ a u, H a = some u → H2 a = some u) → Is ca K (cut H2 G) d v → Q v H2) (fun _ => False) → r vs H Q
theorem EnvF.same {H0 H H' : Hp} {Fa F : List Addr} {ρ : Rn} {σ : L2.St} {K : PySem.W.Frag} (E : EnvF ca K H0 Fa ρ σ H F) (k : ∀ a u, H a = some u → H' a = some u) : EnvF ca K H0 Fa ρ σ H' F := E.go (Le.of_same k) fun a ha => by
  have n := (E.muG a ha).ne
  cases q : H a with
  | none => exact absurd q n
  | some u => exact k a u q
theorem OutE.noexc {α : Type} {o : Out α} {P : α → Prop} {X Y : Str → Prop} (ne : ∀ n, o ≠ .exc n) (h : OutE o P X) : OutE o P Y := by
  cases o with
  | stuck => exact h
  | exc n => exact absurd rfl (ne n)
  | ok a => exact h
/-- an inner error is not carried -/
def Out.nx {α : Type} : Out α → Out α
  | .exc _ => .stuck
  | o => o
theorem OutE.nx {α : Type} {o : Out α} {P : α → Prop} {X Y : Str → Prop} (h : OutE o.nx P X) : OutE o P Y := by
  cases o with
  | stuck => exact h
  | exc n => exact h.elim
  | ok a => exact h
theorem ed_op {op : Operator} {r : R2} {f g : Rn → Out D} {h : D → D → Out D} (ho : OpR X (binaryOp op) r) (hd : OpD ca X.K r h) (ha : ED ca X W a f) (hb : ED ca X W b g) :
    ED ca X W (.BinOp a op b pos) (fun ρ => (f ρ).bind fun x => (g ρ).bind fun y => (h x y).nx) := by
  obtain ⟨ta, pa, ha⟩ := ha
  obtain ⟨tb, pb, hb⟩ := hb
  refine ⟨_, pe_op ho pa pb, fun H0 Fa ts us ρ σ H Q hl E o => ?_⟩
  refine ha H0 Fa ts us ρ σ H _ hl E (o.bind.imp (fun x o v H2 F E2 i => ?_) fun n q => q)
  refine hb H0 Fa (some (.dat x) :: ts) (some v :: us) ρ σ H2 _ (by simp [hl]) ⟨F, E2.top i⟩ (o.bind.imp (fun y o v' H3 F E3 i' => ?_) fun n q a' H3 c E3 => q a' H3 c E3.pop)
  obtain ⟨E4, i⟩ := E3.popD
  exact hd (Fa ++ F) H3 x y v v' Q E4.muG i i' (o.nx.imp (fun d o v2 H4 k i4 => o v2 H4 F (E4.same k) i4) fun _ z => z)
theorem ed_un {op : UnaryOp} {r : V → Hp → VK → Prop} {f : Rn → Out D} {h : D → Out D} (ho : UnR X (unaryOp op) r) (hd : UnD ca X.K r h) (ha : ED ca X W a f) : ED ca X W (.UnaryOp op a pos) (fun ρ => (f ρ).bind fun x => (h x).nx) := by
  obtain ⟨ta, pa, ha⟩ := ha
  refine ⟨_, pe_un ho pa, fun H0 Fa ts us ρ σ H Q hl E o => ?_⟩
  refine ha H0 Fa ts us ρ σ H _ hl E (o.bind.imp (fun x o v H2 F E2 i => ?_) fun n q => q)
  exact hd (Fa ++ F) H2 x v Q E2.muG i (o.nx.imp (fun d o v2 H4 k i4 => o v2 H4 F (E2.same k) i4) fun _ z => z)
theorem ed_cmp {op : CmpOp} {r : R2} {f g : Rn → Out D} {h : D → D → Out D} (ho : OpR X (compareOp op) r) (hd : OpD ca X.K r h) (ha : ED ca X W a f) (hb : ED ca X W b g) (hm : behindInMarks op b = false := by first | exact nomark _ | rfl) :
    ED ca X W (.Compare a [op] [b] pos) (fun ρ => (f ρ).bind fun x => (g ρ).bind fun y => (h x y).nx) := by
  obtain ⟨ta, pa, ha⟩ := ha
  obtain ⟨tb, pb, hb⟩ := hb
  refine ⟨_, pe_cmpR ho pa pb hm, fun H0 Fa ts us ρ σ H Q hl E o => ?_⟩
  refine ha H0 Fa ts us ρ σ H _ hl E (o.bind.imp (fun x o v H2 F E2 i => ?_) fun n q => q)
  refine hb H0 Fa (some (.dat x) :: ts) (some v :: us) ρ σ H2 _ (by simp [hl]) ⟨F, E2.top i⟩ (o.bind.imp (fun y o v' H3 F E3 i' => ?_) fun n q a' H3 c E3 => q a' H3 c E3.pop)
  obtain ⟨E4, i⟩ := E3.popD
  exact hd (Fa ++ F) H3 x y v v' Q E4.muG i i' (o.nx.imp (fun d o v2 H4 k i4 => o v2 H4 F (E4.same k) i4) fun _ z => z)

/-! ### tests -/
def asB : D → Out Bool
  | .bl b => .ok b
  | _ => .stuck
theorem eb_cmp {op : CmpOp} {r : R2} {f g : Rn → Out D} {h : D → D → Out D} (ho : OpR X (compareOp op) r) (hd : OpD ca X.K r h) (ha : ED ca X W a f) (hb : ED ca X W b g) (hm : behindInMarks op b = false := by first | exact nomark _ | rfl) :
    EB ca X W (.Compare a [op] [b] pos) (fun ρ => (f ρ).bind fun x => (g ρ).bind fun y => (h x y).nx.bind asB) := by
  obtain ⟨ta, pa, ha⟩ := ha
  obtain ⟨tb, pb, hb⟩ := hb
  refine ⟨_, pt_cmpR ho pa pb hm, fun H0 Fa ts us ρ σ H Q hl E o => ?_⟩
  refine ha H0 Fa ts us ρ σ H _ hl E (o.bind.imp (fun x o v H2 F E2 i => ?_) fun n q => q)
  refine hb H0 Fa (some (.dat x) :: ts) (some v :: us) ρ σ H2 _ (by simp [hl]) ⟨F, E2.top i⟩ (o.bind.imp (fun y o v' H3 F E3 i' => ?_) fun n q a' H3 c E3 => q a' H3 c E3.pop)
  obtain ⟨E4, i⟩ := E3.popD
  refine hd (Fa ++ F) H3 x y v v' _ E4.muG i i' (o.bind.nx.imp (fun d o v2 H4 k i4 => ?_) fun _ z => z)
  cases d with
  | bl b => exact ⟨b, is_bl.mp i4, o H4 ⟨F, E4.same k⟩⟩
  | _ => exact o.elim
theorem eb_val {f : Rn → Out D} (h : ED ca X W e f) (he : ∀ whole, isTrue e X.env whole = (do let v ← whole; standAt e.pos; holding [v] (truthy v)) := by intro _; rfl) : EB ca X W e (fun ρ => (f ρ).bind asB) := by
  obtain ⟨te, p, h⟩ := h
  refine ⟨_, pt_val p he, fun H0 Fa ts us ρ σ H Q hl E o => ?_⟩
  refine h H0 Fa ts us ρ σ H _ hl E (o.bind.imp (fun x o v H2 F E2 i => ?_) fun n q => q)
  cases x with
  | bl b => exact ⟨b, is_bl.mp i, o H2 ⟨F, E2⟩⟩
  | _ => exact o.elim
theorem eb_not {f : Rn → Out Bool} (h : EB ca X W a f) : EB ca X W (.UnaryOp .Not a pos) (fun ρ => (f ρ).map (!·)) := by
  obtain ⟨te, p, h⟩ := h
  exact ⟨_, pt_not p, fun H0 Fa ts us ρ σ H Q hl E o => h H0 Fa ts us ρ σ H _ hl E (o.map.imp (fun b q H2 E2 => q H2 E2) fun _ z => z)⟩
theorem ew_and1 {f : Rn → Out Bool} (h : EB ca X W a f) : EW ca X W (.BoolOp .And [a] pos) f := let ⟨_, p, h⟩ := h; ⟨_, pw_and1 p, h⟩
theorem ew_or1 {f : Rn → Out Bool} (h : EB ca X W a f) : EW ca X W (.BoolOp .Or [a] pos) f := let ⟨_, p, h⟩ := h; ⟨_, pw_or1 p, h⟩
theorem ew_and {f g : Rn → Out Bool} {r : List Expr} (ha : EB ca X W a f) (hb : EW ca X W (.BoolOp .And (b :: r) pos) g) : EW ca X W (.BoolOp .And (a :: b :: r) pos) (fun ρ => (f ρ).bind fun x => if x then g ρ else .ok false) := by
  obtain ⟨ta, pa, ha⟩ := ha
  obtain ⟨tb, pb, hb⟩ := hb
  refine ⟨_, pw_and pa pb, fun H0 Fa ts us ρ σ H Q hl E o => ?_⟩
  refine ha H0 Fa ts us ρ σ H _ hl E (o.bind.imp (fun x o H2 E2 => ?_) fun n q => q)
  cases x with
  | true => exact hb H0 Fa ts us ρ σ H2 Q hl E2 o
  | false => exact o H2 E2
theorem ew_or {f g : Rn → Out Bool} {r : List Expr} (ha : EB ca X W a f) (hb : EW ca X W (.BoolOp .Or (b :: r) pos) g) : EW ca X W (.BoolOp .Or (a :: b :: r) pos) (fun ρ => (f ρ).bind fun x => if x then .ok true else g ρ) := by
  obtain ⟨ta, pa, ha⟩ := ha
  obtain ⟨tb, pb, hb⟩ := hb
  refine ⟨_, pw_or pa pb, fun H0 Fa ts us ρ σ H Q hl E o => ?_⟩
  refine ha H0 Fa ts us ρ σ H _ hl E (o.bind.imp (fun x o H2 E2 => ?_) fun n q => q)
  cases x with
  | true => exact o H2 E2
  | false => exact hb H0 Fa ts us ρ σ H2 Q hl E2 o
theorem eb_w {f : Rn → Out Bool} (h : EW ca X W e f) : EB ca X W e f := let ⟨_, p, h⟩ := h; ⟨_, p.pt, h⟩
/-- and, or, not as values: truths -/
theorem ed_one {op : BoolOp} {f : Rn → Out D} (h : ED ca X W a f) : ED ca X W (.BoolOp op [a] pos) f := let ⟨_, p, h⟩ := h; ⟨_, pe_one p, h⟩
theorem ed_and {f g : Rn → Out D} {r : List Expr} (ha : ED ca X W a f) (hb : ED ca X W (.BoolOp .And (b :: r) pos) g) : ED ca X W (.BoolOp .And (a :: b :: r) pos) (fun ρ => ((f ρ).bind asB).bind fun x => if x then g ρ else .ok (.bl false)) := by
  obtain ⟨ta, pa, ha⟩ := ha
  obtain ⟨tb, pb, hb⟩ := hb
  refine ⟨_, pe_and pa pb, fun H0 Fa ts us ρ σ H Q hl E o => ?_⟩
  refine ha H0 Fa ts us ρ σ H _ hl E (o.bind.bind.imp (fun x o v H2 F E2 i => ?_) fun n q => q)
  cases x with
  | bl x =>
    refine ⟨x, is_bl.mp i, ?_⟩
    cases x with
    | true => exact hb H0 Fa ts us ρ σ H2 Q hl ⟨F, E2⟩ o
    | false => exact o _ H2 F E2 (is_bl.mpr rfl)
  | _ => exact o.elim
theorem ed_or {f g : Rn → Out D} {r : List Expr} (ha : ED ca X W a f) (hb : ED ca X W (.BoolOp .Or (b :: r) pos) g) : ED ca X W (.BoolOp .Or (a :: b :: r) pos) (fun ρ => ((f ρ).bind asB).bind fun x => if x then .ok (.bl true) else g ρ) := by
  obtain ⟨ta, pa, ha⟩ := ha
  obtain ⟨tb, pb, hb⟩ := hb
  refine ⟨_, pe_or pa pb, fun H0 Fa ts us ρ σ H Q hl E o => ?_⟩
  refine ha H0 Fa ts us ρ σ H _ hl E (o.bind.bind.imp (fun x o v H2 F E2 i => ?_) fun n q => q)
  cases x with
  | bl x =>
    refine ⟨x, is_bl.mp i, ?_⟩
    cases x with
    | true => exact o _ H2 F E2 (is_bl.mpr rfl)
    | false => exact hb H0 Fa ts us ρ σ H2 Q hl ⟨F, E2⟩ o
  | _ => exact o.elim
theorem ed_not {f : Rn → Out D} (ha : ED ca X W a f) : ED ca X W (.UnaryOp .Not a pos) (fun ρ => ((f ρ).bind asB).map fun x => .bl (!x)) := by
  obtain ⟨ta, pa, ha⟩ := ha
  refine ⟨_, pe_not pa, fun H0 Fa ts us ρ σ H Q hl E o => ?_⟩
  refine ha H0 Fa ts us ρ σ H _ hl E (o.map.bind.imp (fun x o v H2 F E2 i => ?_) fun n q => q)
  cases x with
  | bl x => exact ⟨x, is_bl.mp i, o _ H2 F E2 (is_bl.mpr rfl)⟩
  | _ => exact o.elim
theorem ed_if {t : Rn → Out Bool} {f g : Rn → Out D} (hc : EB ca X W c t) (ha : ED ca X W a f) (hb : ED ca X W b g) : ED ca X W (.IfExp c a b pos) (fun ρ => (t ρ).bind fun x => if x then f ρ else g ρ) := by
  obtain ⟨tc, pc, hc⟩ := hc
  obtain ⟨ta, pa, ha⟩ := ha
  obtain ⟨tb, pb, hb⟩ := hb
  refine ⟨_, pe_ifExp pc pa pb, fun H0 Fa ts us ρ σ H Q hl E o => ?_⟩
  refine hc H0 Fa ts us ρ σ H _ hl E (o.bind.imp (fun x o H2 E2 => ?_) fun n q => q)
  cases x with
  | true => exact ha H0 Fa ts us ρ σ H2 Q hl E2 o
  | false => exact hb H0 Fa ts us ρ σ H2 Q hl E2 o

/-! ### arguments -/
theorem ea_nil : EA ca X W [] (fun _ => .ok []) := ⟨_, pa_nil, fun H0 Fa ts us ρ σ H Q hl ⟨F, E⟩ o => o [] H F E IsL.nil⟩
theorem ea_cons {es : List Expr} {f : Rn → Out D} {g : Rn → Out (List D)} (ha : ED ca X W e f) (hr : EA ca X W es g) (hs : starEach (e :: es) X.env = (false, eval e X.env) :: starEach es X.env := by rfl) :
    EA ca X W (e :: es) (fun ρ => (f ρ).bind fun x => (g ρ).map (x :: ·)) := by
  obtain ⟨ta, pa, ha⟩ := ha
  obtain ⟨tr, pr, hr⟩ := hr
  refine ⟨_, pa_cons pa pr hs, fun H0 Fa ts us ρ σ H Q hl E o => ?_⟩
  refine ha H0 Fa ts us ρ σ H _ hl E (o.bind.imp (fun x o v H2 F E2 i => ?_) fun n q => q)
  refine hr H0 Fa (some (.dat x) :: ts) (some v :: us) ρ σ H2 _ (by simp [hl]) ⟨F, E2.top i⟩ (o.map.imp (fun xs o vs H3 F E3 i' => ?_) fun n q a' H3 c E3 => q a' H3 c E3.pop)
  obtain ⟨E4, i⟩ := E3.popD
  exact o (v :: vs) H3 F E4 (IsL.cons i i')
/-- a tuple display -/
theorem ed_tup {es : List Expr} {f : Rn → Out (List D)} {x1 : Nat} (h : EA ca X W es f) : ED ca X W (.Tuple es x1 pos) (fun ρ => (f ρ).bind fun xs => if xs.length ≤ sizeLine then .ok (.tup xs) else .stuck) := by
  obtain ⟨t, p, h⟩ := h
  refine ⟨_, pe_tup p, fun H0 Fa ts us ρ σ H Q hl E o => ?_⟩
  refine h H0 Fa ts us ρ σ H _ hl E (o.bind.imp (fun xs o vs H2 F E2 i => ?_) fun n q => q)
  by_cases z : xs.length ≤ sizeLine
  · rw [if_pos z] at o
    refine ⟨by rw [← i.len]; exact z, fun p hp => o _ _ F (E2.go (Le.new hp) fun a ha => upd_ne fun e => ?_) (is_tup.mpr ⟨p, vs, rfl, ?_, i.le ((Le.new hp).cut (fun _ n _ => n) fun a ha => ?_)⟩)⟩
    · subst e; exact (E2.muG _ ha).ne hp
    · rw [cut_out fun z => (E2.muG _ z).ne hp]; exact upd_same
    · rw [upd_ne fun e => ?_]
      · exact (E2.muG a ha).ne
      · subst e; exact (E2.muG _ ha).ne hp
  · rw [if_neg z] at o; exact o.elim
/-- a list display: a new cell of data -/
theorem em_lst {es : List Expr} {f : Rn → Out (List D)} (h : EA ca X W es f) : EM ca X W (.List es pos) (fun ρ => (f ρ).bind fun xs => if xs.length ≤ sizeLine then .ok (.lst (xs.map .dat)) else .stuck) := by
  obtain ⟨t, p, h⟩ := h
  refine ⟨_, pe_lst p, fun H0 Fa ts us ρ σ H Q hl E o => ?_⟩
  refine h H0 Fa ts us ρ σ H _ hl E (o.bind.imp (fun xs o vs H2 F E2 i => ?_) fun n q => q)
  by_cases z : xs.length ≤ sizeLine
  · rw [if_pos z] at o
    refine ⟨by rw [← i.len]; exact z, fun p hp => o _ _ ⟨_, E2.push (F' := [p]) (Le.new hp) (fun a ha => upd_ne fun e => ?_) (by simp) (fun a ha => ?_) (ow_lst.mpr ⟨p, vs, [], rfl, upd_same, OwL.of_dats (i.le ((Le.new hp).cut (fun a n hn => ?_) fun a ha => ?_)), rfl⟩)⟩⟩
    · subst e; exact (E2.muG _ ha).ne hp
    · have e : a = p := by simpa using ha
      subst e; exact hp
    · simp only [List.mem_append, List.mem_cons, not_or, List.not_mem_nil, or_false] at n ⊢
      exact ⟨n.1, ⟨fun e => hn (by rw [e]; exact hp), n.2⟩⟩
    · by_cases e : a = p
      · subst e; rw [upd_same]; simp
      · rw [upd_ne e]
        refine (E2.muG a ?_).ne
        simp only [List.mem_append, List.mem_cons, List.not_mem_nil, or_false] at ha ⊢
        rcases ha with z | z | z
        · exact .inl z
        · exact absurd z e
        · exact .inr z
  · rw [if_neg z] at o; exact o.elim
end
end DA
set_option maxHeartbeats 4000000
/-! DA4: statements, loops, comprehensions, calls, defs -/
namespace DA
open PySem PySem.Spec PyProof.Rows L2

section
variable {ca : Str → Option Addr} {K : PySem.W.Frag} {H0 H H' : Hp} {Fa F F' : List Addr} {ρ ts : Rn} {σ us : L2.St} {m : M} {v : V} {d : D}
/-- a part of the stack is kept -/
theorem EnvF.part {A B C : Rn} {a b c : L2.St} (E : EnvF ca K H0 Fa (A ++ (B ++ C)) (a ++ (b ++ c)) H F) (h1 : A.length = a.length) (h2 : B.length = b.length) : Env ca K H0 Fa (A ++ C) (a ++ c) H := by
  obtain ⟨σ1, σ2, F1, F2, e1, rfl, r1, r2⟩ := E.own.unapp
  obtain ⟨σ3, σ4, F3, F4, e2, rfl, r3, r4⟩ := r2.unapp
  have l1 := r1.len
  have l3 := r3.len
  obtain ⟨x1, x2⟩ := List.append_inj e1 (by rw [← h1, l1])
  subst x1
  obtain ⟨x3, x4⟩ := List.append_inj (x2.trans e2) (by rw [← h2, l3])
  subst x3 x4
  have sub : ∀ a ∈ Fa ++ (F1 ++ F4), a ∈ Fa ++ (F1 ++ (F3 ++ F4)) := fun a ha => by
    simp only [List.mem_append] at ha ⊢
    rcases ha with z | z | z <;> simp [z]
  have ls := le_shrink (H := H) sub fun a ha => (E.muG a (sub a ha)).ne
  refine ⟨F1 ++ F4, E.re ?_ (fun a ha => ?_) ((r1.app r4).mono ls (fun _ _ => rfl) fun _ _ z => z)⟩
  · have nd := E.nd
    simp only [List.nodup_append, List.mem_append] at nd ⊢
    exact ⟨nd.1, nd.2.1.2.1, fun a ha b hb => nd.2.2 a ha b (.inr hb)⟩
  · simp only [List.mem_append] at ha ⊢
    rcases ha with z | z <;> simp [z]
theorem Env.part {A B C : Rn} {a b c : L2.St} (h1 : A.length = a.length) (h2 : B.length = b.length) : Env ca K H0 Fa (A ++ (B ++ C)) (a ++ (b ++ c)) H → Env ca K H0 Fa (A ++ C) (a ++ c) H := fun ⟨_, E⟩ => E.part h1 h2
theorem Env.tail {A C : Rn} {a c : L2.St} (h1 : A.length = a.length) (E : Env ca K H0 Fa (A ++ C) (a ++ c) H) : Env ca K H0 Fa C c H := Env.part (A := []) (a := []) rfl h1 E
theorem Env.only {o : Option M} {w : Option V} (E : Env ca K H0 Fa (o :: ρ) (w :: σ) H) : Env ca K H0 Fa [o] [w] H := by
  have l := Env.len E
  have q : Env ca K H0 Fa ([o] ++ (ρ ++ [])) ([w] ++ (σ ++ [])) H := by simpa using E
  simpa using Env.part (A := [o]) (a := [w]) (B := ρ) (b := σ) (C := []) (c := []) rfl (by simpa using l) q
theorem Env.head {A C : Rn} {a c : L2.St} (h1 : A.length = a.length) (E : Env ca K H0 Fa (A ++ C) (a ++ c) H) : Env ca K H0 Fa A a H := by
  have l := Env.len E
  have q : Env ca K H0 Fa (A ++ (C ++ [])) (a ++ (c ++ [])) H := by simpa using E
  simpa using Env.part (A := A) (a := a) (B := C) (b := c) (C := []) (c := []) h1 (by simp at l; omega) q
end

/-- what holds of the context that a body runs in -/
structure JX (X : Cx) (W : WX) (k : Nat) : Prop where
  calm : X.calm = true
  tk : Takes X W
  nd : X.N.Nodup
  own : PassesOwn (model X.prog X.w) X.A X.env X.xe
  room : Room k X.A

section
variable {ca : Str → Option Addr} {X : Cx} {W : WX} {e a b c : Expr} {pos : Pos} {st : Stmt} {sts : List Stmt} {s s' : Rn → SOut}
/-- one after another -/
def sSeq (s s' : Rn → SOut) (ρ : Rn) : SOut := (s ρ).bind fun p => match p.1 with
  | .nx => s' p.2
  | f => .ok (f, p.2)
theorem ss_nil : SSs ca X W [] (fun ρ => .ok (.nx, ρ)) := ⟨_, pss_nil, fun H0 Fa ts us ρ σ H D hl E o => o σ H E⟩
theorem ss_cons (h : SS ca X W st s) (r : SSs ca X W sts s') : SSs ca X W (st :: sts) (sSeq s s') := by
  obtain ⟨t, p, h⟩ := h
  obtain ⟨u, q, r⟩ := r
  refine ⟨_, pss_cons p q, fun H0 Fa ts us ρ σ H D hl E o => h H0 Fa ts us ρ σ H _ hl E ?_⟩
  unfold sSeq at o
  cases e : s ρ with
  | stuck => rw [e] at o; exact o
  | exc n => rw [e] at o; exact o
  | ok p =>
    obtain ⟨f, ρ'⟩ := p
    rw [e] at o
    cases f with
    | nx => exact fun σ' H2 E2 => r H0 Fa ts us ρ' σ' H2 D hl E2 o
    | bk => exact o
    | ct => exact o
    | rt m => exact o
theorem ss_one (h : SS ca X W st s) : SSs ca X W [st] s := let ⟨_, p, h⟩ := h; ⟨_, pss_one p, h⟩
theorem ss_pass : SS ca X W (.Pass pos) (fun ρ => .ok (.nx, ρ)) := ⟨_, ps_pass, fun H0 Fa ts us ρ σ H D hl E o => o σ H E⟩
theorem ss_brk : SS ca X W (.Break pos) (fun ρ => .ok (.bk, ρ)) := ⟨_, ps_break, fun H0 Fa ts us ρ σ H D hl E o => o σ H E⟩
theorem ss_cont : SS ca X W (.Continue pos) (fun ρ => .ok (.ct, ρ)) := ⟨_, ps_continue, fun H0 Fa ts us ρ σ H D hl E o => o σ H E⟩
/-- from an expression's answer to a statement's -/
theorem SPost.ofE {α : Type} {K : PySem.W.Frag} {H0 : Hp} {Fa : List Addr} {ts ρ : Rn} {us σ : L2.St} {D : Ends} {o : Out α} {f : α → SOut} {P : α → Prop} (h : SPost ca K W H0 Fa ts us D (o.bind f)) (hp : ∀ x, SPost ca K W H0 Fa ts us D (f x) → P x) :
    OutE o P (fun n => ∀ a H2, ca n = some a → Env ca K H0 Fa (ts ++ ρ) (us ++ σ) H2 → W (.ref a) none σ H2) := by
  cases o with
  | stuck => exact h
  | exc n => exact fun a H2 c E => h a σ H2 c (Env.frm E)
  | ok x => exact hp x h
def sSet (i : Nat) (f : Rn → Out M) (ρ : Rn) : SOut := (f ρ).bind fun m => if i < ρ.length then .ok (.nx, ρ.set i (some m)) else .stuck
theorem ss_set (i : Nat) {k : Nat} {x : Str} {p : Pos} {f : Rn → Out M} (J : JX X W k) (h : EM ca X W e f) (hi : X.N[i]? = some x := by rfl) (hx : Loc X.env.scope x := by first | exact Or.inl rfl | exact Or.inr rfl) (hs : swapsWith e (some (.Name x p)) pos.line X.env = pure false := by rfl)
    (hf : X.fn x = true ∨ X.env.scope.names.lookup x = some .local := by first | exact .inl rfl | exact .inr rfl) : SS ca X W (.Assign [.Name x p] e pos) (sSet i f) := by
  obtain ⟨te, pe, h⟩ := h
  refine ⟨_, ps_set J.nd hi hx pe hs hf, fun H0 Fa ts us ρ σ H D hl E o => h H0 Fa ts us ρ σ H _ hl E (SPost.ofE o fun m o v H2 E2 => ?_)⟩
  by_cases z : i < ρ.length
  · rw [if_pos z] at o
    refine o _ H2 ?_
    obtain ⟨F, E3⟩ := E2
    have q := E3.store (i := ts.length + i) (by simp; omega)
    rw [drop_set] at q
    rw [hl, drop_set] at q
    exact q
  · rw [if_neg z] at o; exact o.elim
def sRet (f : Rn → Out M) (ρ : Rn) : SOut := (f ρ).bind fun m => .ok (.rt m, ρ)
theorem ss_ret {f : Rn → Out M} (h : EM ca X W e f) : SS ca X W (.Return (some e) pos) (sRet f) := by
  obtain ⟨te, pe, h⟩ := h
  exact ⟨_, ps_ret pe, fun H0 Fa ts us ρ σ H D hl E o => h H0 Fa ts us ρ σ H _ hl E (SPost.ofE o fun m o v H2 E2 => o v H2 E2.only)⟩
theorem ss_retN : SS ca X W (.Return none pos) (fun ρ => .ok (.rt (.dat .non), ρ)) := by
  refine ⟨_, ps_retN, fun H0 Fa ts us ρ σ H D hl E o => ?_⟩
  obtain ⟨F, E⟩ := E
  exact o .non H (Env.only ⟨F, E.top (d := .non) (is_non.mpr rfl)⟩)
def sDrop (f : Rn → Out M) (ρ : Rn) : SOut := (f ρ).bind fun _ => .ok (.nx, ρ)
theorem ss_expr {f : Rn → Out M} (h : EM ca X W e f) (hs : swapsWith e none pos.line X.env = pure false := by rfl) : SS ca X W (.Expr e pos) (sDrop f) := by
  obtain ⟨te, pe, h⟩ := h
  exact ⟨_, ps_expr pe hs, fun H0 Fa ts us ρ σ H D hl E o => h H0 Fa ts us ρ σ H _ hl E (SPost.ofE o fun m o v H2 E2 => o σ H2 E2.pop)⟩
def sIf (t : Rn → Out Bool) (s s' : Rn → SOut) (ρ : Rn) : SOut := (t ρ).bind fun x => if x then s ρ else s' ρ
theorem ss_if {t : Rn → Out Bool} {st1 st2 : List Stmt} (hc : EB ca X W c t) (ha : SSs ca X W st1 s) (hb : SSs ca X W st2 s') : SS ca X W (.If c st1 st2 pos) (sIf t s s') := by
  obtain ⟨tc, pc, hc⟩ := hc
  obtain ⟨ta, pa, ha⟩ := ha
  obtain ⟨tb, pb, hb⟩ := hb
  refine ⟨_, ps_if pc pa pb, fun H0 Fa ts us ρ σ H D hl E o => hc H0 Fa ts us ρ σ H _ hl E (SPost.ofE o fun x o H2 E2 => ?_)⟩
  cases x with
  | true => exact ha H0 Fa ts us ρ σ H2 D hl E2 o
  | false => exact hb H0 Fa ts us ρ σ H2 D hl E2 o
/-- raise C('..'), C a class of the program's own -/
theorem ss_raise {k : Nat} {C : Addr} {n : Str} {p : Expr} {t : L2.St → Hp → XK → Prop} (J : JX X W k) (hC : ca n = some C) (hp : PMk X p t) (ht : ∀ σ H Q, t σ H Q = Q (.ref C) none H) : SS ca X W (.Raise (some p) none pos) (fun _ => .exc n) := by
  refine ⟨_, ps_raise J.calm J.tk hp, fun H0 Fa ts us ρ σ H D hl E o => ?_⟩
  show t σ H _
  rw [ht]
  exact o C σ H hC (Env.frm E)

/-! ### targets -/
/-- besides: only the slots at is are set -/
def TgI (ca : Str → Option Addr) (K : PySem.W.Frag) (t : TG) (is : List Nat) (g : D → Rn → Out Rn) : Prop := ∀ (H0 : Hp) (Fa : List Addr) (ts : Rn) (us : L2.St) (ρ : Rn) (σ : L2.St) (H : Hp) (F : List Addr) (d : D) (v : V) (Q : L2.St → Hp → Prop), ts.length = us.length → EnvF ca K H0 Fa (ts ++ ρ) (us ++ σ) H F → Is ca K (cut H (Fa ++ F)) d v →
  OutE (g d ρ) (fun ρ' => ∀ σ' H2, Env ca K H0 Fa (ts ++ ρ') (us ++ σ') H2 → σ'.length = σ.length → (∀ j, j ∉ is → σ'[j]? = σ[j]?) → Q σ' H2) (fun _ => False) → t v σ H Q
def TGi (ca : Str → Option Addr) (X : Cx) (e : Expr) (is : List Nat) (g : D → Rn → Out Rn) : Prop := ∃ t, PG X e t ∧ TgI ca X.K t is g
def gSet (i : Nat) (d : D) (ρ : Rn) : Out Rn := if i < ρ.length then .ok (ρ.set i (some (.dat d))) else .stuck
theorem tg_name (i : Nat) {x : Str} (nd : X.N.Nodup) (hi : X.N[i]? = some x := by rfl) (hx : Loc X.env.scope x := by first | exact Or.inl rfl | exact Or.inr rfl) (hf : X.fn x = true ∨ X.env.scope.names.lookup x = some .local := by first | exact .inl rfl | exact .inr rfl) : TGi ca X (.Name x pos) [i] (gSet i) := by
  refine ⟨_, pg_name nd hi hx hf, fun H0 Fa ts us ρ σ H F d v Q hl E i1 o => ?_⟩
  unfold gSet at o
  by_cases z : i < ρ.length
  · rw [if_pos z] at o
    refine o _ H ?_ (by simp) fun j hj => ?_
    · have q := (E.top i1).store (i := ts.length + i) (by simp; omega)
      rw [drop_set] at q
      rw [hl, drop_set] at q
      exact q
    · rw [List.getElem?_set_ne]
      intro e; subst e; simp at hj
  · rw [if_neg z] at o; exact o.elim
def TgsI (ca : Str → Option Addr) (K : PySem.W.Frag) (t : TGs) (is : List Nat) (g : List D → Rn → Out Rn) : Prop := ∀ (H0 : Hp) (Fa : List Addr) (ts : Rn) (us : L2.St) (ρ : Rn) (σ : L2.St) (H : Hp) (F : List Addr) (ds : List D) (vs : List V) (Q : L2.St → Hp → Prop), ts.length = us.length → EnvF ca K H0 Fa (ts ++ ρ) (us ++ σ) H F → IsL ca K (cut H (Fa ++ F)) ds vs →
  OutE (g ds ρ) (fun ρ' => ∀ σ' H2, Env ca K H0 Fa (ts ++ ρ') (us ++ σ') H2 → σ'.length = σ.length → (∀ j, j ∉ is → σ'[j]? = σ[j]?) → Q σ' H2) (fun _ => False) → t vs σ H Q
def TGsi (ca : Str → Option Addr) (X : Cx) (es : List Expr) (is : List Nat) (g : List D → Rn → Out Rn) : Prop := ∃ t, PGs X es t ∧ TgsI ca X.K t is g
def gsNil (ds : List D) (ρ : Rn) : Out Rn := match ds with | [] => .ok ρ | _ => .stuck
def gsCons (g : D → Rn → Out Rn) (r : List D → Rn → Out Rn) (ds : List D) (ρ : Rn) : Out Rn := match ds with | [] => .stuck | d :: ds => (g d ρ).bind (r ds)
theorem tgs_nil : TGsi ca X [] [] gsNil := by
  refine ⟨_, pgs_nil, fun H0 Fa ts us ρ σ H F ds vs Q hl E i1 o => ?_⟩
  cases ds with
  | nil => exact ⟨isL_nil.mp i1, o σ H ⟨F, E⟩ rfl fun _ _ => rfl⟩
  | cons d ds => exact o.elim
/-- many data on the stack -/
theorem EnvF.tops {K : PySem.W.Frag} {H0 H : Hp} {Fa F : List Addr} {ρ : Rn} {σ : L2.St} (E : EnvF ca K H0 Fa ρ σ H F) : ∀ {ds : List D} {vs : List V}, IsL ca K (cut H (Fa ++ F)) ds vs → EnvF ca K H0 Fa ((ds.map fun d => some (.dat d)) ++ ρ) (vs.map some ++ σ) H F
  | [], _, h => by rw [isL_nil.mp h]; exact E
  | d :: ds, _, h => by
    obtain ⟨v, vs', rfl, h, r⟩ := isL_cons.mp h
    exact (EnvF.tops E r).top h
theorem EnvF.untops {K : PySem.W.Frag} {H0 H : Hp} {Fa F : List Addr} {ρ : Rn} {σ : L2.St} : ∀ {ds : List D} {vs : List V}, ds.length = vs.length → EnvF ca K H0 Fa ((ds.map fun d => some (.dat d)) ++ ρ) (vs.map some ++ σ) H F → EnvF ca K H0 Fa ρ σ H F ∧ IsL ca K (cut H (Fa ++ F)) ds vs
  | [], [], _, E => ⟨E, IsL.nil⟩
  | d :: ds, v :: vs, hl, E => by
    obtain ⟨E1, i⟩ := EnvF.popD (ρ := (ds.map fun d => some (.dat d)) ++ ρ) (σ := vs.map some ++ σ) E
    obtain ⟨E2, r⟩ := EnvF.untops (ds := ds) (vs := vs) (by simpa using hl) E1
    exact ⟨E2, IsL.cons i r⟩
  | [], v :: vs, hl, _ => by simp at hl
  | d :: ds, [], hl, _ => by simp at hl
theorem tgs_cons {es : List Expr} {is js : List Nat} {g : D → Rn → Out Rn} {r : List D → Rn → Out Rn} (h : TGi ca X e is g) (hr : TGsi ca X es js r) (hs : (assignEach (e :: es) X.env).map (·.2) = assign e X.env :: (assignEach es X.env).map (·.2) := by rfl) :
    TGsi ca X (e :: es) (is ++ js) (gsCons g r) := by
  obtain ⟨t, p, h⟩ := h
  obtain ⟨u, q, hr⟩ := hr
  refine ⟨_, pgs_cons p q hs, fun H0 Fa ts us ρ σ H F ds vs Q hl E i1 o => ?_⟩
  cases ds with
  | nil => exact o.elim
  | cons d ds =>
    obtain ⟨v, vs', rfl, i2, ir⟩ := isL_cons.mp i1
    have ln := ir.len
    refine ⟨v, vs', rfl, ?_⟩
    have E2 := E.tops ir
    have i3 : Is ca X.K (cut H (Fa ++ F)) d v := i2
    refine h H0 Fa ((ds.map fun d => some (.dat d)) ++ ts) (vs'.map some ++ us) ρ σ H F d v _ (by simp [hl, ln]) (by rw [List.append_assoc, List.append_assoc]; exact E2) i3 (OutE.bind o |>.imp (fun ρ' o σ' H2 E3 l3 k3 => ?_) fun _ z => z)
    rw [List.append_assoc, List.append_assoc] at E3
    obtain ⟨F3, E3⟩ := E3
    obtain ⟨E4, ir'⟩ := EnvF.untops ln E3
    refine hr H0 Fa ts us ρ' σ' H2 F3 ds vs' Q hl E4 ir' (o.imp (fun ρ2 o σ2 H3 E5 l5 k5 => o σ2 H3 E5 (l5.trans l3) fun j hj => ?_) fun _ z => z)
    simp only [List.mem_append, not_or] at hj
    exact (k5 j hj.2).trans (k3 j hj.1)
def gTupD (n : Nat) (g : List D → Rn → Out Rn) (d : D) (ρ : Rn) : Out Rn := match d with
  | .tup ds => if ds.length = n then g ds ρ else .stuck
  | _ => .stuck
theorem tg_tup {es : List Expr} {is : List Nat} {n k : Nat} {g : List D → Rn → Out Rn} (hc : X.calm = true) (h : TGsi ca X es is g) (hn : (assignEach es X.env).length = n := by rfl) (hst : (assignEach es X.env).findIdx? (·.1) = none := by rfl) :
    TGi ca X (.Tuple es k pos) is (gTupD n g) := by
  obtain ⟨t, p, h⟩ := h
  refine ⟨_, pg_tup hc p hn hst, fun H0 Fa ts us ρ σ H F d v Q hl E i1 o => ?_⟩
  unfold gTupD at o
  cases d with
  | tup ds =>
    by_cases z : ds.length = n
    · simp only [z, if_true] at o
      obtain ⟨a, vs, rfl, ha, r⟩ := is_tup.mp i1
      exact ⟨a, vs, rfl, .inl (.inl (cut_some ha).2), by rw [← r.len]; exact z, h H0 Fa ts us ρ σ H F ds vs Q hl E r o⟩
    · simp only [z, if_false] at o; exact o.elim
  | _ => exact o.elim

/-! ### what is walked -/
/-- the iterator J gives the data ds, while what is told of ms at vs stands -/
def ItOk (ca : Str → Option Addr) (K : PySem.W.Frag) (J : It) (ds : List D) (ms : Rn) (vs : L2.St) : Prop := ∀ (H0 : Hp) (Fa : List Addr) (pre : Rn) (pus : L2.St) (ρ : Rn) (σ : L2.St) (H : Hp) (F : List Addr) (i : Nat), pre.length = pus.length → EnvF ca K H0 Fa (pre ++ (ms ++ ρ)) (pus ++ (vs ++ σ)) H F →
  (∀ d, ds[i]? = some d → J.go i H ∧ ∀ x H', J.yld i H x H' → EnvF ca K H0 Fa (pre ++ (ms ++ ρ)) (pus ++ (vs ++ σ)) H' F ∧ Is ca K (cut H' (Fa ++ F)) d x) ∧ (ds.length ≤ i → J.stop i H)
/-- the data at a place of the stack -/
theorem EnvF.at0 {K : PySem.W.Frag} {H0 H : Hp} {Fa F : List Addr} {pre ρ : Rn} {pus σ : L2.St} {d : D} {v : V} (E : EnvF ca K H0 Fa (pre ++ (some (.dat d) :: ρ)) (pus ++ (some v :: σ)) H F) (hl : pre.length = pus.length) : Is ca K (cut H (Fa ++ F)) d v := by
  obtain ⟨v', e, i⟩ := E.get (i := pre.length + 0) (by rw [drop_get]; rfl)
  rw [hl, drop_get] at e
  injection e with e
  injection e with e
  subst e
  exact i
theorem EnvF.at1 {K : PySem.W.Frag} {H0 H : Hp} {Fa F : List Addr} {pre ρ : Rn} {pus σ : L2.St} {d : D} {v : V} {o : Option M} {w : Option V} (E : EnvF ca K H0 Fa (pre ++ (o :: some (.dat d) :: ρ)) (pus ++ (w :: some v :: σ)) H F) (hl : pre.length = pus.length) : Is ca K (cut H (Fa ++ F)) d v := by
  obtain ⟨v', e, i⟩ := E.get (i := pre.length + 1) (by rw [drop_get]; rfl)
  rw [hl, drop_get] at e
  injection e with e
  injection e with e
  subst e
  exact i
def ItM (ca : Str → Option Addr) (K : PySem.W.Frag) (W : WX) (wi : TI) (f : Rn → Out (List D)) : Prop := ∀ (H0 : Hp) (Fa : List Addr) (ts : Rn) (us : L2.St) (ρ : Rn) (σ : L2.St) (H : Hp) (R : It → Hp → Prop), ts.length = us.length → Env ca K H0 Fa (ts ++ ρ) (us ++ σ) H →
  OutE (f ρ) (fun ds => ∀ J H2 ms vs, ms.length = vs.length → ds.length ≤ sizeLine → Env ca K H0 Fa (ms ++ (ts ++ ρ)) (vs ++ (us ++ σ)) H2 → ItOk ca K J ds ms vs → R J H2) (fun n => ∀ a H2, ca n = some a → Env ca K H0 Fa (ts ++ ρ) (us ++ σ) H2 → W (.ref a) none σ H2) → wi σ H R
def EI (ca : Str → Option Addr) (X : Cx) (W : WX) (tg e : Expr) (f : Rn → Out (List D)) : Prop := ∃ wi, PI X tg e wi ∧ ItM ca X.K W wi f
/-- what is known of each heap: lists, tuples, dicts have a largest length -/
structure SzF (K : PySem.W.Frag) (H : Hp) : Prop where
  l : ∀ a xs, SqL K H a xs → xs.length ≤ sizeLine
  t : ∀ a xs, SqT K H a xs → xs.length ≤ sizeLine
  dK : ∀ a kvs, Rd H a (.dK kvs) → kvs.length ≤ sizeLine
  dT : ∀ a kvs, Rd H a (.dT kvs) → kvs.length ≤ sizeLine
theorem szF_of {X : Cx} {pins : List (Addr × Obj)} {σ : L2.St} {H : Hp} {s : Shared} (I : Inv X pins σ H s) : SzF X.K H where
  l := fun a xs h => by
    obtain ⟨_, _, _, z⟩ := I.list h
    exact z
  t := fun a xs h => by
    rcases h with h | ⟨o, its, n, hk, hc, hd, hz, r⟩
    · exact (h.ok I.hok).1
    · have e := r.length
      simp only [Array.length_toList] at e
      omega
  dK := fun a kvs h => (h.ok I.hok).1
  dT := fun a kvs h => (h.ok I.hok).1
theorem PE.facts {X : Cx} {e : Expr} {te : TE} (h : PE X e te) : PE X e (fun σ H Q => te σ H fun v H' => SzF X.K H' → Q v H') := ⟨fun pins s σ H Q I q => thn (h.run pins s σ H _ I q) fun u s' ⟨v, H', I', r, q'⟩ => ⟨v, H', I', r, q' (szF_of I')⟩⟩
theorem PA.facts {X : Cx} {es : List Expr} {ta : TA} (h : PA X es ta) : PA X es (fun σ H Q => ta σ H fun v H' => SzF X.K H' → Q v H') := ⟨fun pos pins s σ H Q I q => thn (h.run pos pins s σ H _ I q) fun u s' ⟨v, H', I', r, q'⟩ => ⟨v, H', I', r, q' (szF_of I')⟩⟩
theorem PI.or {tg : Expr} {w1 w2 : TI} (h1 : PI X tg e w1) (h2 : PI X tg e w2) : PI X tg e (fun σ H R => w1 σ H R ∨ w2 σ H R) := ⟨fun pins s σ H R I h => h.elim (h1.run pins s σ H R I) (h2.run pins s σ H R I)⟩
def seqOf : D → Out (List D)
  | .lst ds => .ok ds
  | .tup ds => .ok ds
  | _ => .stuck
theorem itOk_list {K : PySem.W.Frag} {a : Addr} {ds : List D} : ItOk ca K (Itl K a) ds [some (.dat (.lst ds))] [some (.ref a)] := by
  intro H0 Fa pre pus ρ σ H F i hp E
  have i1 := EnvF.at0 E hp
  obtain ⟨a', vs, ea, hq, r⟩ := is_lst.mp (E.whole i1)
  cases ea
  obtain ⟨a', vs', ea, hq', r'⟩ := is_lst.mp i1
  cases ea
  refine ⟨fun d hd => ?_, fun h => ⟨vs, hq, by rw [← r.len]; exact h⟩⟩
  obtain ⟨x, hx, _⟩ := r.get hd
  refine ⟨⟨vs, x, hq, hx⟩, fun y H' ⟨eH, hy⟩ => ?_⟩
  subst eH
  refine ⟨E, ?_⟩
  obtain ⟨z, hz, iz⟩ := r'.get hd
  have q : SqL K H' a vs' := by
    rcases hq' with h | h
    · exact .inl (rd_cut h).2
    · exact .inr h
  have e := hy vs' q
  rw [hz] at e
  cases e
  exact iz
theorem itOk_tup {K : PySem.W.Frag} {a : Addr} {ds : List D} : ItOk ca K (Itt K a) ds [some (.dat (.tup ds))] [some (.ref a)] := by
  intro H0 Fa pre pus ρ σ H F i hp E
  have i1 := EnvF.at0 E hp
  obtain ⟨a', vs', ea, hq', r'⟩ := is_tup.mp i1
  cases ea
  have hq : H a = some (.tup vs') := (cut_some hq').2
  refine ⟨fun d hd => ?_, fun h => ⟨vs', .inl (.inl hq), by rw [← r'.len]; exact h⟩⟩
  obtain ⟨x, hx, ix⟩ := r'.get hd
  refine ⟨⟨vs', x, .inl (.inl hq), hx⟩, fun y H' ⟨eH, hy⟩ => ?_⟩
  subst eH
  refine ⟨E, ?_⟩
  have e := hy vs' (.inl (.inl hq))
  rw [hx] at e
  cases e
  exact ix
theorem ei_seq {tg : Expr} {f : Rn → Out D} (h : ED ca X W e f) : EI ca X W tg e (fun ρ => (f ρ).bind seqOf) := by
  obtain ⟨te, p, h⟩ := h
  refine ⟨_, PI.or (pi_list (PE.facts p)) (pi_tup (PE.facts p)), fun H0 Fa ts us ρ σ H R hl E o => ?_⟩
  dsimp only at o
  cases ef : f ρ with
  | stuck => rw [ef] at o; exact o.elim
  | exc n =>
    rw [ef] at o
    exact .inl (h H0 Fa ts us ρ σ H _ hl E (by rw [ef]; exact o))
  | ok d =>
    rw [ef] at o
    cases d with
    | lst ds =>
      refine .inl (h H0 Fa ts us ρ σ H _ hl E (by
        rw [ef]
        intro v H2 F E2 i fz
        obtain ⟨a, vs, rfl, hq, r⟩ := is_lst.mp (E2.whole i)
        exact ⟨a, rfl, ⟨vs, hq⟩, o (Itl X.K a) H2 [some (.dat (.lst ds))] [some (.ref a)] rfl (by rw [r.len]; exact fz.l a vs hq) ⟨F, E2.top i⟩ itOk_list⟩))
    | tup ds =>
      refine .inr (h H0 Fa ts us ρ σ H _ hl E (by
        rw [ef]
        intro v H2 F E2 i fz
        obtain ⟨a, vs, rfl, hq, r⟩ := is_tup.mp (E2.whole i)
        exact ⟨a, rfl, ⟨vs, .inl (.inl hq)⟩, o (Itt X.K a) H2 [some (.dat (.tup ds))] [some (.ref a)] rfl (by rw [r.len]; exact fz.t a vs (.inl (.inl hq))) ⟨F, E2.top i⟩ itOk_tup⟩))
    | _ => exact o.elim

/-! ### for -/
/-- behind a turn: k is the rest of the loop -/
def loopK (k : Rn → SOut) (p : Fl × Rn) : SOut := match p.1 with
  | .nx => k p.2
  | .ct => k p.2
  | .bk => .ok (.nx, p.2)
  | .rt m => .ok (.rt m, p.2)
def forD (tg : D → Rn → Out Rn) (body : Rn → SOut) : List D → Rn → SOut
  | [], ρ => .ok (.nx, ρ)
  | d :: ds, ρ => (tg d ρ).nx.bind fun ρ1 => (body ρ1).bind (loopK (forD tg body ds))
def sFor (f : Rn → Out (List D)) (tg : D → Rn → Out Rn) (body : Rn → SOut) (ρ : Rn) : SOut := (f ρ).bind fun ds => forD tg body ds ρ
theorem TgI.run {K : PySem.W.Frag} {t : TG} {is : List Nat} {g : D → Rn → Out Rn} (h : TgI ca K t is g) {H0 : Hp} {Fa : List Addr} {ts : Rn} {us : L2.St} {ρ : Rn} {σ : L2.St} {H : Hp} {F : List Addr} {d : D} {v : V} {Q : L2.St → Hp → Prop} (hl : ts.length = us.length)
    (E : EnvF ca K H0 Fa (ts ++ ρ) (us ++ σ) H F) (i : Is ca K (cut H (Fa ++ F)) d v) {Y : Str → Prop} (o : OutE (g d ρ).nx (fun ρ' => ∀ σ' H2, Env ca K H0 Fa (ts ++ ρ') (us ++ σ') H2 → σ'.length = σ.length → (∀ j, j ∉ is → σ'[j]? = σ[j]?) → Q σ' H2) Y) : t v σ H Q := by
  refine h H0 Fa ts us ρ σ H F d v Q hl E i ?_
  cases e : g d ρ with
  | stuck => rw [e] at o; exact o
  | exc n => rw [e] at o; exact o
  | ok x => rw [e] at o; exact o
theorem ss_for {k : Nat} {tg iter : Expr} {body : List Stmt} {is : List Nat} {f : Rn → Out (List D)} {g : D → Rn → Out Rn} (J : JX X W k) (hi : EI ca X W tg iter f) (hg : TGi ca X tg is g) (hb : SSs ca X W body s) (hs : ∀ x, foldedSetIterable iter X.env x = pure x := by intro _; rfl) :
    SS ca X W (.For tg iter body [] pos) (sFor f g s) := by
  obtain ⟨wi, pi, hi⟩ := hi
  obtain ⟨tt, pg, hg⟩ := hg
  obtain ⟨tb, pb, hb⟩ := hb
  refine ⟨_, ps_for J.own J.calm pi pg pb hs, fun H0 Fa ts us ρ σ H D hl E o => hi H0 Fa ts us ρ σ H _ hl E (SPost.ofE o fun ds o Jt H2 ms vs hm _ E2 ok => ?_)⟩
  refine ⟨fun i n σ' H' => ∃ ρ', n = ds.length - i ∧ Env ca X.K H0 Fa (ms ++ (ts ++ ρ')) (vs ++ (us ++ σ')) H' ∧ SPost ca X.K W H0 Fa ts us D (forD g s (ds.drop i) ρ'), ⟨_, ρ, rfl, E2, o⟩, ?_⟩
  rintro i n σ' H' ⟨ρ', rfl, ⟨F, E'⟩, o⟩
  obtain ⟨hgo, hstop⟩ := ok H0 Fa [] [] (ts ++ ρ') (us ++ σ') H' F i rfl E'
  by_cases hlt : i < ds.length
  · have hd : ds[i]? = some ds[i] := List.getElem?_eq_getElem hlt
    obtain ⟨go, yl⟩ := hgo _ hd
    refine .inr ⟨go, fun σ2 H2 => ∃ ρ2, Env ca X.K H0 Fa (ms ++ (ts ++ ρ2)) (vs ++ (us ++ σ2)) H2 ∧ SPost ca X.K W H0 Fa ts us D (forD g s (ds.drop (i + 1)) ρ2), fun σ2 H2 ⟨ρ2, E3, o3⟩ => ⟨ds.length - (i + 1), by omega, ρ2, rfl, E3, o3⟩, fun x H3 hy => ?_⟩
    obtain ⟨E3, i3⟩ := yl x H3 hy
    have E3 : EnvF ca X.K H0 Fa (ms ++ (ts ++ ρ')) (vs ++ (us ++ σ')) H3 F := E3
    rw [List.drop_eq_getElem_cons hlt] at o
    unfold forD at o
    refine hg.run (ts := ms ++ ts) (us := vs ++ us) (by simp [hl, hm]) (by rw [List.append_assoc, List.append_assoc]; exact E3) i3 ((SPost.ofE (ρ := ρ) (σ := σ) o fun ρ1 o σ1 H4 E4 _ _ => ?_))
    refine hb H0 Fa (ms ++ ts) (vs ++ us) ρ1 σ1 H4 _ (by simp [hl, hm]) E4 ?_
    cases e : s ρ1 with
    | stuck => rw [e] at o; exact o
    | exc n => rw [e] at o; exact o
    | ok p =>
      obtain ⟨fl, ρ2⟩ := p
      rw [e] at o
      cases fl with
      | nx =>
        intro σ2 H5 E5
        rw [List.append_assoc, List.append_assoc] at E5
        exact ⟨ρ2, E5, o⟩
      | ct =>
        intro σ2 H5 E5
        rw [List.append_assoc, List.append_assoc] at E5
        exact ⟨ρ2, E5, o⟩
      | bk =>
        intro σ2 H5 E5
        rw [List.append_assoc, List.append_assoc] at E5
        exact o σ2 H5 (E5.tail hm)
      | rt m => exact o
  · refine .inl ⟨hstop (by omega), ?_⟩
    rw [List.drop_eq_nil_of_le (by omega)] at o
    exact o σ' H' (Env.tail hm ⟨F, E'⟩)

/-! ### while -/
def whN (c : Rn → Out Bool) (b : Rn → SOut) : Nat → Rn → SOut
  | 0, _ => .stuck
  | n + 1, ρ => (c ρ).bind fun t => if t then (b ρ).bind (loopK (whN c b n)) else .ok (.nx, ρ)
theorem whN_up {c : Rn → Out Bool} {b : Rn → SOut} : ∀ (n : Nat) (ρ : Rn), whN c b n ρ ≠ .stuck → whN c b (n + 1) ρ = whN c b n ρ
  | 0, ρ, h => absurd rfl h
  | n + 1, ρ, h => by
    unfold whN at h ⊢
    cases ec : c ρ with
    | stuck => rfl
    | exc x => rfl
    | ok t =>
      rw [ec] at h
      cases t with
      | false => rfl
      | true =>
        simp only [bind_ok, if_true] at h ⊢
        cases eb : b ρ with
        | stuck => rfl
        | exc x => rfl
        | ok p =>
          obtain ⟨fl, ρ2⟩ := p
          rw [eb] at h
          simp only [bind_ok, loopK] at h ⊢
          cases fl with
          | nx => exact whN_up n ρ2 h
          | ct => exact whN_up n ρ2 h
          | bk => rfl
          | rt m => rfl
theorem whN_le {c : Rn → Out Bool} {b : Rn → SOut} {ρ : Rn} {n : Nat} (h : whN c b n ρ ≠ .stuck) : ∀ k, whN c b (n + k) ρ = whN c b n ρ
  | 0 => rfl
  | k + 1 => by
    have ih := whN_le h k
    rw [← ih, ← Nat.add_assoc]
    exact whN_up (n + k) ρ (by rw [ih]; exact h)
open Classical in
noncomputable def whD (c : Rn → Out Bool) (b : Rn → SOut) (ρ : Rn) : SOut := if h : ∃ n, whN c b n ρ ≠ .stuck then whN c b (Classical.choose h) ρ else .stuck
theorem whD_of {c : Rn → Out Bool} {b : Rn → SOut} {ρ : Rn} {n : Nat} (h : whN c b n ρ ≠ .stuck) : whD c b ρ = whN c b n ρ := by
  have hx : ∃ n, whN c b n ρ ≠ .stuck := ⟨n, h⟩
  unfold whD
  rw [dif_pos hx]
  have h2 := Classical.choose_spec hx
  generalize Classical.choose hx = k at h2
  rcases Nat.le_total n k with l | l
  · obtain ⟨j, rfl⟩ := Nat.exists_eq_add_of_le l
    exact whN_le h j
  · obtain ⟨j, rfl⟩ := Nat.exists_eq_add_of_le l
    exact (whN_le h2 j).symm
theorem whD_no {c : Rn → Out Bool} {b : Rn → SOut} {ρ : Rn} (h : ∀ n, whN c b n ρ = .stuck) : whD c b ρ = .stuck := by
  unfold whD
  rw [dif_neg (fun ⟨n, hn⟩ => hn (h n))]
/-- one turn -/
theorem whD_eq (c : Rn → Out Bool) (b : Rn → SOut) (ρ : Rn) : whD c b ρ = (c ρ).bind fun t => if t then (b ρ).bind (loopK (whD c b)) else .ok (.nx, ρ) := by
  have step : ∀ n, whN c b (n + 1) ρ = (c ρ).bind fun t => if t then (b ρ).bind (loopK (whN c b n)) else .ok (.nx, ρ) := fun n => by rw [whN]
  have fin : ∀ o : SOut, (∀ n, whN c b (n + 1) ρ = o) → whD c b ρ = o := fun o h => by
    by_cases z : o = .stuck
    · subst z
      exact whD_no fun n => match n with | 0 => rfl | n + 1 => h n
    · have e := h 0
      exact (whD_of (n := 1) (by rw [e]; exact z)).trans e
  cases ec : c ρ with
  | stuck => exact fin _ fun n => by rw [step, ec]; rfl
  | exc x => exact fin _ fun n => by rw [step, ec]; rfl
  | ok t =>
    cases t with
    | false => exact fin _ fun n => by rw [step, ec]; rfl
    | true =>
      cases eb : b ρ with
      | stuck => exact fin _ fun n => by rw [step, ec, bind_ok, if_pos rfl, eb]; rfl
      | exc x => exact fin _ fun n => by rw [step, ec, bind_ok, if_pos rfl, eb]; rfl
      | ok p =>
        obtain ⟨fl, ρ2⟩ := p
        have st : ∀ n, whN c b (n + 1) ρ = loopK (whN c b n) (fl, ρ2) := fun n => by rw [step, ec, bind_ok, if_pos rfl, eb]; rfl
        have go : (∀ n, whN c b (n + 1) ρ = whN c b n ρ2) → whD c b ρ = whD c b ρ2 := fun hh => by
          by_cases z : ∃ n, whN c b n ρ2 ≠ .stuck
          · obtain ⟨n, hn⟩ := z
            rw [whD_of hn, whD_of (n := n + 1) (by rw [hh]; exact hn), hh]
          · have z' : ∀ n, whN c b n ρ2 = .stuck := fun n => Classical.byContradiction fun q => z ⟨n, q⟩
            rw [whD_no z', whD_no fun n => match n with | 0 => rfl | n + 1 => (hh n).trans (z' n)]
        rw [bind_ok, if_pos rfl, bind_ok]
        cases fl with
        | nx => exact go st
        | ct => exact go st
        | bk => exact fin _ st
        | rt m => exact fin _ st
theorem ss_while {k : Nat} {t : Rn → Out Bool} {body : List Stmt} (J : JX X W k) (hc : EB ca X W c t) (hb : SSs ca X W body s) : SS ca X W (.While c body [] pos) (whD t s) := by
  obtain ⟨tc, pc, hc⟩ := hc
  obtain ⟨tb, pb, hb⟩ := hb
  refine ⟨_, ps_while J.own pc pb, fun H0 Fa ts us ρ σ H D hl E o => ?_⟩
  have hx : ∃ n, whN t s n ρ ≠ .stuck := Classical.byContradiction fun z => by
    rw [whD_no fun n => Classical.byContradiction fun q => z ⟨n, q⟩] at o
    exact o
  obtain ⟨n0, hn0⟩ := hx
  rw [whD_of hn0] at o
  refine ⟨fun n σ' H' => ∃ ρ', Env ca X.K H0 Fa (ts ++ ρ') (us ++ σ') H' ∧ SPost ca X.K W H0 Fa ts us D (whN t s n ρ'), ⟨n0, ρ, E, o⟩, ?_⟩
  rintro n σ' H' ⟨ρ', E', o⟩
  cases n with
  | zero => exact o.elim
  | succ n =>
    unfold whN at o
    refine hc H0 Fa ts us ρ' σ' H' _ hl E' (SPost.ofE o fun x o H2 E2 => ?_)
    cases x with
    | false => exact o σ' H2 E2
    | true =>
      rw [if_pos rfl] at o ⊢
      refine ⟨fun σ2 H2 => ∃ ρ2, Env ca X.K H0 Fa (ts ++ ρ2) (us ++ σ2) H2 ∧ SPost ca X.K W H0 Fa ts us D (whN t s n ρ2), fun σ2 H3 h => ⟨n, Nat.lt_succ_self n, h⟩, ?_⟩
      refine hb H0 Fa ts us ρ' σ' H2 _ hl E2 ?_
      cases e : s ρ' with
      | stuck => rw [e] at o; exact o
      | exc n => rw [e] at o; exact o
      | ok p =>
        obtain ⟨fl, ρ2⟩ := p
        rw [e] at o
        cases fl with
        | nx => exact fun σ2 H5 E5 => ⟨ρ2, E5, o⟩
        | ct => exact fun σ2 H5 E5 => ⟨ρ2, E5, o⟩
        | bk => exact o
        | rt m => exact o
end
end DA
set_option maxHeartbeats 4000000
/-! DA5: defs, calls; appends; comprehensions -/
namespace DA
open PySem PySem.Spec PyProof.Rows L2

/-! ### a def's promise -/
/-- the def is worth f: handed data, it hands back what f says; what stood stands -/
def PF (ca : Str → Option Addr) (K : PySem.W.Frag) (f : List D → Out M) : Sp := fun vs H Q E => ∃ (Fa : List Addr) (ds : List D), (∀ a ∈ Fa, Mu (H a)) ∧ IsL ca K (cut H Fa) ds vs ∧
  OutE (f ds) (fun m => ∀ v H2, Env ca K H Fa [some m] [some v] H2 → Q v H2) (fun n => ∀ a H2, ca n = some a → Frm H Fa H2 → E (.ref a) none H2)
def finD (o : SOut) : Out M := match o with
  | .stuck => .stuck
  | .exc n => .exc n
  | .ok (.rt m, _) => .ok m
  | .ok (.nx, _) => .ok (.dat .non)
  | .ok _ => .stuck
/-- the body s, with n parameters and k further names -/
def runD (n k : Nat) (s : Rn → SOut) (ds : List D) : Out M := if ds.length = n then finD (s ((ds.map fun d => some (.dat d)) ++ List.replicate k none)) else .stuck
section
variable {ca : Str → Option Addr} {K : PySem.W.Frag} {P : Program} {w : World} {mg : Str → Option Value} {base : Heap}
theorem own_none {G : List Addr} {H : Hp} : ∀ k, OwS ca K G H (List.replicate k none) (List.replicate k none) []
  | 0 => OwS.nil
  | k + 1 => OwS.cons (F1 := []) (show OwO ca K G H none none [] from rfl) (own_none k)
theorem env_start {H : Hp} {Fa : List Addr} {ds : List D} {vs : List V} (mu : ∀ a ∈ Fa, Mu (H a)) (i : IsL ca K (cut H Fa) ds vs) (k : Nat) : Env ca K H Fa ((ds.map fun d => some (.dat d)) ++ List.replicate k none) (vs.map some ++ List.replicate k none) H := by
  have E : EnvF ca K H Fa (List.replicate k none) (List.replicate k none) H [] := ⟨Le.refl H, fun _ _ => rfl, mu, List.nodup_nil, (fun _ z => nomatch z), own_none k⟩
  exact ⟨[], E.tops (by rw [List.append_nil]; exact i)⟩
theorem StM.run {t : TS} {s : Rn → SOut} {W : WX} {H : Hp} {Fa : List Addr} {ρ : Rn} {σ : L2.St} {Q : VK} {E : XK} (h : StM ca K W t s) (hW : ∀ c d σ' H', E c d H' → W c d σ' H') (E0 : Env ca K H Fa ρ σ H)
    (o : OutE (finD (s ρ)) (fun m => ∀ v H2, Env ca K H Fa [some m] [some v] H2 → Q v H2) (fun n => ∀ a H2, ca n = some a → Frm H Fa H2 → E (.ref a) none H2)) : t { nx := fun _ H' => Q .non H', rt := Q } σ H := by
  refine h H Fa [] [] ρ σ H _ rfl E0 ?_
  cases e : s ρ with
  | stuck => rw [e] at o; exact o
  | exc n => rw [e] at o; exact fun a σ' H2 c f => hW _ _ _ _ (o a H2 c f)
  | ok p =>
    obtain ⟨fl, ρ'⟩ := p
    rw [e] at o
    cases fl with
    | nx =>
      intro σ' H2 E2
      have E2 : Env ca K H Fa ρ' σ' H2 := E2
      refine o .non H2 ?_
      obtain ⟨F, E3⟩ := E2
      exact Env.only ⟨F, E3.top (d := .non) (is_non.mpr rfl)⟩
    | bk => exact o.elim
    | ct => exact o.elim
    | rt m => exact o
/-- a def of the text keeps its promise -/
theorem fn_ok {x qual : Str} {st : Stmt} {f : Addr} {fd : FuncData} {N ps : List Str} {k : Nat} {s : Rn → SOut} (F : Fun K x qual st f fd) (S : FnScope N ps (defScope st))
    (hbody : ∀ (cdv : Value) (A : Around) (outer : List PySem.Env) (s0 : Shared) (H : Hp) (E : XK), Room k (A.deeper (envOfC qual (defScope st) s0.heap.objs.size f cdv)) →
      SSs ca (cxOf (L2.CX P w) P w K mg base N qual (defScope st) f cdv A outer s0 H E) (fun c d _ H' => E c d H') (defBody st) s) : FnOk P w K mg base (L2.CX P w) (k + 1) f fd ps (PF ca K (runD ps.length (N.length - ps.length) s)) := by
  refine F.okX S (fun vs H Q E h => ?_) (fun cdv A outer s0 H vs Q E hr h => ?_)
  · obtain ⟨Fa, ds, mu, i, o⟩ := h
    unfold runD at o
    by_cases z : ds.length = ps.length
    · rw [← i.len, z]
    · rw [if_neg z] at o; exact o.elim
  · obtain ⟨Fa, ds, mu, i, o⟩ := h
    obtain ⟨t, p, hs⟩ := hbody cdv A outer s0 H E hr
    unfold runD at o
    by_cases z : ds.length = ps.length
    · rw [if_pos z] at o
      refine ⟨t, p, hs.run (fun _ _ _ _ e => e) ?_ o⟩
      have q := env_start (ca := ca) (K := K) mu i (N.length - ps.length)
      unfold L2.start
      rw [← i.len, z]
      exact q
    · rw [if_neg z] at o; exact o.elim
/-- the context of such a body -/
theorem jx_of {N : List Str} {qual : Str} {scope : Scope} {f : Addr} {cdv : Value} {A : Around} {outer : List PySem.Env} {s0 : Shared} {H : Hp} {E : XK} {k : Nat} (nd : N.Nodup) (hr : Room k (A.deeper (envOfC qual scope s0.heap.objs.size f cdv)))
    (h1 : (cxOf (L2.CX P w) P w K mg base N qual scope f cdv A outer s0 H E).stack = (cxOf (L2.CX P w) P w K mg base N qual scope f cdv A outer s0 H E).env :: (cxOf (L2.CX P w) P w K mg base N qual scope f cdv A outer s0 H E).outer := by rfl) :
    JX (cxOf (L2.CX P w) P w K mg base N qual scope f cdv A outer s0 H E) (fun c d _ H' => E c d H') k :=
  ⟨rfl, takes_of rfl rfl rfl rfl, nd, passes_of rfl, hr⟩
end

/-! ### calls -/
section
variable {ca : Str → Option Addr} {X : Cx} {W : WX} {e a b c : Expr} {es : List Expr} {pos p apos : Pos} {x m : Str}
/-- behind a call: the callee's new cells are new here -/
theorem EnvF.called {K : PySem.W.Frag} {H0 H H2 : Hp} {Fa F : List Addr} {ρ : Rn} {σ : L2.St} {mm : M} {v : V} (E : EnvF ca K H0 Fa ρ σ H F) (h : Env ca K H (Fa ++ F) [some mm] [some v] H2) : Env ca K H0 Fa (some mm :: ρ) (some v :: σ) H2 := by
  obtain ⟨F', E'⟩ := h
  obtain ⟨w', σ', F1, F2, e1, ⟨v', ev, ho⟩, ⟨e2, e3⟩, e4⟩ := E'.own
  injection e1 with e5 e6
  subst e5
  cases ev
  have eF : F' = F1 := by rw [e4, e3, List.append_nil]
  subst eF
  have same : ∀ a, a ∈ Fa ++ F ++ F' ↔ a ∈ Fa ++ (F' ++ F) := fun a => by
    simp only [List.mem_append]
    constructor
    · rintro ((z | z) | z) <;> simp [z]
    · rintro (z | z | z) <;> simp [z]
  refine ⟨_, E.push E'.le E'.keep E'.nd E'.fresh (ho.mono (le_shrink (fun a ha => (same a).mpr ha) fun a ha => (E'.muG a ((same a).mpr ha)).ne) (fun _ _ => rfl) fun _ _ z => z)⟩
theorem PF.call {K : PySem.W.Frag} {f : List D → Out M} {H0 H : Hp} {Fa F : List Addr} {ρ : Rn} {σ : L2.St} {ds : List D} {vs : List V} {Q : VK} {Ex : XK} (E : EnvF ca K H0 Fa ρ σ H F) (i : IsL ca K (cut H (Fa ++ F)) ds vs)
    (o : OutE (f ds) (fun m => ∀ v H2, Env ca K H0 Fa (some m :: ρ) (some v :: σ) H2 → Q v H2) (fun n => ∀ a H2, ca n = some a → Env ca K H0 Fa ρ σ H2 → Ex (.ref a) none H2)) : PF ca K f vs H Q Ex :=
  ⟨Fa ++ F, ds, E.muG, i, o.imp (fun m o v H2 E2 => o v H2 (E.called E2)) fun n o a H2 c fr => o a H2 c ⟨F, E.go fr.le fr.keep⟩⟩
theorem em_call {k j : Nat} {fa : Addr} {fd : FuncData} {ps : List Str} {f : List D → Out M} {g : Rn → Out (List D)} (J : JX X W k) (F : FnOk X.prog X.w X.K X.mg X.base (L2.CX X.prog X.w) j fa fd ps (PF ca X.K f)) (hj : j ≤ k) (hm : X.mg x = some (.ref fa)) (hk : PySem.W.keepIn X.K (.ref fa) = true)
    (hb : Binds X.K fd ps []) (ha : EA ca X W (e :: es) g) (hg : Gl X x := by rfl) (hdb : (x == ("__debug__" : Str)) = false := by decide) (he : starEach (e :: es) X.env = (false, eval e X.env) :: starEach es X.env := by rfl) (hpl : (backTo pos (starEach es X.env)).any (·.1) = false := by rfl) :
    EM ca X W (.Call (.Name x p) (e :: es) [] pos) (fun ρ => (g ρ).bind f) := by
  obtain ⟨ta, pa, ha⟩ := ha
  refine ⟨_, pe_callS F (J.room.mono hj) hg hm hk hb (fun σ => passAt J.tk σ) pa hdb he hpl, fun H0 Fa ts us ρ σ H Q hl E o => ?_⟩
  refine ha H0 Fa ts us ρ σ H _ hl E (o.bind.imp (fun ds o vs H2 F2 E2 i => ?_) fun n q => q)
  exact PF.call E2 i o

/-! ### a list that grows -/
/-- data put behind the list in a slot -/
theorem EnvF.append {K : PySem.W.Frag} {H0 H : Hp} {Fa F : List Addr} {ρ : Rn} {σ : L2.St} {i : Nat} {ms : List M} {d : D} {y : V} (E : EnvF ca K H0 Fa ρ σ H F) (h : ρ[i]? = some (some (.lst ms))) (hd : Is ca K (cut H (Fa ++ F)) d y) :
    ∃ l xs, σ[i]? = some (some (.ref l)) ∧ H l = some (.lst xs) ∧ xs.length = ms.length ∧ Env ca K H0 Fa (ρ.set i (some (.lst (ms ++ [.dat d])))) (σ.set i (some (.ref l))) (upd H l (.lst (xs ++ [y]))) := by
  obtain ⟨w, A, Fi, B, rfl, e2, ⟨v, e3, ho⟩, back⟩ := E.own.split h
  obtain ⟨l, xs, Fi', rfl, hl, hr, rfl⟩ := ow_lst.mp ho
  subst e3
  have hlG : l ∈ Fa ++ (A ++ (l :: Fi' ++ B)) := by simp
  have ne : ∀ b, b ∈ Fa ++ (A ++ (l :: Fi' ++ B)) → b ∉ [l] → b ≠ l := fun b _ n e => n (by simp [e])
  have nd := E.nd
  have nl : l ∉ A ++ (Fi' ++ B) := by
    intro z
    simp only [List.nodup_append, List.cons_append, List.nodup_cons, List.mem_append, List.mem_cons] at nd z
    rcases z with z | z | z
    · exact nd.2.2 l z l (.inl rfl) rfl
    · exact nd.2.1.1 (.inl z)
    · exact nd.2.1.1 (.inr z)
  have nFa : l ∉ Fa := E.apart l (by simp)
  have lc : Le (cut H (Fa ++ (A ++ (l :: Fi' ++ B)))) (cut (upd H l (.lst (xs ++ [y]))) (Fa ++ (A ++ (l :: Fi' ++ B)))) := by
    have q : cut (upd H l (.lst (xs ++ [y]))) (Fa ++ (A ++ (l :: Fi' ++ B))) = cut H (Fa ++ (A ++ (l :: Fi' ++ B))) := by
      funext b
      unfold cut
      by_cases z : b ∈ Fa ++ (A ++ (l :: Fi' ++ B))
      · rw [if_pos z, if_pos z]
      · rw [if_neg z, if_neg z, upd_ne (fun e => z (by rw [e]; exact hlG))]
    rw [q]; exact Le.refl _
  have tu : ∀ b ys, H b = some (.tup ys) → (upd H l (.lst (xs ++ [y]))) b = some (.tup ys) := fun b ys q => by
    rw [upd_ne (fun e => by subst e; rw [hl] at q; cases q)]; exact q
  refine ⟨l, xs, e2, hl, hr.len.symm, A ++ (l :: Fi' ++ B), ?_⟩
  refine ⟨?_, fun b hb => ?_, E.mu, nd, E.fresh, back _ _ _ _ (l :: Fi') lc (fun b hb => upd_ne fun e => nl ?_) tu ⟨_, rfl, ow_lst.mpr ⟨l, xs ++ [y], Fi', rfl, upd_same, ?_, rfl⟩⟩⟩
  · have hn : H0 l = none := E.fresh l (by simp)
    exact ⟨fun b u q => by rw [upd_ne (ne_of_none q hn)]; exact E.le.same b u q⟩
  · rw [upd_ne (fun e => nFa (by rw [← e]; exact hb))]; exact E.keep b hb
  · subst e
    simp only [List.mem_append] at hb ⊢
    rcases hb with z | z <;> simp [z]
  · have q := (hr.mono (G' := Fa ++ (A ++ (l :: Fi' ++ B))) lc (fun b hb => upd_ne fun e => nl (by subst e; simp [hb])) tu).app (OwL.of_dats (ds := [d]) (vs := [y]) (IsL.cons (hd.le lc) IsL.nil))
    simpa using q
end
end DA
set_option maxHeartbeats 1000000
/-! zip of two sequences, each a list or a tuple (the kit's own way for two tuples, turned to mixed pairs) -/
namespace DA
open PySem RZ
open PySem.Sem (wp)
def ZC : Bool → String
  | true => "tuple"
  | false => "list"
def ZI : Bool → String
  | true => "tuple_iterator"
  | false => "list_iterator"
def SqI (t : Bool) (h : Heap) (a : Addr) (items : Array Value) : Prop := ∃ o, h.get? a = some o ∧ o.cls = .type (ZC t) ∧ ∃ n, o.data = .seq items n
def ItI (t : Bool) (h : Heap) (a l : Addr) (i : Nat) : Prop := ∃ o, h.get? a = some o ∧ o.cls = .type (ZI t) ∧ o.data = .fields #[.ref l, .int i 0]
theorem SqI.at {t : Bool} {h h' : Heap} {a items} (x : SqI t h a items) (k : ∀ o, h.get? a = some o → h'.get? a = some o) : SqI t h' a items := let ⟨o, e, r⟩ := x; ⟨o, k o e, r⟩
theorem ItI.at {t : Bool} {h h' : Heap} {a l i} (x : ItI t h a l i) (k : ∀ o, h.get? a = some o → h'.get? a = some o) : ItI t h' a l i := let ⟨o, e, r⟩ := x; ⟨o, k o e, r⟩
theorem SqI.extBut {t : Bool} {h h' : Heap} {a b items} (x : SqI t h a items) (hs : Heap.ExtBut b h h') (hab : a ≠ b) : SqI t h' a items := x.at fun o e => hs a o hab e
theorem ItI.extBut {t : Bool} {h h' : Heap} {a b l i} (x : ItI t h a l i) (hs : Heap.ExtBut b h h') (hab : a ≠ b) : ItI t h' a l i := x.at fun o e => hs a o hab e
theorem SqI.push {t : Bool} {h : Heap} {a items} (x : SqI t h a items) (o : Obj) : SqI t (h.push o) a items := x.at fun _ e => Heap.get?_push_of_some _ e
section
variable {prog : Program} {w : World} {A : Around} {E : Value → Shared → Prop} {s : Shared}
theorem nextOf_i {t : Bool} {it l : Addr} {i : Nat} {items} {x : Value} {Q : Value → Shared → Prop} (hit : ItI t s.heap it l i)
    (hl : SqI t s.heap l items) (hx : items[i]? = some x)
    (hQ : ∀ h', ItI t h' it l (i + 1) → Heap.SameBut it s.heap h' → Q x { s with heap := h' }) :
    wpAny (model prog w) A (Builtin.SmallTypes.nextOf (.ref it)) Q E s := by
  cases t with
  | true => exact nextOf_tuple_item hit hl hx hQ
  | false => exact wpAny_nextOf_list_item hit hl hx hQ
theorem nextOf_e {t : Bool} {it l : Addr} {i : Nat} {items} {Q : Value → Shared → Prop} (hh : A.handled = none)
    (hit : ItI t s.heap it l i) (hl : SqI t s.heap l items) (hx : items[i]? = none)
    (hE : ∀ h' e, Heap.ExtBut it s.heap h' → (∃ o, h'.get? e = some o ∧ o.cls = .type "StopIteration") → E (.ref e) { s with heap := h' }) :
    wpAny (model prog w) A (Builtin.SmallTypes.nextOf (.ref it)) Q E s := by
  cases t with
  | true => exact nextOf_tuple_end hh hit hl hx hE
  | false => exact wpAny_nextOf_list_end hh hit hl hx hE
theorem pyIter_g {t : Bool} {l : Addr} {items} {Q : Value → Shared → Prop} (hl : SqI t s.heap l items)
    (hQ : Q (.ref s.heap.objs.size) { s with heap := s.heap.push { cls := .type (ZI t), data := .fields #[.ref l, .int 0 0] } }) :
    wpAny (model prog w) A (pyIter (.ref l)) Q E s := by
  cases t with
  | true => exact wpAny_pyIter_tuple hl hQ
  | false => exact wpAny_pyIter_list hl hQ

theorem zipG_next_item {t1 t2 : Bool} {z TI TO i1 i2 l1 l2 : Addr} {k1 k2 : Nat} {xs ys : Array Value} {x y a b : Value} {Q : Value → Shared → Prop} (D : ZipApart z TI TO i1 i2 l1 l2)
    (hz : IsZip s.heap z TI TO .none) (hTI : IsPair s.heap TI (.ref i1) (.ref i2)) (hTO : IsPair s.heap TO a b)
    (h1 : ItI t1 s.heap i1 l1 k1) (h2 : ItI t2 s.heap i2 l2 k2) (hl1 : SqI t1 s.heap l1 xs) (hl2 : SqI t2 s.heap l2 ys) (hx : xs[k1]? = some x) (hy : ys[k2]? = some y)
    (hQ : ∀ h', IsZip h' z TI TO (rawInt s.heap.objs.size) → IsPair h' TO x y → ItI t1 h' i1 l1 (k1 + 1) → ItI t2 h' i2 l2 (k2 + 1) → IsPair h' s.heap.objs.size x y → h'.objs.size = s.heap.objs.size + 1 →
      (∀ c o, c ≠ z → c ≠ TO → c ≠ i1 → c ≠ i2 → s.heap.get? c = some o → h'.get? c = some o) → Q (.ref s.heap.objs.size) { s with heap := h' }) :
    wpAny (model prog w) A (Builtin.«zip.__next__» ⟨[.ref z], []⟩) (fun fin s' => ∃ v, fin = .done (.ret v) ∧ Q v s') E s := by
  show wpAny _ _ (field (.ref z) 2 >>= _) _ _ _
  refine wpAny_bind (wpAny_field hz rfl (x := .bool false) rfl ?_)
  show wpAny _ _ (field (.ref z) 3 >>= _) _ _ _
  refine wpAny_bind (wpAny_field hz rfl (x := .ref TI) rfl ?_)
  refine wpAny_bind (wpAny_seqItems hTI rfl ?_)
  show wpAny _ _ (Builtin.SmallTypes.ownedTupleIsFree (.ref z) >>= _) _ _ _
  refine wpAny_bind ?_
  unfold Builtin.SmallTypes.ownedTupleIsFree
  refine wpAny_bind (wpAny_field hz rfl (x := .none) rfl (wpAny_pure ?_))
  simp only [if_true]
  refine wpAny_bind (wpAny_rule ?_)
  refine wpAny_bind (wpAny_field hz rfl (x := .ref TO) rfl ?_)
  refine wpAny_bind (wpAny_setField_rec hz (by simp) fun h₁ hz₁ hs₁ => ?_)
  replace hz₁ : IsZip h₁ z TI TO .ellipsis := hz₁
  refine wpAny_bind ?_
  simp only [List.zipIdx_cons, List.zipIdx_nil, List.forIn_cons, List.forIn_nil]

  refine wpAny_bind (wpAny_bind (wpAny_onRaise ?_))
  show wpAny _ _ (Builtin.SmallTypes.nextOf (.ref i1) >>= _) _ _ _
  refine wpAny_bind (nextOf_i (h1.extBut hs₁.extBut D.i1z) (hl1.extBut hs₁.extBut D.l1z) hx fun h₂ h1₂ hs₂ => wpAny_pure ?_)
  have hTO₂ : IsPair h₂ TO a b := hs₂.extBut _ _ D.TOi1 (hs₁.extBut _ _ D.TOz hTO)
  refine wpAny_bind (wpAny_seqItems hTO₂ rfl ?_)
  refine wpAny_bind (wpAny_updateSeq_pair hTO₂ fun h₃ hTO₃ hs₃ => ?_)
  replace hTO₃ : IsPair h₃ TO x b := hTO₃
  refine wpAny_bind (wpAny_letGo (wpAny_pure ?_))

  refine wpAny_bind (wpAny_bind (wpAny_onRaise ?_))
  show wpAny _ _ (Builtin.SmallTypes.nextOf (.ref i2) >>= _) _ _ _
  refine wpAny_bind (nextOf_i (((h2.extBut hs₁.extBut D.i2z).extBut hs₂.extBut D.i12.symm).extBut hs₃.extBut D.TOi2.symm)
    (((hl2.extBut hs₁.extBut D.l2z).extBut hs₂.extBut D.l2i1).extBut hs₃.extBut D.l2TO) hy fun h₄ h2₄ hs₄ => wpAny_pure ?_)
  have hTO₄ : IsPair h₄ TO x b := hs₄.extBut _ _ D.TOi2 hTO₃
  refine wpAny_bind (wpAny_seqItems hTO₄ rfl ?_)
  refine wpAny_bind (wpAny_updateSeq_pair hTO₄ fun h₅ hTO₅ hs₅ => ?_)
  replace hTO₅ : IsPair h₅ TO x y := hTO₅
  refine wpAny_bind (wpAny_letGo (wpAny_pure (wpAny_pure ?_)))

  refine wpAny_bind (wpAny_seqItems hTO₅ rfl ?_)
  refine wpAny_bind (wpAny_newTuple ?_)
  have hsz : h₅.objs.size = s.heap.objs.size := by rw [hs₅.1, hs₄.1, hs₃.1, hs₂.1, hs₁.1]
  have hz₅ : IsZip h₅ z TI TO .ellipsis := hs₅.extBut _ _ D.TOz.symm (hs₄.extBut _ _ D.i2z.symm (hs₃.extBut _ _ D.TOz.symm (hs₂.extBut _ _ D.i1z.symm hz₁)))
  have hk₅ : ∀ c o, c ≠ z → c ≠ TO → c ≠ i1 → c ≠ i2 → s.heap.get? c = some o → h₅.get? c = some o := fun c o c1 c2 c3 c4 e =>
    hs₅.extBut _ _ c2 (hs₄.extBut _ _ c4 (hs₃.extBut _ _ c2 (hs₂.extBut _ _ c3 (hs₁.extBut _ _ c1 e))))
  have h1₅ : ItI t1 h₅ i1 l1 (k1 + 1) := ((h1₂.extBut hs₃.extBut D.TOi1.symm).extBut hs₄.extBut D.i12).extBut hs₅.extBut D.TOi1.symm
  have h2₅ : ItI t2 h₅ i2 l2 (k2 + 1) := h2₄.extBut hs₅.extBut D.TOi2.symm
  have hzlt : z < h₅.objs.size := Heap.lt_size hz₅
  have hTOlt : TO < h₅.objs.size := Heap.lt_size hTO₅
  have hi1lt : i1 < h₅.objs.size := by obtain ⟨_, e, _⟩ := h1₅; exact Heap.lt_size e
  have hi2lt : i2 < h₅.objs.size := by obtain ⟨_, e, _⟩ := h2₅; exact Heap.lt_size e
  show wpAny _ _ (Builtin.SmallTypes.ownedTupleHandOut (.ref z) (.ref h₅.objs.size) >>= _) _ _ _
  refine wpAny_bind ?_
  unfold Builtin.SmallTypes.ownedTupleHandOut
  have hz₆ : IsZip (h₅.push { cls := .type "tuple", data := .seq #[x, y] }) z TI TO .ellipsis := Heap.get?_push_of_some _ hz₅
  refine wpAny_bind (wpAny_setField_rec hz₆ (by simp) fun h₇ hz₇ hs₇ => ?_)
  replace hz₇ : IsZip h₇ z TI TO (rawInt h₅.objs.size) := hz₇
  refine wpAny_setField_rec hz₇ (by simp) fun h₈ hz₈ hs₈ => ?_
  replace hz₈ : IsZip h₈ z TI TO (rawInt h₅.objs.size) := hz₈
  have up : ∀ c o, c ≠ z → h₅.get? c = some o → h₈.get? c = some o := fun c o c1 e => hs₈.extBut _ _ c1 (hs₇.extBut _ _ c1 (Heap.get?_push_of_some _ e))
  have hT₈ : IsPair h₈ h₅.objs.size x y := hs₈.extBut _ _ (Nat.ne_of_gt hzlt) (hs₇.extBut _ _ (Nat.ne_of_gt hzlt) (Heap.get?_push_size _ rfl))
  have hz8 : h₈.objs.size = h₅.objs.size + 1 := by rw [hs₈.1, hs₇.1, Heap.size_push]
  rw [hsz] at hz₈ hT₈ hz8
  refine wpAny_pure ⟨_, rfl, ?_⟩
  show Q (.ref h₅.objs.size) _
  rw [hsz]
  exact hQ h₈ hz₈ (up _ _ D.TOz hTO₅) (h1₅.at fun o e => up _ o D.i1z e) (h2₅.at fun o e => up _ o D.i2z e) hT₈ hz8 fun c o c1 c2 c3 c4 e => up c o c1 (hk₅ c o c1 c2 c3 c4 e)

theorem zipG_next_end {t1 t2 : Bool} {z TI TO i1 i2 l1 l2 : Addr} {k1 k2 : Nat} {xs ys : Array Value} {a b : Value} {Q : Fin → Shared → Prop} (hh : A.handled = none) (D : ZipApart z TI TO i1 i2 l1 l2)
    (hz : IsZip s.heap z TI TO .none) (hTI : IsPair s.heap TI (.ref i1) (.ref i2)) (hTO : IsPair s.heap TO a b)
    (h1 : ItI t1 s.heap i1 l1 k1) (h2 : ItI t2 s.heap i2 l2 k2) (hl1 : SqI t1 s.heap l1 xs) (hl2 : SqI t2 s.heap l2 ys) (hend : xs[k1]? = none ∨ ys[k2]? = none)
    (hE : ∀ h' e, (∀ c o, c ≠ z → c ≠ TO → c ≠ i1 → c ≠ i2 → s.heap.get? c = some o → h'.get? c = some o) → (∃ o, h'.get? e = some o ∧ o.cls = .type "StopIteration") → E (.ref e) { s with heap := h' }) :
    wpAny (model prog w) A (Builtin.«zip.__next__» ⟨[.ref z], []⟩) Q E s := by
  show wpAny _ _ (field (.ref z) 2 >>= _) _ _ _
  refine wpAny_bind (wpAny_field hz rfl (x := .bool false) rfl ?_)
  show wpAny _ _ (field (.ref z) 3 >>= _) _ _ _
  refine wpAny_bind (wpAny_field hz rfl (x := .ref TI) rfl ?_)
  refine wpAny_bind (wpAny_seqItems hTI rfl ?_)
  show wpAny _ _ (Builtin.SmallTypes.ownedTupleIsFree (.ref z) >>= _) _ _ _
  refine wpAny_bind ?_
  unfold Builtin.SmallTypes.ownedTupleIsFree
  refine wpAny_bind (wpAny_field hz rfl (x := .none) rfl (wpAny_pure ?_))
  simp only [if_true]
  refine wpAny_bind (wpAny_rule ?_)
  refine wpAny_bind (wpAny_field hz rfl (x := .ref TO) rfl ?_)
  refine wpAny_bind (wpAny_setField_rec hz (by simp) fun h₁ hz₁ hs₁ => ?_)
  replace hz₁ : IsZip h₁ z TI TO .ellipsis := hz₁
  refine wpAny_bind ?_
  simp only [List.zipIdx_cons, List.zipIdx_nil, List.forIn_cons, List.forIn_nil]
  refine wpAny_bind (wpAny_bind (wpAny_onRaise ?_))
  show wpAny _ _ (Builtin.SmallTypes.nextOf (.ref i1) >>= _) _ _ _
  cases hx : xs[k1]? with
  | none =>
    refine wpAny_bind (nextOf_e hh (h1.extBut hs₁.extBut D.i1z) (hl1.extBut hs₁.extBut D.l1z) hx fun h₂ e hs₂ he => ?_)
    obtain ⟨oe, hoe, hce⟩ := he
    have hz₂ : IsZip h₂ z TI TO .ellipsis := hs₂ _ _ D.i1z.symm hz₁
    have hez : e ≠ z := fun x => by subst x; rw [hz₂] at hoe; cases hoe; simp at hce
    refine wpAny_setField_rec hz₂ (by simp) fun h₃ _ hs₃ => hE h₃ e (fun c o c1 _ c3 _ x => hs₃.extBut _ _ c1 (hs₂ _ _ c3 (hs₁.extBut _ _ c1 x))) ⟨oe, hs₃.extBut _ _ hez hoe, hce⟩
  | some x =>
    have hy : ys[k2]? = none := by rcases hend with h | h; rw [hx] at h; cases h; exact h
    refine wpAny_bind (nextOf_i (h1.extBut hs₁.extBut D.i1z) (hl1.extBut hs₁.extBut D.l1z) hx fun h₂ h1₂ hs₂ => wpAny_pure ?_)
    have hTO₂ : IsPair h₂ TO a b := hs₂.extBut _ _ D.TOi1 (hs₁.extBut _ _ D.TOz hTO)
    refine wpAny_bind (wpAny_seqItems hTO₂ rfl ?_)
    refine wpAny_bind (wpAny_updateSeq_pair hTO₂ fun h₃ hTO₃ hs₃ => ?_)
    refine wpAny_bind (wpAny_letGo (wpAny_pure ?_))
    refine wpAny_bind (wpAny_bind (wpAny_onRaise ?_))
    show wpAny _ _ (Builtin.SmallTypes.nextOf (.ref i2) >>= _) _ _ _
    refine wpAny_bind (nextOf_e hh (((h2.extBut hs₁.extBut D.i2z).extBut hs₂.extBut D.i12.symm).extBut hs₃.extBut D.TOi2.symm)
      (((hl2.extBut hs₁.extBut D.l2z).extBut hs₂.extBut D.l2i1).extBut hs₃.extBut D.l2TO) hy fun h₄ e hs₄ he => ?_)
    obtain ⟨oe, hoe, hce⟩ := he
    have hz₄ : IsZip h₄ z TI TO .ellipsis := hs₄ _ _ D.i2z.symm (hs₃.extBut _ _ D.TOz.symm (hs₂.extBut _ _ D.i1z.symm hz₁))
    have hez : e ≠ z := fun x => by subst x; rw [hz₄] at hoe; cases hoe; simp at hce
    refine wpAny_setField_rec hz₄ (by simp) fun h₅ _ hs₅ => hE h₅ e (fun c o c1 c2 c3 c4 x => hs₅.extBut _ _ c1 (hs₄ _ _ c4 (hs₃.extBut _ _ c2 (hs₂.extBut _ _ c3 (hs₁.extBut _ _ c1 x))))) ⟨oe, hs₅.extBut _ _ hez hoe, hce⟩

theorem pyNext_zipG_item {t1 t2 : Bool} {z TI TO i1 i2 l1 l2 : Addr} {k1 k2 : Nat} {xs ys : Array Value} {x y a b : Value} {Q : Option Value → Shared → Prop} (D : ZipApart z TI TO i1 i2 l1 l2)
    (hz : IsZip s.heap z TI TO .none) (hTI : IsPair s.heap TI (.ref i1) (.ref i2)) (hTO : IsPair s.heap TO a b)
    (h1 : ItI t1 s.heap i1 l1 k1) (h2 : ItI t2 s.heap i2 l2 k2) (hl1 : SqI t1 s.heap l1 xs) (hl2 : SqI t2 s.heap l2 ys) (hx : xs[k1]? = some x) (hy : ys[k2]? = some y)
    (hQ : ∀ h', IsZip h' z TI TO (rawInt s.heap.objs.size) → IsPair h' TO x y → ItI t1 h' i1 l1 (k1 + 1) → ItI t2 h' i2 l2 (k2 + 1) → IsPair h' s.heap.objs.size x y → h'.objs.size = s.heap.objs.size + 1 →
      (∀ c o, c ≠ z → c ≠ TO → c ≠ i1 → c ≠ i2 → s.heap.get? c = some o → h'.get? c = some o) → Q (some (.ref s.heap.objs.size)) { s with heap := h' }) :
    wpAny (model prog w) A (pyNext (.ref z)) Q E s := by
  have hT : s.TypeIs (.ref z) "zip" := ⟨_, hz, rfl⟩
  unfold pyNext
  exact wpAny_bind (wpAny_attempt (wpAny_callSpecial?_slot (name := Str.ofString "__next__") hT F.slot_zip_next
    (wpAny_call_entry F.slot_zip_next hT F.entry_zip_next
      (zipG_next_item D hz hTI hTO h1 h2 hl1 hl2 hx hy fun h' a1 a2 a3 a4 a5 a6 a7 => wpAny_pure (hQ h' a1 a2 a3 a4 a5 a6 a7)) (F.args_zip_next_1 _))))

theorem pyNext_zipG_end {t1 t2 : Bool} {z TI TO i1 i2 l1 l2 : Addr} {k1 k2 : Nat} {xs ys : Array Value} {a b : Value} {Q : Option Value → Shared → Prop} (hh : A.handled = none) (D : ZipApart z TI TO i1 i2 l1 l2)
    (hz : IsZip s.heap z TI TO .none) (hTI : IsPair s.heap TI (.ref i1) (.ref i2)) (hTO : IsPair s.heap TO a b)
    (h1 : ItI t1 s.heap i1 l1 k1) (h2 : ItI t2 s.heap i2 l2 k2) (hl1 : SqI t1 s.heap l1 xs) (hl2 : SqI t2 s.heap l2 ys) (hend : xs[k1]? = none ∨ ys[k2]? = none)
    (hQ : ∀ h', (∀ c o, c ≠ z → c ≠ TO → c ≠ i1 → c ≠ i2 → s.heap.get? c = some o → h'.get? c = some o) → Q none { s with heap := h' }) : wpAny (model prog w) A (pyNext (.ref z)) Q E s := by
  have hT : s.TypeIs (.ref z) "zip" := ⟨_, hz, rfl⟩
  unfold pyNext
  refine wpAny_bind (wpAny_attempt (wpAny_callSpecial?_slot (name := Str.ofString "__next__") hT F.slot_zip_next
    (wpAny_call_entry F.slot_zip_next hT F.entry_zip_next (zipG_next_end hh D hz hTI hTO h1 h2 hl1 hl2 hend fun h' e hk he => ?_) (F.args_zip_next_1 _))))
  obtain ⟨o, ho, hc⟩ := he
  refine wpAny_bind (wpAny_isInstance (T := "StopIteration") (b := true) ⟨o, ho, hc⟩ isSubtype_stop ?_)
  exact wpAny_pure (hQ _ hk)
end


abbrev zipGH1 (t1 : Bool) (h : Heap) (l1 : Addr) : Heap := h.push { cls := .type (ZI t1), data := .fields #[.ref l1, .int 0 0] }
abbrev zipGH2 (t1 t2 : Bool) (h : Heap) (l1 l2 : Addr) : Heap := (zipGH1 t1 h l1).push { cls := .type (ZI t2), data := .fields #[.ref l2, .int 0 0] }
abbrev zipGH3 (t1 t2 : Bool) (h : Heap) (l1 l2 : Addr) : Heap := (zipGH2 t1 t2 h l1 l2).push { cls := .type "tuple", data := .seq #[.ref h.objs.size, .ref (zipGH1 t1 h l1).objs.size] }
abbrev zipGH4 (t1 t2 : Bool) (h : Heap) (l1 l2 : Addr) : Heap := (zipGH3 t1 t2 h l1 l2).push { cls := .type "tuple", data := .seq #[.none, .none] }
abbrev zipGH5 (t1 t2 : Bool) (h : Heap) (l1 l2 : Addr) : Heap := (zipGH4 t1 t2 h l1 l2).push { cls := .type "zip", data := .fields #[.none, .bool false, .bool false, .ref (zipGH2 t1 t2 h l1 l2).objs.size, .ref (zipGH3 t1 t2 h l1 l2).objs.size] }

theorem meets_zipG_new (t1 t2 : Bool) (l1 l2 : Addr) (xs ys : Array Value) :
    Meets (Builtin.«zip.__new__» ⟨[.type "zip", .ref l1, .ref l2], []⟩) (fun _ R s => SqI t1 s.heap l1 xs ∧ SqI t2 s.heap l2 ys ∧
      R (.ok (.ret (.ref (zipGH4 t1 t2 s.heap l1 l2).objs.size))) { s with heap := zipGH5 t1 t2 s.heap l1 l2 }) :=
  .of_wp fun prog w A R s h => by
    obtain ⟨hp, g, d, tk, os⟩ := s; obtain ⟨hl1, hl2, h⟩ := h
    have hsub := sub_zip
    have hL1 : SqI t1 (Shared.heap ⟨hp, g, d, tk, os⟩) l1 xs := hl1
    have hL2 : SqI t2 (Shared.heap ⟨hp.push { cls := .type (ZI t1), data := .fields #[.ref l1, .int 0 0] }, g, d, tk, os⟩) l2 ys := hl2.push _
    wp_walk using pyIter_g hL1, pyIter_g hL2
    exact ⟨_, rfl, h⟩

section
variable {prog : Program} {w : World} {A : Around} {E : Value → Shared → Prop} {s : Shared}

theorem call_zipG {t1 t2 : Bool} {l1 l2 : Addr} {xs ys : Array Value} {Q : Value → Shared → Prop} (hl1 : SqI t1 s.heap l1 xs) (hl2 : SqI t2 s.heap l2 ys)
    (h : ∀ h', IsZip h' (s.heap.objs.size + 4) (s.heap.objs.size + 2) (s.heap.objs.size + 3) .none → IsPair h' (s.heap.objs.size + 2) (.ref s.heap.objs.size) (.ref (s.heap.objs.size + 1)) →
      IsPair h' (s.heap.objs.size + 3) .none .none → ItI t1 h' s.heap.objs.size l1 0 → ItI t2 h' (s.heap.objs.size + 1) l2 0 → h'.objs.size = s.heap.objs.size + 5 →
      (∀ c o, s.heap.get? c = some o → h'.get? c = some o) → Q (.ref (s.heap.objs.size + 4)) { s with heap := h' }) :
    wpAny (model prog w) A (call (.type "zip") [.ref l1, .ref l2]) Q E s := by
  refine callType_new F.called_zip (by decide) (F.typeCall_zip_2 _ _) (F.newCall_zip_2 _ _) (fun obj => F.args_object_init_3 obj _ _) F.entry_zip_new
    (meets_zipG_new t1 t2 l1 l2 xs ys) ⟨hl1, hl2, ?_⟩
  have z1 : (zipGH1 t1 s.heap l1).objs.size = s.heap.objs.size + 1 := Heap.size_push ..
  have z2 : (zipGH2 t1 t2 s.heap l1 l2).objs.size = s.heap.objs.size + 2 := by rw [Heap.size_push, z1]
  have z3 : (zipGH3 t1 t2 s.heap l1 l2).objs.size = s.heap.objs.size + 3 := by rw [Heap.size_push, z2]
  have z4 : (zipGH4 t1 t2 s.heap l1 l2).objs.size = s.heap.objs.size + 4 := by rw [Heap.size_push, z3]
  have z5 : (zipGH5 t1 t2 s.heap l1 l2).objs.size = s.heap.objs.size + 5 := by rw [Heap.size_push, z4]
  have g5 : (zipGH5 t1 t2 s.heap l1 l2).get? (zipGH4 t1 t2 s.heap l1 l2).objs.size = some _ := Heap.get?_push_size _ rfl
  have g4 : (zipGH5 t1 t2 s.heap l1 l2).get? (zipGH3 t1 t2 s.heap l1 l2).objs.size = some _ := Heap.get?_push_of_some _ (Heap.get?_push_size _ rfl)
  have g3 : (zipGH5 t1 t2 s.heap l1 l2).get? (zipGH2 t1 t2 s.heap l1 l2).objs.size = some _ := Heap.get?_push_of_some _ (Heap.get?_push_of_some _ (Heap.get?_push_size _ rfl))
  have g2 : (zipGH5 t1 t2 s.heap l1 l2).get? (zipGH1 t1 s.heap l1).objs.size = some _ := Heap.get?_push_of_some _ (Heap.get?_push_of_some _ (Heap.get?_push_of_some _ (Heap.get?_push_size _ rfl)))
  have g1 : (zipGH5 t1 t2 s.heap l1 l2).get? s.heap.objs.size = some _ := Heap.get?_push_of_some _ (Heap.get?_push_of_some _ (Heap.get?_push_of_some _ (Heap.get?_push_of_some _ (Heap.get?_push_size _ rfl))))
  show _ ∧ _
  rw [z2, z3, z4] at g5
  rw [z1, z2] at g3
  rw [z3] at g4
  rw [z1] at g2
  rw [z4]
  exact ⟨⟨_, g5, rfl⟩, h _ g5 g3 g4 ⟨_, g1, rfl, rfl⟩ ⟨_, g2, rfl, rfl⟩ z5 fun c o x =>
    Heap.get?_push_of_some _ (Heap.get?_push_of_some _ (Heap.get?_push_of_some _ (Heap.get?_push_of_some _ (Heap.get?_push_of_some _ x))))⟩
end


open PySem PySem.Spec PyProof.Rows L2
def SqG (t : Bool) (K : PySem.W.Frag) (H : Hp) (a : Addr) (xs : List V) : Prop := match t with
  | true => SqT K H a xs
  | false => SqL K H a xs
theorem gSeq {X : Cx} {pins : List (Addr × Obj)} {σ : L2.St} {H : Hp} {s : Shared} {t : Bool} {a : Addr} {xs : List V} (I : Inv X pins σ H s) (h : SqG t X.K H a xs) : ∃ its : List Value, Vals xs its ∧ SqI t s.heap a its.toArray := by
  cases t with
  | true => obtain ⟨its, rv, p, _⟩ := I.tuple h; exact ⟨its, rv, p⟩
  | false => obtain ⟨its, rv, p, _⟩ := I.list h; exact ⟨its, rv, p.isList⟩
theorem gInj {X : Cx} {pins : List (Addr × Obj)} {σ : L2.St} {H : Hp} {s : Shared} {t : Bool} {a : Addr} {xs ys : List V} (I : Inv X pins σ H s) (h : SqG t X.K H a xs) (h' : SqG t X.K H a ys) : xs = ys := by
  cases t with
  | true => exact I.tuple_inj h h'
  | false => exact I.list_inj h h'
/-- the tuples at a and b as they stand at each turn, the items in new pairs -/
def ItzG (t1 t2 : Bool) (K : PySem.W.Frag) (a b : Addr) : It :=
  ⟨fun i H => ∃ (xs ys : List V) (x y : V), SqG t1 K H a xs ∧ SqG t2 K H b ys ∧ xs[i]? = some x ∧ ys[i]? = some y,
    fun i H v H' => ∃ T x y, v = .ref T ∧ H T = none ∧ H' = upd H T (.tup [x, y]) ∧ (∀ xs, SqG t1 K H a xs → xs[i]? = some x) ∧ ∀ ys, SqG t2 K H b ys → ys[i]? = some y,
    fun i H => ∃ xs ys : List V, SqG t1 K H a xs ∧ SqG t2 K H b ys ∧ (xs.length ≤ i ∨ ys.length ≤ i)⟩
theorem turn_zipG {t1 t2 : Bool} {P : Program} {w : World} {K : PySem.W.Frag} {elts : List Expr} {kk : Nat} {tpos : Pos} {a b z TI TO i1 i2 : Addr} (D : ZipApart z TI TO i1 i2 a b) :
    Turn P w K (.Tuple elts kk tpos) (ItzG t1 t2 K a b) [z, TI, TO, i1, i2] z (fun i h => IsZip h z TI TO .none ∧ IsPair h TI (.ref i1) (.ref i2) ∧ (∃ x y, IsPair h TO x y) ∧ ItI t1 h i1 a i ∧ ItI t2 h i2 b i) where
  mem := by simp
  obj := fun i h st c hc => by
    obtain ⟨hz, hTI, ⟨x, y, hTO⟩, ⟨o1, e1, _, d1⟩, ⟨o2, e2, _, d2⟩⟩ := st
    have e' : c = z ∨ c = TI ∨ c = TO ∨ c = i1 ∨ c = i2 := by simpa using hc
    rcases e' with q | q | q | q | q
    · rw [q]; exact ⟨_, hz, fun v q => nomatch q⟩
    · rw [q]; exact ⟨_, hTI, fun v q => nomatch q⟩
    · rw [q]; exact ⟨_, hTO, fun v q => nomatch q⟩
    · rw [q]; exact ⟨o1, e1, fun v q => by rw [d1] at q; cases q⟩
    · rw [q]; exact ⟨o2, e2, fun v q => by rw [d2] at q; cases q⟩
  keep := fun i h h' st k => by
    obtain ⟨hz, hTI, ⟨x, y, hTO⟩, h1, h2⟩ := st
    exact ⟨k z (by simp) _ hz, k TI (by simp) _ hTI, ⟨x, y, k TO (by simp) _ hTO⟩, h1.at fun o q => k i1 (by simp) o q, h2.at fun o q => k i2 (by simp) o q⟩
  item := by
    intro X hP hw hK hc i pins s σ H E I hf st hg
    subst hP hw hK
    obtain ⟨hz, hTI, ⟨x0, y0, hTO⟩, h1, h2⟩ := st
    obtain ⟨xs, ys, x, y, hqx, hqy, hx, hy⟩ := hg
    obtain ⟨its, rv, p⟩ := gSeq I hqx
    obtain ⟨its2, rv2, p2⟩ := gSeq I hqy
    obtain ⟨u, hu, ru⟩ := rv.get hx
    obtain ⟨u2, hu2, ru2⟩ := rv2.get hy
    have hzl : z < s.heap.objs.size := Heap.lt_size hz
    refine pyNext_zipG_item D hz hTI hTO h1 h2 p p2 (x := u) (y := u2) (by simpa using hu) (by simpa using hu2) fun h' z' TO' h1' h2' hT hsz hk => ?_
    refine ⟨_, rfl, wpAny_letOwnedTupleGo_zip (s := { s with heap := h' }) z' fun h'' z'' sb => ?_⟩
    have hT2 : h''.get? s.heap.objs.size = some { cls := .type "tuple", data := .seq #[u, u2] } := (sb.2 _ (Nat.ne_of_gt hzl)).trans hT
    have new : ObjOk X.prog X.w (upd H s.heap.objs.size (.tup [x, y])) h'' s.heap.objs.size (.tup [x, y]) :=
      ⟨by show 2 ≤ sizeLine; decide, [u, u2], .cons ru (.cons ru2 .nil), ⟨_, hT2, rfl, _, rfl⟩⟩
    have I1 : Inv X pins σ (upd H s.heap.objs.size (.tup [x, y])) { s with heap := h'' } :=
      I.turnedNew (t' := s.toks) (ch := [z, TI, TO, i1, i2]) (fun c o hb q => (sb.2 c (fun q' => hb (by simp [q']))).trans (hk c o (fun q' => hb (by simp [q'])) (fun q' => hb (by simp [q'])) (fun q' => hb (by simp [q'])) (fun q' => hb (by simp [q'])) q)) hf (Nat.le_refl _) new
    refine ⟨.ref s.heap.objs.size, _, I1, rfl, ⟨_, x, y, rfl, I.hok.fresh (Nat.le_refl _), rfl, fun l hl => by rw [gInj I hl hqx]; exact hx, fun l hl => by rw [gInj I hl hqy]; exact hy⟩, ⟨z'', ?_, ⟨u, u2, ?_⟩, ?_, ?_⟩, fun c hcm => ?_⟩
    · exact (sb.2 _ D.TIz).trans (hk _ _ D.TIz D.TITO D.TIi1 D.TIi2 hTI)
    · exact (sb.2 _ D.TOz).trans TO'
    · exact h1'.at fun o q => (sb.2 _ D.i1z).trans q
    · exact h2'.at fun o q => (sb.2 _ D.i2z).trans q
    · have hlt : c < s.heap.objs.size := by
        have e' : c = z ∨ c = TI ∨ c = TO ∨ c = i1 ∨ c = i2 := by simpa using hcm
        rcases e' with q | q | q | q | q
        · rw [q]; exact hzl
        · rw [q]; exact Heap.lt_size hTI
        · rw [q]; exact Heap.lt_size hTO
        · rw [q]; obtain ⟨_, e1, _⟩ := h1; exact Heap.lt_size e1
        · rw [q]; obtain ⟨_, e2, _⟩ := h2; exact Heap.lt_size e2
      rw [upd_ne (Nat.ne_of_lt hlt)]
      exact (hf c hcm).1
  done := by
    intro X hP hw hK hc i pins s σ H E I hf st hg
    subst hP hw hK
    obtain ⟨hz, hTI, ⟨x0, y0, hTO⟩, h1, h2⟩ := st
    obtain ⟨xs, ys, hqx, hqy, hend⟩ := hg
    obtain ⟨its, rv, p⟩ := gSeq I hqx
    obtain ⟨its2, rv2, p2⟩ := gSeq I hqy
    have l1 := rv.length
    have l2 := rv2.length
    have he : its.toArray[i]? = none ∨ its2.toArray[i]? = none := by
      rcases hend with q | q
      · exact .inl (by simp; omega)
      · exact .inr (by simp; omega)
    exact pyNext_zipG_end (I.ok.hd hc) D hz hTI hTO h1 h2 p p2 he fun h' hk => ⟨rfl, I.turnedL (t' := s.toks) (ch := [z, TI, TO, i1, i2]) (fun c o hb q =>
      hk c o (fun q' => hb (by simp [q'])) (fun q' => hb (by simp [q'])) (fun q' => hb (by simp [q'])) (fun q' => hb (by simp [q'])) q) hf⟩
  self := fun A i s Q E st h => wpAny_pyIter_zip st.1 h

def iZipG (K : PySem.W.Frag) (ta : TA) : TI := fun σ H R => ta σ H fun vs H1 => ∃ t1 t2 a b xs ys, vs = [.ref a, .ref b] ∧ SqG t1 K H1 a xs ∧ SqG t2 K H1 b ys ∧ R (ItzG t1 t2 K a b) H1
theorem pi_zipG {X : Cx} {e e2 : Expr} {ta : TA} {p pos tpos : Pos} {elts : List Expr} {kk : Nat} (hg : Gl X "zip") (hm : X.mg "zip" = none) (ha : PA X [e, e2] ta)
    (hs : starEach [e, e2] X.env = (false, eval e X.env) :: starEach [e2] X.env := by rfl) (hpl : (backTo pos (starEach [e2] X.env)).any (·.1) = false := by rfl) :
    PI X (.Tuple elts kk tpos) (.Call (.Name "zip" p) [e, e2] [] pos) (iZipG X.K ta) := by
  refine ⟨fun pins s σ H R I h => ?_⟩
  refine Call_ (ld_blt I hg hm PyProof.Rows.boot_zip (PyProof.Rows.callWith_type1 (thn (ha.run pos pins s σ H _ I h) fun us s1 ⟨vs, H1, I1, r1, q1⟩ => ?_) hs hpl))
  obtain ⟨t1, t2, a, b, xs, ys, ex, hqx, hqy, q⟩ := q1
  subst ex
  cases r1 with
  | cons r rr =>
    cases rr with
    | cons r' rr =>
      cases rr
      cases r
      cases r'
      obtain ⟨its, rv, p1⟩ := gSeq I1 hqx
      obtain ⟨its2, rv2, p2⟩ := gSeq I1 hqy
      obtain ⟨o1, ho1, _⟩ := id p1
      obtain ⟨o2, ho2, _⟩ := id p2
      refine call_zipG p1 p2 fun h' hz hTI hTO h1 h2 hsz hk => wpAny_pyIter_zip hz ?_
      have I2 : Inv X pins σ H1 { s1 with heap := h' } := I1.kept (t' := s1.toks) hk
      refine ⟨s1.heap.objs.size + 4, [s1.heap.objs.size + 4, s1.heap.objs.size + 2, s1.heap.objs.size + 3, s1.heap.objs.size, s1.heap.objs.size + 1], _, _, H1, rfl, I2, turn_zipG (PySem.W.ktu_apart s1.heap.objs.size a b (Heap.lt_size ho1) (Heap.lt_size ho2)), ⟨hz, hTI, ⟨_, _, hTO⟩, h1, h2⟩, fun c hcm => ?_, q⟩
      have hle : s1.heap.objs.size ≤ c := by
        have e' : c = s1.heap.objs.size + 4 ∨ c = s1.heap.objs.size + 2 ∨ c = s1.heap.objs.size + 3 ∨ c = s1.heap.objs.size ∨ c = s1.heap.objs.size + 1 := by simpa using hcm
        rcases e' with z | z | z | z | z <;> rw [z] <;> first | exact Nat.le_add_right _ _ | exact Nat.le_refl _
      exact I1.fpOk hle (I1.hok.fresh hle)
end DA
set_option maxHeartbeats 4000000
/-! DA6: walks of ranges and zips, comprehensions, xs.append -/
namespace DA
open PySem PySem.Spec PyProof.Rows L2

section
variable {ca : Str → Option Addr} {X : Cx} {W : WX} {e a b c tg : Expr} {es : List Expr} {pos p apos : Pos} {x m : Str}

/-! ### range, zip -/
def fits62 (i : Int) : Prop := -(2 ^ 62) ≤ i ∧ i < 2 ^ 62
noncomputable instance (i : Int) : Decidable (fits62 i) := Classical.propDecidable _
def rangeL (lo hi : Int) : List D := (List.range (hi - lo).toNat).map fun (k : Nat) => D.int (lo + k)
theorem rangeL_get {lo hi : Int} {i : Nat} {d : D} (h : (rangeL lo hi)[i]? = some d) : i < (hi - lo).toNat ∧ d = .int (lo + i) := by
  unfold rangeL at h
  rw [List.getElem?_map] at h
  by_cases z : i < (hi - lo).toNat
  · rw [List.getElem?_range z] at h
    exact ⟨z, (Option.some.inj h).symm⟩
  · rw [List.getElem?_eq_none (by simpa using z)] at h; cases h
theorem rangeL_len {lo hi : Int} : (rangeL lo hi).length = (hi - lo).toNat := by unfold rangeL; simp
theorem itOk_range {K : PySem.W.Frag} {lo hi : Int} {n : Nat} (hn : n = (hi - lo).toNat) : ItOk ca K (Itr lo n) (rangeL lo hi) [] [] := by
  subst hn
  intro H0 Fa pre pus ρ σ H F i hp E
  refine ⟨fun d hd => ?_, fun h => by rw [rangeL_len] at h; exact h⟩
  obtain ⟨hlt, rfl⟩ := rangeL_get hd
  refine ⟨hlt, fun x H' ⟨eH, ex⟩ => ?_⟩
  subst eH ex
  exact ⟨E, is_int.mpr rfl⟩
noncomputable def range1 : List D → Out (List D)
  | [.int j] => if fits62 j ∧ j.toNat ≤ sizeLine then .ok (rangeL 0 j) else .stuck
  | _ => .stuck
noncomputable def range2 : List D → Out (List D)
  | [.int i, .int j] => if (fits62 i ∧ fits62 j) ∧ (j - i).toNat ≤ sizeLine then .ok (rangeL i j) else .stuck
  | _ => .stuck
theorem isL_1 {K : PySem.W.Frag} {H : Hp} {d : D} {vs : List V} (h : IsL ca K H [d] vs) : ∃ v, vs = [v] ∧ Is ca K H d v := by
  obtain ⟨v, vs', rfl, i, r⟩ := isL_cons.mp h
  rw [isL_nil.mp r]
  exact ⟨v, rfl, i⟩
theorem isL_2 {K : PySem.W.Frag} {H : Hp} {d d' : D} {vs : List V} (h : IsL ca K H [d, d'] vs) : ∃ v v', vs = [v, v'] ∧ Is ca K H d v ∧ Is ca K H d' v' := by
  obtain ⟨v, vs', rfl, i, r⟩ := isL_cons.mp h
  obtain ⟨v', rfl, i'⟩ := isL_1 r
  exact ⟨v, v', rfl, i, i'⟩
theorem isL_3 {K : PySem.W.Frag} {H : Hp} {d d' d2 : D} {vs : List V} (h : IsL ca K H [d, d', d2] vs) : ∃ v v' v2, vs = [v, v', v2] ∧ Is ca K H d v ∧ Is ca K H d' v' ∧ Is ca K H d2 v2 := by
  obtain ⟨v, vs', rfl, i, r⟩ := isL_cons.mp h
  obtain ⟨v', v2, rfl, i', i2⟩ := isL_2 r
  exact ⟨v, v', v2, rfl, i, i', i2⟩
theorem ei_range1 {f : Rn → Out (List D)} (hm : X.mg "range" = none) (h : EA ca X W [a] f) (hg : Gl X "range" := by rfl) (hs : starEach [a] X.env = [(false, eval a X.env)] := by rfl) : EI ca X W tg (.Call (.Name "range" p) [a] [] pos) (fun ρ => (f ρ).bind range1) := by
  obtain ⟨ta, pa, ha⟩ := h
  refine ⟨_, pi_range1 hg hm pa hs, fun H0 Fa ts us ρ σ H R hl E o => ha H0 Fa ts us ρ σ H _ hl E (o.bind.imp (fun ds o vs H2 F E2 i => ?_) fun n q => q)⟩
  unfold range1 at o
  split at o
  · rename_i j
    split at o
    · rename_i z
      obtain ⟨v, rfl, iv⟩ := isL_1 i
      rw [is_int.mp iv]
      exact ⟨j, rfl, z.1.1, z.1.2, o (Itr 0 j.toNat) H2 [] [] rfl (by rw [rangeL_len]; simpa using z.2) ⟨F, E2⟩ (itOk_range (by simp))⟩
    · exact o.elim
  · exact o.elim
theorem ei_range2 {f : Rn → Out (List D)} (hm : X.mg "range" = none) (h : EA ca X W [a, b] f) (hg : Gl X "range" := by rfl) (hs : starEach [a, b] X.env = [(false, eval a X.env), (false, eval b X.env)] := by rfl) (hs2 : starEach [b] X.env = [(false, eval b X.env)] := by rfl) :
    EI ca X W tg (.Call (.Name "range" p) [a, b] [] pos) (fun ρ => (f ρ).bind range2) := by
  obtain ⟨ta, pa, ha⟩ := h
  refine ⟨_, pi_range2 hg hm pa hs hs2, fun H0 Fa ts us ρ σ H R hl E o => ha H0 Fa ts us ρ σ H _ hl E (o.bind.imp (fun ds o vs H2 F E2 i => ?_) fun n q => q)⟩
  unfold range2 at o
  split at o
  · rename_i j k
    split at o
    · rename_i z
      obtain ⟨v, v', rfl, iv, iv'⟩ := isL_2 i
      rw [is_int.mp iv, is_int.mp iv']
      exact ⟨j, k, rfl, ⟨z.1.1.1, z.1.1.2, z.1.2.1, z.1.2.2⟩, o (Itr j (k - j).toNat) H2 [] [] rfl (by rw [rangeL_len]; exact z.2) ⟨F, E2⟩ (itOk_range rfl)⟩
    · exact o.elim
  · exact o.elim
def zipL (ds es : List D) : List D := List.zipWith (fun a b => D.tup [a, b]) ds es
theorem zipL_get {ds es : List D} {i : Nat} {d : D} (h : (zipL ds es)[i]? = some d) : ∃ x y, ds[i]? = some x ∧ es[i]? = some y ∧ d = .tup [x, y] := by
  unfold zipL at h
  rw [List.getElem?_zipWith] at h
  cases e1 : ds[i]? with
  | none => rw [e1] at h; simp at h
  | some x =>
    cases e2 : es[i]? with
    | none => rw [e1, e2] at h; simp at h
    | some y =>
      rw [e1, e2] at h
      exact ⟨x, y, rfl, rfl, (Option.some.inj h).symm⟩
theorem zipL_len {ds es : List D} {i : Nat} (h : (zipL ds es).length ≤ i) : ds.length ≤ i ∨ es.length ≤ i := by
  unfold zipL at h
  rw [List.length_zipWith] at h
  omega
/-- a pair laid anew -/
theorem pair_new {K : PySem.W.Frag} {H0 H : Hp} {Fa F : List Addr} {ρ : Rn} {σ : L2.St} {T : Addr} {x y : V} {d e : D} (E : EnvF ca K H0 Fa ρ σ H F) (hT : H T = none) (i1 : Is ca K (cut H (Fa ++ F)) d x) (i2 : Is ca K (cut H (Fa ++ F)) e y) :
    EnvF ca K H0 Fa ρ σ (upd H T (.tup [x, y])) F ∧ Is ca K (cut (upd H T (.tup [x, y])) (Fa ++ F)) (.tup [d, e]) (.ref T) := by
  have k : ∀ a u, H a = some u → (upd H T (.tup [x, y])) a = some u := fun a u q => by rw [upd_ne (ne_of_none q hT)]; exact q
  have E2 := E.same k
  have nT : T ∉ Fa ++ F := fun z => (E.muG T z).ne hT
  have l : Le (cut H (Fa ++ F)) (cut (upd H T (.tup [x, y])) (Fa ++ F)) := (Le.of_same k).cut (fun _ n _ => n) fun a ha => (E2.muG a ha).ne
  exact ⟨E2, is_tup.mpr ⟨T, [x, y], rfl, (cut_out nT).trans upd_same, IsL.cons (i1.le l) (IsL.cons (i2.le l) IsL.nil)⟩⟩
theorem sq_whole {K : PySem.W.Frag} {H : Hp} {G : List Addr} {a : Addr} {vs : List V} (h : SqL K (cut H G) a vs) : SqL K H a vs := by
  rcases h with h | h
  · exact .inl (rd_cut h).2
  · exact .inr h
def lstD (t : Bool) (ds : List D) : D := match t with
  | true => .tup ds
  | false => .lst ds
theorem is_lstD {K : PySem.W.Frag} {H : Hp} {G : List Addr} {t : Bool} {ds : List D} {v : V} (h : Is ca K (cut H G) (lstD t ds) v) : ∃ a vs, v = .ref a ∧ SqG t K H a vs ∧ IsL ca K (cut H G) ds vs := by
  cases t with
  | true => obtain ⟨a, vs, e, hq, r⟩ := is_tup.mp h; exact ⟨a, vs, e, .inl (.inl (cut_some hq).2), r⟩
  | false => obtain ⟨a, vs, e, hq, r⟩ := is_lst.mp h; exact ⟨a, vs, e, sq_whole hq, r⟩
theorem itOk_zipG {K : PySem.W.Frag} {t1 t2 : Bool} {a b : Addr} {ds es : List D} : ItOk ca K (ItzG t1 t2 K a b) (zipL ds es) [some (.dat (lstD t1 ds)), some (.dat (lstD t2 es))] [some (.ref a), some (.ref b)] := by
  intro H0 Fa pre pus ρ σ H F i hp E
  have i1 := EnvF.at0 (ρ := _ :: ρ) (σ := _ :: σ) E hp
  have i2 := EnvF.at1 E hp
  obtain ⟨a', vs, ea, q1, r⟩ := is_lstD i1
  cases ea
  obtain ⟨b', ws, eb, q2, r2⟩ := is_lstD i2
  cases eb
  refine ⟨fun d hd => ?_, fun h => ⟨vs, ws, q1, q2, by rw [← r.len, ← r2.len]; exact zipL_len h⟩⟩
  obtain ⟨x, y, hx, hy, rfl⟩ := zipL_get hd
  obtain ⟨u, hu, iu⟩ := r.get hx
  obtain ⟨w, hw, iw⟩ := r2.get hy
  refine ⟨⟨vs, ws, u, w, q1, q2, hu, hw⟩, fun z H' ⟨T, x', y', ez, hT, eH, f1, f2⟩ => ?_⟩
  subst ez eH
  have e1 := f1 vs q1
  have e2 := f2 ws q2
  rw [hu] at e1; rw [hw] at e2
  cases e1; cases e2
  exact pair_new E hT iu iw
def seqB : D → Option (Bool × List D)
  | .lst ds => some (false, ds)
  | .tup ds => some (true, ds)
  | _ => none
theorem seqB_eq {d : D} {t : Bool} {ds : List D} (h : seqB d = some (t, ds)) : d = lstD t ds := by
  cases d <;> cases h <;> rfl
def zip2 : List D → Out (List D)
  | [d, e] => match seqB d, seqB e with
    | some (_, ds), some (_, es) => .ok (zipL ds es)
    | _, _ => .stuck
  | _ => .stuck
theorem ei_zip {elts : List Expr} {kk : Nat} {tpos : Pos} {f : Rn → Out (List D)} (hm : X.mg "zip" = none) (h : EA ca X W [a, b] f) (hg : Gl X "zip" := by rfl)
    (hs : starEach [a, b] X.env = (false, eval a X.env) :: starEach [b] X.env := by rfl) (hpl : (backTo pos (starEach [b] X.env)).any (·.1) = false := by rfl) :
    EI ca X W (.Tuple elts kk tpos) (.Call (.Name "zip" p) [a, b] [] pos) (fun ρ => (f ρ).bind zip2) := by
  obtain ⟨ta, pa, ha⟩ := h
  refine ⟨_, pi_zipG hg hm (PA.facts pa) hs hpl, fun H0 Fa ts us ρ σ H R hl E o => ha H0 Fa ts us ρ σ H _ hl E (o.bind.imp (fun ds o vs H2 F E2 i fz => ?_) fun n q => q)⟩
  unfold zip2 at o
  split at o
  · split at o
    · rename_i d e t1 x1 t2 x2 h1 h2
      rw [seqB_eq h1, seqB_eq h2] at i
      obtain ⟨v, v', rfl, i1, i2⟩ := isL_2 i
      obtain ⟨a', vs, rfl, hq, r⟩ := is_lstD i1
      obtain ⟨b', ws, rfl, hq2, r2⟩ := is_lstD i2
      exact ⟨_, _, a', b', vs, ws, rfl, hq, hq2, o (ItzG t1 t2 X.K a' b') H2 [some (.dat (lstD t1 x1)), some (.dat (lstD t2 x2))] [some (.ref a'), some (.ref b')] rfl (by
        have z1 : x1.length ≤ sizeLine := by
          rw [r.len]
          cases t1 with
          | true => exact fz.t a' vs hq
          | false => exact fz.l a' vs hq
        unfold zipL
        rw [List.length_zipWith]
        omega) ⟨F, (E2.top i2).top i1⟩ itOk_zipG⟩
    · exact o.elim
  · exact o.elim

/-! ### comprehensions -/
/-- the slots as a comprehension's block sees them: data alone, its own names empty -/
def wipeR (vs : List Nat) (ρ : Rn) : Rn := (List.range ρ.length).map fun j => if j ∈ vs then none else match ρ[j]? with
  | some (some (.dat d)) => some (.dat d)
  | _ => none
theorem wipe_get {σ : L2.St} {j : Nat} : ∀ {vs : List Nat}, j ∉ vs → (wipe σ vs)[j]? = σ[j]?
  | [], _ => rfl
  | v :: vs, h => by
    unfold wipe
    simp only [List.mem_cons, not_or] at h
    rw [List.getElem?_set_ne (fun e => h.1 e.symm)]
    exact wipe_get h.2
theorem wipe_at {σ : L2.St} {j : Nat} (hj : j < σ.length) : ∀ {vs : List Nat}, j ∈ vs → (wipe σ vs)[j]? = some none
  | [], h => by cases h
  | v :: vs, h => by
    unfold wipe
    by_cases e : v = j
    · subst e
      rw [List.getElem?_set_self (by rw [wipe_length]; exact hj)]
    · rw [List.getElem?_set_ne e]
      exact wipe_at hj (by rcases List.mem_cons.mp h with z | z; exact absurd z.symm e; exact z)
theorem wipe_same {σ σ' : L2.St} {vs : List Nat} (hl : σ'.length = σ.length) (h : ∀ j, j ∉ vs → σ'[j]? = σ[j]?) : wipe σ' vs = wipe σ vs := by
  refine List.ext_getElem? fun j => ?_
  by_cases hj : j ∈ vs
  · by_cases hlt : j < σ.length
    · rw [wipe_at hlt hj, wipe_at (by rw [hl]; exact hlt) hj]
    · rw [List.getElem?_eq_none (by rw [wipe_length, hl]; omega), List.getElem?_eq_none (by rw [wipe_length]; omega)]
  · rw [wipe_get hj, wipe_get hj, h j hj]
theorem wipe_wipe {σ : L2.St} {vs : List Nat} : wipe (wipe σ vs) vs = wipe σ vs := wipe_same (wipe_length _ _) fun j hj => wipe_get hj
theorem OwS.data {K : PySem.W.Frag} {G : List Addr} {H : Hp} : ∀ {ρ : Rn} {σ : L2.St}, ρ.length = σ.length → (∀ (j : Nat) (m : M), ρ[j]? = some (some m) → ∃ d v, m = .dat d ∧ σ[j]? = some (some v) ∧ Is ca K (cut H G) d v) → OwS ca K G H ρ σ []
  | [], [], _, _ => OwS.nil
  | o :: ρ, w :: σ, hl, h => by
    have r : OwS ca K G H ρ σ [] := OwS.data (by simpa using hl) fun j m q => by
      obtain ⟨d, v, e1, e2, i⟩ := h (j + 1) m (by simpa using q)
      exact ⟨d, v, e1, by simpa using e2, i⟩
    refine OwS.cons (F1 := []) ?_ r
    cases o with
    | none => exact rfl
    | some m =>
      obtain ⟨d, v, rfl, e2, i⟩ := h 0 m rfl
      have e2 : w = some v := Option.some.inj e2
      exact ⟨v, e2, ow_dat.mpr ⟨rfl, i⟩⟩
  | [], _ :: _, hl, _ => by simp at hl
  | _ :: _, [], hl, _ => by simp at hl
theorem wipeR_len {vs : List Nat} {ρ : Rn} : (wipeR vs ρ).length = ρ.length := by unfold wipeR; simp
theorem EnvF.block {K : PySem.W.Frag} {H0 H : Hp} {Fa F : List Addr} {ts ρ : Rn} {us σ : L2.St} (E : EnvF ca K H0 Fa (ts ++ ρ) (us ++ σ) H F) (hl : ts.length = us.length) (vs : List Nat) : EnvF ca K H0 Fa ((ts ++ ρ) ++ wipeR vs ρ) ((us ++ σ) ++ wipe σ vs) H F := by
  have len := E.own.len
  simp only [List.length_append] at len
  have q : OwS ca K (Fa ++ F) H (wipeR vs ρ) (wipe σ vs) [] := OwS.data (by rw [wipeR_len, wipe_length]; omega) fun j m q => by
    unfold wipeR at q
    rw [List.getElem?_map] at q
    by_cases hj : j < ρ.length
    · rw [List.getElem?_range hj] at q
      simp only [Option.map_some] at q
      by_cases hv : j ∈ vs
      · rw [if_pos hv] at q; cases q
      · rw [if_neg hv] at q
        split at q
        · rename_i d hd
          injection q with q
          injection q with q
          subst q
          obtain ⟨v, e, i⟩ := E.get (i := ts.length + j) (by rw [drop_get]; exact hd)
          rw [hl, drop_get] at e
          exact ⟨d, v, rfl, by rw [wipe_get hv]; exact e, i⟩
        · cases q
    · rw [List.getElem?_eq_none (by simpa using hj)] at q; cases q
  have z := E.own.app q
  rw [List.append_nil] at z
  exact ⟨E.le, E.keep, E.mu, E.nd, E.fresh, z⟩
/-- the tests of a comprehension -/
def ETs (ca : Str → Option Addr) (X : Cx) (W : WX) (ifs : List Expr) (t : Rn → Out Bool) : Prop := ∃ tt, PTs X ifs tt ∧ EvB ca X.K W tt t
theorem et_nil : ETs ca X W [] (fun _ => .ok true) := ⟨_, pts_nil, fun H0 Fa ts us ρ σ H Q hl E o => o H E⟩
theorem et_one {t : Rn → Out Bool} (h : EB ca X W a t) : ETs ca X W [a] t := let ⟨_, p, h⟩ := h; ⟨_, pts_one p, h⟩
def compD (g : D → Rn → Out Rn) (t : Rn → Out Bool) (f : Rn → Out D) (ρ : Rn) : List D → Out (List D)
  | [] => .ok []
  | d :: ds => (g d ρ).nx.bind fun ρ1 => (t ρ1).nx.bind fun x => if x then (f ρ1).nx.bind fun y => (compD g t f ρ ds).map (y :: ·) else compD g t f ρ ds
abbrev W0 : WX := fun _ _ _ _ => False
def lcD (fi : Rn → Out (List D)) (vs : List Nat) (g : D → Rn → Out Rn) (t : Rn → Out Bool) (f : Rn → Out D) (ρ : Rn) : Out M := (fi ρ).bind fun ds => (compD g t f (wipeR vs ρ) ds).nx.bind fun ys => .ok (.lst (ys.map .dat))
theorem compD_len {g : D → Rn → Out Rn} {t : Rn → Out Bool} {f : Rn → Out D} {ρ : Rn} : ∀ {ds ys : List D}, compD g t f ρ ds = .ok ys → ys.length ≤ ds.length
  | [], ys, h => by
    cases h
    exact Nat.le_refl _
  | d :: ds, ys, h => by
    unfold compD at h
    cases e1 : (g d ρ).nx with
    | stuck => rw [e1] at h; cases h
    | exc n => rw [e1] at h; cases h
    | ok ρ1 =>
      rw [e1] at h
      simp only [bind_ok] at h
      cases e2 : (t ρ1).nx with
      | stuck => rw [e2] at h; cases h
      | exc n => rw [e2] at h; cases h
      | ok x =>
        rw [e2] at h
        simp only [bind_ok] at h
        cases x with
        | false => exact Nat.le_succ_of_le (compD_len (ys := ys) (by simpa using h))
        | true =>
          simp only [if_true] at h
          cases e3 : (f ρ1).nx with
          | stuck => rw [e3] at h; cases h
          | exc n => rw [e3] at h; cases h
          | ok y =>
            rw [e3] at h
            simp only [bind_ok] at h
            cases e4 : compD g t f ρ ds with
            | stuck => rw [e4] at h; cases h
            | exc n => rw [e4] at h; cases h
            | ok zs =>
              rw [e4] at h
              cases h
              have := compD_len e4
              simp only [List.length_cons]
              omega
theorem compD_get {g : D → Rn → Out Rn} {t : Rn → Out Bool} {f : Rn → Out D} {ρ : Rn} : ∀ {ds : List D} {i : Nat} {d : D}, ds[i]? = some d → ds.drop i = d :: ds.drop (i + 1) := fun {ds i d} h => by
  obtain ⟨hlt, e⟩ := List.getElem?_eq_some_iff.mp h
  rw [List.drop_eq_getElem_cons hlt, e]
theorem lc_den {K : PySem.W.Frag} {wi : TI} {tt : TG} {tte : TT} {te : TE} {is vs : List Nat} {fi : Rn → Out (List D)} {g : D → Rn → Out Rn} {t : Rn → Out Bool} {f : Rn → Out D} (hi : ItM ca K W wi fi) (hg : TgI ca K tt is g) (ht : EvB ca K W0 tte t) (he : EvD ca K W0 te f) (hsub : ∀ j ∈ is, j ∈ vs) :
    EvM ca K W (tLc wi tt tte te vs) (lcD fi vs g t f) := by
  intro H0 Fa ts us ρ σ H Q hl E o
  refine hi H0 Fa ts us ρ σ H _ hl E (OutE.bind o |>.imp (fun ds o Jt H1 ms ws hm hsz E1 ok Dl hD => ?_) fun n q => q)
  cases eC : compD g t f (wipeR vs ρ) ds with
  | stuck => rw [eC] at o; exact o.elim
  | exc n => rw [eC] at o; exact o.elim
  | ok ys =>
    rw [eC] at o
    have hz : ys.length ≤ sizeLine := Nat.le_trans (compD_len eC) hsz
    · 
      have o : ∀ v H2, Env ca K H0 Fa (some (.lst (ys.map .dat)) :: (ts ++ ρ)) (some v :: (us ++ σ)) H2 → Q v H2 := o
      obtain ⟨F1, E1⟩ := E1
      -- the block's stack
      have E1b : EnvF ca K H0 Fa ((ms ++ (ts ++ ρ)) ++ wipeR vs ρ) ((ws ++ (us ++ σ)) ++ wipe σ vs) H1 F1 := by
        have q := EnvF.block (ts := ms ++ ts) (us := ws ++ us) (ρ := ρ) (σ := σ) (by rw [List.append_assoc, List.append_assoc]; exact E1) (by simp [hl, hm]) vs
        simpa only [List.append_assoc] using q
      have hnG : Dl ∉ Fa ++ F1 := fun z => (E1.muG Dl z).ne hD
      have E2 : EnvF ca K H0 Fa (some (.lst (([] : List D).map .dat)) :: ((ms ++ (ts ++ ρ)) ++ wipeR vs ρ)) (some (.ref Dl) :: ((ws ++ (us ++ σ)) ++ wipe σ vs)) (upd H1 Dl (.lst [])) ([Dl] ++ F1) :=
        E1b.push (F' := [Dl]) (Le.new hD) (fun a ha => upd_ne fun e => hnG (e ▸ ha)) (by simp) (fun a ha => by
          have e : a = Dl := by simpa using ha
          subst e; exact hD) (ow_lst.mpr ⟨Dl, [], [], rfl, upd_same, owL_nil.mpr ⟨rfl, rfl⟩, rfl⟩)
      have lenB : ((ms ++ (ts ++ ρ)) ++ wipeR vs ρ).length = ((ws ++ (us ++ σ)) ++ wipe σ vs).length := E1b.own.len
      refine ⟨fun i n H' => ∃ done, n = ds.length - i ∧ Env ca K H0 Fa (some (.lst (done.map .dat)) :: ((ms ++ (ts ++ ρ)) ++ wipeR vs ρ)) (some (.ref Dl) :: ((ws ++ (us ++ σ)) ++ wipe σ vs)) H' ∧ ∃ rest, compD g t f (wipeR vs ρ) (ds.drop i) = .ok rest ∧ ys = done ++ rest,
        ⟨_, [], rfl, ⟨_, E2⟩, ys, by simpa using eC, rfl⟩, ?_⟩
      rintro i n H' ⟨done, rfl, ⟨F', E'⟩, rest, hrest, hys⟩
      have E'' : EnvF ca K H0 Fa ([some (.lst (done.map .dat))] ++ (ms ++ ((ts ++ ρ) ++ wipeR vs ρ))) ([some (.ref Dl)] ++ (ws ++ ((us ++ σ) ++ wipe σ vs))) H' F' := by simpa only [List.append_assoc, List.singleton_append, List.cons_append, List.nil_append] using E'
      obtain ⟨hgo, hstop⟩ := ok H0 Fa _ _ _ _ H' F' i rfl E''
      by_cases hlt : i < ds.length
      · have hd : ds[i]? = some ds[i] := List.getElem?_eq_getElem hlt
        obtain ⟨go, yl⟩ := hgo _ hd
        refine .inr ⟨go, fun H3 => ∃ done', Env ca K H0 Fa (some (.lst (done'.map .dat)) :: ((ms ++ (ts ++ ρ)) ++ wipeR vs ρ)) (some (.ref Dl) :: ((ws ++ (us ++ σ)) ++ wipe σ vs)) H3 ∧ ∃ rest', compD g t f (wipeR vs ρ) (ds.drop (i + 1)) = .ok rest' ∧ ys = done' ++ rest',
          fun H3 ⟨done', E3, r3⟩ => ⟨ds.length - (i + 1), by omega, done', rfl, E3, r3⟩, fun x H3 hy => ?_⟩
        obtain ⟨E3, ix⟩ := yl x H3 hy
        have E4 : EnvF ca K H0 Fa ((some (.lst (done.map .dat)) :: (ms ++ (ts ++ ρ))) ++ wipeR vs ρ) ((some (.ref Dl) :: (ws ++ (us ++ σ))) ++ wipe σ vs) H3 F' := by simpa only [List.append_assoc, List.singleton_append, List.cons_append, List.nil_append] using E3
        rw [List.drop_eq_getElem_cons hlt] at hrest
        unfold compD at hrest
        have lenT : (some (M.lst (done.map .dat)) :: (ms ++ (ts ++ ρ))).length = (some (V.ref Dl) :: (ws ++ (us ++ σ))).length := by
          have z := E1.own.len
          simp only [List.length_cons]
          omega
        cases eg : g ds[i] (wipeR vs ρ) with
        | stuck => rw [eg] at hrest; cases hrest
        | exc n => rw [eg] at hrest; cases hrest
        | ok ρ1 =>
          rw [eg] at hrest
          have hrest : ((t ρ1).nx.bind fun x => if x then (f ρ1).nx.bind fun y => (compD g t f (wipeR vs ρ) (ds.drop (i + 1))).map (y :: ·) else compD g t f (wipeR vs ρ) (ds.drop (i + 1))) = .ok rest := hrest
          refine hg H0 Fa _ _ _ _ H3 F' ds[i] x _ lenT E4 ix ?_
          rw [eg]
          intro σ1 H5 E5 l5 k5
          have hw : wipe σ1 vs = wipe σ vs := by
            rw [← wipe_wipe (σ := σ)]
            exact wipe_same l5 fun j hj => k5 j fun z => hj (hsub j z)
          refine ⟨hw, ?_⟩
          refine ht H0 Fa _ _ ρ1 σ1 H5 _ lenT E5 ?_
          cases et : t ρ1 with
          | stuck => rw [et] at hrest; cases hrest
          | exc n => rw [et] at hrest; cases hrest
          | ok bb =>
            rw [et] at hrest
            have hrest : (if bb then (f ρ1).nx.bind fun y => (compD g t f (wipeR vs ρ) (ds.drop (i + 1))).map (y :: ·) else compD g t f (wipeR vs ρ) (ds.drop (i + 1))) = .ok rest := hrest
            intro H6 E6
            -- the slots of the block as they were
            have again : ∀ {dn : List D} {H7 : Hp}, Env ca K H0 Fa ((some (.lst (dn.map .dat)) :: (ms ++ (ts ++ ρ))) ++ ρ1) ((some (.ref Dl) :: (ws ++ (us ++ σ))) ++ σ1) H7 → Env ca K H0 Fa (some (.lst (dn.map .dat)) :: ((ms ++ (ts ++ ρ)) ++ wipeR vs ρ)) (some (.ref Dl) :: ((ws ++ (us ++ σ)) ++ wipe σ vs)) H7 := fun {dn H7} E7 => by
              obtain ⟨F8, E8⟩ := Env.head (by have z := E1.own.len; simp only [List.length_cons]; omega) E7
              have q := EnvF.block (ts := some (.lst (dn.map .dat)) :: (ms ++ ts)) (us := some (.ref Dl) :: (ws ++ us)) (ρ := ρ) (σ := σ) (F := F8) (by simpa only [List.append_assoc, List.cons_append] using E8) (by simp [hl, hm]) vs
              exact ⟨F8, by simpa only [List.append_assoc, List.cons_append] using q⟩
            cases bb with
            | false =>
              simp only [Bool.false_eq_true, if_false] at hrest ⊢
              exact ⟨done, again E6, rest, hrest, hys⟩
            | true =>
              simp only [if_true] at hrest ⊢
              refine he H0 Fa _ _ ρ1 σ1 H6 _ lenT E6 ?_
              cases ef : f ρ1 with
              | stuck => rw [ef] at hrest; cases hrest
              | exc n => rw [ef] at hrest; cases hrest
              | ok y =>
                rw [ef] at hrest
                have hrest : (compD g t f (wipeR vs ρ) (ds.drop (i + 1))).map (y :: ·) = .ok rest := hrest
                intro yv H7 F7 E7 iy
                cases ec : compD g t f (wipeR vs ρ) (ds.drop (i + 1)) with
                | stuck => rw [ec] at hrest; cases hrest
                | exc n => rw [ec] at hrest; cases hrest
                | ok rest' =>
                  rw [ec] at hrest
                  have er : y :: rest' = rest := by
                    have z : Out.ok (y :: rest') = Out.ok rest := hrest
                    injection z
                  obtain ⟨l, xs, e1, e2, e3, e4⟩ := E7.append (i := 0) (ms := done.map .dat) rfl iy
                  have el : Dl = l := by
                    injection e1 with e1
                    injection e1 with e1
                    injection e1
                  subst el
                  refine ⟨xs, e2, ?_, done ++ [y], again (dn := done ++ [y]) ?_, rest', rfl, by rw [hys, ← er, List.append_assoc]; rfl⟩
                  · rw [e3, List.length_map]
                    have z : ys.length = done.length + rest.length := by rw [hys, List.length_append]
                    rw [← er, List.length_cons] at z
                    omega
                  · rw [List.map_append]
                    exact e4
      · refine .inl ⟨hstop (by omega), o _ _ ?_⟩
        rw [List.drop_eq_nil_of_le (by omega)] at hrest
        have er : rest = [] := by
          have z : Out.ok [] = Out.ok rest := hrest
          injection z with z
          exact z.symm
        rw [hys, er, List.append_nil]
        have q : Env ca K H0 Fa ([some (.lst (done.map .dat))] ++ (ms ++ ((ts ++ ρ) ++ wipeR vs ρ))) ([some (.ref Dl)] ++ (ws ++ ((us ++ σ) ++ wipe σ vs))) H' := ⟨F', E''⟩
        have q2 := Env.part (A := [some (.lst (done.map .dat))]) (a := [some (.ref Dl)]) rfl hm q
        have lenS : (ts ++ ρ).length = (us ++ σ).length := by
          have z := E1.own.len
          simp only [List.length_append] at z ⊢
          omega
        have q3 : Env ca K H0 Fa (([some (.lst (done.map .dat))] ++ (ts ++ ρ)) ++ wipeR vs ρ) (([some (.ref Dl)] ++ (us ++ σ)) ++ wipe σ vs) H' := by simpa only [List.append_assoc] using q2
        exact Env.head (by simp only [List.length_append, List.length_cons, List.length_nil] at lenS ⊢; omega) q3
/-- [elt for target in iter if ..] -/
theorem em_lc {k : Nat} {elt iter : Expr} {ifs : List Expr} {scope : Scope} {own : List (Str × Nat)} {is : List Nat} {fi : Rn → Out (List D)} {g : D → Rn → Out Rn} {t : Rn → Out Bool} {f : Rn → Out D} {tt : TG} {tte : TT} {te : TE} (J : JX X W k) (hi : EI ca X W tg iter fi) (ok : BlkOk X.N X.env.scope scope own)
    (hgp : ∀ (s : Shared) (H : Hp) (C : Addr) (cl : List (Str × Addr)) (fp : List Addr), PG (X.blk s H scope (compEnvC scope cl C X.env) fp) tg tt) (hg : TgI ca X.K tt is g)
    (htp : ∀ (s : Shared) (H : Hp) (C : Addr) (cl : List (Str × Addr)) (fp : List Addr), PTs (X.blk s H scope (compEnvC scope cl C X.env) fp) ifs tte) (ht : EvB ca X.K W0 tte t)
    (hep : ∀ (s : Shared) (H : Hp) (C : Addr) (cl : List (Str × Addr)) (fp : List Addr), PE (X.blk s H scope (compEnvC scope cl C X.env) fp) elt te) (he : EvD ca X.K W0 te f) (hsub : ∀ j ∈ is, j ∈ own.map (·.2)) (hs : ∀ x, foldedSetIterable iter X.env x = pure x := by intro _; rfl) :
    EM ca X W (.ListComp elt [⟨tg, iter, ifs, 0⟩] scope pos) (lcD fi (own.map (·.2)) g t f) := by
  obtain ⟨wi, pi, hi⟩ := hi
  exact ⟨_, pe_lc J.calm J.nd pi ok hgp htp hep hs, lc_den hi hg ht he hsub⟩
end
end DA
set_option maxHeartbeats 4000000
/-! DA7: operators and built-ins on data -/
namespace DA
open PySem PySem.Spec PyProof.Rows L2

section
variable {ca : Str → Option Addr} {X : Cx} {W : WX} {e a b c tg : Expr} {es : List Expr} {pos p apos : Pos} {x m : Str} {K : PySem.W.Frag}

/-- a family of readings read as one -/
theorem em_lcF {k : Nat} {elt iter : Expr} {ifs : List Expr} {scope : Scope} {own : List (Str × Nat)} {is : List Nat} {fi : Rn → Out (List D)} {g : D → Rn → Out Rn} {t : Rn → Out Bool} {f : Rn → Out D} (J : JX X W k) (hi : EI ca X W tg iter fi) (ok : BlkOk X.N X.env.scope scope own)
    (hg : ∀ (s : Shared) (H : Hp) (C : Addr) (cl : List (Str × Addr)) (fp : List Addr), JX (X.blk s H scope (compEnvC scope cl C X.env) fp) W0 k → TGi ca (X.blk s H scope (compEnvC scope cl C X.env) fp) tg is g)
    (ht : ∀ (s : Shared) (H : Hp) (C : Addr) (cl : List (Str × Addr)) (fp : List Addr), JX (X.blk s H scope (compEnvC scope cl C X.env) fp) W0 k → ETs ca (X.blk s H scope (compEnvC scope cl C X.env) fp) W0 ifs t)
    (he : ∀ (s : Shared) (H : Hp) (C : Addr) (cl : List (Str × Addr)) (fp : List Addr), JX (X.blk s H scope (compEnvC scope cl C X.env) fp) W0 k → ED ca (X.blk s H scope (compEnvC scope cl C X.env) fp) W0 elt f)
    (hsub : ∀ j ∈ is, j ∈ own.map (·.2)) (hs : ∀ x, foldedSetIterable iter X.env x = pure x := by intro _; rfl) :
    EM ca X W (.ListComp elt [⟨tg, iter, ifs, 0⟩] scope pos) (lcD fi (own.map (·.2)) g t f) := by
  have jb : ∀ (s : Shared) (H : Hp) (C : Addr) (cl : List (Str × Addr)) (fp : List Addr), JX (X.blk s H scope (compEnvC scope cl C X.env) fp) W0 k := fun s H C cl fp => ⟨J.calm, takes0, J.nd, PassesOwn.never, J.room⟩
  have g1 := fun (z : Shared × Hp × Addr × List (Str × Addr) × List Addr) => hg z.1 z.2.1 z.2.2.1 z.2.2.2.1 z.2.2.2.2 (jb _ _ _ _ _)
  have t1 := fun (z : Shared × Hp × Addr × List (Str × Addr) × List Addr) => ht z.1 z.2.1 z.2.2.1 z.2.2.2.1 z.2.2.2.2 (jb _ _ _ _ _)
  have e1 := fun (z : Shared × Hp × Addr × List (Str × Addr) × List Addr) => he z.1 z.2.1 z.2.2.1 z.2.2.2.1 z.2.2.2.2 (jb _ _ _ _ _)
  refine em_lc (tt := fun v σ H Q => ∀ z, Classical.choose (g1 z) v σ H Q) (tte := fun σ H Q => ∀ z, Classical.choose (t1 z) σ H Q) (te := fun σ H Q => ∀ z, Classical.choose (e1 z) σ H Q) J hi ok ?_ ?_ ?_ ?_ ?_ ?_ hsub hs
  · intro s H C cl fp
    have q := (Classical.choose_spec (g1 (s, H, C, cl, fp))).1
    exact ⟨fun pins s1 σ H1 v u Q I r h => q.run pins s1 σ H1 v u Q I r (h (s, H, C, cl, fp))⟩
  · intro H0 Fa ts us ρ σ H F d v Q hl E i o z
    exact (Classical.choose_spec (g1 z)).2 H0 Fa ts us ρ σ H F d v Q hl E i o
  · intro s H C cl fp
    have q := (Classical.choose_spec (t1 (s, H, C, cl, fp))).1
    exact ⟨fun pins s1 σ H1 Q I h => q.run pins s1 σ H1 Q I (h (s, H, C, cl, fp))⟩
  · intro H0 Fa ts us ρ σ H Q hl E o z
    exact (Classical.choose_spec (t1 z)).2 H0 Fa ts us ρ σ H Q hl E o
  · intro s H C cl fp
    have q := (Classical.choose_spec (e1 (s, H, C, cl, fp))).1
    exact ⟨fun pins s1 σ H1 Q I h => q.run pins s1 σ H1 Q I (h (s, H, C, cl, fp))⟩
  · intro H0 Fa ts us ρ σ H Q hl E o z
    exact (Classical.choose_spec (e1 z)).2 H0 Fa ts us ρ σ H Q hl E o

/-! ### ints -/
def intOp (C : Int → Int → Prop) [∀ i j, Decidable (C i j)] (g : Int → Int → D) : D → D → Out D
  | .int i, .int j => if C i j then .ok (g i j) else .stuck
  | _, _ => .stuck
def intOp0 (g : Int → Int → D) : D → D → Out D
  | .int i, .int j => .ok (g i j)
  | _, _ => .stuck
/-- flat answers, as values -/
theorem opd_int {C : Int → Int → Prop} [∀ i j, Decidable (C i j)] {C' : Int → Int → Prop} {g : Int → Int → D} {g' : Int → Int → V} (hC : ∀ i j, C i j → C' i j) (hg : ∀ H i j, Is ca K H (g i j) (g' i j)) : OpD ca K (rI C' g') (intOp C g) := by
  intro G H d1 d2 v1 v2 Q mu i1 i2 o
  unfold intOp at o
  split at o
  · rename_i i j
    split at o
    · rename_i z
      exact ⟨i, j, is_int.mp i1, is_int.mp i2, hC i j z, o _ H (fun _ _ h => h) (hg _ i j)⟩
    · exact o.elim
  · exact o.elim
theorem opd_int0 {g : Int → Int → D} {g' : Int → Int → V} (hg : ∀ H i j, Is ca K H (g i j) (g' i j)) : OpD ca K (rI0 g') (intOp0 g) := by
  intro G H d1 d2 v1 v2 Q mu i1 i2 o
  unfold intOp0 at o
  split at o
  · rename_i i j
    exact ⟨i, j, is_int.mp i1, is_int.mp i2, o _ H (fun _ _ h => h) (hg _ i j)⟩
  · exact o.elim
def bits (i : Int) : Nat := Builtin.Int.intBits i
def MulC (i j : Int) : Prop := bits i ≤ 64 ∨ bits j ≤ 64 ∨ bits i + bits j ≤ 134217728
noncomputable instance (i j : Int) : Decidable (MulC i j) := Classical.propDecidable _
theorem MulC.ok {i j : Int} (h : MulC i j) : IntMulOk i j := by
  rcases h with h | h | h
  · exact .of_left h
  · exact .of_right h
  · exact .of_le (m := bits i) (n := bits j) (Nat.le_refl _) (Nat.le_refl _) h
theorem op_mulG : OpR X (binaryOp .Mult) (rI MulC fun i j => .int (i * j)) := opI fun _ _ _ _ _ _ _ hc q => mul_int q hc.ok
def DivC (_ j : Int) : Prop := j ≠ 0 ∧ j.natAbs.log2 < 9000
noncomputable instance (i j : Int) : Decidable (DivC i j) := Classical.propDecidable _
theorem op_fdivG : OpR X (binaryOp .FloorDiv) (rI DivC fun i j => .int (i.fdiv j)) := opI fun i j _ _ _ _ _ hc q => floordiv_int hc.1 q (.inl (PyProof.noPylong_of_log2 hc.2))
def NzC (_ j : Int) : Prop := j ≠ 0
noncomputable instance (i j : Int) : Decidable (NzC i j) := Classical.propDecidable _
def PowC (i j : Int) : Prop := 0 ≤ j ∧ j ≤ 1000000 ∧ i.natAbs < 2 ^ 64
noncomputable instance (i j : Int) : Decidable (PowC i j) := Classical.propDecidable _
def dAddI : D → D → Out D := intOp0 fun i j => .int (i + j)
def dSub : D → D → Out D := intOp0 fun i j => .int (i - j)
noncomputable def dMul : D → D → Out D := intOp MulC fun i j => .int (i * j)
noncomputable def dDiv : D → D → Out D := intOp DivC fun i j => .int (i.fdiv j)
noncomputable def dMod : D → D → Out D := intOp NzC fun i j => .int (i.fmod j)
noncomputable def dPow : D → D → Out D := intOp PowC fun i j => .int (i ^ j.toNat)
def bin (h : D → D → Out D) (f g : Rn → Out D) (ρ : Rn) : Out D := (f ρ).bind fun x => (g ρ).bind fun y => (h x y).nx
theorem ed_addI {f g : Rn → Out D} (ha : ED ca X W a f) (hb : ED ca X W b g) : ED ca X W (.BinOp a .Add b pos) (bin dAddI f g) := ed_op op_add (opd_int0 fun _ _ _ => is_int.mpr rfl) ha hb
theorem ed_sub {f g : Rn → Out D} (ha : ED ca X W a f) (hb : ED ca X W b g) : ED ca X W (.BinOp a .Sub b pos) (bin dSub f g) := ed_op op_sub (opd_int0 fun _ _ _ => is_int.mpr rfl) ha hb
theorem ed_mul {f g : Rn → Out D} (ha : ED ca X W a f) (hb : ED ca X W b g) : ED ca X W (.BinOp a .Mult b pos) (bin dMul f g) := ed_op op_mulG (opd_int (fun _ _ h => h) fun _ _ _ => is_int.mpr rfl) ha hb
theorem ed_div {f g : Rn → Out D} (ha : ED ca X W a f) (hb : ED ca X W b g) : ED ca X W (.BinOp a .FloorDiv b pos) (bin dDiv f g) := ed_op op_fdivG (opd_int (fun _ _ h => h) fun _ _ _ => is_int.mpr rfl) ha hb
theorem ed_mod {f g : Rn → Out D} (ha : ED ca X W a f) (hb : ED ca X W b g) : ED ca X W (.BinOp a .Mod b pos) (bin dMod f g) := ed_op op_modN (opd_int (fun _ _ h => h) fun _ _ _ => is_int.mpr rfl) ha hb
theorem ed_pow {f g : Rn → Out D} (ha : ED ca X W a f) (hb : ED ca X W b g) : ED ca X W (.BinOp a .Pow b pos) (bin dPow f g) := ed_op op_pow (opd_int (fun _ _ h => h) fun _ _ _ => is_int.mpr rfl) ha hb
def dNeg : D → Out D
  | .int i => .ok (.int (-i))
  | _ => .stuck
def una (h : D → Out D) (f : Rn → Out D) (ρ : Rn) : Out D := (f ρ).bind fun x => (h x).nx
theorem ed_neg {f : Rn → Out D} (ha : ED ca X W a f) : ED ca X W (.UnaryOp .USub a pos) (una dNeg f) := ed_un un_neg (fun G H d1 v1 Q mu i1 o => by
  unfold dNeg at o
  split at o
  · rename_i i
    exact ⟨i, is_int.mp i1, o _ H (fun _ _ h => h) (is_int.mpr rfl)⟩
  · exact o.elim) ha

/-! ### comparisons -/
def dLt : D → D → Out D := intOp0 fun i j => .bl (decide (i < j))
def dLe : D → D → Out D := intOp0 fun i j => .bl (decide (i ≤ j))
def dGt : D → D → Out D := intOp0 fun i j => .bl (decide (j < i))
def dGe : D → D → Out D := intOp0 fun i j => .bl (decide (j ≤ i))
def tst (h : D → D → Out D) (f g : Rn → Out D) (ρ : Rn) : Out Bool := (f ρ).bind fun x => (g ρ).bind fun y => (h x y).nx.bind asB
theorem ed_lt {f g : Rn → Out D} (ha : ED ca X W a f) (hb : ED ca X W b g) : ED ca X W (.Compare a [.Lt] [b] pos) (bin dLt f g) := ed_cmp op_lt (opd_int0 fun _ _ _ => is_bl.mpr rfl) ha hb
theorem ed_le {f g : Rn → Out D} (ha : ED ca X W a f) (hb : ED ca X W b g) : ED ca X W (.Compare a [.LtE] [b] pos) (bin dLe f g) := ed_cmp op_le (opd_int0 fun _ _ _ => is_bl.mpr rfl) ha hb
theorem ed_gt {f g : Rn → Out D} (ha : ED ca X W a f) (hb : ED ca X W b g) : ED ca X W (.Compare a [.Gt] [b] pos) (bin dGt f g) := ed_cmp op_gt (opd_int0 fun _ _ _ => is_bl.mpr rfl) ha hb
theorem ed_ge {f g : Rn → Out D} (ha : ED ca X W a f) (hb : ED ca X W b g) : ED ca X W (.Compare a [.GtE] [b] pos) (bin dGe f g) := ed_cmp op_ge (opd_int0 fun _ _ _ => is_bl.mpr rfl) ha hb
theorem eb_lt {f g : Rn → Out D} (ha : ED ca X W a f) (hb : ED ca X W b g) : EB ca X W (.Compare a [.Lt] [b] pos) (tst dLt f g) := eb_cmp op_lt (opd_int0 fun _ _ _ => is_bl.mpr rfl) ha hb
theorem eb_le {f g : Rn → Out D} (ha : ED ca X W a f) (hb : ED ca X W b g) : EB ca X W (.Compare a [.LtE] [b] pos) (tst dLe f g) := eb_cmp op_le (opd_int0 fun _ _ _ => is_bl.mpr rfl) ha hb
theorem eb_gt {f g : Rn → Out D} (ha : ED ca X W a f) (hb : ED ca X W b g) : EB ca X W (.Compare a [.Gt] [b] pos) (tst dGt f g) := eb_cmp op_gt (opd_int0 fun _ _ _ => is_bl.mpr rfl) ha hb
theorem eb_ge {f g : Rn → Out D} (ha : ED ca X W a f) (hb : ED ca X W b g) : EB ca X W (.Compare a [.GtE] [b] pos) (tst dGe f g) := eb_cmp op_ge (opd_int0 fun _ _ _ => is_bl.mpr rfl) ha hb
mutual
/-- as the library's data (no dicts, no instances) -/
def toP : D → Option PyData
  | .non => some .none
  | .bl b => some (.bool b)
  | .int i => some (.int i)
  | .str x => some (.str x)
  | .tup xs => (toPs xs).map .tuple
  | .lst xs => (toPs xs).map .list
  | .dic _ _ => none
  | .dik _ _ => none
  | .obj _ _ _ => none
  | .loc _ => none
def toPs : List D → Option (List PyData)
  | [] => some []
  | d :: ds => (toP d).bind fun q => (toPs ds).map (q :: ·)
end
mutual
theorem dp_of {H : Hp} : ∀ {d : D} {v : V} {q : PyData}, Is ca K H d v → toP d = some q → Dp K H v q
  | .non, _, _, i, h => by rw [is_non.mp i]; rw [toP] at h; cases h; exact .non
  | .bl b, _, _, i, h => by rw [is_bl.mp i]; rw [toP] at h; cases h; exact .bl b
  | .int n, _, _, i, h => by rw [is_int.mp i]; rw [toP] at h; cases h; exact .int n
  | .str x, _, _, i, h => by rw [is_str.mp i]; rw [toP] at h; cases h; exact .str x
  | .tup xs, _, _, i, h => by
    obtain ⟨a, vs, rfl, ha, r⟩ := is_tup.mp i
    rw [toP] at h
    cases e : toPs xs with
    | none => rw [e] at h; cases h
    | some qs =>
      rw [e] at h
      cases h
      exact .tup (.inl (.inl ha)) (dps_of r e)
  | .lst xs, _, _, i, h => by
    obtain ⟨a, vs, rfl, ha, r⟩ := is_lst.mp i
    rw [toP] at h
    cases e : toPs xs with
    | none => rw [e] at h; cases h
    | some qs =>
      rw [e] at h
      cases h
      exact .lst ha (dps_of r e)
  | .dic _ _, _, _, _, h => by rw [toP] at h; cases h
  | .dik _ _, _, _, _, h => by rw [toP] at h; cases h
  | .obj _ _ _, _, _, _, h => by rw [toP] at h; cases h
  | .loc _, _, _, _, h => by rw [toP] at h; cases h
theorem dps_of {H : Hp} : ∀ {ds : List D} {vs : List V} {qs : List PyData}, IsL ca K H ds vs → toPs ds = some qs → DpAll K H vs qs
  | [], _, _, i, h => by rw [isL_nil.mp i]; rw [toPs] at h; cases h; exact .nil
  | d :: ds, _, _, i, h => by
    obtain ⟨v, vs', rfl, i1, r⟩ := isL_cons.mp i
    rw [toPs] at h
    cases e : toP d with
    | none => rw [e] at h; cases h
    | some q =>
      cases e2 : toPs ds with
      | none => rw [e, e2] at h; cases h
      | some qs =>
        rw [e, e2] at h
        cases h
        exact .cons (dp_of i1 e) (dps_of r e2)
end
def eqP (x y : D) : Option Bool := match toP x, toP y with
  | some q, some r => if SeqAt.shaped q && SeqAt.shaped r then some (PyData.eqv q r) else none
  | _, _ => none
def dEq (x y : D) : Out D := match eqP x y with
  | some b => .ok (.bl b)
  | none => .stuck
def dNe (x y : D) : Out D := match eqP x y with
  | some b => .ok (.bl (!b))
  | none => .stuck
theorem opd_eq : OpD ca K (rEqD K) dEq := by
  intro G H d1 d2 v1 v2 Q mu i1 i2 o
  unfold dEq eqP at o
  cases e1 : toP d1 with
  | none => rw [e1] at o; exact o.elim
  | some q =>
    cases e2 : toP d2 with
    | none => rw [e1, e2] at o; exact o.elim
    | some r =>
      rw [e1, e2] at o
      dsimp only at o
      cases hs : SeqAt.shaped q && SeqAt.shaped r with
      | false => rw [hs] at o; exact o.elim
      | true =>
        rw [hs] at o
        obtain ⟨s1, s2⟩ := Bool.and_eq_true_iff.mp hs
        have w := le_of_cut (H := H) (F := G) fun a ha => (mu a ha).ne
        exact ⟨q, r, dp_of (i1.le w) e1, dp_of (i2.le w) e2, s1, s2, o _ H (fun _ _ h => h) (is_bl.mpr rfl)⟩
theorem opd_ne : OpD ca K (rNeD K) dNe := by
  intro G H d1 d2 v1 v2 Q mu i1 i2 o
  unfold dNe eqP at o
  cases e1 : toP d1 with
  | none => rw [e1] at o; exact o.elim
  | some q =>
    cases e2 : toP d2 with
    | none => rw [e1, e2] at o; exact o.elim
    | some r =>
      rw [e1, e2] at o
      dsimp only at o
      cases hs : SeqAt.shaped q && SeqAt.shaped r with
      | false => rw [hs] at o; exact o.elim
      | true =>
        rw [hs] at o
        obtain ⟨s1, s2⟩ := Bool.and_eq_true_iff.mp hs
        have w := le_of_cut (H := H) (F := G) fun a ha => (mu a ha).ne
        exact ⟨q, r, dp_of (i1.le w) e1, dp_of (i2.le w) e2, s1, s2, o _ H (fun _ _ h => h) (is_bl.mpr rfl)⟩
theorem ed_eq {k : Nat} (J : JX X W k) {f g : Rn → Out D} (ha : ED ca X W a f) (hb : ED ca X W b g) : ED ca X W (.Compare a [.Eq] [b] pos) (bin dEq f g) := ed_cmp (op_eqD J.room.units) opd_eq ha hb
theorem ed_ne {k : Nat} (J : JX X W k) {f g : Rn → Out D} (ha : ED ca X W a f) (hb : ED ca X W b g) : ED ca X W (.Compare a [.NotEq] [b] pos) (bin dNe f g) := ed_cmp (op_neD J.room.units) opd_ne ha hb
theorem eb_eq {k : Nat} (J : JX X W k) {f g : Rn → Out D} (ha : ED ca X W a f) (hb : ED ca X W b g) : EB ca X W (.Compare a [.Eq] [b] pos) (tst dEq f g) := eb_cmp (op_eqD J.room.units) opd_eq ha hb
theorem eb_ne {k : Nat} (J : JX X W k) {f g : Rn → Out D} (ha : ED ca X W a f) (hb : ED ca X W b g) : EB ca X W (.Compare a [.NotEq] [b] pos) (tst dNe f g) := eb_cmp (op_neD J.room.units) opd_ne ha hb
/-- is None -/
def isNon : D → Bool
  | .non => true
  | _ => false
def dIsN (x y : D) : Out D := match y with
  | .non => .ok (.bl (isNon x))
  | _ => .stuck
def dNotN (x y : D) : Out D := match y with
  | .non => .ok (.bl (!isNon x))
  | _ => .stuck
theorem isNon_v {H : Hp} {d : D} {v : V} (i : Is ca K H d v) : decide (v = .non) = isNon d := by
  cases d with
  | non => rw [is_non.mp i]; rfl
  | bl b => rw [is_bl.mp i]; rfl
  | int n => rw [is_int.mp i]; rfl
  | str x => rw [is_str.mp i]; rfl
  | tup xs => obtain ⟨a, vs, rfl, _⟩ := is_tup.mp i; rfl
  | lst xs => obtain ⟨a, vs, rfl, _⟩ := is_lst.mp i; rfl
  | dic ks ds => obtain ⟨a, vs, rfl, _⟩ := is_dic.mp i; rfl
  | dik ks ds => obtain ⟨a, vs, rfl, _⟩ := is_dik.mp i; rfl
  | obj C fs ds => obtain ⟨a, _, _, _, rfl, _⟩ := is_obj.mp i; rfl
  | loc a => rw [is_loc.mp i]; rfl
theorem opd_isN : OpD ca K (fun x y H Q => y = .non ∧ Q (.bl (decide (x = .non))) H) dIsN := by
  intro G H d1 d2 v1 v2 Q mu i1 i2 o
  unfold dIsN at o
  split at o
  · exact ⟨is_non.mp i2, by rw [isNon_v i1]; exact o _ H (fun _ _ h => h) (is_bl.mpr rfl)⟩
  · exact o.elim
theorem opd_notN : OpD ca K (fun x y H Q => y = .non ∧ Q (.bl (!decide (x = .non))) H) dNotN := by
  intro G H d1 d2 v1 v2 Q mu i1 i2 o
  unfold dNotN at o
  split at o
  · exact ⟨is_non.mp i2, by rw [isNon_v i1]; exact o _ H (fun _ _ h => h) (is_bl.mpr rfl)⟩
  · exact o.elim
theorem ed_isN {f g : Rn → Out D} (ha : ED ca X W a f) (hb : ED ca X W b g) : ED ca X W (.Compare a [.Is] [b] pos) (bin dIsN f g) := ed_cmp op_isN opd_isN ha hb
theorem ed_notN {f g : Rn → Out D} (ha : ED ca X W a f) (hb : ED ca X W b g) : ED ca X W (.Compare a [.IsNot] [b] pos) (bin dNotN f g) := ed_cmp op_notN opd_notN ha hb
theorem eb_isN {f g : Rn → Out D} (ha : ED ca X W a f) (hb : ED ca X W b g) : EB ca X W (.Compare a [.Is] [b] pos) (tst dIsN f g) := eb_cmp op_isN opd_isN ha hb
theorem eb_notN {f g : Rn → Out D} (ha : ED ca X W a f) (hb : ED ca X W b g) : EB ca X W (.Compare a [.IsNot] [b] pos) (tst dNotN f g) := eb_cmp op_notN opd_notN ha hb

/-! ### built-ins -/
def calD (h : List D → Out D) (f : Rn → Out (List D)) (ρ : Rn) : Out D := (f ρ).bind fun xs => (h xs).nx
theorem ed_callB {id : String} {r : List V → Hp → VK → Prop} {h : List D → Out D} {f : Rn → Out (List D)} (hc : CallR X (.builtin id) r) (hd : CaD ca X.K r h) (hm : X.mg x = none) (hv : bootBuiltins x = some (.builtin id)) (ha : EA ca X W (e :: es) f) (hg : Gl X x := by rfl) (hn : x ≠ "__name__" := by decide) (hdb : (x == ("__debug__" : Str)) = false := by decide)
    (he : starEach (e :: es) X.env = (false, eval e X.env) :: starEach es X.env := by rfl) (hpl : (backTo pos (starEach es X.env)).any (·.1) = false := by rfl) : ED ca X W (.Call (.Name x p) (e :: es) [] pos) (calD h f) := by
  obtain ⟨ta, pa, ha⟩ := ha
  refine ⟨_, pe_callB hc hg hm hv pa hn hdb he hpl, fun H0 Fa ts us ρ σ H Q hl E o => ?_⟩
  refine ha H0 Fa ts us ρ σ H _ hl E (OutE.bind o |>.imp (fun xs o vs H2 F E2 i => ?_) fun n q => q)
  exact hd (Fa ++ F) H2 xs vs Q E2.muG i (o.nx.imp (fun d o v2 H4 k i4 => o v2 H4 F (E2.same k) i4) fun _ z => z)
theorem ed_callTy {T : String} {r : List V → Hp → VK → Prop} {h : List D → Out D} {f : Rn → Out (List D)} (hc : CallR X (.type T) r) (hd : CaD ca X.K r h) (hm : X.mg x = none) (hv : bootBuiltins x = some (.type T)) (ha : EA ca X W (e :: es) f) (hg : Gl X x := by rfl) (hn : x ≠ "__name__" := by decide) (hdb : (x == ("__debug__" : Str)) = false := by decide)
    (he : starEach (e :: es) X.env = (false, eval e X.env) :: starEach es X.env := by rfl) (hpl : (backTo pos (starEach es X.env)).any (·.1) = false := by rfl) : ED ca X W (.Call (.Name x p) (e :: es) [] pos) (calD h f) := by
  obtain ⟨ta, pa, ha⟩ := ha
  refine ⟨_, pe_callTy hc hg hm hv pa hn hdb he hpl, fun H0 Fa ts us ρ σ H Q hl E o => ?_⟩
  refine ha H0 Fa ts us ρ σ H _ hl E (OutE.bind o |>.imp (fun xs o vs H2 F E2 i => ?_) fun n q => q)
  exact hd (Fa ++ F) H2 xs vs Q E2.muG i (o.nx.imp (fun d o v2 H4 k i4 => o v2 H4 F (E2.same k) i4) fun _ z => z)
def dAbs : List D → Out D
  | [.int i] => .ok (.int (if i < 0 then -i else i))
  | _ => .stuck
theorem ed_abs {f : Rn → Out (List D)} (hm : X.mg "abs" = none) (ha : EA ca X W [e] f) (hg : Gl X "abs" := by rfl) (he : starEach [e] X.env = (false, eval e X.env) :: starEach [] X.env := by rfl) (hpl : (backTo pos (starEach [] X.env)).any (·.1) = false := by rfl) : ED ca X W (.Call (.Name "abs" p) [e] [] pos) (calD dAbs f) :=
  ed_callB call_abs (fun G H ds vs Q mu i o => by
    unfold dAbs at o
    split at o
    · rename_i n
      obtain ⟨v, rfl, i1⟩ := isL_1 i
      exact ⟨n, by rw [is_int.mp i1], o _ H (fun _ _ h => h) (is_int.mpr rfl)⟩
    · exact o.elim) hm (by decide +kernel) ha hg (by decide) (by decide) he hpl
def dMax2 : List D → Out D
  | [.int i, .int j] => .ok (.int (if j > i then j else i))
  | _ => .stuck
theorem ed_max2 {k : Nat} {f : Rn → Out (List D)} (J : JX X W k) (hm : X.mg "max" = none) (ha : EA ca X W [a, b] f) (hg : Gl X "max" := by rfl) (he : starEach [a, b] X.env = (false, eval a X.env) :: starEach [b] X.env := by rfl) (hpl : (backTo pos (starEach [b] X.env)).any (·.1) = false := by rfl) : ED ca X W (.Call (.Name "max" p) [a, b] [] pos) (calD dMax2 f) :=
  ed_callB (call_max2 J.calm) (fun G H ds vs Q mu i o => by
    unfold dMax2 at o
    split at o
    · rename_i n j
      obtain ⟨v, v', rfl, i1, i2⟩ := isL_2 i
      exact ⟨n, j, by rw [is_int.mp i1, is_int.mp i2], o _ H (fun _ _ h => h) (is_int.mpr rfl)⟩
    · exact o.elim) hm (by decide +kernel) ha hg (by decide) (by decide) he hpl
def dMin2 : List D → Out D
  | [.int i, .int j] => .ok (.int (if j < i then j else i))
  | _ => .stuck
theorem ed_min2 {k : Nat} {f : Rn → Out (List D)} (J : JX X W k) (hm : X.mg "min" = none) (ha : EA ca X W [a, b] f) (hg : Gl X "min" := by rfl) (he : starEach [a, b] X.env = (false, eval a X.env) :: starEach [b] X.env := by rfl) (hpl : (backTo pos (starEach [b] X.env)).any (·.1) = false := by rfl) : ED ca X W (.Call (.Name "min" p) [a, b] [] pos) (calD dMin2 f) :=
  ed_callB (call_min2 J.calm) (fun G H ds vs Q mu i o => by
    unfold dMin2 at o
    split at o
    · rename_i n j
      obtain ⟨v, v', rfl, i1, i2⟩ := isL_2 i
      exact ⟨n, j, by rw [is_int.mp i1, is_int.mp i2], o _ H (fun _ _ h => h) (is_int.mpr rfl)⟩
    · exact o.elim) hm (by decide +kernel) ha hg (by decide) (by decide) he hpl
/-- len of a list, a tuple, a text -/
def dLen : List D → Out D
  | [.lst ds] => .ok (.int ds.length)
  | [.tup ds] => .ok (.int ds.length)
  | [.str x] => if x.length ≤ sizeLine then .ok (.int x.length) else .stuck
  | _ => .stuck
theorem call_lenA : CallR X (.builtin "len") (fun xs H Q => (∃ p ys, xs = [.ref p] ∧ (SqL X.K H p ys ∨ SqT X.K H p ys) ∧ Q (.int ys.length) H) ∨ (∃ z, xs = [.str z] ∧ z.length ≤ sizeLine ∧ Q (.int z.length) H)) := CallR.or call_len_seq call_len_str
theorem ed_len {f : Rn → Out (List D)} (hm : X.mg "len" = none) (ha : EA ca X W [e] f) (hg : Gl X "len" := by rfl) (he : starEach [e] X.env = (false, eval e X.env) :: starEach [] X.env := by rfl) (hpl : (backTo pos (starEach [] X.env)).any (·.1) = false := by rfl) : ED ca X W (.Call (.Name "len" p) [e] [] pos) (calD dLen f) :=
  ed_callB call_lenA (fun G H ds vs Q mu i o => by
    unfold dLen at o
    split at o
    · obtain ⟨v, rfl, i1⟩ := isL_1 i
      obtain ⟨a, ws, rfl, hq, r⟩ := is_lst.mp i1
      exact .inl ⟨a, ws, rfl, .inl (sq_whole hq), by rw [← r.len]; exact o _ H (fun _ _ h => h) (is_int.mpr rfl)⟩
    · obtain ⟨v, rfl, i1⟩ := isL_1 i
      obtain ⟨a, ws, rfl, hq, r⟩ := is_tup.mp i1
      exact .inl ⟨a, ws, rfl, .inr (.inl (.inl (cut_some hq).2)), by rw [← r.len]; exact o _ H (fun _ _ h => h) (is_int.mpr rfl)⟩
    · split at o
      · rename_i x z
        obtain ⟨v, rfl, i1⟩ := isL_1 i
        exact .inr ⟨x, by rw [is_str.mp i1], z, o _ H (fun _ _ h => h) (is_int.mpr rfl)⟩
      · exact o.elim
    · exact o.elim) hm PySem.boot_len ha hg (by decide) (by decide) he hpl
/-- tuple of a list, of a tuple -/
def dTuple : List D → Out D
  | [.lst ds] => .ok (.tup ds)
  | [.tup ds] => .ok (.tup ds)
  | _ => .stuck
theorem ed_tuple {f : Rn → Out (List D)} (hm : X.mg "tuple" = none) (ha : EA ca X W [e] f) (hg : Gl X "tuple" := by rfl) (he : starEach [e] X.env = (false, eval e X.env) :: starEach [] X.env := by rfl) (hpl : (backTo pos (starEach [] X.env)).any (·.1) = false := by rfl) : ED ca X W (.Call (.Name "tuple" p) [e] [] pos) (calD dTuple f) :=
  ed_callTy call_tuple_of (fun G H ds vs Q mu i o => by
    unfold dTuple at o
    split at o
    · obtain ⟨v, rfl, i1⟩ := isL_1 i
      obtain ⟨a, ws, rfl, hq, r⟩ := is_lst.mp i1
      refine ⟨a, ws, rfl, .inl ⟨sq_whole hq, fun l hl => ?_⟩⟩
      have k : ∀ a u, H a = some u → (upd H l (.tup ws)) a = some u := fun a u q => by rw [upd_ne (ne_of_none q hl)]; exact q
      have nl : l ∉ G := fun z => (mu l z).ne hl
      refine o _ _ k (is_tup.mpr ⟨l, ws, rfl, (cut_out nl).trans upd_same, r.le ((Le.of_same k).cut (fun _ n _ => n) fun a ha => ?_)⟩)
      cases q : H a with
      | none => exact absurd q (mu a ha).ne
      | some u => rw [k a u q]; simp
    · obtain ⟨v, rfl, i1⟩ := isL_1 i
      obtain ⟨a, ws, rfl, hq, r⟩ := is_tup.mp i1
      exact ⟨a, ws, rfl, .inr ⟨.inl (.inl (cut_some hq).2), o _ H (fun _ _ h => h) i1⟩⟩
    · exact o.elim) hm (by decide +kernel) ha hg (by decide) (by decide) he hpl
/-! ### items -/
def dIx : D → D → Out D
  | .lst ds, .int i => match atI ds i with | some d => .ok d | none => .stuck
  | .tup ds, .int i => match atI ds i with | some d => .ok d | none => .stuck
  | .str z, .int i => if z.length ≤ sizeLine then (match atI z.cps.toList i with | some c => .ok (.str ⟨#[c]⟩) | none => .stuck) else .stuck
  | _, _ => .stuck
theorem atI_is {H : Hp} {ds : List D} {vs : List V} {i : Int} {d : D} (r : IsL ca K H ds vs) (h : atI ds i = some d) : ∃ v, atI vs i = some v ∧ Is ca K H d v := by
  unfold atI at h ⊢
  rw [← r.len]
  cases e : ixN ds.length i with
  | none => rw [e] at h; cases h
  | some j =>
    rw [e] at h
    exact r.get h
theorem opd_ix : OpD ca K (rIx K) dIx := by
  intro G H d1 d2 v1 v2 Q mu i1 i2 o
  unfold dIx at o
  split at o
  · rename_i ds n
    cases e : atI ds n with
    | none => rw [e] at o; exact o.elim
    | some d =>
      rw [e] at o
      obtain ⟨a, ws, rfl, hq, r⟩ := is_lst.mp i1
      obtain ⟨v, hv, iv⟩ := atI_is r e
      exact .inl ⟨a, ws, n, v, rfl, is_int.mp i2, sq_whole hq, hv, o v H (fun _ _ h => h) iv⟩
  · rename_i ds n
    cases e : atI ds n with
    | none => rw [e] at o; exact o.elim
    | some d =>
      rw [e] at o
      obtain ⟨a, ws, rfl, hq, r⟩ := is_tup.mp i1
      obtain ⟨v, hv, iv⟩ := atI_is r e
      exact .inr (.inl ⟨a, ws, n, v, rfl, is_int.mp i2, .inl (.inl (cut_some hq).2), hv, o v H (fun _ _ h => h) iv⟩)
  · rename_i z n
    split at o
    · rename_i hz
      cases e : atI z.cps.toList n with
      | none => rw [e] at o; exact o.elim
      | some ch =>
        rw [e] at o
        exact .inr (.inr ⟨z, n, ch, is_str.mp i1, is_int.mp i2, hz, e, o _ H (fun _ _ h => h) (is_str.mpr rfl)⟩)
    · exact o.elim
  · exact o.elim
theorem ed_ix {f g : Rn → Out D} (ha : ED ca X W a f) (hb : ED ca X W b g) (hs : PlainIx b := by exact fun _ _ => rfl) : ED ca X W (.Subscript a b pos) (bin dIx f g) := by
  obtain ⟨ta, pa, ha⟩ := ha
  obtain ⟨tb, pb, hb⟩ := hb
  refine ⟨_, pe_ix ix_seq pa pb hs, fun H0 Fa ts us ρ σ H Q hl E o => ?_⟩
  refine ha H0 Fa ts us ρ σ H _ hl E (OutE.bind o |>.imp (fun x o v H2 F E2 i => ?_) fun n q => q)
  refine hb H0 Fa (some (.dat x) :: ts) (some v :: us) ρ σ H2 _ (by simp [hl]) ⟨F, E2.top i⟩ (o.bind.imp (fun y o v' H3 F E3 i' => ?_) fun n q a' H3 c E3 => q a' H3 c E3.pop)
  obtain ⟨E4, i⟩ := E3.popD
  exact opd_ix (Fa ++ F) H3 x y v v' Q E4.muG i i' (o.nx.imp (fun d o v2 H4 k i4 => o v2 H4 F (E4.same k) i4) fun _ z => z)
end
end DA
set_option maxHeartbeats 4000000
/-! DA8: sums, isinstance, appends, fields, methods, try -/
namespace DA
open PySem PySem.Spec PyProof.Rows L2

/-! ### sum of a tuple of ints -/
section
variable {prog : Program} {w : World} {A : Around} {E : Value → Shared → Prop} {s : Shared} {l : Addr}
theorem sum_tupG {its : List Value} {ns : List Int} {Q : Value → Shared → Prop} (hh : A.handled = none) (hl : s.heap.IsTuple l its.toArray) (hi : IntsAre its ns)
    (h : ∀ h' tk t', (∀ b o, s.heap.get? b = some o → h'.get? b = some o) → Q (.int ns.sum t') { s with heap := h', toks := tk }) : wpAny (model prog w) A (call (.builtin "sum") [.ref l]) Q E s := by
  obtain ⟨xs, e⟩ := hi.allInts.items
  have hn : numsOf (intItems xs).toList = ns := by rw [← e]; exact hi.numsOf
  rw [nums_intItems] at hn
  rw [e] at hl
  have hlt : l < s.heap.objs.size := by obtain ⟨o, e, _⟩ := hl; exact Heap.lt_size e
  refine PySem.call_sum_walkG (wpAny_pyIter_tuple hl ?_)
  refine ⟨_, [s.heap.objs.size, l], [s.heap.objs.size], _, _, _, numAt xs, rfl, Walks.tuple (A := A.in1) hh _ l (Nat.ne_of_lt hlt) (intItems xs), ⟨⟨_, Heap.get?_push_size _ rfl, rfl, rfl⟩, hl.push _⟩, fun c hc => ?_, (fun _ _ => intItems_at), fun h' tk t' hk => ?_⟩
  · rw [Heap.size_push]
    have z : c = s.heap.objs.size ∨ c = l := by simpa using hc
    rcases z with z | z
    · rw [z]; exact Nat.lt_succ_self _
    · rw [z]; exact Nat.lt_succ_of_lt hlt
  · have := h h' tk t' fun b o q => hk b o (fun hm => by
      have z : b = s.heap.objs.size := by simpa using hm
      rw [z] at q
      exact absurd (Heap.lt_size q) (Nat.lt_irrefl _)) (Heap.get?_push_of_some _ q)
    have e2 : preSum (numAt xs) (intItems xs).size = ns.sum := by
      rw [preSum_eq, List.take_of_length_le (by simp [intItems]), hn]
    rw [e2]
    exact this
end
section
variable {ca : Str → Option Addr} {X : Cx} {W : WX} {e a b c tg o : Expr} {es : List Expr} {pos p apos : Pos} {x m f : Str} {K : PySem.W.Frag}
def intsOf : List D → Option (List Int)
  | [] => some []
  | .int i :: ds => (intsOf ds).map (i :: ·)
  | _ :: _ => none
theorem intsOf_eq : ∀ {ds : List D} {ns : List Int}, intsOf ds = some ns → ds = ns.map D.int
  | [], ns, h => by unfold intsOf at h; cases h; rfl
  | .int i :: ds, ns, h => by
    unfold intsOf at h
    cases e : intsOf ds with
    | none => rw [e] at h; cases h
    | some ms => rw [e] at h; cases h; rw [intsOf_eq e]; rfl
  | .non :: ds, ns, h => by unfold intsOf at h; cases h
  | .bl _ :: ds, ns, h => by unfold intsOf at h; cases h
  | .str _ :: ds, ns, h => by unfold intsOf at h; cases h
  | .tup _ :: ds, ns, h => by unfold intsOf at h; cases h
  | .lst _ :: ds, ns, h => by unfold intsOf at h; cases h
  | .dic _ _ :: ds, ns, h => by unfold intsOf at h; cases h
  | .dik _ _ :: ds, ns, h => by unfold intsOf at h; cases h
  | .obj _ _ _ :: ds, ns, h => by unfold intsOf at h; cases h
  | .loc _ :: ds, ns, h => by unfold intsOf at h; cases h
theorem intsOf_map : ∀ ns : List Int, intsOf (ns.map D.int) = some ns
  | [] => by unfold intsOf; rfl
  | i :: ns => by
    show intsOf (.int i :: ns.map D.int) = _
    unfold intsOf
    rw [intsOf_map ns]; rfl
def rSumA (K : PySem.W.Frag) : List V → Hp → VK → Prop := fun vs H Q => ∃ (a : Addr) (ns : List Int), vs = [V.ref a] ∧ (SqL K H a (ns.map V.int) ∨ SqT K H a (ns.map V.int)) ∧ Q (.int ns.sum) H
theorem cr_sumA (hc : X.calm = true) : CallR X (.builtin "sum") (rSumA X.K) := by
  intro pins s σ H xs us Q I r h
  obtain ⟨a, ns, rfl, hq, q⟩ := h
  rcases hq with hq | hq
  · exact cr_sum hc pins s σ H _ us Q I r ⟨a, ns, rfl, hq, q⟩
  · have e := Vals.ref1 r
    subst e
    obtain ⟨its, rv, p, hz⟩ := I.tuple hq
    exact sum_tupG (I.ok.hd hc) (show s.heap.IsTuple a its.toArray from p) (Vals.ints rv) fun h' tk t' k => ⟨.int ns.sum, H, I.kept k, ⟨_, rfl⟩, q⟩
def dSum : List D → Out D
  | [.lst ds] => match intsOf ds with | some ns => .ok (.int ns.sum) | none => .stuck
  | [.tup ds] => match intsOf ds with | some ns => .ok (.int ns.sum) | none => .stuck
  | _ => .stuck
theorem ed_sum {k : Nat} {f : Rn → Out (List D)} (J : JX X W k) (hm : X.mg "sum" = none) (ha : EA ca X W [e] f) (hg : Gl X "sum" := by rfl) (he : starEach [e] X.env = (false, eval e X.env) :: starEach [] X.env := by rfl) (hpl : (backTo pos (starEach [] X.env)).any (·.1) = false := by rfl) : ED ca X W (.Call (.Name "sum" p) [e] [] pos) (calD dSum f) :=
  ed_callB (cr_sumA J.calm) (fun G H ds vs Q mu i o => by
    unfold dSum at o
    split at o
    · rename_i ds
      cases eI : intsOf ds with
      | none => rw [eI] at o; exact o.elim
      | some ns =>
        rw [eI] at o
        obtain ⟨v, rfl, i1⟩ := isL_1 i
        obtain ⟨a, ws, rfl, hq, r⟩ := is_lst.mp i1
        rw [intsOf_eq eI] at r
        rw [IsL.ints_inv r] at hq
        exact ⟨a, ns, rfl, .inl (sq_whole hq), o _ H (fun _ _ h => h) (is_int.mpr rfl)⟩
    · rename_i ds
      cases eI : intsOf ds with
      | none => rw [eI] at o; exact o.elim
      | some ns =>
        rw [eI] at o
        obtain ⟨v, rfl, i1⟩ := isL_1 i
        obtain ⟨a, ws, rfl, hq, r⟩ := is_tup.mp i1
        rw [intsOf_eq eI] at r
        rw [IsL.ints_inv r] at hq
        exact ⟨a, ns, rfl, .inr (.inl (.inl (cut_some hq).2)), o _ H (fun _ _ h => h) (is_int.mpr rfl)⟩
    · exact o.elim) hm (by decide +kernel) ha hg (by decide) (by decide) he hpl

/-! ### isinstance with a built-in class -/
/-- the built-in type's name of a value -/
def tyN : D → Option String
  | .non => some "NoneType"
  | .bl _ => some "bool"
  | .int _ => some "int"
  | .str _ => some "str"
  | .tup _ => some "tuple"
  | .lst _ => some "list"
  | .dic _ _ => none
  | .dik _ _ => some "dict"
  | .obj _ _ _ => none
  | .loc _ => none
theorem tyX_of {H : Hp} {d : D} {v : V} {t : String} (i : Is ca K H d v) (h : tyN d = some t) : TyX K H v (.type t) := by
  cases d with
  | non => cases h; rw [is_non.mp i]; exact .base .non
  | bl b => cases h; rw [is_bl.mp i]; exact .base (.bl b)
  | int n => cases h; rw [is_int.mp i]; exact .base (.int n)
  | str x => cases h; rw [is_str.mp i]; exact .base (.str x)
  | tup xs => cases h; obtain ⟨a, vs, rfl, ha, _⟩ := is_tup.mp i; exact .base (.tup ha)
  | lst xs =>
    cases h
    obtain ⟨a, vs, rfl, ha, _⟩ := is_lst.mp i
    rcases ha with (ha | ⟨o, ha⟩) | ⟨o, its, n, h1, h2, _⟩
    · exact .base (.lst ha)
    · exact .base (.frz ha)
    · exact .kList h1 h2
  | dic ks ds => cases h
  | dik ks ds =>
    cases h
    obtain ⟨a, vs, rfl, ha, _⟩ := is_dik.mp i
    rcases ha with ha | ⟨o, ha⟩
    · exact .base (.dK ha)
    · exact .fDict ha
  | obj C fs ds => cases h
  | loc a => cases h
def isiT (T : String) (d : D) : Out D := match tyN d with
  | some t => match kitB t T with | some b => .ok (.bl b) | none => .stuck
  | none => .stuck
/-- isinstance(e, T), T a built-in class -/
theorem ed_isi (T : String) {f : Rn → Out D} {q : Pos} (hm : X.mg "isinstance" = none) (hmT : X.mg (Str.ofString T) = none) (ha : ED ca X W e f) (hT : PE X (.Name (Str.ofString T) q) (tC (.ty T))) (hg : Gl X "isinstance" := by rfl)
    (h1 : starEach [e, .Name (Str.ofString T) q] X.env = (false, eval e X.env) :: starEach [.Name (Str.ofString T) q] X.env := by rfl) (h2 : starEach [.Name (Str.ofString T) q] X.env = (false, eval (.Name (Str.ofString T) q) X.env) :: starEach [] X.env := by rfl)
    (hpl : (backTo pos (starEach [.Name (Str.ofString T) q] X.env)).any (·.1) = false := by rfl) : ED ca X W (.Call (.Name "isinstance" p) [e, .Name (Str.ofString T) q] [] pos) (una (isiT T) f) := by
  obtain ⟨te, pe, ha⟩ := ha
  refine ⟨_, pe_callB call_isi hg hm (by decide +kernel) (pa_cons pe (pa_cons hT pa_nil h2) h1) (by decide) (by decide) h1 hpl, fun H0 Fa ts us ρ σ H Q hl E o => ?_⟩
  refine ha H0 Fa ts us ρ σ H _ hl E (OutE.bind o |>.imp (fun d o v H2 F E2 i => ?_) fun n q => q)
  have o := o.nx (Y := fun _ => False)
  unfold isiT at o
  cases et : tyN d with
  | none => rw [et] at o; exact o.elim
  | some t =>
    rw [et] at o
    dsimp only at o
    cases ek : kitB t T with
    | none => rw [ek] at o; exact o.elim
    | some b =>
      rw [ek] at o
      exact ⟨v, .ty T, .type t, .type T, b, rfl, .ty T, tyX_of (E2.whole i) et, kit_ty ek, o _ H2 F E2 (is_bl.mpr rfl)⟩

/-! ### xs.append(e) -/
def sAppend (i : Nat) (f : Rn → Out D) (ρ : Rn) : SOut := match ρ[i]? with
  | some (some (.lst ms)) => (f ρ).bind fun d => if ms.length < sizeLine then .ok (.nx, ρ.set i (some (.lst (ms ++ [.dat d])))) else .stuck
  | _ => .stuck
theorem ss_append (i : Nat) {f : Rn → Out D} {p1 p2 pos' : Pos} (h : ED ca X W e f) (hN : X.N[i]? = some x := by rfl) (hv : Vis X.env.scope x := by first | exact Or.inl rfl | exact Or.inr (Or.inl rfl) | exact Or.inr (Or.inr rfl))
    (hd : (x == ("__debug__" : Str)) = false := by decide) (hcd : (x == ("__classdict__" : Str)) = false := by decide)
    (hbase : attributeBase (.Name x p1) "append" X.env (eval (.Name x p1) X.env) = eval (.Name x p1) X.env := by rfl)
    (hfew : ((backTo pos (starEach [e] X.env)).all (fun x => !x.1) && (backToKw pos (keywordEach [] X.env)).all (fun x => x.1.isSome)
      && decide (([e] : List Expr).length + ([] : List Keyword).length + (if ([] : List Keyword).isEmpty then 0 else 1) < 30)) = true := by rfl)
    (hline : (p2.endLine == pos.line) = true := by rfl) (hs : starEach [e] X.env = (false, eval e X.env) :: starEach [] X.env := by rfl) (hpl : (backTo pos (starEach [] X.env)).any (·.1) = false := by rfl)
    (hsw : swapsWith (.Call (.Attribute (.Name x p1) "append" p2) [e] [] pos) none pos'.line X.env = pure false := by rfl) :
    SS ca X W (.Expr (.Call (.Attribute (.Name x p1) "append" p2) [e] [] pos) pos') (sAppend i f) := by
  obtain ⟨te, pe, h⟩ := h
  refine ⟨_, ps_expr (pe_bm PySem.F.plainAttrs_list PySem.F.slot_list_append PySem.F.type_list_append mt_append (pe_var hN hv hd hcd) (pa_cons pe pa_nil hs) hbase hfew hline hs hpl) hsw, fun H0 Fa ts us ρ σ H D hl E o => ?_⟩
  unfold sAppend at o
  split at o
  · rename_i ms hρ
    obtain ⟨F, E⟩ := E
    obtain ⟨w, A, Fi, B, eF, e2, ⟨v, e3, ho⟩, _⟩ := E.own.split (i := ts.length + i) (by rw [drop_get]; exact hρ)
    obtain ⟨l, xs, Fi', rfl, hlst, hr, _⟩ := ow_lst.mp ho
    rw [hl, drop_get, e3] at e2
    refine ⟨.ref l, e2, .inl ⟨rfl, xs, .inl (.inl hlst)⟩, ?_⟩
    refine h H0 Fa ts us ρ σ H _ hl ⟨F, E⟩ (SPost.ofE o fun d o y H2 F2 E2 iy => ?_)
    by_cases z : ms.length < sizeLine
    · rw [if_pos z] at o
      obtain ⟨l2, xs2, e4, h4, l4, E4⟩ := E2.append (i := ts.length + i) (by rw [drop_get]; exact hρ) iy
      rw [hl, drop_get, e2] at e4
      injection e4 with e4
      injection e4 with e4
      injection e4 with e4
      subst e4
      refine ⟨l, xs2, y, rfl, rfl, h4, by rw [l4]; exact z, o σ _ ?_⟩
      have q := E4
      rw [drop_set, hl, drop_set] at q
      have e5 : σ.set i (some (.ref l)) = σ := by
        refine List.ext_getElem? fun j => ?_
        by_cases hj : i = j
        · subst hj
          by_cases hlt : i < σ.length
          · rw [List.getElem?_set_self hlt, e2]
          · rw [List.getElem?_eq_none (by omega)] at e2; cases e2
        · rw [List.getElem?_set_ne hj]
      rw [e5] at q
      exact q
    · rw [if_neg z] at o; exact o.elim
  · exact o.elim

/-! ### fields -/
def fldOf (f : Str) : List Str → List D → Option D
  | g :: fs, d :: ds => if f == g then some d else fldOf f fs ds
  | _, _ => none
theorem lookup_fld {H : Hp} : ∀ {kvs : List (Str × V)} {ds : List D} {f : Str} {d : D}, IsL ca K H ds (kvs.map (·.2)) → fldOf f (kvs.map (·.1)) ds = some d → ∃ v, kvs.lookup f = some v ∧ Is ca K H d v
  | [], ds, f, d, i, h => by
    unfold fldOf at h
    simp at h
  | (g, v) :: kvs, ds, f, d, i, h => by
    cases ds with
    | nil => unfold fldOf at h; simp at h
    | cons d0 ds =>
      obtain ⟨v', vs', e, i1, r⟩ := isL_cons.mp i
      simp only [List.map_cons] at e h
      injection e with e1 e2
      subst e1
      unfold fldOf at h
      rw [List.lookup_cons]
      by_cases z : (f == g) = true
      · rw [if_pos z] at h
        cases h
        rw [z]
        exact ⟨v, rfl, i1⟩
      · rw [if_neg z] at h
        have z' : (f == g) = false := by simpa using z
        rw [z']
        exact lookup_fld (by rw [e2]; exact r) h
def dFld (cs : List Str) (f : Str) : D → Out D
  | .obj C fs ds => if List.contains cs C then (match fldOf f fs ds with | some d => .ok d | none => .stuck) else .stuck
  | _ => .stuck
/-- o.f, o an instance of one of the classes cs -/
theorem ed_fld (cs : List Str) {g : Rn → Out D} (h : ED ca X W e g) (hc : ∀ n, List.contains cs n = true → ∀ C, ca n = some C → Cls X.K C ∧ NoAttr X.K C f) (hb : attributeBase e f X.env (eval e X.env) = eval e X.env := by rfl) : ED ca X W (.Attribute e f pos) (una (dFld cs f) g) := by
  obtain ⟨te, pe, h⟩ := h
  refine ⟨_, pe_fld pe hb, fun H0 Fa ts us ρ σ H Q hl E o => ?_⟩
  refine h H0 Fa ts us ρ σ H _ hl E (OutE.bind o |>.imp (fun d o v H2 F E2 i => ?_) fun n q => q)
  have oo := o.nx (Y := fun _ => False)
  cases d with
  | obj C fs ds =>
    unfold dFld at oo
    dsimp only at oo
    by_cases z : List.contains cs C = true
    · rw [if_pos z] at oo
      cases ef : fldOf f fs ds with
      | none => rw [ef] at oo; exact oo.elim
      | some d =>
        rw [ef] at oo
        obtain ⟨a, Ca, dx, kvs, rfl, hC, ha, ek, r⟩ := is_obj.mp i
        subst ek
        obtain ⟨v, hv, iv⟩ := lookup_fld r ef
        obtain ⟨c1, c2⟩ := hc C z Ca hC
        exact ⟨a, Ca, dx, kvs, v, rfl, (cut_some ha).2, c1, c2, hv, oo v H2 F E2 iv⟩
    · rw [if_neg z] at oo; exact oo.elim
  | _ => exact oo.elim

/-! ### methods -/
theorem run_fnD {CX : CXT} {k : Nat} {g : Addr} {fd : FuncData} {ps : List Str} {sp : Sp} {E : L2.St → XK} {dvs : List V} {dd : List Value} {pins : List (Addr × Obj)} {σ : L2.St} {H : Hp} {s : Shared} {Q : VK} {us : List Value} {vs : List V} (F : FnOk X.prog X.w X.K X.mg X.base CX k g fd ps sp) (hr : Room k X.A) (hb : Binds X.K fd ps dd) (hd : Vals dvs dd)
    (hx : PassesAt CX X σ (E σ)) (I : Inv X pins σ H s) (r : Vals vs us) (h : sp (vs ++ dvs) H Q (E σ)) : wpAny (model X.prog X.w) X.A (call (.ref g) us) (EP X pins σ Q) X.xe s := by
  have r2 : Vals (vs ++ dvs) (us ++ dd) := r.append hd
  have hl : (us ++ dd).length = ps.length := by rw [← r2.length]; exact F.len _ _ _ _ h
  refine wpAny_call (codeAny_mono (F.run X.A X.stack s H ⟨us, []⟩ (us ++ dd) (vs ++ dvs) Q (E σ) hr I.env0 (hb s us I.kIn hl) r2 h) fun r s' hq => ?_)
  cases r with
  | error e => exact hx pins H s e s' I hq
  | ok fl =>
    cases fl with
    | ret u => exact I.after hq
    | next => exact False.elim hq
    | brk => exact False.elim hq
    | cont => exact False.elim hq
/-- o.m(..): the class, the def and its promise come with the instance; its arguments, and the defaults that fill up -/
def tMethX (X : Cx) (CX : CXT) (k : Nat) (m : Str) (E : L2.St → XK) (ta : TE) (t : TA) : TE := fun σ H Q => ta σ H fun x H1 => ∃ (a C dx : Addr) (fs : List (Str × V)) (g : Addr) (fd : FuncData) (ps : List Str) (sp : Sp) (dvs : List V) (dd : List Value), x = .ref a ∧ H1 a = some (.ins C dx fs) ∧ fs.lookup m = none ∧
  Cls X.K C ∧ Meth X.K C m g ∧ FnOk X.prog X.w X.K X.mg X.base CX k g fd ps sp ∧ Binds X.K fd ps dd ∧ Vals dvs dd ∧ t σ H1 fun vs H2 => sp (x :: (vs ++ dvs)) H2 Q (E σ)
theorem pe_methX {CX : CXT} {k : Nat} {E : L2.St → XK} {ta : TE} {t : TA} {pl : Sem Bool} (he : PE X o ta) (hr : Room k X.A) (hx : ∀ σ, PassesAt CX X σ (E σ)) (ha : PA X (e :: es) t)
    (hst : starEach (e :: es) X.env = (false, eval e X.env) :: starEach es X.env := by rfl) (hpl : (backTo pos (starEach es X.env)).any (·.1) = false := by rfl)
    (ht : eval (.Call (.Attribute o m apos) (e :: es) [] pos) X.env = (do
      let ov ← eval o X.env
      standAt apos.atName
      let (f, first) ← holding [ov] (getMethod ov m pl)
      callWith pos f first (backTo pos (starEach (e :: es) X.env)) (backToKw pos (keywordEach [] X.env))) := by rfl) :
    PE X (.Call (.Attribute o m apos) (e :: es) [] pos) (tMethX X CX k m E ta t) := by
  refine ⟨fun pins s σ H Q I h => ?_⟩
  refine PySem.W.methodCall_KW (pl := pl) (thn (he.run pins s σ H _ I h) fun u s1 ⟨x, H1, I1, rx, a, C, dx, fs, g, fd, ps, sp, dvs, dd, ex, ea, l, c, hm, F, hb, hd, q⟩ => ?_) ht
  subst ex
  obtain rfl : u = Value.ref a := rx
  refine getmeth_ok I1 ea c hm l ?_
  refine PySem.W.callWith_K (first := [.ref a]) (h₀ := X.base) I.ok.mod.kin hm.kp (thn (ha.run pos pins s1 σ H1 _ I1 q) fun us s2 ⟨vs, H2, I2, r, q2⟩ => ⟨I2.kIn, ?_⟩) hst hpl
  exact run_fnD (us := .ref a :: us) (vs := .ref a :: vs) F hr hb hd (hx σ) I2 (.cons rfl r) q2
theorem pe_methX0 {CX : CXT} {k : Nat} {E : L2.St → XK} {ta : TE} {pl : Sem Bool} (he : PE X o ta) (hr : Room k X.A) (hx : ∀ σ, PassesAt CX X σ (E σ))
    (ht : eval (.Call (.Attribute o m apos) [] [] pos) X.env = (do
      let ov ← eval o X.env
      standAt apos.atName
      let (f, first) ← holding [ov] (getMethod ov m pl)
      callWith pos f first (backTo pos (starEach [] X.env)) (backToKw pos (keywordEach [] X.env))) := by rfl) :
    PE X (.Call (.Attribute o m apos) [] [] pos) (tMethX X CX k m E ta tNil) := by
  refine ⟨fun pins s σ H Q I h => ?_⟩
  refine PySem.W.methodCall_KW (pl := pl) (thn (he.run pins s σ H _ I h) fun u s1 ⟨x, H1, I1, rx, a, C, dx, fs, g, fd, ps, sp, dvs, dd, ex, ea, l, c, hm, F, hb, hd, q⟩ => ?_) ht
  subst ex
  obtain rfl : u = Value.ref a := rx
  refine getmeth_ok I1 ea c hm l ?_
  exact PySem.W.callWith_K0 (first := [.ref a]) I1.kIn hm.kp (run_fnD (us := [.ref a]) (vs := [.ref a]) F hr hb hd (hx σ) I1 (.cons rfl .nil) q)
/-- what a method's entry wants: the def at its class, worth f, its defaults dd -/
structure MtOk (ca : Str → Option Addr) (X : Cx) (j : Nat) (m n : Str) (f : List D → Out M) : Prop where
  ok : ∀ C, ca n = some C → ∃ (g : Addr) (fd : FuncData) (ps : List Str) (f0 : List D → Out M) (dd : List D) (dvs : List V) (ds : List Value), Cls X.K C ∧ Meth X.K C m g ∧ FnOk X.prog X.w X.K X.mg X.base (L2.CX X.prog X.w) j g fd ps (PF ca X.K f0) ∧ Binds X.K fd ps ds ∧ Vals dvs ds ∧
    (∀ H, IsL ca X.K H dd dvs) ∧ ∀ xs, f xs = f0 (xs ++ dd)
/-- which def a method's name means -/
def mtR (m : Str) (tab : List (Str × (List D → Out M))) : D → Out (List D → Out M)
  | .obj C fs _ => if fs.contains m then .stuck else (match tab.lookup C with | some f => .ok f | none => .stuck)
  | _ => .stuck
def mtC (m : Str) (tab : List (Str × (List D → Out M))) (g : Rn → Out D) (ga : Rn → Out (List D)) (ρ : Rn) : Out M := (g ρ).bind fun d => (mtR m tab d).nx.bind fun f => (ga ρ).bind fun ds => f (d :: ds)
theorem lookup_none_of {kvs : List (Str × V)} {m : Str} (h : (kvs.map (·.1)).contains m = false) : kvs.lookup m = none := by
  induction kvs with
  | nil => rfl
  | cons p kvs ih =>
    simp only [List.map_cons, List.contains_cons, Bool.or_eq_false_iff] at h
    rw [List.lookup_cons]
    rw [h.1]
    exact ih h.2
theorem mem_of_lookup {α : Type} {n : Str} {y : α} : ∀ {l : List (Str × α)}, l.lookup n = some y → (n, y) ∈ l
  | (k, v) :: r, h => by
    rw [List.lookup_cons] at h
    by_cases z : (n == k) = true
    · rw [z] at h
      cases h
      rw [eq_of_beq z]
      exact List.mem_cons_self
    · have z' : (n == k) = false := by simpa using z
      rw [z'] at h
      exact List.mem_cons_of_mem _ (mem_of_lookup h)
theorem mt_den {j : Nat} {tab : List (Str × (List D → Out M))} {g : Rn → Out D} {ga : Rn → Out (List D)} {te : TE} {ta : TA} (ht : ∀ q ∈ tab, MtOk ca X j m q.1 q.2) (ho : EvD ca X.K W te g) (ha : EvA ca X.K W ta ga) :
    EvM ca X.K W (tMethX X (L2.CX X.prog X.w) j m (WE W) te ta) (mtC m tab g ga) := by
  intro H0 Fa ts us ρ σ H Q hl E od
  refine ho H0 Fa ts us ρ σ H _ hl E (OutE.bind od |>.imp (fun d od v H2 F E2 i => ?_) fun n q => q)
  cases d with
  | obj C fs dsf =>
    unfold mtR at od
    dsimp only at od
    by_cases z : fs.contains m = true
    · rw [if_pos z] at od; exact od.elim
    · rw [if_neg z] at od
      cases el : tab.lookup C with
      | none => rw [el] at od; exact od.elim
      | some f =>
        rw [el] at od
        have od : OutE ((ga ρ).bind fun ds => f (.obj C fs dsf :: ds)) _ _ := od
        obtain ⟨a, Ca, dx, kvs, rfl, hC, hins, ek, r⟩ := is_obj.mp i
        obtain ⟨gg, fd, ps, f0, dd, dvs, dsv, c1, c2, c3, c4, c5, c6, c7⟩ := (ht (C, f) (mem_of_lookup el)).ok Ca hC
        subst ek
        refine ⟨a, Ca, dx, kvs, gg, fd, ps, PF ca X.K f0, dvs, dsv, rfl, (cut_some hins).2, lookup_none_of (by simpa using z), c1, c2, c3, c4, c5, ?_⟩
        refine ha H0 Fa (some (.dat (.obj C (kvs.map (·.1)) dsf)) :: ts) (some (.ref a) :: us) ρ σ H2 _ (by simp [hl]) ⟨F, E2.top i⟩ (od.bind.imp (fun ds od vs H3 F3 E3 i3 => ?_) fun n q a' H3 c E3 => q a' H3 c E3.pop)
        obtain ⟨E4, i4⟩ := E3.popD
        have c7 := c7 (.obj C (kvs.map (·.1)) dsf :: ds)
        dsimp only at c7
        rw [c7] at od
        exact PF.call E4 (IsL.cons i4 (i3.app (c6 _))) od
  | _ => exact od.elim
theorem em_meth {k j : Nat} {tab : List (Str × (List D → Out M))} {g : Rn → Out D} {ga : Rn → Out (List D)} {pl : Sem Bool} (J : JX X W k) (hj : j ≤ k) (ht : ∀ q ∈ tab, MtOk ca X j m q.1 q.2) (ho : ED ca X W o g) (ha : EA ca X W (e :: es) ga)
    (hst : starEach (e :: es) X.env = (false, eval e X.env) :: starEach es X.env := by rfl) (hpl : (backTo pos (starEach es X.env)).any (·.1) = false := by rfl)
    (hev : eval (.Call (.Attribute o m apos) (e :: es) [] pos) X.env = (do
      let ov ← eval o X.env
      standAt apos.atName
      let (f, first) ← holding [ov] (getMethod ov m pl)
      callWith pos f first (backTo pos (starEach (e :: es) X.env)) (backToKw pos (keywordEach [] X.env))) := by rfl) :
    EM ca X W (.Call (.Attribute o m apos) (e :: es) [] pos) (mtC m tab g ga) := by
  obtain ⟨te, pe, ho⟩ := ho
  obtain ⟨ta, pa, ha⟩ := ha
  exact ⟨_, pe_methX pe (J.room.mono hj) (fun σ => passAt J.tk σ) pa hst hpl hev, mt_den ht ho ha⟩
theorem em_meth0 {k j : Nat} {tab : List (Str × (List D → Out M))} {g : Rn → Out D} {pl : Sem Bool} (J : JX X W k) (hj : j ≤ k) (ht : ∀ q ∈ tab, MtOk ca X j m q.1 q.2) (ho : ED ca X W o g)
    (hev : eval (.Call (.Attribute o m apos) [] [] pos) X.env = (do
      let ov ← eval o X.env
      standAt apos.atName
      let (f, first) ← holding [ov] (getMethod ov m pl)
      callWith pos f first (backTo pos (starEach [] X.env)) (backToKw pos (keywordEach [] X.env))) := by rfl) :
    EM ca X W (.Call (.Attribute o m apos) [] [] pos) (mtC m tab g (fun _ => .ok [])) := by
  obtain ⟨te, pe, ho⟩ := ho
  exact ⟨_, pe_methX0 pe (J.room.mono hj) (fun σ => passAt J.tk σ) hev, mt_den ht ho (fun H0 Fa ts us ρ σ H Q hl ⟨F, E⟩ o => o [] H F E IsL.nil)⟩

/-! ### try: x = e; except C: .. -/
/-- whether the error class n' stands at or under n -/
def subE (n' n : Str) : Bool := n' == n || n == "RoomError" || n == "ValueError"
def exNames : List Str := ["NoPrime", "NoOver", "NoTerm", "NoOrder", "NoRing", "NoLead", "NoText", "NoBase", "NoBox", "Open", "Endless", "NoLine"]
def sTry (n : Str) (s : Rn → SOut) (f : Rn → Out M) (i : Nat) (ρ : Rn) : SOut := match f ρ with
  | .stuck => .stuck
  | .exc n' => if List.contains exNames n' then (if subE n' n then (s ρ).nx else .exc n') else .stuck
  | .ok m => if i < ρ.length then .ok (.nx, ρ.set i (some m)) else .stuck
theorem ss_try {k i : Nat} {c : Value} {n : Str} {b0 : Stmt} {suite : List Stmt} {np pos' p1 p2 : Pos} {s : Rn → SOut} {f : Rn → Out M} {y : Str} (J : JX X W k) (hc : Names X x c) (hx : ∀ n', List.contains exNames n' = true → ∀ C', ca n' = some C' → PySem.W.exmOne X.K (.ref C') c = some (subE n' n))
    (hb : ∀ (W' : WX) (pn : List (Addr × Obj)) (xe : Value → Shared → Prop), JX (X.tr pn xe) W' k → EM ca (X.tr pn xe) W' e f)
    (hsu : ∀ (a : Addr) (pn : List (Addr × Obj)), SSs ca (X.suite a pn) W0 (b0 :: suite) s)
    (hi : X.N[i]? = some y := by rfl) (hy : Loc X.env.scope y := by first | exact Or.inl rfl | exact Or.inr rfl) (hsw : swapsWith e (some (.Name y p1)) p2.line X.env = pure false := by rfl)
    (hf : X.fn y = true ∨ X.env.scope.names.lookup y = some .local := by first | exact .inl rfl | exact .inr rfl)
    (hs : X.stack = X.env :: X.outer := by rfl) (hfr : X.env.frame = some X.env.locals := by rfl) :
    SS ca X W (.Try [.Assign [.Name y p1] e p2] [.ExceptHandler (some (.Name x np)) none (b0 :: suite) pos'] [] [] pos) (sTry n s f i) := by
  -- one reading for all contexts of the body, one for all of the suite
  have hb1 := fun (W' : WX) (z : { z : List (Addr × Obj) × (Value → Shared → Prop) // JX (X.tr z.1 z.2) W' k }) => hb W' z.1.1 z.1.2 z.2
  have hs1 := fun (z : Addr × List (Addr × Obj)) => hsu z.1 z.2
  refine ⟨_, ps_try_only (tb := fun W' => tAsg (fun σ H Q => ∀ z, Classical.choose (hb1 W' z) σ H Q) (gName i)) (ts := fun a cls d => fun D σ H => ∀ z, z.1 = a → Classical.choose (hs1 z) D σ H) (Wout := W) hs hfr hc J.tk
    (fun W' pn xe tk po => pss_one (ps_set (X := X.tr pn xe) J.nd hi hy ⟨fun pins s1 σ H Q I h => ?_⟩ hsw hf)) (fun a oe cls d pn hz hff => ⟨fun pins s1 σ H D I h => ?_⟩), fun H0 Fa ts us ρ σ H D hl E od => ?_⟩
  · have jj : JX (X.tr pn xe) W' k := ⟨J.calm, tk, J.nd, po, J.room⟩
    exact (Classical.choose_spec (hb1 W' ⟨(pn, xe), jj⟩)).1.run pins s1 σ H Q I (h ⟨(pn, xe), jj⟩)
  · exact (Classical.choose_spec (hs1 (a, (a, oe) :: pn))).1.run pins s1 σ H D I (h (a, (a, oe) :: pn) rfl)
  · intro z
    refine (Classical.choose_spec (hb1 _ z)).2 H0 Fa ts us ρ σ H _ hl E ?_
    unfold sTry at od
    cases ef : f ρ with
    | stuck => rw [ef] at od; exact od
    | exc n' =>
      rw [ef] at od
      intro a H2 hca E2
      dsimp only at od
      by_cases zn : List.contains exNames n' = true
      case neg => rw [if_neg zn] at od; exact od.elim
      rw [if_pos zn] at od
      refine ⟨subE n' n, hx n' zn a hca, fun hb a' ha' z => ?_, fun hb => ?_⟩
      · rw [if_pos hb] at od
        intro ez
        refine (Classical.choose_spec (hs1 z)).2 H0 Fa ts us ρ σ H2 D hl E2 ?_
        cases es : s ρ with
        | stuck => rw [es] at od; exact od
        | exc nn => rw [es] at od; exact od.elim
        | ok q =>
          rw [es] at od
          obtain ⟨fl, ρ'⟩ := q
          cases fl <;> exact od
      · rw [if_neg (by rw [hb]; simp)] at od
        exact od a σ H2 hca (Env.frm E2)
    | ok m =>
      rw [ef] at od
      intro v H2 E2
      dsimp only at od
      by_cases zi : i < ρ.length
      · rw [if_pos zi] at od
        refine od _ H2 ?_
        obtain ⟨F, E3⟩ := E2
        have q := E3.store (i := ts.length + i) (by simp; omega)
        rw [drop_set] at q
        rw [hl, drop_set] at q
        exact q
      · rw [if_neg zi] at od; exact od.elim
end
end DA
set_option maxHeartbeats 4000000
/-! DA9: defs by their names, the law's end -/
namespace DA
open PySem PySem.Spec PyProof.Rows L2

/-- the classes of a law's text, by name -/
def caK (cs : List Str) (K : PySem.W.Frag) (n : Str) : Option Addr := if cs.contains n then some (He.ga K n) else none
theorem caK_eq {cs : List Str} {K : PySem.W.Frag} {n : Str} {C : Addr} (h : caK cs K n = some C) : cs.contains n = true ∧ C = He.ga K n := by
  unfold caK at h
  by_cases z : cs.contains n = true
  · rw [if_pos z] at h; exact ⟨z, (Option.some.inj h).symm⟩
  · rw [if_neg z] at h; cases h
/-- attributes of the class x are read as a class's, its __init__ is a plain def -/
def clsB (K : PySem.W.Frag) (x : Str) : Bool := PySem.W.readsIn K (He.ga K x) (.type "type") && (He.eqO (PySem.W.specialIn K (.ref (He.ga K x)) "__getattribute__") (some (some (.builtin "type.__getattribute__"))) && (match PySem.W.findCls K (.ref (He.ga K x)) (.type "type") "__init__" with
  | some (.val (.ref g)) => decide (g = He.ma K (He.ga K x) "__init__")
  | _ => false))
/-- the class x is made without an __init__ of the text -/
def mk0B (K : PySem.W.Frag) (x : Str) : Bool := PySem.W.makesIn K (He.ga K x) && (He.eqO (PySem.W.findIn K (.ref (He.ga K x)) "__init__") (some (some (.builtin "object.__init__"))) && (decide (PySem.W.mroIn K (He.ga K x) (.type "object") = some true) && PySem.W.keepIn K (.ref (He.ga K x))))
/-- the method m of the class x, also as a value -/
def bmB (K : PySem.W.Frag) (x m : Str) : Bool := He.eqO (PySem.W.specialIn K (.ref (He.ma K (He.ga K x) m)) "__get__") (some (some (.builtin "function.__get__"))) && (decide (PySem.W.takesIn K (.ref (He.ma K (He.ga K x) m)) = some false) && (!PySem.W.copiedNames.contains m && PySem.W.fnIn K (He.ma K (He.ga K x) m)))
def isiBases : List Str := ["Order", "Field", "RoomError", "ValueError"]
/-- what isinstance asks of the class x -/
def insB (K : PySem.W.Frag) (x : Str) : Bool := He.eqO (PySem.W.findIn K (.ref (He.ga K x)) "__class__") (some (some (.builtin "object.__class__"))) && (He.eqO (PySem.W.specialIn K (.builtin "object.__class__") "__get__") (some (some (.builtin "getset_descriptor.__get__"))) && (decide (PySem.W.takesIn K (.builtin "object.__class__") = some true) && decide (PySem.W.mroIn K (He.ga K x) (.type "object") = some true)))
def isB3 (K : PySem.W.Frag) (n : Nat) (x : Str) : Bool := insB K x && decide (PySem.W.kitOne K (.ref (He.ga K x)) (.ref (He.ga K (isiBases.getD (n / 2) ""))) = some (n % 2 == 1))
def facB (K : PySem.W.Frag) (p : Nat × Str) : Bool := if p.1 = 0 then clsB K p.2 else if p.1 = 1 then mk0B K p.2 else if p.1 = 2 then bmB K p.2 "rank" else isB3 K (p.1 - 3) p.2
structure LX (P : Program) (w : World) (K : PySem.W.Frag) (mg : Str → Option Value) (base : Heap) (fa : List He.Fa) (fn : List He.DefD) (fc : List (Nat × Str)) : Prop where
  kin : K.In base
  glob : base.Ns mainGlobals mg
  says : He.SaysD fa fn K
  cls : fc.all (facB K) = true
section
variable {P : Program} {w : World} {K : PySem.W.Frag} {mg : Str → Option Value} {base : Heap} {fa : List He.Fa} {fn : List He.DefD} {fc : List (Nat × Str)} {ca : Str → Option Addr}
theorem LX.fact (L : LX P w K mg base fa fn fc) (i : Nat) {f : He.Fa} (h : fa[i]? = some f := by rfl) : f.ok K = true := L.says.fact i h
theorem LX.glo (L : LX P w K mg base fa fn fc) (i : Nat) {x : Str} (h : fa[i]? = some (.glo x) := by rfl) : mg x = some (.ref (He.ga K x)) := He.glo_ok L.kin L.glob (L.fact i h)
theorem LX.free (L : LX P w K mg base fa fn fc) (i : Nat) {x : Str} (h : fa[i]? = some (.free x) := by rfl) : mg x = none := He.free_ok L.kin L.glob (L.fact i h)
/-- the module's def x is worth d -/
structure Ok1 (ca : Str → Option Addr) (P : Program) (w : World) (K : PySem.W.Frag) (mg : Str → Option Value) (base : Heap) (x : Str) (j : Nat) (d : List D → Out M) : Prop where
  ex : ∃ (fd : FuncData) (ps : List Str), Binds K fd ps [] ∧ PySem.W.keepIn K (.ref (He.ga K x)) = true ∧ mg x = some (.ref (He.ga K x)) ∧ FnOk P w K mg base (L2.CX P w) j (He.ga K x) fd ps (PF ca K d)
theorem fn_okD {x qual : Str} {params : Arguments} {body : List Stmt} {scope : Scope} {dvs : List V} {kws : List (Str × V)} {f : Addr} {fd : FuncData} {N ps : List Str} {k : Nat} {s : Rn → SOut} (F : FunD K x qual params body scope dvs kws f fd) (S : FnScope N ps scope)
    (hbody : ∀ (cdv : Value) (A : Around) (outer : List PySem.Env) (s0 : Shared) (H : Hp) (E : XK), JX (cxOf (L2.CX P w) P w K mg base N qual scope f cdv A outer s0 H E) (fun c d _ H' => E c d H') k →
      SSs ca (cxOf (L2.CX P w) P w K mg base N qual scope f cdv A outer s0 H E) (fun c d _ H' => E c d H') body s) : FnOk P w K mg base (L2.CX P w) (k + 1) f fd ps (PF ca K (runD ps.length (N.length - ps.length) s)) := by
  refine F.ok S (fun vs H Q E h => ?_) (fun cdv A outer s0 H vs Q E hr h => ?_)
  · obtain ⟨Fa, ds, mu, i, o⟩ := h
    unfold runD at o
    by_cases z : ds.length = ps.length
    · rw [← i.len, z]
    · rw [if_neg z] at o; exact o.elim
  · obtain ⟨Fa, ds, mu, i, o⟩ := h
    obtain ⟨t, p, hs⟩ := hbody cdv A outer s0 H E (jx_of S.nd hr)
    unfold runD at o
    by_cases z : ds.length = ps.length
    · rw [if_pos z] at o
      refine ⟨t, p, hs.run (fun _ _ _ _ e => e) ?_ o⟩
      have q := env_start (ca := ca) (K := K) mu i (N.length - ps.length)
      unfold L2.start
      rw [← i.len, z]
      exact q
    · rw [if_neg z] at o; exact o.elim
/-- a def of the module -/
theorem ok1 (L : LX P w K mg base fa fn fc) (i ig : Nat) {x : Str} {d : He.DefD} {N ps : List Str} {k : Nat} {s : Rn → SOut} (S : FnScope N ps d.scope)
    (hbody : ∀ (f : Addr) (cdv : Value) (A : Around) (outer : List PySem.Env) (s0 : Shared) (H : Hp) (E : XK), JX (cxOf (L2.CX P w) P w K mg base N d.qual d.scope f cdv A outer s0 H E) (fun c d _ H' => E c d H') k →
      SSs ca (cxOf (L2.CX P w) P w K mg base N d.qual d.scope f cdv A outer s0 H E) (fun c d _ H' => E c d H') d.body s)
    (hd : d.at_ = (x, none)) (h0 : d.dfl = []) (hk : d.kwd = [])
    (hbind : ∀ (kV doc pm : Value) (an : Option Addr) (cdv ct : Value) (us : List Value), us.length = ps.length → bindArgs (PySem.W.fnOf d.name d.qual d.params d.body d.scope .none kV doc pm an cdv ct) ⟨us, []⟩ = pure (ps.zip us))
    (h : fn[i]? = some d := by rfl) (hg : fa[ig]? = some (.glo x) := by rfl) : Ok1 ca P w K mg base x (k + 1) (runD ps.length (N.length - ps.length) s) := by
  obtain ⟨fd, F⟩ := L.says.def_ i h
  have e1 : d.dvs K = [] := by unfold He.DefD.dvs; rw [h0]; rfl
  have e2 : d.kws K = [] := by unfold He.DefD.kws; rw [hk]; rfl
  have e3 : He.fAd K d.at_ = He.ga K x := by rw [hd]; rfl
  rw [e1, e2, e3] at F
  exact ⟨fd, ps, F.bindsN hbind, F.kp, L.glo ig hg, fn_okD F S (hbody _)⟩
/-- the method m of the class C is worth d (its last arguments told by its defaults: dd) -/
structure OkM (ca : Str → Option Addr) (P : Program) (w : World) (K : PySem.W.Frag) (mg : Str → Option Value) (base : Heap) (m C : Str) (j : Nat) (d : List D → Out M) : Prop where
  ex : ∃ (g : Addr) (fd : FuncData) (ps : List Str) (f0 : List D → Out M) (dd : List D) (dvs : List V) (ds : List Value), Cls K (He.ga K C) ∧ Meth K (He.ga K C) m g ∧ FnOk P w K mg base (L2.CX P w) j g fd ps (PF ca K f0) ∧ Binds K fd ps ds ∧ Vals dvs ds ∧
    (∀ H, IsL ca K H dd dvs) ∧ ∀ xs, d xs = f0 (xs ++ dd)
theorem OkM.mt {X : Cx} {ca : Str → Option Addr} {m C : Str} {i j : Nat} {d : List D → Out M} (h : ∀ a, ca C = some a → a = He.ga X.K C) (O : OkM ca X.prog X.w X.K X.mg X.base m C i d) (hj : i ≤ j) : MtOk ca X j m C d := ⟨fun a q => by
  obtain rfl := h a q
  obtain ⟨g, fd, ps, f0, dd, dvs, ds, c1, c2, c3, r⟩ := O.ex
  exact ⟨g, fd, ps, f0, dd, dvs, ds, c1, c2, c3.mono hj, r⟩⟩
/-- a class that the law's text has not -/
theorem MtOk.no {X : Cx} {cs : List Str} {m C : Str} {j : Nat} {d : List D → Out M} (h : cs.contains C = false := by rfl) : MtOk (caK cs X.K) X j m C d := ⟨fun a q => by
  obtain ⟨z, _⟩ := caK_eq q
  rw [h] at z; cases z⟩
theorem OkM.mono {m C : Str} {i j : Nat} {d : List D → Out M} (O : OkM ca P w K mg base m C i d) (h : i ≤ j) : OkM ca P w K mg base m C j d := by
  obtain ⟨g, fd, ps, f0, dd, dvs, ds, c1, c2, c3, r⟩ := O.ex
  exact ⟨g, fd, ps, f0, dd, dvs, ds, c1, c2, c3.mono h, r⟩
end
section
variable {ca : Str → Option Addr} {X : Cx} {W : WX} {e a b c tg o : Expr} {es : List Expr} {pos p apos : Pos} {x m f : Str}
def callM (d : List D → Out M) (g : Rn → Out (List D)) (ρ : Rn) : Out M := (g ρ).bind d
theorem em_call1 {k j : Nat} {d : List D → Out M} {g : Rn → Out (List D)} (J : JX X W k) (O : Ok1 ca X.prog X.w X.K X.mg X.base x j d) (ha : EA ca X W (e :: es) g) (hj : j ≤ k := by decide) (hg : Gl X x := by rfl) (hdb : (x == ("__debug__" : Str)) = false := by decide) (he : starEach (e :: es) X.env = (false, eval e X.env) :: starEach es X.env := by rfl) (hpl : (backTo pos (starEach es X.env)).any (·.1) = false := by rfl) :
    EM ca X W (.Call (.Name x p) (e :: es) [] pos) (callM d g) := by
  obtain ⟨fd, ps, c1, c2, c3, c4⟩ := O.ex
  exact em_call J c4 hj c3 c2 c1 ha hg hdb he hpl
/-! ### names for what is printed -/
def toM (f : Rn → Out D) (ρ : Rn) : Out M := (f ρ).map .dat
def toD (f : Rn → Out M) (ρ : Rn) : Out D := (f ρ).map M.er
def cst (d : D) (_ : Rn) : Out D := .ok d
def aNil (_ : Rn) : Out (List D) := .ok []
def aCons (f : Rn → Out D) (g : Rn → Out (List D)) (ρ : Rn) : Out (List D) := (f ρ).bind fun x => (g ρ).map (x :: ·)
def tupD (f : Rn → Out (List D)) (ρ : Rn) : Out D := (f ρ).bind fun xs => if xs.length ≤ sizeLine then .ok (.tup xs) else .stuck
def lstM (f : Rn → Out (List D)) (ρ : Rn) : Out M := (f ρ).bind fun xs => if xs.length ≤ sizeLine then .ok (.lst (xs.map .dat)) else .stuck
def isB (f : Rn → Out D) (ρ : Rn) : Out Bool := (f ρ).bind asB
def notB (f : Rn → Out Bool) (ρ : Rn) : Out Bool := (f ρ).map (!·)
def andB (f g : Rn → Out Bool) (ρ : Rn) : Out Bool := (f ρ).bind fun x => if x then g ρ else .ok false
def orB (f g : Rn → Out Bool) (ρ : Rn) : Out Bool := (f ρ).bind fun x => if x then .ok true else g ρ
def andD (f g : Rn → Out D) (ρ : Rn) : Out D := ((f ρ).bind asB).bind fun x => if x then g ρ else .ok (.bl false)
def orD (f g : Rn → Out D) (ρ : Rn) : Out D := ((f ρ).bind asB).bind fun x => if x then .ok (.bl true) else g ρ
def notD (f : Rn → Out D) (ρ : Rn) : Out D := ((f ρ).bind asB).map fun x => .bl (!x)
def ifD (t : Rn → Out Bool) (f g : Rn → Out D) (ρ : Rn) : Out D := (t ρ).bind fun x => if x then f ρ else g ρ
def itSeq (f : Rn → Out D) (ρ : Rn) : Out (List D) := (f ρ).bind seqOf
noncomputable def itRange1 (f : Rn → Out (List D)) (ρ : Rn) : Out (List D) := (f ρ).bind range1
noncomputable def itRange2 (f : Rn → Out (List D)) (ρ : Rn) : Out (List D) := (f ρ).bind range2
def itZip (f : Rn → Out (List D)) (ρ : Rn) : Out (List D) := (f ρ).bind zip2
def sNil (ρ : Rn) : SOut := .ok (.nx, ρ)
def sCont (ρ : Rn) : SOut := .ok (.ct, ρ)
def sBrk (ρ : Rn) : SOut := .ok (.bk, ρ)
def sRetN (ρ : Rn) : SOut := .ok (.rt (.dat .non), ρ)
def sExc (n : Str) (_ : Rn) : SOut := .exc n
def tYesB (_ : Rn) : Out Bool := .ok true
/-- a comprehension's name list, by the row's own scope -/
theorem ed_ty (T : String) {q : Pos} (hm : X.mg (Str.ofString T) = none) (hv : bootBuiltins (Str.ofString T) = some (.type T)) (hg : Gl X (Str.ofString T) := by rfl) (hn : Str.ofString T ≠ "__name__" := by decide) (hd : (Str.ofString T == ("__debug__" : Str)) = false := by decide) : PE X (.Name (Str.ofString T) q) (tC (.ty T)) := pe_bltn hg hm hv rfl hn hd
/-- raise n('..') -/
theorem ss_raise1 {k : Nat} {cs : List Str} {n msg : Str} {j : Nat} {p1 p2 p3 p4 : Pos} (J : JX X W k) (hcs : cs.contains n = true) (gm : X.mg n = some (.ref (He.ga X.K n))) (hx : (He.Fa.exc n).ok X.K = true) (hg : Gl X n := by rfl) (hdb : (n == ("__debug__" : Str)) = false := by decide) :
    SS (caK cs X.K) X W (.Raise (some (.Call (.Name n p1) [.Constant (.str msg) j p2] [] p3)) none p4) (sExc n) := by
  obtain ⟨x1, x2, x3, x4⟩ := He.exc_ok hx
  refine ss_raise (C := He.ga X.K n) J (by unfold caK; rw [if_pos hcs]) (pmk_own PySem.F.excBase_ValueError x1 gm x2 (raises_own x3 x4) hg hdb) fun σ H Q => rfl
end
/-! ### the end -/
theorem law_end {ca : Str → Option Addr} {K : PySem.W.Frag} {d : List D → Out M} {H : Hp} {a : Addr} {ns : List Int} {Ex : XK} (hS : SqL K H a (ns.map V.int)) (h : d [.lst (ns.map D.int)] = .ok (.dat (.bl true))) :
    PF ca K d [.ref a] H (fun v _ => v = .bl true) Ex := by
  refine ⟨[], [.lst (ns.map D.int)], fun _ z => by simp at z, IsL.cons (is_lst.mpr ⟨a, _, rfl, ?_, IsL.ints⟩) IsL.nil, ?_⟩
  · rw [cut_nil]; exact hS
  · rw [h]
    intro v H2 ⟨F, E⟩
    obtain ⟨v', e, i⟩ := E.get (i := 0) (d := .bl true) rfl
    injection e with e
    injection e with e
    subst e
    exact is_bl.mp i
theorem cx_none {P : Program} {w : World} {H : Hp} {s : Shared} {e : Value} {s' : Shared} (h : L2.CX P w [] H s (fun _ _ _ => False) e s') : False := by
  obtain ⟨_, _, _, _, _, _, _, _, _, _, _, _, z⟩ := h
  exact z
end DA
namespace DA
open PySem PySem.Spec PyProof.Rows L2
section
variable {P : Program} {w : World} {K : PySem.W.Frag} {mg : Str → Option Value} {base : Heap} {fa : List He.Fa} {fn : List He.DefD} {fc : List (Nat × Str)} {ca : Str → Option Addr}
/-- a method, all its arguments written -/
theorem okM (L : LX P w K mg base fa fn fc) (i ic im : Nat) {C m : Str} {d : He.DefD} {N ps : List Str} {k : Nat} {s : Rn → SOut} (S : FnScope N ps d.scope)
    (hbody : ∀ (f : Addr) (cdv : Value) (A : Around) (outer : List PySem.Env) (s0 : Shared) (H : Hp) (E : XK), JX (cxOf (L2.CX P w) P w K mg base N d.qual d.scope f cdv A outer s0 H E) (fun c d _ H' => E c d H') k →
      SSs ca (cxOf (L2.CX P w) P w K mg base N d.qual d.scope f cdv A outer s0 H E) (fun c d _ H' => E c d H') d.body s)
    (hd : d.at_ = (C, some m)) (h0 : d.dfl = []) (hk : d.kwd = [])
    (hbind : ∀ (kV doc pm : Value) (an : Option Addr) (cdv ct : Value) (us : List Value), us.length = ps.length → bindArgs (PySem.W.fnOf d.name d.qual d.params d.body d.scope .none kV doc pm an cdv ct) ⟨us, []⟩ = pure (ps.zip us))
    (h : fn[i]? = some d := by rfl) (hc : fa[ic]? = some (.cls C) := by rfl) (hm : fa[im]? = some (.meth C m) := by rfl) : OkM ca P w K mg base m C (k + 1) (runD ps.length (N.length - ps.length) s) := by
  obtain ⟨fd, F⟩ := L.says.def_ i h
  have e1 : d.dvs K = [] := by unfold He.DefD.dvs; rw [h0]; rfl
  have e2 : d.kws K = [] := by unfold He.DefD.kws; rw [hk]; rfl
  have e3 : He.fAd K d.at_ = He.ma K (He.ga K C) m := by rw [hd]; rfl
  rw [e1, e2, e3] at F
  exact ⟨_, fd, ps, _, [], [], [], He.cls_ok (L.fact ic hc), He.meth_ok (L.fact im hm), fn_okD F S (hbody _), F.bindsN hbind, .nil, fun _ => IsL.nil, fun xs => by rw [List.append_nil]⟩
/-- a method with one default, an int: all its arguments written | the last one told by the default -/
theorem okMd (L : LX P w K mg base fa fn fc) (i ic im : Nat) {C m : Str} {d : He.DefD} {N ps : List Str} {k n : Nat} {dv : Int} {s : Rn → SOut} (S : FnScope N ps d.scope)
    (hbody : ∀ (f : Addr) (cdv : Value) (A : Around) (outer : List PySem.Env) (s0 : Shared) (H : Hp) (E : XK), JX (cxOf (L2.CX P w) P w K mg base N d.qual d.scope f cdv A outer s0 H E) (fun c d _ H' => E c d H') k →
      SSs ca (cxOf (L2.CX P w) P w K mg base N d.qual d.scope f cdv A outer s0 H E) (fun c d _ H' => E c d H') d.body s)
    (hd : d.at_ = (C, some m)) (h0 : d.dfl = [.int dv]) (hk : d.kwd = []) (hn : n + 1 = ps.length)
    (hb0 : ∀ (T : Addr) (kV doc pm : Value) (an : Option Addr) (cdv ct : Value) (us its : List Value), us.length = n + 1 → its.length = 1 →
      ∃ k, bindArgs (PySem.W.fnOf d.name d.qual d.params d.body d.scope (.ref T) kV doc pm an cdv ct) ⟨us, []⟩ = seqItems? (.ref T) >>= k ∧ k (some its.toArray) = pure (ps.zip (us ++ its.drop 1)))
    (hb1 : ∀ (T : Addr) (kV doc pm : Value) (an : Option Addr) (cdv ct : Value) (us its : List Value), us.length = n → its.length = 1 →
      ∃ k, bindArgs (PySem.W.fnOf d.name d.qual d.params d.body d.scope (.ref T) kV doc pm an cdv ct) ⟨us, []⟩ = seqItems? (.ref T) >>= k ∧ k (some its.toArray) = pure (ps.zip (us ++ its.drop 0)))
    (h : fn[i]? = some d := by rfl) (hc : fa[ic]? = some (.cls C) := by rfl) (hm : fa[im]? = some (.meth C m) := by rfl) :
    OkM ca P w K mg base m C (k + 1) (runD ps.length (N.length - ps.length) s) ∧ OkM ca P w K mg base m C (k + 1) (fun xs => runD ps.length (N.length - ps.length) s (xs ++ [.int dv])) := by
  obtain ⟨fd, F⟩ := L.says.def_ i h
  have e1 : d.dvs K = [.int dv] := by unfold He.DefD.dvs; rw [h0]; rfl
  have e2 : d.kws K = [] := by unfold He.DefD.kws; rw [hk]; rfl
  have e3 : He.fAd K d.at_ = He.ma K (He.ga K C) m := by rw [hd]; rfl
  rw [e1, e2, e3] at F
  have G := fn_okD (ca := ca) F S (hbody _)
  obtain ⟨ds0, v0, b0⟩ := F.binds1 (n + 1) 1 (by simp) (by simpa using hn) (fun T kV doc pm an cdv ct us its h1 h2 => hb0 T kV doc pm an cdv ct us its h1 (by simpa using h2))
  obtain ⟨ds1, v1, b1⟩ := F.binds1 n 0 (by simp) (by simpa using hn) (fun T kV doc pm an cdv ct us its h1 h2 => hb1 T kV doc pm an cdv ct us its h1 (by simpa using h2))
  exact ⟨⟨_, fd, ps, _, [], [], ds0, He.cls_ok (L.fact ic hc), He.meth_ok (L.fact im hm), G, b0, v0, fun _ => IsL.nil, fun xs => by rw [List.append_nil]⟩,
    ⟨_, fd, ps, _, [.int dv], [.int dv], ds1, He.cls_ok (L.fact ic hc), He.meth_ok (L.fact im hm), G, b1, v1, fun _ => IsL.cons (is_int.mpr rfl) IsL.nil, fun xs => rfl⟩⟩
end
section
variable {ca : Str → Option Addr} {X : Cx} {W : WX} {e a b c tg o : Expr} {es : List Expr} {pos p apos : Pos} {x m f : Str}
/-- a module's int, text -/
theorem ed_gint {i : Int} (h : ∃ t, X.mg x = some (.int i t)) (hg : Gl X x := by rfl) (hd : (x == ("__debug__" : Str)) = false := by decide) : ED ca X W (.Name x p) (cst (.int i)) := by
  obtain ⟨t, h⟩ := h
  exact ed_c (pe_glob (v := .int i) hg h ⟨t, rfl⟩ hd) fun _ => is_int.mpr rfl
theorem ed_gstr {i : Str} (h : ∃ t, X.mg x = some (.str i t)) (hg : Gl X x := by rfl) (hd : (x == ("__debug__" : Str)) = false := by decide) : ED ca X W (.Name x p) (cst (.str i)) := by
  obtain ⟨t, h⟩ := h
  exact ed_c (pe_glob (v := .str i) hg h ⟨t, rfl⟩ hd) fun _ => is_str.mpr rfl
end
end DA
namespace DA
open PySem PySem.Spec PyProof.Rows L2
section
variable {P : Program} {w : World} {K : PySem.W.Frag} {mg : Str → Option Value} {base : Heap} {fa : List He.Fa} {fn : List He.DefD} {fc : List (Nat × Str)} {ca : Str → Option Addr} {cs : List Str}
/-- the fields f of the classes ns may be read -/
def Fld (ca : Str → Option Addr) (K : PySem.W.Frag) (f : Str) (ns : List Str) : Prop := ∀ n, List.contains ns n = true → ∀ C, ca n = some C → Cls K C ∧ NoAttr K C f
theorem fl_nil {f : Str} : Fld ca K f [] := fun n h => by simp at h
theorem fl_cons {f n : Str} {ns : List Str} (h : ∀ C, ca n = some C → Cls K C ∧ NoAttr K C f) (r : Fld ca K f ns) : Fld ca K f (n :: ns) := fun m hm C hC => by
  simp only [List.contains_cons, Bool.or_eq_true, beq_iff_eq] at hm
  rcases hm with e | e
  · subst e; exact h C hC
  · exact r m e C hC
theorem fl_in (L : LX P w K mg base fa fn fc) (i j : Nat) {n f : Str} (h1 : fa[i]? = some (.cls n) := by rfl) (h2 : fa[j]? = some (.noat n f) := by rfl) : ∀ C, caK cs K n = some C → Cls K C ∧ NoAttr K C f := fun C hC => by
  obtain ⟨_, rfl⟩ := caK_eq hC
  exact ⟨He.cls_ok (L.fact i h1), He.noat_ok (L.fact j h2)⟩
theorem ca_no {n : Str} {R : Addr → Prop} (h : cs.contains n = false := by decide +kernel) : ∀ C, caK cs K n = some C → R C := fun C hC => by
  obtain ⟨z, _⟩ := caK_eq hC
  rw [h] at z; cases z
theorem mt_nil {X : Cx} {j : Nat} {m : Str} : ∀ q ∈ ([] : List (Str × (List D → Out M))), MtOk ca X j m q.1 q.2 := fun q h => by cases h
theorem mt_cons {X : Cx} {j : Nat} {m n : Str} {f : List D → Out M} {r : List (Str × (List D → Out M))} (h : MtOk ca X j m n f) (t : ∀ q ∈ r, MtOk ca X j m q.1 q.2) : ∀ q ∈ (n, f) :: r, MtOk ca X j m q.1 q.2 := fun q hq => by
  rcases List.mem_cons.mp hq with e | e
  · subst e; exact h
  · exact t q e
theorem names_ok {X : Cx} {x : Str} {c : Value} (h : X.mg x = some c) (hg : Gl X x := by rfl) (hd : (x == ("__debug__" : Str)) = false := by decide) : Names X x c := ⟨hg, hd, .inl h⟩
/-- the errors of the classes ns, asked at the class c named n -/
def Exs (ca : Str → Option Addr) (K : PySem.W.Frag) (c : Value) (n : Str) (ns : List Str) : Prop := ∀ n', List.contains ns n' = true → ∀ C', ca n' = some C' → PySem.W.exmOne K (.ref C') c = some (subE n' n)
theorem ex_nil {c : Value} {n : Str} : Exs ca K c n [] := fun n h => by simp at h
theorem ex_cons {c : Value} {n m : Str} {ns : List Str} (h : ∀ C, ca m = some C → PySem.W.exmOne K (.ref C) c = some (subE m n)) (r : Exs ca K c n ns) : Exs ca K c n (m :: ns) := fun m' hm C hC => by
  simp only [List.contains_cons, Bool.or_eq_true, beq_iff_eq] at hm
  rcases hm with e | e
  · subst e; exact h C hC
  · exact r m' e C hC
theorem ex_in (L : LX P w K mg base fa fn fc) (i : Nat) {n m : Str} {b : Bool} (h1 : fa[i]? = some (.exm m n b) := by rfl) (hb : b = subE m n := by decide +kernel) : ∀ C, caK cs K m = some C → PySem.W.exmOne K (.ref C) (.ref (He.ga K n)) = some (subE m n) := fun C hC => by
  obtain ⟨_, rfl⟩ := caK_eq hC
  rw [← hb]
  exact He.exm_ok (L.fact i h1)
end
section
variable {ca : Str → Option Addr} {X : Cx} {W : WX} {e a b c tg o : Expr} {es : List Expr} {pos p apos : Pos} {x m f : Str}
theorem ss_setN (i : Nat) {f : Rn → Out M} (nd : X.N.Nodup) (h : EM ca X W e f) (hi : X.N[i]? = some x := by rfl) (hx : Loc X.env.scope x := by first | exact Or.inl rfl | exact Or.inr rfl) (hs : swapsWith e (some (.Name x p)) pos.line X.env = pure false := by rfl)
    (hf : X.fn x = true ∨ X.env.scope.names.lookup x = some .local := by first | exact .inl rfl | exact .inr rfl) : SS ca X W (.Assign [.Name x p] e pos) (sSet i f) := by
  obtain ⟨te, pe, h⟩ := h
  refine ⟨_, ps_set nd hi hx pe hs hf, fun H0 Fa ts us ρ σ H D hl E o => h H0 Fa ts us ρ σ H _ hl E (SPost.ofE o fun m o v H2 E2 => ?_)⟩
  by_cases z : i < ρ.length
  · rw [if_pos z] at o
    refine o _ H2 ?_
    obtain ⟨F, E3⟩ := E2
    have q := E3.store (i := ts.length + i) (by simp; omega)
    rw [drop_set] at q
    rw [hl, drop_set] at q
    exact q
  · rw [if_neg z] at o; exact o.elim
/-- return x, x with cells of its own -/
def sRetV (i : Nat) (ρ : Rn) : SOut := match ρ[i]? with
  | some (some m) => .ok (.rt m, ρ)
  | _ => .stuck
theorem Env.pick {K : PySem.W.Frag} {H0 H : Hp} {Fa : List Addr} {ρ : Rn} {σ : L2.St} {i : Nat} {m : M} (h : ρ[i]? = some (some m)) : Env ca K H0 Fa ρ σ H → ∃ v, σ[i]? = some (some v) ∧ Env ca K H0 Fa [some m] [some v] H := fun ⟨F, E⟩ => by
  obtain ⟨w, A, Fi, B, rfl, e2, ⟨v, rfl, ho⟩, _⟩ := E.own.split h
  have sub : ∀ a ∈ Fa ++ Fi, a ∈ Fa ++ (A ++ (Fi ++ B)) := fun a ha => by
    simp only [List.mem_append] at ha ⊢
    rcases ha with z | z <;> simp [z]
  have ls := le_shrink (H := H) sub fun a ha => (E.muG a (sub a ha)).ne
  refine ⟨v, e2, Fi, E.re ?_ (fun a ha => by simp [ha]) ?_⟩
  · have nd := E.nd
    simp only [List.nodup_append] at nd
    exact nd.2.1.1
  · have q0 : OwO ca K (Fa ++ Fi) H (some m) (some v) Fi := ⟨v, rfl, ho.mono ls (fun _ _ => rfl) fun _ _ z => z⟩
    have q := OwS.cons q0 OwS.nil
    rw [List.append_nil] at q
    exact q
theorem ss_retV (i : Nat) (hN : X.N[i]? = some x := by rfl) (hv : Vis X.env.scope x := by first | exact Or.inl rfl | exact Or.inr (Or.inl rfl) | exact Or.inr (Or.inr rfl)) (hd : (x == ("__debug__" : Str)) = false := by decide)
    (hcd : (x == ("__classdict__" : Str)) = false := by decide) : SS ca X W (.Return (some (.Name x p)) pos) (sRetV i) := by
  refine ⟨_, ps_ret (pe_var hN hv hd hcd), fun H0 Fa ts us ρ σ H D hl E o => ?_⟩
  unfold sRetV at o
  split at o
  · rename_i m hm
    obtain ⟨v, e, E2⟩ := Env.pick (i := ts.length + i) (by rw [drop_get]; exact hm) E
    rw [hl, drop_get] at e
    exact ⟨v, e, o v H E2⟩
  · exact o.elim
/-! ### comprehensions, as values and stored -/
structure LcOk (ca : Str → Option Addr) (X : Cx) (W : WX) (elt tg iter : Expr) (ifs : List Expr) (scope : Scope) (f : Rn → Out M) : Prop where
  ex : ∃ (own : List (Str × Nat)) (wi : TI) (g : TG) (tt : TT) (te : TE), X.calm = true ∧ X.N.Nodup ∧ PI X tg iter wi ∧ BlkOk X.N X.env.scope scope own ∧ (∀ (s : Shared) (H : Hp) (C : Addr) (cl : List (Str × Addr)) (fp : List Addr), PG (X.blk s H scope (compEnvC scope cl C X.env) fp) tg g) ∧
    (∀ (s : Shared) (H : Hp) (C : Addr) (cl : List (Str × Addr)) (fp : List Addr), PTs (X.blk s H scope (compEnvC scope cl C X.env) fp) ifs tt) ∧ (∀ (s : Shared) (H : Hp) (C : Addr) (cl : List (Str × Addr)) (fp : List Addr), PE (X.blk s H scope (compEnvC scope cl C X.env) fp) elt te) ∧
    (∀ x, foldedSetIterable iter X.env x = pure x) ∧ EvM ca X.K W (tLc wi g tt te (own.map (·.2))) f
theorem lc_ok {k : Nat} {elt iter : Expr} {ifs : List Expr} {scope : Scope} (own : List (Str × Nat)) {is : List Nat} {fi : Rn → Out (List D)} {g : D → Rn → Out Rn} {t : Rn → Out Bool} {f : Rn → Out D} (J : JX X W k) (hi : EI ca X W tg iter fi) (ok : BlkOk X.N X.env.scope scope own)
    (hg : ∀ (s : Shared) (H : Hp) (C : Addr) (cl : List (Str × Addr)) (fp : List Addr), JX (X.blk s H scope (compEnvC scope cl C X.env) fp) W0 k → TGi ca (X.blk s H scope (compEnvC scope cl C X.env) fp) tg is g)
    (ht : ∀ (s : Shared) (H : Hp) (C : Addr) (cl : List (Str × Addr)) (fp : List Addr), JX (X.blk s H scope (compEnvC scope cl C X.env) fp) W0 k → ETs ca (X.blk s H scope (compEnvC scope cl C X.env) fp) W0 ifs t)
    (he : ∀ (s : Shared) (H : Hp) (C : Addr) (cl : List (Str × Addr)) (fp : List Addr), JX (X.blk s H scope (compEnvC scope cl C X.env) fp) W0 k → ED ca (X.blk s H scope (compEnvC scope cl C X.env) fp) W0 elt f)
    (hsub : ∀ j ∈ is, j ∈ own.map (·.2)) (hs : ∀ x, foldedSetIterable iter X.env x = pure x := by intro _; rfl) :
    LcOk ca X W elt tg iter ifs scope (lcD fi (own.map (·.2)) g t f) := by
  have jb : ∀ (s : Shared) (H : Hp) (C : Addr) (cl : List (Str × Addr)) (fp : List Addr), JX (X.blk s H scope (compEnvC scope cl C X.env) fp) W0 k := fun s H C cl fp => ⟨J.calm, takes0, J.nd, PassesOwn.never, J.room⟩
  have g1 := fun (z : Shared × Hp × Addr × List (Str × Addr) × List Addr) => hg z.1 z.2.1 z.2.2.1 z.2.2.2.1 z.2.2.2.2 (jb _ _ _ _ _)
  have t1 := fun (z : Shared × Hp × Addr × List (Str × Addr) × List Addr) => ht z.1 z.2.1 z.2.2.1 z.2.2.2.1 z.2.2.2.2 (jb _ _ _ _ _)
  have e1 := fun (z : Shared × Hp × Addr × List (Str × Addr) × List Addr) => he z.1 z.2.1 z.2.2.1 z.2.2.2.1 z.2.2.2.2 (jb _ _ _ _ _)
  obtain ⟨wi, pi, hi⟩ := hi
  refine ⟨own, wi, fun v σ H Q => ∀ z, Classical.choose (g1 z) v σ H Q, fun σ H Q => ∀ z, Classical.choose (t1 z) σ H Q, fun σ H Q => ∀ z, Classical.choose (e1 z) σ H Q, J.calm, J.nd, pi, ok, ?_, ?_, ?_, hs, lc_den hi (is := is) ?_ ?_ ?_ hsub⟩
  · intro s H C cl fp
    have q := (Classical.choose_spec (g1 (s, H, C, cl, fp))).1
    exact ⟨fun pins s1 σ H1 v u Q I r h => q.run pins s1 σ H1 v u Q I r (h (s, H, C, cl, fp))⟩
  · intro s H C cl fp
    have q := (Classical.choose_spec (t1 (s, H, C, cl, fp))).1
    exact ⟨fun pins s1 σ H1 Q I h => q.run pins s1 σ H1 Q I (h (s, H, C, cl, fp))⟩
  · intro s H C cl fp
    have q := (Classical.choose_spec (e1 (s, H, C, cl, fp))).1
    exact ⟨fun pins s1 σ H1 Q I h => q.run pins s1 σ H1 Q I (h (s, H, C, cl, fp))⟩
  · intro H0 Fa ts us ρ σ H F d v Q hl E i o z
    exact (Classical.choose_spec (g1 z)).2 H0 Fa ts us ρ σ H F d v Q hl E i o
  · intro H0 Fa ts us ρ σ H Q hl E o z
    exact (Classical.choose_spec (t1 z)).2 H0 Fa ts us ρ σ H Q hl E o
  · intro H0 Fa ts us ρ σ H Q hl E o z
    exact (Classical.choose_spec (e1 z)).2 H0 Fa ts us ρ σ H Q hl E o
theorem em_lc1 {elt iter : Expr} {ifs : List Expr} {scope : Scope} {f : Rn → Out M} (h : LcOk ca X W elt tg iter ifs scope f) : EM ca X W (.ListComp elt [⟨tg, iter, ifs, 0⟩] scope pos) f := by
  obtain ⟨own, wi, g, tt, te, h1, h2, h3, h4, h5, h6, h7, h8, h9⟩ := h.ex
  exact ⟨_, pe_lc h1 h2 h3 h4 h5 h6 h7 h8, h9⟩
theorem EvM.frz {K : PySem.W.Frag} {te : TE} {f : Rn → Out M} (h : EvM ca K W te f) : EvM ca K W te (toM (toD f)) := fun H0 Fa ts us ρ σ H Q hl E o => h H0 Fa ts us ρ σ H Q hl E (by
  unfold toM toD at o
  exact o.map.map.imp (fun m q v H2 E2 => q v H2 E2.frz) fun _ z => z)
theorem lc_frz {elt iter : Expr} {ifs : List Expr} {scope : Scope} {f : Rn → Out M} (h : LcOk ca X W elt tg iter ifs scope f) : LcOk ca X W elt tg iter ifs scope (toM (toD f)) := by
  obtain ⟨own, wi, g, tt, te, h1, h2, h3, h4, h5, h6, h7, h8, h9⟩ := h.ex
  exact ⟨own, wi, g, tt, te, h1, h2, h3, h4, h5, h6, h7, h8, h9.frz⟩
theorem ss_setLc (i : Nat) {elt iter : Expr} {ifs : List Expr} {scope : Scope} {f : Rn → Out M} {y : Str} {py spos : Pos} (h : LcOk ca X W elt tg iter ifs scope f) (hy : X.N[i]? = some y := by rfl) (hyl : X.env.scope.names.lookup y = some .local := by rfl)
    (hsw : swapsWith (.ListComp elt [⟨tg, iter, ifs, 0⟩] scope pos) (some (.Name y py)) spos.line X.env = pure true := by exact sw_true rfl rfl rfl (by decide +kernel)) :
    SS ca X W (.Assign [.Name y py] (.ListComp elt [⟨tg, iter, ifs, 0⟩] scope pos) spos) (sSet i f) := by
  obtain ⟨own, wi, g, tt, te, h1, h2, h3, h4, h5, h6, h7, h8, h9⟩ := h.ex
  refine ⟨_, ps_setLc h1 h2 hy hyl hsw h3 h4 h5 h6 h7 h8, fun H0 Fa ts us ρ σ H D hl E o => h9 H0 Fa ts us ρ σ H _ hl E (SPost.ofE o fun m o v H2 E2 => ?_)⟩
  by_cases z : i < ρ.length
  · rw [if_pos z] at o
    refine o _ H2 ?_
    obtain ⟨F, E3⟩ := E2
    have q := E3.store (i := ts.length + i) (by simp; omega)
    rw [drop_set] at q
    rw [hl, drop_set] at q
    exact q
  · rw [if_neg z] at o; exact o.elim
end
/-- the law's end over a head by facts, the world's own outside -/
theorem walk_end {l : PySem.W.OpenLaw} {n k : Nat} {q : Program} {loose : List Str} {XP : (Str → Option Value) → Heap → Prop} {YP : World → Heap → Prop} {d : DefRec} {CX : World → CXT} {x : Str}
    (hn : l.most = some n) (hn2 : n ≤ sizeLine) (hdf : d.params.defaults = []) (hr : Room k callerA)
    (F : ∀ (w : World) (mg : Str → Option Value) (fa : Addr) (h : Heap), YP w h → h.Ns mainGlobals mg → mg d.name = some (.ref fa) →
      ∃ (K : PySem.W.Frag) (fd : FuncData) (sp : Sp), K.In h ∧ (∀ (s : Shared) (u : Value), BindsTo s fd ⟨[u], []⟩ [(x, u)]) ∧
        (∀ (H : Hp) (a : Addr) (ns : List Int), ns.length ≤ n → Only H → SqL K H a (ns.map V.int) → sp [.ref a] H (fun v _ => v = .bl true) fun _ _ _ => False) ∧
        ∀ base : Heap, K.In base → base.Ns mainGlobals mg → FnOk l.prog w K mg base (CX w) k fa fd [x] sp)
    (hCX : ∀ (w : World) (H : Hp) (s : Shared) (e : Value) (s' : Shared), CX w [] H s (fun _ _ _ => False) e s' → False) :
    PySem.W.WalkO q loose XP YP l.row.toRowW d [] (fun f vs => PySem.call f vs) := by
  refine Att.attach_call hn hdf fun w s₀ s₁ mg mb fa o pm cd doc a vs ns G Y ho hd hcd hmg hobj hints hlen hg => ?_
  obtain ⟨K, fd, sp, KX, hb, hsp, hF⟩ := F w mg fa _ Y G.T.g hmg
  exact law_call KX G.T.g G.T.b G.T.builtins G.T.nolimit hg hobj hints (Nat.le_trans hlen hn2) hr hF hb (fun H hO hS => hsp H a ns hlen hO hS) fun H e s' => hCX w H s₁ e s'
end DA
set_option maxHeartbeats 4000000
/-! DAC: instances made by a class's own __init__ -/
namespace DA
open PySem PySem.Spec PyProof.Rows L2

section
variable {ca : Str → Option Addr} {K : PySem.W.Frag} {H0 H H1 H2 : Hp} {Fa F : List Addr} {ρ : Rn} {σ : L2.St} {x : Addr} {o : HO}
theorem rd_upd {b : Addr} {u : HO} (h : H x = none) (q : Rd H b u) (z : Rd H1 b u) : Rd (upd H1 x o) b u := by
  have ne : b ≠ x := fun e => rd_ne q (by rw [e]; exact h)
  unfold Rd at z ⊢
  rw [upd_ne ne]
  exact z
theorem le_upd (l : Le H H1) (h : H x = none) : Le H (upd H1 x o) :=
  ⟨fun b u q => by rw [upd_ne (ne_of_none q h)]; exact l.same b u q⟩
theorem le_both (l : Le H H1) (_ : H1 x ≠ none) : Le (upd H x o) (upd H1 x o) := ⟨fun b u q => by
  by_cases e : b = x
  · subst e; rw [upd_same] at q ⊢; exact q
  · rw [upd_ne e] at q ⊢; exact l.same b u q⟩
theorem cut_upd {G : List Addr} (h : x ∈ G) : cut (upd H x o) G = cut H G := by
  funext b
  unfold cut
  by_cases z : b ∈ G
  · rw [if_pos z, if_pos z]
  · rw [if_neg z, if_neg z, upd_ne (fun e => z (by rw [e]; exact h))]
/-- a guarded cell written anew, here and at the entry -/
theorem EnvF.rebase (E : EnvF ca K H0 Fa ρ σ H F) (hx : x ∈ Fa) (m : Mu (some o)) : EnvF ca K (upd H0 x o) Fa ρ σ (upd H x o) F := by
  have n1 : H x ≠ none := by rw [E.keep x hx]; exact (E.mu x hx).ne
  have nF : x ∉ F := fun z => E.apart x z hx
  refine ⟨le_both E.le n1, fun a ha => ?_, fun a ha => ?_, E.nd, fun a ha => ?_, E.own.mono ?_ (fun a ha => upd_ne fun e => nF (by rw [← e]; exact ha)) fun a xs q => ?_⟩
  · by_cases e : a = x
    · subst e; rw [upd_same, upd_same]
    · rw [upd_ne e, upd_ne e]; exact E.keep a ha
  · by_cases e : a = x
    · subst e; rw [upd_same]; exact m
    · rw [upd_ne e]; exact E.mu a ha
  · rw [upd_ne (fun e => nF (by rw [← e]; exact ha))]; exact E.fresh a ha
  · rw [cut_upd (List.mem_append_left _ hx)]; exact Le.refl _
  · have ne : a ≠ x := fun e => by
      subst e
      have := E.mu a hx
      rw [← E.keep a hx] at this
      exact this.noTup q
    rw [upd_ne ne]; exact q
theorem EnvF.datas : ∀ {ds : List D} {vs : List V}, ds.length = vs.length → EnvF ca K H0 Fa ((ds.map fun d => some (.dat d)) ++ ρ) (vs.map some ++ σ) H F → IsL ca K (cut H (Fa ++ F)) ds vs
  | [], [], _, _ => IsL.nil
  | [], _ :: _, l, _ => by simp at l
  | _ :: _, [], l, _ => by simp at l
  | d :: ds, v :: vs, l, E => by
    obtain ⟨w', σ', F1, F2, e, ⟨v', ev, h⟩, r, ef⟩ := E.own
    injection e with e1 e2
    subst e1
    cases ev
    obtain ⟨f1, i⟩ := ow_dat.mp h
    subst f1
    have eF : F = F2 := by rw [ef]; rfl
    subst eF
    have E2 : EnvF ca K H0 Fa ((ds.map fun d => some (.dat d)) ++ ρ) (vs.map some ++ σ) H F := ⟨E.le, E.keep, E.mu, E.nd, E.fresh, by rw [← e2] at r; exact r⟩
    exact IsL.cons i (EnvF.datas (by simpa using l) E2)
end

/-! ### the promise of an __init__ -/
abbrev Ac := List (Str × D)
/-- x, an instance without fields, gets those that g tells (the last one first) -/
def PI (ca : Str → Option Addr) (K : PySem.W.Frag) (Ls : List Str) (g : Addr → List D → Out Ac) : Sp := fun vs H Q E =>
  ∃ (Fa : List Addr) (x C dx : Addr) (Cn : Str) (ds : List D) (ws : List V), vs = .ref x :: ws ∧ (∀ a ∈ Fa, Mu (H a)) ∧ x ∈ Fa ∧ H x = some (.ins C dx []) ∧ ca Cn = some C ∧ List.contains Ls Cn = true ∧ IsL ca K (cut H Fa) ds ws ∧
  OutE (g x ds) (fun acc => ∀ (H1 H3 : Hp) (rkv : List (Str × V)), (∀ a, a ≠ x → H1 a = H a) → H1 x = some (.ins C dx rkv.reverse) → rkv.map (·.1) = acc.map (·.1) → Frm H1 Fa H3 → IsL ca K (cut H3 Fa) (acc.map (·.2)) (rkv.map (·.2)) → Q .non H3)
    (fun n => ∀ (a : Addr) (H3 : Hp), ca n = some a → Frm H Fa H3 → E (.ref a) none H3)
section
variable (ca : Str → Option Addr) (X : Cx) (W : WX) (Ls : List Str)
/-- what the steps of an __init__ do -/
def ImD (K : PySem.W.Frag) (t : TS) (s : Addr → Ac → Rn → Out Ac) : Prop := ∀ (H0 : Hp) (Fa : List Addr) (x C dx : Addr) (Cn : Str) (acc : Ac) (rkv : List (Str × V)) (ρ : Rn) (σ : L2.St) (H : Hp) (D : Ends),
  x ∈ Fa → ca Cn = some C → List.contains Ls Cn = true → rkv.map (·.1) = acc.map (·.1) → H0 x = some (.ins C dx rkv.reverse) → Env ca K H0 Fa ((acc.map fun p => some (.dat p.2)) ++ ρ) ((rkv.map fun p => some p.2) ++ σ) H →
  OutE (s x acc ρ) (fun acc' => ∀ (H1 : Hp) (σ' : L2.St) (H2 : Hp) (rkv' : List (Str × V)), (∀ a, a ≠ x → H1 a = H0 a) → H1 x = some (.ins C dx rkv'.reverse) → rkv'.map (·.1) = acc'.map (·.1) → Frm H1 Fa H2 → IsL ca K (cut H2 Fa) (acc'.map (·.2)) (rkv'.map (·.2)) → D.nx σ' H2)
    (fun n => ∀ (a : Addr) (σ' : L2.St) (H2 : Hp), ca n = some a → Frm H0 Fa H2 → W (.ref a) none σ' H2) → t D σ H
def IM (sts : List Stmt) (s : Addr → Ac → Rn → Out Ac) : Prop := ∃ t, PSs X sts t ∧ ImD ca W Ls X.K t s
end
def iNil (_ : Addr) (acc : Ac) (_ : Rn) : Out Ac := .ok acc
def iPre (p : Rn → SOut) (r : Addr → Ac → Rn → Out Ac) (x : Addr) (acc : Ac) (ρ : Rn) : Out Ac := (p ρ).bind fun q => match q.1 with
  | .nx => r x acc q.2
  | _ => .stuck
def iSet (n : Str) (f g : Rn → Out D) (r : Addr → Ac → Rn → Out Ac) (x : Addr) (acc : Ac) (ρ : Rn) : Out Ac := ((f ρ).nx.bind fun d => (g ρ).nx.bind fun y => match y with
  | .loc x' => if x' = x ∧ List.contains (acc.map (·.1)) n = false ∧ acc.length < 500 then r x ((n, d) :: acc) ρ else .stuck
  | _ => .stuck).nx
def iBase (g : Addr → List D → Out Ac) (a : Rn → Out (List D)) (r : Addr → Ac → Rn → Out Ac) (x : Addr) (acc : Ac) (ρ : Rn) : Out Ac := match acc with
  | [] => ((a ρ).nx.bind fun ds => match ds with
    | .loc x' :: ds => if x' = x then (g x ds).nx.bind fun acc' => r x acc' ρ else .stuck
    | _ => .stuck).nx
  | _ => .stuck
section
variable {ca : Str → Option Addr} {X : Cx} {W : WX} {Ls : List Str} {st : Stmt} {sts : List Stmt} {e : Expr} {es : List Expr} {pos pos' apos : Pos}
theorem maps {α β : Type} (f : α → β) (g : β → Option M) (xs : List α) : xs.map (fun a => g (f a)) = (xs.map f).map g := by rw [List.map_map]; rfl
theorem im_nil : IM ca X W Ls [] iNil := by
  refine ⟨_, pss_nil, fun H0 Fa x C dx Cn acc rkv ρ σ H D hx hC hL hn h0 ⟨F, E⟩ o => ?_⟩
  have o2 : ∀ (H1 : Hp) (σ' : L2.St) (H2 : Hp) (rkv' : List (Str × V)), (∀ a, a ≠ x → H1 a = H0 a) → H1 x = some (.ins C dx rkv'.reverse) → rkv'.map (·.1) = acc.map (·.1) → Frm H1 Fa H2 → IsL ca X.K (cut H2 Fa) (acc.map (·.2)) (rkv'.map (·.2)) → D.nx σ' H2 := o
  have l : (acc.map (·.2)).length = (rkv.map (·.2)).length := by
    have := congrArg List.length hn
    simpa using this.symm
  have E2 : EnvF ca X.K H0 Fa (((acc.map (·.2)).map fun d => some (.dat d)) ++ ρ) ((rkv.map (·.2)).map some ++ σ) H F := by
    rw [List.map_map, List.map_map]; exact E
  exact o2 H0 σ H rkv (fun _ _ => rfl) h0 hn E.frm ((EnvF.datas l E2).le (le_shrink (fun a ha => List.mem_append_left _ ha) fun a ha => (E.muG a (List.mem_append_left _ ha)).ne))
theorem im_pre {p : Rn → SOut} {r : Addr → Ac → Rn → Out Ac} (h : SS ca X W st p) (hr : IM ca X W Ls sts r) : IM ca X W Ls (st :: sts) (iPre p r) := by
  obtain ⟨t, q, h⟩ := h
  obtain ⟨u, q2, hr⟩ := hr
  refine ⟨_, pss_cons q q2, fun H0 Fa x C dx Cn acc rkv ρ σ H D hx hC hL hn h0 E o => ?_⟩
  have hl : (acc.map fun p => (some (.dat p.2) : Option M)).length = (rkv.map fun p => some p.2).length := by
    have := congrArg List.length hn
    simpa using this.symm
  refine h H0 Fa _ _ ρ σ H _ hl E ?_
  unfold iPre at o
  cases ep : p ρ with
  | stuck => rw [ep] at o; exact o.elim
  | exc n => rw [ep] at o; exact fun a σ' H2 c f => o a σ' H2 c f
  | ok z =>
    obtain ⟨fl, ρ'⟩ := z
    rw [ep] at o
    cases fl with
    | nx => exact fun σ' H2 E2 => hr H0 Fa x C dx Cn acc rkv ρ' σ' H2 D hx hC hL hn h0 E2 o
    | bk => exact o.elim
    | ct => exact o.elim
    | rt m => exact o.elim
theorem putF_new {f : Str} {y : V} : ∀ {kvs : List (Str × V)}, List.contains (kvs.map (·.1)) f = false → putF f y kvs = kvs ++ [(f, y)]
  | [], _ => rfl
  | (g, z) :: r, h => by
    rw [List.map_cons, List.contains_cons] at h
    obtain ⟨h1, h2⟩ := Bool.or_eq_false_iff.mp h
    have ne : ¬ g = f := fun e => by rw [e] at h1; simp at h1
    rw [putF, if_neg ne, putF_new h2]
    rfl
theorem im_set {n : Str} {o : Expr} {value : Expr} {f g : Rn → Out D} {r : Addr → Ac → Rn → Out Ac} (hc : ∀ m, List.contains Ls m = true → ∀ C, ca m = some C → Cls X.K C ∧ NoAttr X.K C n) (hv : ED ca X W value f) (ho : ED ca X W o g) (hr : IM ca X W Ls sts r)
    (hs : swapsWith value (some (.Attribute o n pos')) pos.line X.env = pure false := by rfl) : IM ca X W Ls (.Assign [.Attribute o n pos'] value pos :: sts) (iSet n f g r) := by
  obtain ⟨tv, pv, hv⟩ := hv
  obtain ⟨to, po, ho⟩ := ho
  obtain ⟨u, q2, hr⟩ := hr
  refine ⟨_, pss_cons (ps_fld po pv hs) q2, fun H0 Fa x C dx Cn acc rkv ρ σ H D hx hC hL hn h0 E ok => ?_⟩
  have hl : (acc.map fun p => (some (.dat p.2) : Option M)).length = (rkv.map fun p => some p.2).length := by
    have := congrArg List.length hn
    simpa using this.symm
  refine hv H0 Fa _ _ ρ σ H _ hl E ?_
  unfold iSet at ok
  have ok := ok.nx (Y := fun _ => False)
  cases ef : f ρ with
  | stuck => rw [ef] at ok; exact ok.elim
  | exc z => rw [ef] at ok; exact ok.elim
  | ok d =>
    rw [ef] at ok
    intro y H1 F1 E1 i1
    have E1' := E1.top i1
    refine ho H0 Fa (some (.dat d) :: (acc.map fun p => (some (.dat p.2) : Option M))) (some y :: (rkv.map fun p => (some p.2 : Option V))) ρ σ H1 _ (by simpa using hl) (by exact ⟨F1, E1'⟩) ?_
    cases eg : g ρ with
    | stuck => rw [eg] at ok; exact ok.elim
    | exc z => rw [eg] at ok; exact ok.elim
    | ok dl =>
      rw [eg] at ok
      intro vl H2 F2 E2 i2
      cases dl with
      | loc x' =>
        have ok : OutE (if x' = x ∧ List.contains (acc.map (·.1)) n = false ∧ acc.length < 500 then r x ((n, d) :: acc) ρ else .stuck) _ _ := ok
        by_cases z : x' = x ∧ List.contains (acc.map (·.1)) n = false ∧ acc.length < 500
        · rw [if_pos z] at ok
          obtain ⟨rfl, z1, z2⟩ := z
          obtain ⟨c1, c2⟩ := hc Cn hL C hC
          have hx2 : H2 x' = some (.ins C dx rkv.reverse) := (E2.keep x' hx).trans h0
          have nc : List.contains (rkv.reverse.map (·.1)) n = false := by
            rw [List.map_reverse, hn]
            cases hh : List.contains (acc.map (·.1)).reverse n with
            | false => rfl
            | true =>
              have := List.contains_iff_mem.mp hh
              rw [List.mem_reverse] at this
              have := List.contains_iff_mem.mpr this
              rw [this] at z1; cases z1
          refine ⟨x', C, dx, rkv.reverse, is_loc.mp i2, hx2, c1, c2, ?_, ?_⟩
          · have := congrArg List.length hn
            simp at this ⊢
            omega
          · rw [putF_new nc]
            have er : rkv.reverse ++ [(n, y)] = ((n, y) :: rkv).reverse := by rw [List.reverse_cons]
            rw [er]
            have mm : Mu (some (HO.ins C dx ((n, y) :: rkv).reverse)) := .inr (.inr (.inr ⟨_, _, _, rfl⟩))
            refine hr (upd H0 x' (.ins C dx ((n, y) :: rkv).reverse)) Fa x' C dx Cn ((n, d) :: acc) ((n, y) :: rkv) ρ σ _ D hx hC hL (by rw [List.map_cons, List.map_cons, hn]) upd_same ⟨F2, E2.rebase hx mm⟩ ?_
            refine ok.imp (fun acc' k H3 σ' H4 rkv' k1 k2 k3 k4 k5 => k H3 σ' H4 rkv' (fun a ne => (k1 a ne).trans (upd_ne ne)) k2 k3 k4 k5) fun _ z => z.elim
        · rw [if_neg z] at ok; exact ok.elim
      | _ => exact ok.elim
/-- B.__init__(..), B the class at C -/
theorem pe_clsfn {CX : CXT} {k : Nat} {g CB : Addr} {mc : Value} {fd : FuncData} {ps : List Str} {sp : Sp} {B m : Str} {bp : Pos} {E : L2.St → XK} {t : TA} {pl : Sem Bool} (hg : Gl X B) (hm : X.mg B = some (.ref CB)) (r : ClX.CRead X.K CB mc) (k1 : ClX.CVal X.K CB mc m (.ref g) (.ref g)) (hk : PySem.W.keepIn X.K (.ref g) = true)
    (F : FnOk X.prog X.w X.K X.mg X.base CX k g fd ps sp) (hb : Binds X.K fd ps []) (hr : Room k X.A) (hx : ∀ σ, PassesAt CX X σ (E σ)) (ha : PA X (e :: es) t) (hdb : (B == ("__debug__" : Str)) = false := by decide)
    (hst : starEach (e :: es) X.env = (false, eval e X.env) :: starEach es X.env := by rfl) (hpl : (backTo pos (starEach es X.env)).any (·.1) = false := by rfl)
    (ht : eval (.Call (.Attribute (.Name B bp) m apos) (e :: es) [] pos) X.env = (do
      let ov ← eval (.Name B bp) X.env
      standAt apos.atName
      let (f, first) ← holding [ov] (getMethod ov m pl)
      callWith pos f first (backTo pos (starEach (e :: es) X.env)) (backToKw pos (keywordEach [] X.env))) := by rfl) :
    PE X (.Call (.Attribute (.Name B bp) m apos) (e :: es) [] pos) (fun σ H Q => t σ H fun vs H1 => sp vs H1 Q (E σ)) := by
  refine ⟨fun pins s σ H Q I h => ?_⟩
  refine PySem.W.methodCall_KW (pl := pl) (ld_glob I hg hm ?_ hdb) ht
  refine PySem.W.method_cls I.kIn r.ga (ClX.getcval_ok I r k1 fun s2 I2 => ?_)
  refine PySem.W.callWith_K (first := []) (h₀ := X.base) I.ok.mod.kin hk (thn (ha.run pos pins s2 σ H _ I2 h) fun us s3 ⟨vs, H2, I3, rv, q2⟩ => ⟨I3.kIn, ?_⟩) hst hpl
  exact run_fnD (us := us) (vs := vs) F hr hb .nil (hx σ) I3 rv (by rw [List.append_nil]; exact q2)
theorem im_base {j k : Nat} {g CB : Addr} {fd : FuncData} {ps : List Str} {B : Str} {bp : Pos} {d : Addr → List D → Out Ac} {a : Rn → Out (List D)} {r : Addr → Ac → Rn → Out Ac} {pl : Sem Bool} {mc : Value} (J : JX X W k) (hm : X.mg B = some (.ref CB)) (rc : ClX.CRead X.K CB mc) (k1 : ClX.CVal X.K CB mc "__init__" (.ref g) (.ref g)) (hk : PySem.W.keepIn X.K (.ref g) = true)
    (F : FnOk X.prog X.w X.K X.mg X.base (L2.CX X.prog X.w) j g fd ps (PI ca X.K Ls d)) (hb : Binds X.K fd ps []) (hj : j ≤ k) (ha : EA ca X W (e :: es) a) (hr : IM ca X W Ls sts r)
    (hs : swapsWith (.Call (.Attribute (.Name B bp) "__init__" apos) (e :: es) [] pos) none pos'.line X.env = pure false := by rfl) (hg : Gl X B := by rfl) (hdb : (B == ("__debug__" : Str)) = false := by decide)
    (hst : starEach (e :: es) X.env = (false, eval e X.env) :: starEach es X.env := by rfl) (hpl : (backTo pos (starEach es X.env)).any (·.1) = false := by rfl)
    (ht : eval (.Call (.Attribute (.Name B bp) "__init__" apos) (e :: es) [] pos) X.env = (do
      let ov ← eval (.Name B bp) X.env
      standAt apos.atName
      let (f, first) ← holding [ov] (getMethod ov "__init__" pl)
      callWith pos f first (backTo pos (starEach (e :: es) X.env)) (backToKw pos (keywordEach [] X.env))) := by rfl) :
    IM ca X W Ls (.Expr (.Call (.Attribute (.Name B bp) "__init__" apos) (e :: es) [] pos) pos' :: sts) (iBase d a r) := by
  obtain ⟨ta, pa, ha⟩ := ha
  obtain ⟨u, q2, hr⟩ := hr
  refine ⟨_, pss_cons (ps_expr (pe_clsfn hg hm rc k1 hk F hb (J.room.mono hj) (fun σ => passAt J.tk σ) pa hdb hst hpl ht) hs) q2, fun H0 Fa x C dx Cn acc rkv ρ σ H D hx hC hL hn h0 E ok => ?_⟩
  cases acc with
  | cons p acc => exact ok.elim
  | nil =>
    have er : rkv = [] := by
      have := congrArg List.length hn
      simpa using this
    subst er
    refine ha H0 Fa [] [] ρ σ H _ rfl E ?_
    have ok := OutE.nx (Y := fun _ => False) (show OutE (Out.nx _) _ _ from ok)
    cases ef : a ρ with
    | stuck => rw [ef] at ok; exact ok.elim
    | exc z => rw [ef] at ok; exact ok.elim
    | ok dl =>
      rw [ef] at ok
      intro vs H2 F2 E2 i2
      cases dl with
      | nil => exact ok.elim
      | cons d0 ds =>
        cases d0 with
        | loc x' =>
          have ok : OutE (if x' = x then (d x ds).nx.bind fun acc' => r x acc' ρ else .stuck) _ _ := ok
          by_cases z : x' = x
          · rw [if_pos z] at ok
            subst z
            obtain ⟨v, ws, rfl, iv, iw⟩ := isL_cons.mp i2
            rw [is_loc.mp iv]
            have hx2 : H2 x' = some (.ins C dx []) := (E2.keep x' hx).trans h0
            refine ⟨Fa ++ F2, x', C, dx, Cn, ds, ws, rfl, E2.muG, List.mem_append_left _ hx, hx2, hC, hL, iw, ?_⟩
            cases eg : d x' ds with
            | stuck => rw [eg] at ok; exact ok.elim
            | exc z => rw [eg] at ok; exact ok.elim
            | ok acc' =>
              rw [eg] at ok
              intro H1 H3 rkv b1 b2 b3 b4 b5
              have e1 : H1 = upd H2 x' (.ins C dx rkv.reverse) := by
                funext b
                by_cases e : b = x'
                · subst e; rw [upd_same]; exact b2
                · rw [upd_ne e]; exact b1 b e
              have mm : Mu (some (HO.ins C dx rkv.reverse)) := .inr (.inr (.inr ⟨_, _, _, rfl⟩))
              have E2b : EnvF ca X.K H0 Fa ρ σ H2 F2 := E2
              have E3 := E2b.rebase hx mm
              rw [← e1] at E3
              have E4 := E3.go b4.le b4.keep
              have E5 := E4.tops (ds := acc'.map (·.2)) (vs := rkv.map (·.2)) b5
              rw [List.map_map, List.map_map] at E5
              refine hr (upd H0 x' (.ins C dx rkv.reverse)) Fa x' C dx Cn acc' rkv ρ σ H3 D hx hC hL b3 upd_same ⟨F2, E5⟩ ?_
              exact OutE.imp ok (fun acc2 k H4 σ' H5 rkv' k1 k2 k3 k4 k5 => k H4 σ' H5 rkv' (fun a ne => (k1 a ne).trans (upd_ne ne)) k2 k3 k4 k5) fun _ z => z.elim
          · rw [if_neg z] at ok; exact ok.elim
        | _ => exact ok.elim
end
def runI (n k : Nat) (s : Addr → Ac → Rn → Out Ac) (x : Addr) (ds : List D) : Out Ac := if ds.length = n then s x [] (((D.loc x :: ds).map fun d => some (.dat d)) ++ List.replicate k none) else .stuck
section
variable {P : Program} {w : World} {K : PySem.W.Frag} {mg : Str → Option Value} {base : Heap} {fa : List He.Fa} {fn : List He.DefD} {fc : List (Nat × Str)} {ca : Str → Option Addr} {Ls : List Str}
theorem fn_okI {x qual : Str} {params : Arguments} {body : List Stmt} {scope : Scope} {dvs : List V} {kws : List (Str × V)} {f : Addr} {fd : FuncData} {N ps : List Str} {k : Nat} {s : Addr → Ac → Rn → Out Ac} (F : FunD K x qual params body scope dvs kws f fd) (S : FnScope N ps scope) (hps : ps ≠ [])
    (hbody : ∀ (cdv : Value) (A : Around) (outer : List PySem.Env) (s0 : Shared) (H : Hp) (E : XK), JX (cxOf (L2.CX P w) P w K mg base N qual scope f cdv A outer s0 H E) (fun c d _ H' => E c d H') k →
      IM ca (cxOf (L2.CX P w) P w K mg base N qual scope f cdv A outer s0 H E) (fun c d _ H' => E c d H') Ls body s) : FnOk P w K mg base (L2.CX P w) (k + 1) f fd ps (PI ca K Ls (runI (ps.length - 1) (N.length - ps.length) s)) := by
  have hp : ps.length - 1 + 1 = ps.length := Nat.succ_pred_eq_of_pos (List.length_pos_iff.mpr hps)
  refine F.ok S (fun vs H Q E h => ?_) (fun cdv A outer s0 H vs Q E hr h => ?_)
  · obtain ⟨Fa, x, C, dx, Cn, ds, ws, rfl, mu, hx, h0, hC, hL, i, o⟩ := h
    unfold runI at o
    by_cases z : ds.length = ps.length - 1
    · rw [List.length_cons, ← i.len, z, hp]
    · rw [if_neg z] at o; exact o.elim
  · obtain ⟨Fa, x, C, dx, Cn, ds, ws, rfl, mu, hx, h0, hC, hL, i, o⟩ := h
    obtain ⟨t, p, hs⟩ := hbody cdv A outer s0 H E (jx_of S.nd hr)
    unfold runI at o
    by_cases z : ds.length = ps.length - 1
    · rw [if_pos z] at o
      have i2 : IsL ca K (cut H Fa) (D.loc x :: ds) (V.ref x :: ws) := IsL.cons (is_loc.mpr rfl) i
      have q := env_start (ca := ca) (K := K) mu i2 (N.length - ps.length)
      have lw : ((V.ref x :: ws) : List V).length = ps.length := by rw [List.length_cons, ← i.len, z, hp]
      refine ⟨t, p, hs H Fa x C dx Cn [] [] _ _ H _ hx hC hL rfl h0 (by
        unfold L2.start
        rw [lw]
        exact q) (OutE.imp o (fun acc k H1 σ' H2 rkv k1 k2 k3 k4 k5 => k H1 H2 rkv k1 k2 k3 k4 k5) fun n k a σ' H2 c f => k a H2 c f)⟩
    · rw [if_neg z] at o; exact o.elim
/-- the class C is made by its own __init__, worth d -/
structure OkI (ca : Str → Option Addr) (P : Program) (w : World) (K : PySem.W.Frag) (mg : Str → Option Value) (base : Heap) (Ls : List Str) (C : Str) (j : Nat) (d : Addr → List D → Out Ac) : Prop where
  ex : ∃ (fd : FuncData) (ps : List Str), Binds K fd ps [] ∧ PySem.W.keepIn K (.ref (He.ma K (He.ga K C) "__init__")) = true ∧ FnOk P w K mg base (L2.CX P w) j (He.ma K (He.ga K C) "__init__") fd ps (PI ca K Ls d)
theorem okI (L : LX P w K mg base fa fn fc) (i : Nat) {C : Str} {d : He.DefD} {N ps : List Str} {k : Nat} {s : Addr → Ac → Rn → Out Ac} (S : FnScope N ps d.scope) (hps : ps ≠ [])
    (hbody : ∀ (f : Addr) (cdv : Value) (A : Around) (outer : List PySem.Env) (s0 : Shared) (H : Hp) (E : XK), JX (cxOf (L2.CX P w) P w K mg base N d.qual d.scope f cdv A outer s0 H E) (fun c d _ H' => E c d H') k →
      IM ca (cxOf (L2.CX P w) P w K mg base N d.qual d.scope f cdv A outer s0 H E) (fun c d _ H' => E c d H') Ls d.body s)
    (hd : d.at_ = (C, some ("__init__" : Str))) (h0 : d.dfl = []) (hk : d.kwd = [])
    (hbind : ∀ (kV doc pm : Value) (an : Option Addr) (cdv ct : Value) (us : List Value), us.length = ps.length → bindArgs (PySem.W.fnOf d.name d.qual d.params d.body d.scope .none kV doc pm an cdv ct) ⟨us, []⟩ = pure (ps.zip us))
    (h : fn[i]? = some d := by rfl) : OkI ca P w K mg base Ls C (k + 1) (runI (ps.length - 1) (N.length - ps.length) s) := by
  obtain ⟨fd, F⟩ := L.says.def_ i h
  have e1 : d.dvs K = [] := by unfold He.DefD.dvs; rw [h0]; rfl
  have e2 : d.kws K = [] := by unfold He.DefD.kws; rw [hk]; rfl
  have e3 : He.fAd K d.at_ = He.ma K (He.ga K C) "__init__" := by rw [hd]; rfl
  rw [e1, e2, e3] at F
  exact ⟨fd, ps, F.bindsN hbind, F.kp, fn_okI F S hps (hbody _)⟩
theorem OkI.mono {C : Str} {i j : Nat} {d : Addr → List D → Out Ac} (O : OkI ca P w K mg base Ls C i d) (h : i ≤ j) : OkI ca P w K mg base Ls C j d := by
  obtain ⟨fd, ps, c1, c2, c3⟩ := O.ex
  exact ⟨fd, ps, c1, c2, c3.mono h⟩
end
/-! ### C(..) -/
noncomputable def newD (Cn : Str) (d : Addr → List D → Out Ac) (ds : List D) : Out D :=
  open Classical in if ∀ x, d x ds = d 0 ds then (d 0 ds).map fun acc => .obj Cn (acc.reverse.map (·.1)) (acc.reverse.map (·.2)) else .stuck
theorem newD_ok {Cn : Str} {d : Addr → List D → Out Ac} {ds : List D} {acc : Ac} (h : ∀ x, d x ds = .ok acc) : newD Cn d ds = .ok (.obj Cn (acc.reverse.map (·.1)) (acc.reverse.map (·.2))) := by
  unfold newD
  rw [if_pos (fun x => (h x).trans (h 0).symm), h 0]
  rfl
theorem newD_exc {Cn n : Str} {d : Addr → List D → Out Ac} {ds : List D} (h : ∀ x, d x ds = .exc n) : newD Cn d ds = .exc n := by
  unfold newD
  rw [if_pos (fun x => (h x).trans (h 0).symm), h 0]
  rfl
section
variable {X : Cx} {W : WX} {e : Expr} {es : List Expr} {pos p : Pos} {k : Nat}
theorem run_mk {CX : CXT} {f C : Addr} {fd : FuncData} {ps : List Str} {sp : Sp} {E : L2.St → XK} {pins : List (Addr × Obj)} {σ : L2.St} {H : Hp} {s : Shared} {Q : VK} {us : List Value} {vs : List V} (N : Mk X.K C f) (F : FnOk X.prog X.w X.K X.mg X.base CX k f fd ps sp) (hr : Room (k + 1) X.A) (hb : Binds X.K fd ps [])
    (hx : PassesAt CX X σ (E σ)) (I : Inv X pins σ H s) (r : Vals vs us)
    (h : ∀ x dx, H x = none → H dx = none → dx ≠ x → sp (.ref x :: vs) (upd (upd H dx (.own x)) x (.ins C dx [])) (fun v H2 => v = .non ∧ Q (.ref x) H2) (E σ)) : wpAny (model X.prog X.w) X.A (call (.ref C) us) (EP X pins σ Q) X.xe s := by
  have q := h (s.heap.objs.size + 1) s.heap.objs.size (I.hok.fresh (Nat.le_succ _)) (I.hok.fresh (Nat.le_refl _)) (Nat.ne_of_lt (Nat.lt_succ_self _))
  have J := Inv.made (C := C) I
  have rr : Vals (V.ref (s.heap.objs.size + 1) :: vs) (Value.ref (s.heap.objs.size + 1) :: us) := .cons rfl r
  have len : (Value.ref (s.heap.objs.size + 1) :: us ++ []).length = ps.length := by
    rw [List.append_nil, ← rr.length]; exact F.len _ _ _ _ q
  have bd := hb _ (Value.ref (s.heap.objs.size + 1) :: us) J.kIn len
  rw [List.append_nil] at bd
  refine wpAny_call (make_map (f := f) I.kIn N.makes N.init (beq_iff_eq.mp N.fn) (codeAny_mono (F.run _ X.stack _ _ ⟨_, []⟩ _ _ _ (E σ) (hr.make C us []) (J.env0.make C us []) bd rr q) fun z s' hz => ?_))
  cases z with
  | error a => exact hx pins _ _ a s' J hz
  | ok fl =>
    cases fl with
    | ret u =>
      obtain ⟨v, H', I3, rv, ev, q3⟩ := J.after hz
      subst ev
      exact ⟨rv, V.ref (s.heap.objs.size + 1), H', I3, rfl, q3⟩
    | next => exact False.elim hz
    | brk => exact False.elim hz
    | cont => exact False.elim hz
def tMk (C : Addr) (sp : Sp) (E : L2.St → XK) (t : TA) : TE := fun σ H Q => t σ H fun vs H1 => ∀ x dx, H1 x = none → H1 dx = none → dx ≠ x → sp (.ref x :: vs) (upd (upd H1 dx (.own x)) x (.ins C dx [])) (fun v H2 => v = .non ∧ Q (.ref x) H2) (E σ)
theorem pe_mk {CX : CXT} {f C : Addr} {fd : FuncData} {ps : List Str} {sp : Sp} {E : L2.St → XK} {x : Str} {t : TA} (N : Mk X.K C f) (F : FnOk X.prog X.w X.K X.mg X.base CX k f fd ps sp) (hr : Room (k + 1) X.A) (hg : Gl X x) (hm : X.mg x = some (.ref C)) (hb : Binds X.K fd ps []) (hx : ∀ σ, PassesAt CX X σ (E σ))
    (ha : PA X (e :: es) t) (hdb : (x == ("__debug__" : Str)) = false := by decide) (he : starEach (e :: es) X.env = (false, eval e X.env) :: starEach es X.env := by rfl) (hpl : (backTo pos (starEach es X.env)).any (·.1) = false := by rfl) :
    PE X (.Call (.Name x p) (e :: es) [] pos) (tMk C sp E t) := by
  refine ⟨fun pins s σ H Q I h => wpAny_Call_Name_kw (ld_glob I hg hm ?_ hdb)⟩
  exact PySem.W.callWith_K (h₀ := X.base) I.ok.mod.kin N.kp (thn (ha.run pos pins s σ H _ I h) fun us s1 ⟨vs, H1, I1, r, q⟩ => ⟨I1.kIn, run_mk N F hr hb (hx σ) I1 r q⟩) he hpl
theorem pe_mk0 {CX : CXT} {f C : Addr} {fd : FuncData} {ps : List Str} {sp : Sp} {E : L2.St → XK} {x : Str} (N : Mk X.K C f) (F : FnOk X.prog X.w X.K X.mg X.base CX k f fd ps sp) (hr : Room (k + 1) X.A) (hg : Gl X x) (hm : X.mg x = some (.ref C)) (hb : Binds X.K fd ps []) (hx : ∀ σ, PassesAt CX X σ (E σ))
    (hdb : (x == ("__debug__" : Str)) = false := by decide) : PE X (.Call (.Name x p) [] [] pos) (tMk C sp E tNil) := by
  refine ⟨fun pins s σ H Q I h => wpAny_Call_Name_kw (ld_glob I hg hm ?_ hdb)⟩
  exact PySem.W.callWith_K0 I.kIn N.kp (run_mk (us := []) N F hr hb (hx σ) I .nil h)
theorem mk_den {K : PySem.W.Frag} {cs Ls : List Str} {Cn : Str} {d : Addr → List D → Out Ac} {ta : TA} {g : Rn → Out (List D)} (hcs : cs.contains Cn = true) (hL : Ls.contains Cn = true) (ha : EvA (caK cs K) K W ta g) :
    EvD (caK cs K) K W (tMk (He.ga K Cn) (PI (caK cs K) K Ls d) (WE W) ta) (fun ρ => (g ρ).bind (newD Cn d)) := by
  have hC : caK cs K Cn = some (He.ga K Cn) := by unfold caK; rw [if_pos hcs]
  intro H0 Fa ts us ρ σ H Q hl E o
  refine ha H0 Fa ts us ρ σ H _ hl E (OutE.bind o |>.imp (fun ds o vs H1 F E1 i => ?_) fun n q => q)
  intro x dx hx hdx ne
  have h1 : ∀ a u, H1 a = some u → (upd (upd H1 dx (.own x)) x (.ins (He.ga K Cn) dx [])) a = some u := fun a u q => by
    rw [upd_ne (ne_of_none q hx), upd_ne (ne_of_none q hdx)]; exact q
  have nx : x ∉ Fa ++ F := fun z => (E1.muG x z).ne hx
  have E2 := E1.same h1
  have mu2 : ∀ a ∈ Fa ++ F ++ [x], Mu ((upd (upd H1 dx (.own x)) x (.ins (He.ga K Cn) dx [])) a) := fun a ha => by
    rcases List.mem_append.mp ha with z | z
    · exact E2.muG a z
    · rw [List.mem_singleton.mp z, upd_same]; exact .inr (.inr (.inr ⟨_, _, _, rfl⟩))
  have i2 : IsL (caK cs K) K (cut (upd (upd H1 dx (.own x)) x (.ins (He.ga K Cn) dx [])) (Fa ++ F ++ [x])) ds vs := i.le ((Le.of_same h1).cut (fun a n hn z => by
    rcases List.mem_append.mp z with z | z
    · exact n z
    · exact hn (by rw [List.mem_singleton.mp z]; exact hx)) fun a ha => (mu2 a ha).ne)
  refine ⟨Fa ++ F ++ [x], x, He.ga K Cn, dx, Cn, ds, vs, rfl, mu2, by simp, upd_same, hC, hL, i2, ?_⟩
  unfold newD at o
  by_cases z : ∀ y, d y ds = d 0 ds
  · rw [if_pos z] at o
    rw [z x]
    cases ed : d 0 ds with
    | stuck => rw [ed] at o; exact o.elim
    | exc n =>
      rw [ed] at o
      intro a H3 c f
      have f2 : Frm H1 (Fa ++ F) H3 := ⟨(Le.of_same h1).trans f.le, fun b hb => (f.keep b (List.mem_append_left _ hb)).trans (by rw [upd_ne (fun e => nx (by rw [← e]; exact hb)), upd_ne (fun e => (E1.muG b hb).ne (by rw [e]; exact hdx))])⟩
      exact o a H3 c ⟨F, E1.go f2.le f2.keep⟩
    | ok acc =>
      rw [ed] at o
      intro H2 H3 rkv b1 b2 b3 b4 b5
      have e2 : H2 = upd (upd (upd H1 dx (.own x)) x (.ins (He.ga K Cn) dx [])) x (.ins (He.ga K Cn) dx rkv.reverse) := by
        funext b
        by_cases e : b = x
        · subst e; rw [upd_same]; exact b2
        · rw [upd_ne e]; exact b1 b e
      have l2 : Le H1 H2 := by rw [e2]; exact le_upd (Le.of_same h1) hx
      have k2 : ∀ a ∈ Fa ++ F, H2 a = H1 a := fun a ha => by
        have n1 : a ≠ x := fun e => nx (by rw [← e]; exact ha)
        rw [b1 a n1, upd_ne n1, upd_ne (fun e => (E1.muG a ha).ne (by rw [e]; exact hdx))]
      have E3 := E1.go (l2.trans b4.le) fun a ha => (b4.keep a (List.mem_append_left _ ha)).trans (k2 a ha)
      refine ⟨rfl, o (.ref x) H3 F E3 (is_obj.mpr ⟨x, He.ga K Cn, dx, rkv.reverse, rfl, hC, ?_, ?_, ?_⟩)⟩
      · rw [cut_out nx, b4.keep x (by simp)]; exact b2
      · rw [List.map_reverse, List.map_reverse, b3]
      · have q := b5.rev
        rw [← List.map_reverse, ← List.map_reverse] at q
        exact q.le (le_shrink (fun a ha => List.mem_append_left _ ha) fun a ha => (E3.muG a ha).ne)
  · rw [if_neg z] at o; exact o.elim
noncomputable def newF (Cn : Str) (d : Addr → List D → Out Ac) (g : Rn → Out (List D)) (ρ : Rn) : Out D := (g ρ).bind (newD Cn d)
theorem ed_new {cs Ls : List Str} {Cn : Str} {j : Nat} {d : Addr → List D → Out Ac} {g : Rn → Out (List D)} (J : JX X W k) (O : OkI (caK cs X.K) X.prog X.w X.K X.mg X.base Ls Cn j d) (hk : (He.Fa.mkr Cn).ok X.K = true) (gm : X.mg Cn = some (.ref (He.ga X.K Cn)))
    (ha : EA (caK cs X.K) X W (e :: es) g) (hcs : cs.contains Cn = true := by decide +kernel) (hL : Ls.contains Cn = true := by decide +kernel) (hj : j + 1 ≤ k := by decide) (hg : Gl X Cn := by rfl) (hdb : (Cn == ("__debug__" : Str)) = false := by decide)
    (he : starEach (e :: es) X.env = (false, eval e X.env) :: starEach es X.env := by rfl) (hpl : (backTo pos (starEach es X.env)).any (·.1) = false := by rfl) : ED (caK cs X.K) X W (.Call (.Name Cn p) (e :: es) [] pos) (newF Cn d g) := by
  obtain ⟨fd, ps, c1, c2, c3⟩ := O.ex
  obtain ⟨ta, pa, ha⟩ := ha
  exact ⟨_, pe_mk (He.mkr_ok hk) c3 (J.room.mono hj) hg gm c1 (fun σ => passAt J.tk σ) pa hdb he hpl, mk_den hcs hL ha⟩
theorem ed_new0 {cs Ls : List Str} {Cn : Str} {j : Nat} {d : Addr → List D → Out Ac} (J : JX X W k) (O : OkI (caK cs X.K) X.prog X.w X.K X.mg X.base Ls Cn j d) (hk : (He.Fa.mkr Cn).ok X.K = true) (gm : X.mg Cn = some (.ref (He.ga X.K Cn)))
    (hcs : cs.contains Cn = true := by decide +kernel) (hL : Ls.contains Cn = true := by decide +kernel) (hj : j + 1 ≤ k := by decide) (hg : Gl X Cn := by rfl) (hdb : (Cn == ("__debug__" : Str)) = false := by decide) : ED (caK cs X.K) X W (.Call (.Name Cn p) [] [] pos) (newF Cn d aNil) := by
  obtain ⟨fd, ps, c1, c2, c3⟩ := O.ex
  exact ⟨_, pe_mk0 (He.mkr_ok hk) c3 (J.room.mono hj) hg gm c1 (fun σ => passAt J.tk σ) hdb, mk_den (g := aNil) hcs hL (fun H0 Fa ts us ρ σ H Q hl ⟨F, E⟩ o => o [] H F E IsL.nil)⟩
end
section
variable {P : Program} {w : World} {K : PySem.W.Frag} {mg : Str → Option Value} {base : Heap} {fa : List He.Fa} {fn : List He.DefD} {fc : List (Nat × Str)}
theorem LX.clsAt (L : LX P w K mg base fa fn fc) (x : Str) (h : fc.contains (0, x) = true) : ClX.CRead K (He.ga K x) (.type "type") ∧ ClX.CVal K (He.ga K x) (.type "type") "__init__" (.ref (He.ma K (He.ga K x) "__init__")) (.ref (He.ma K (He.ga K x) "__init__")) := by
  have q : clsB K x = true := List.all_eq_true.mp L.cls (0, x) (List.contains_iff_mem.mp h)
  unfold clsB at q
  obtain ⟨q1, q2⟩ := Bool.and_eq_true_iff.mp q
  obtain ⟨q2, q3⟩ := Bool.and_eq_true_iff.mp q2
  refine ⟨⟨q1, He.eqO_ok q2⟩, ⟨?_, rfl⟩⟩
  cases e : PySem.W.findCls K (.ref (He.ga K x)) (.type "type") "__init__" with
  | none => rw [e] at q3; cases q3
  | some r =>
    rw [e] at q3
    cases r with
    | get a b c d => cases q3
    | val v =>
      cases v with
      | ref g =>
        have eg : g = He.ma K (He.ga K x) "__init__" := of_decide_eq_true q3
        rw [eg]
      | _ => cases q3
end
section
variable {X : Cx} {W : WX} {Ls : List Str} {fc : List (Nat × Str)} {sts : List Stmt} {e : Expr} {es : List Expr} {pos pos' apos : Pos} {ca : Str → Option Addr}
theorem im_baseO {fa : List He.Fa} {fn : List He.DefD} {j k : Nat} {B : Str} {bp : Pos} {d : Addr → List D → Out Ac} {a : Rn → Out (List D)} {r : Addr → Ac → Rn → Out Ac} {pl : Sem Bool} (J : JX X W k) (L : LX X.prog X.w X.K X.mg X.base fa fn fc) (hm : X.mg B = some (.ref (He.ga X.K B)))
    (O : OkI ca X.prog X.w X.K X.mg X.base Ls B j d) (ha : EA ca X W (e :: es) a) (hr : IM ca X W Ls sts r) (hfc : fc.contains (0, B) = true := by decide +kernel) (hj : j ≤ k := by decide)
    (hs : swapsWith (.Call (.Attribute (.Name B bp) "__init__" apos) (e :: es) [] pos) none pos'.line X.env = pure false := by rfl) (hg : Gl X B := by rfl) (hdb : (B == ("__debug__" : Str)) = false := by decide)
    (hst : starEach (e :: es) X.env = (false, eval e X.env) :: starEach es X.env := by rfl) (hpl : (backTo pos (starEach es X.env)).any (·.1) = false := by rfl)
    (ht : eval (.Call (.Attribute (.Name B bp) "__init__" apos) (e :: es) [] pos) X.env = (do
      let ov ← eval (.Name B bp) X.env
      standAt apos.atName
      let (f, first) ← holding [ov] (getMethod ov "__init__" pl)
      callWith pos f first (backTo pos (starEach (e :: es) X.env)) (backToKw pos (keywordEach [] X.env))) := by rfl) :
    IM ca X W Ls (.Expr (.Call (.Attribute (.Name B bp) "__init__" apos) (e :: es) [] pos) pos' :: sts) (iBase d a r) := by
  obtain ⟨fd, ps, c1, c2, c3⟩ := O.ex
  exact im_base J hm (L.clsAt B hfc).1 (L.clsAt B hfc).2 c2 c3 c1 hj ha hr hs hg hdb hst hpl ht
end
/-! ### the head's hook, with what is asked of classes -/
def obC (n : Nat) (fa : List He.Fa) (fn : List He.DefD) (fc : List (Nat × Str)) (g : Addr → Option Obj) : He.AlD × Bool := (He.obsD fa fn (He.frG g (cStatics :: He.asD g n)), fc.all (facB (He.frG g (cStatics :: He.asD g n))))
def hookC (n : Nat) (fa : List He.Fa) (fn : List He.DefD) (fc : List (Nat × Str)) : PySem.W.Hook where
  α := He.AlD × Bool
  obs := fun s => obC n fa fn fc s.heap.get?
  val := fun _ => (He.valD fn, true)
  says := fun _ h => ∃ K : PySem.W.Frag, K.In h ∧ He.SaysD fa fn K ∧ fc.all (facB K) = true
  of := fun _ _ e => ⟨_, He.frG_in, congrArg Prod.fst e, congrArg Prod.snd e⟩
  keeps := fun _ _ _ ⟨K, hK, c⟩ k => ⟨K, hK.keeps k, c⟩
theorem obC_eq {n : Nat} {fa : List He.Fa} {fn : List He.DefD} {fc : List (Nat × Str)} {g : Addr → Option Obj} {s : Shared} (h : ∀ a, g a = s.heap.get? a) : obC n fa fn fc g = (hookC n fa fn fc).obs s := by
  rw [show g = s.heap.get? from funext h]
  rfl
end DA
set_option maxHeartbeats 4000000
/-! DAX: tuples joined and cut, reversed, tuples of ints compared, list(x), classes with no __init__ -/
namespace DA
open PySem PySem.Spec PyProof.Rows L2
section
variable {ca : Str → Option Addr} {X : Cx} {W : WX} {e a b c tg : Expr} {es : List Expr} {pos p p2 : Pos} {x m : Str}
/-! ### x + y -/
def dAdd (x y : D) : Out D := match x, y with
  | .int i, .int j => .ok (.int (i + j))
  | .tup xs, .tup ys => if xs.length + ys.length ≤ sizeLine then .ok (.tup (xs ++ ys)) else .stuck
  | _, _ => .stuck
theorem IsL.nil_iff {K : PySem.W.Frag} {H : Hp} {ds : List D} {vs : List V} (h : IsL ca K H ds vs) : vs = [] ↔ ds = [] := by
  have l := h.len
  constructor
  · intro e; subst e; exact List.length_eq_zero_iff.mp l
  · intro e; subst e; exact List.length_eq_zero_iff.mp l.symm
theorem upd_same_new {H : Hp} {q : Addr} {o : HO} (h : H q = none) : ∀ a u, H a = some u → (upd H q o) a = some u := fun a u z => by rw [upd_ne (ne_of_none z h)]; exact z
theorem new_is {K : PySem.W.Frag} {G : List Addr} {H : Hp} {q : Addr} {ds : List D} {vs : List V} (mu : ∀ a ∈ G, Mu (H a)) (h : H q = none) (i : IsL ca K (cut H G) ds vs) : Is ca K (cut (upd H q (.tup vs)) G) (.tup ds) (.ref q) := by
  have nq : q ∉ G := fun z => (mu q z).ne h
  have l : Le (cut H G) (cut (upd H q (.tup vs)) G) := (Le.new h).cut (fun _ n _ => n) fun a ha => by
    rw [upd_ne (fun e => nq (by rw [← e]; exact ha))]; exact (mu a ha).ne
  exact is_tup.mpr ⟨q, vs, rfl, (cut_out nq).trans upd_same, i.le l⟩
theorem opd_add {K : PySem.W.Frag} : OpD ca K (fun x y H Q => (rI0 (fun i j => .int (i + j))) x y H Q ∨ rCatA K x y H Q) dAdd := by
  intro G H d1 d2 v1 v2 Q mu i1 i2 o
  unfold dAdd at o
  split at o
  · rename_i i j
    rw [is_int.mp i1, is_int.mp i2]
    exact .inl ⟨i, j, rfl, rfl, o _ H (fun _ _ h => h) (is_int.mpr rfl)⟩
  · rename_i xs ys
    split at o
    · rename_i z
      obtain ⟨a, vs, rfl, ha, r1⟩ := is_tup.mp i1
      obtain ⟨b, ws, rfl, hb, r2⟩ := is_tup.mp i2
      refine .inr ⟨a, b, vs, ws, rfl, rfl, .inl (.inl (cut_some ha).2), .inl (.inl (cut_some hb).2), by rw [← r1.len, ← r2.len]; exact z, fun e => ?_, fun _ e => ?_, fun _ _ q hq => ?_⟩
      · have e1 := r1.nil_iff.mp e
        subst e1
        exact o _ H (fun _ _ h => h) i2
      · have e1 := r2.nil_iff.mp e
        subst e1
        rw [List.append_nil] at o
        exact o _ H (fun _ _ h => h) i1
      · exact o _ _ (upd_same_new hq) (new_is mu hq (r1.app r2))
    · exact o.elim
  · exact o.elim
theorem ed_add {f g : Rn → Out D} (ha : ED ca X W a f) (hb : ED ca X W b g) : ED ca X W (.BinOp a .Add b pos) (bin dAdd f g) := ed_op (op_add.or op_catA) opd_add ha hb
/-! ### x[lo:hi] -/
def cutL {α : Type} (xs : List α) (lo hi : Option Int) : List α := (xs.drop (HT.sIx xs.length 0 lo)).take (HT.sIx xs.length xs.length hi - HT.sIx xs.length 0 lo)
theorem IsL.cutL {K : PySem.W.Frag} {H : Hp} {ds : List D} {vs : List V} (h : IsL ca K H ds vs) (lo hi : Option Int) : IsL ca K H (DA.cutL ds lo hi) (cutV vs lo hi) := by
  unfold DA.cutL cutV
  rw [h.len]
  exact (h.drop).take
theorem cutL_all {α : Type} {xs : List α} {lo hi : Option Int} (h : HT.sIx xs.length 0 lo = 0 ∧ HT.sIx xs.length xs.length hi = xs.length) : cutL xs lo hi = xs := by
  unfold cutL
  rw [h.1, h.2, List.drop_zero, Nat.sub_zero, List.take_length]
def dSl (x : D) (lo hi : Option Int) : Out D := match x with
  | .tup xs => .ok (.tup (cutL xs lo hi))
  | .lst xs => .ok (.lst (cutL xs lo hi))
  | _ => .stuck
def PoM (ca : Str → Option Addr) (K : PySem.W.Frag) (W : WX) (t : TO) (f : Rn → Out (Option Int)) : Prop := ∀ (H0 : Hp) (Fa : List Addr) (ts : Rn) (us : L2.St) (ρ : Rn) (σ : L2.St) (H : Hp) (Q : Option Int → Hp → Prop), ts.length = us.length → Env ca K H0 Fa (ts ++ ρ) (us ++ σ) H →
  OutE (f ρ) (fun i => ∀ H2, Env ca K H0 Fa (ts ++ ρ) (us ++ σ) H2 → Q i H2) (fun n => ∀ a H2, ca n = some a → Env ca K H0 Fa (ts ++ ρ) (us ++ σ) H2 → W (.ref a) none σ H2) → t σ H Q
def EO (ca : Str → Option Addr) (X : Cx) (W : WX) (e : Option Expr) (f : Rn → Out (Option Int)) : Prop := ∃ t, PO X e t ∧ PoM ca X.K W t f
def oNone (_ : Rn) : Out (Option Int) := .ok none
def oSome (f : Rn → Out D) (ρ : Rn) : Out (Option Int) := (f ρ).bind fun d => match d with
  | .int i => .ok (some i)
  | _ => .stuck
theorem eo_none : EO ca X W none oNone := ⟨_, po_none, fun H0 Fa ts us ρ σ H Q hl E o => o H E⟩
theorem eo_some {f : Rn → Out D} (h : ED ca X W e f) : EO ca X W (some e) (oSome f) := by
  obtain ⟨te, pe, h⟩ := h
  refine ⟨_, po_some pe, fun H0 Fa ts us ρ σ H Q hl E o => h H0 Fa ts us ρ σ H _ hl E (OutE.bind o |>.imp (fun d o v H2 F E2 i => ?_) fun n q => q)⟩
  cases d with
  | int i2 => exact ⟨i2, is_int.mp i, o H2 ⟨F, E2⟩⟩
  | _ => exact o.elim
def slD (f : Rn → Out D) (l h : Rn → Out (Option Int)) (ρ : Rn) : Out D := (f ρ).bind fun d => (l ρ).bind fun lo => (h ρ).bind fun hi => (dSl d lo hi).nx
theorem ed_slice {lo hi : Option Expr} {f : Rn → Out D} {l h : Rn → Out (Option Int)} (hf : ED ca X W e f) (hlo : EO ca X W lo l) (hhi : EO ca X W hi h) : ED ca X W (.Subscript e (.Slice lo hi none p2) pos) (slD f l h) := by
  obtain ⟨te, pe, hf⟩ := hf
  obtain ⟨tl, pl, hlo⟩ := hlo
  obtain ⟨th, ph, hhi⟩ := hhi
  refine ⟨_, pe_slice (sl_tupA.or sl_list) pe pl ph, fun H0 Fa ts us ρ σ H Q hl E o => ?_⟩
  refine hf H0 Fa ts us ρ σ H _ hl E (OutE.bind o |>.imp (fun d o v H1 F1 E1 i1 => ?_) fun n q => q)
  refine hlo H0 Fa (some (.dat d) :: ts) (some v :: us) ρ σ H1 _ (by simp [hl]) ⟨F1, E1.top i1⟩ (OutE.bind o |>.imp (fun l0 o H2 E2 => ?_) fun n q a' H2 c E2 => q a' H2 c E2.pop)
  refine hhi H0 Fa (some (.dat d) :: ts) (some v :: us) ρ σ H2 _ (by simp [hl]) E2 (OutE.bind o |>.imp (fun h0 o H3 E3 => ?_) fun n q a' H3 c E3 => q a' H3 c E3.pop)
  obtain ⟨F, E3⟩ := E3
  obtain ⟨E4, i⟩ := E3.popD
  have o := o.nx (Y := fun _ => False)
  cases d with
  | tup xs =>
    obtain ⟨a, vs, rfl, ha, r⟩ := is_tup.mp i
    refine .inl ⟨a, vs, rfl, .inl (.inl (cut_some ha).2), fun hw => ?_, fun _ q hq => ?_⟩
    · have e : cutL xs l0 h0 = xs := cutL_all (by rw [r.len]; exact hw)
      have o : ∀ v H2 F, EnvF ca X.K H0 Fa (ts ++ ρ) (us ++ σ) H2 F → Is ca X.K (cut H2 (Fa ++ F)) (.tup (cutL xs l0 h0)) v → Q v H2 := o
      rw [e] at o
      exact o _ H3 F E4 i
    · exact o _ _ F (E4.same (upd_same_new hq)) (new_is E4.muG hq (r.cutL l0 h0))
  | lst xs =>
    obtain ⟨a, vs, rfl, ha, r⟩ := is_lst.mp i
    refine .inr ⟨a, vs, rfl, sq_whole ha, fun q hq => ?_⟩
    have nq : q ∉ Fa ++ F := fun z => (E4.muG q z).ne hq
    have l2 : Le (cut H3 (Fa ++ F)) (cut (upd H3 q (.lst (cutV vs l0 h0))) (Fa ++ F)) := (Le.new hq).cut (fun _ n _ => n) fun a ha => by
      rw [upd_ne (fun e => nq (by rw [← e]; exact ha))]; exact (E4.muG a ha).ne
    exact o _ _ F (E4.same (upd_same_new hq)) (is_lst.mpr ⟨q, _, rfl, .inl (.inl ((cut_out nq).trans upd_same)), (r.cutL l0 h0).le l2⟩)
  | _ => exact o.elim
/-! ### reversed(x) -/
def itRev (f : Rn → Out D) (ρ : Rn) : Out (List D) := (f ρ).bind fun d => (seqOf d).map List.reverse
theorem rev_get {α : Type} {xs : List α} {i : Nat} {d : α} (h : xs.reverse[i]? = some d) : i < xs.length ∧ xs[xs.length - 1 - i]? = some d := by
  have l : i < xs.reverse.length := by
    rcases Nat.lt_or_ge i xs.reverse.length with z | z
    · exact z
    · rw [List.getElem?_eq_none z] at h; cases h
  rw [List.length_reverse] at l
  rw [List.getElem?_reverse l] at h
  exact ⟨l, h⟩
theorem itOk_revL {K : PySem.W.Frag} {a : Addr} {n : Nat} {ds : List D} (hn : n = ds.length) : ItOk ca K (Itv K a n) ds.reverse [some (.dat (.lst ds))] [some (.ref a)] := by
  intro H0 Fa pre pus ρ σ H F i hp E
  have i1 := EnvF.at0 E hp
  obtain ⟨a', vs, ea, hq, r⟩ := is_lst.mp i1
  cases ea
  have q := sq_whole hq
  subst hn
  refine ⟨fun d hd => ?_, fun h => by rw [List.length_reverse] at h; exact h⟩
  obtain ⟨l, hd⟩ := rev_get hd
  obtain ⟨x, hx, ix⟩ := r.get hd
  refine ⟨⟨l, vs, x, q, hx⟩, fun y H' ⟨eH, hy⟩ => ?_⟩
  subst eH
  have e := hy vs q
  rw [hx] at e
  cases e
  exact ⟨E, ix⟩
theorem itOk_revT {K : PySem.W.Frag} {a : Addr} {n : Nat} {ds : List D} (hn : n = ds.length) : ItOk ca K (RT.ItvT K a n) ds.reverse [some (.dat (.tup ds))] [some (.ref a)] := by
  intro H0 Fa pre pus ρ σ H F i hp E
  have i1 := EnvF.at0 E hp
  obtain ⟨a', vs, ea, hq, r⟩ := is_tup.mp i1
  cases ea
  have q : SqT K H a vs := .inl (.inl (cut_some hq).2)
  subst hn
  refine ⟨fun d hd => ?_, fun h => by rw [List.length_reverse] at h; exact h⟩
  obtain ⟨l, hd⟩ := rev_get hd
  obtain ⟨x, hx, ix⟩ := r.get hd
  refine ⟨⟨l, vs, x, q, hx⟩, fun y H' ⟨eH, hy⟩ => ?_⟩
  subst eH
  have e := hy vs q
  rw [hx] at e
  cases e
  exact ⟨E, ix⟩
theorem ei_rev {f : Rn → Out D} (hm : X.mg "reversed" = none) (h : ED ca X W e f) (hg : Gl X "reversed" := by rfl) (hs : starEach [e] X.env = (false, eval e X.env) :: starEach [] X.env := by rfl) : EI ca X W tg (.Call (.Name "reversed" p) [e] [] pos) (itRev f) := by
  obtain ⟨te, pe, h⟩ := h
  refine ⟨_, RT.pi_revA hg hm (PE.facts pe) hs, fun H0 Fa ts us ρ σ H R hl E o => h H0 Fa ts us ρ σ H _ hl E (OutE.bind o |>.imp (fun d o v H2 F E2 i fz => ?_) fun n q => q)⟩
  cases d with
  | lst ds =>
    obtain ⟨a, vs, rfl, hq, r⟩ := is_lst.mp i
    exact ⟨a, vs, rfl, .inl ⟨sq_whole hq, o (Itv X.K a vs.length) H2 [some (.dat (.lst ds))] [some (.ref a)] rfl (by rw [List.length_reverse, r.len]; exact fz.l a vs (sq_whole hq)) ⟨F, E2.top i⟩ (itOk_revL r.len.symm)⟩⟩
  | tup ds =>
    obtain ⟨a, vs, rfl, hq, r⟩ := is_tup.mp i
    exact ⟨a, vs, rfl, .inr ⟨.inl (.inl (cut_some hq).2), o (RT.ItvT X.K a vs.length) H2 [some (.dat (.tup ds))] [some (.ref a)] rfl (by rw [List.length_reverse, r.len]; exact fz.t a vs (.inl (.inl (cut_some hq).2))) ⟨F, E2.top i⟩ (itOk_revT r.len.symm)⟩⟩
  | _ => exact o.elim
/-! ### tuples of ints compared -/
theorem lexAt_lt (ns ms : List Int) : ∀ (k i : Nat), i ≤ ns.length → i ≤ ms.length → k = min ns.length ms.length - i →
    Ob.lexAt (fun j => decide (ns.getD j 0 = ms.getD j 0)) (fun j => decide (ms.getD j 0 < ns.getD j 0)) (decide (ns.length > ms.length)) i k = HT.lexLt (ms.drop i) (ns.drop i)
  | 0, i, h1, h2, e => by
    rw [Ob.lexAt_zero]
    by_cases z : i = ns.length
    · rw [List.drop_of_length_le (l := ns) (by omega)]
      rw [decide_eq_false (by omega)]
      cases ms.drop i <;> rfl
    · have e2 : i = ms.length := by omega
      rw [List.drop_of_length_le (l := ms) (by omega), decide_eq_true (by omega), List.drop_eq_getElem_cons (l := ns) (by omega)]
      rfl
  | k + 1, i, h1, h2, e => by
    have l1 : i < ns.length := by omega
    have l2 : i < ms.length := by omega
    rw [Ob.lexAt_succ, List.drop_eq_getElem_cons l1, List.drop_eq_getElem_cons l2, HT.lexLt_cons]
    have g1 : ns.getD i 0 = ns[i] := by rw [List.getD_eq_getElem?_getD, List.getElem?_eq_getElem l1]; rfl
    have g2 : ms.getD i 0 = ms[i] := by rw [List.getD_eq_getElem?_getD, List.getElem?_eq_getElem l2]; rfl
    rw [g1, g2]
    by_cases z : ns[i] = ms[i]
    · rw [if_pos (by simpa using z), if_pos z.symm]
      exact lexAt_lt ns ms k (i + 1) (by omega) (by omega) (by omega)
    · rw [if_neg (by simpa using z), if_neg (fun e => z e.symm)]
def rGtT (K : PySem.W.Frag) : R2 := fun x y H Q => ∃ a b ns ms, x = .ref a ∧ y = .ref b ∧ SqT K H a (ns.map V.int) ∧ SqT K H b (ms.map V.int) ∧ Q (.bl (HT.lexLt ms ns)) H
theorem op_gtT (hu : X.A.units < cLine) : OpR X (compareOp .Gt) (rGtT X.K) := by
  intro pins s σ H x y v u Q I rx ry h
  obtain ⟨a, b, ns, ms, rfl, rfl, ha, hb, q⟩ := h
  cases rx
  cases ry
  obtain ⟨its, r1, p1, _⟩ := I.tuple ha
  obtain ⟨its2, r2, p2, _⟩ := I.tuple hb
  have i1 : IntsAre its ns := Vals.ints r1
  have i2 : IntsAre its2 ms := Vals.ints r2
  have e1 : its.toArray.size = ns.length := by rw [List.size_toArray]; exact i1.length
  have e2 : its2.toArray.size = ms.length := by rw [List.size_toArray]; exact i2.length
  have a1 : ∀ j (h1 : j < its.toArray.size), ∃ t, its.toArray[j] = .int (ns.getD j 0) t := fun j h1 => PyProof.Rows.IntsAre.int_at i1 _ _ (by simp at h1; simp [h1])
  have a2 : ∀ j (h1 : j < its2.toArray.size), ∃ t, its2.toArray[j] = .int (ms.getD j 0) t := fun j h1 => PyProof.Rows.IntsAre.int_at i2 _ _ (by simp at h1; simp [h1])
  have R := Ob.RcOp.tuples_gt (A := X.A) (s := s) (e := fun j => decide (ns.getD j 0 = ms.getD j 0)) (r := fun j => decide (ms.getD j 0 < ns.getD j 0)) p1 p2 hu (fun j h1 h2 => by
    obtain ⟨t, et⟩ := a1 j h1
    obtain ⟨t', et'⟩ := a2 j h2
    rw [et, et', show decide (ns.getD j 0 = ms.getD j 0) = (ns.getD j 0 == ms.getD j 0) from by rw [Bool.eq_iff_iff]; simp]
    exact SeqAt.EqAt.int_int _ _ _ _) (fun j h1 h2 _ => by
    obtain ⟨t, et⟩ := a1 j h1
    obtain ⟨t', et'⟩ := a2 j h2
    rw [et, et']
    exact Ob.RcOp.gt_int _ _ _ _)
  rw [e1, e2, lexAt_lt ns ms _ 0 (Nat.zero_le _) (Nat.zero_le _) (by omega), List.drop_zero, List.drop_zero] at R
  have z : wpAny (model X.prog X.w) X.A (compareOp .Gt (.ref a) (.ref b)) (EP X pins σ Q) X.xe s := R X.prog X.w X.xe (EP X pins σ Q) ⟨.bl _, H, I, rfl, q⟩
  exact z
theorem ints_of_is {K : PySem.W.Frag} {H : Hp} : ∀ {ds : List D} {ns : List Int} {vs : List V}, intsOf ds = some ns → IsL ca K H ds vs → vs = ns.map V.int
  | [], ns, vs, h, i => by
    have : ns = [] := by unfold intsOf at h; cases h; rfl
    subst this
    exact isL_nil.mp i
  | .int n :: ds, ns, vs, h, i => by
    obtain ⟨v, vs', rfl, i1, r⟩ := isL_cons.mp i
    unfold intsOf at h
    cases e : intsOf ds with
    | none => rw [e] at h; cases h
    | some ms =>
      rw [e] at h
      cases h
      rw [is_int.mp i1, ints_of_is e r]
      rfl
  | .non :: _, _, _, h, _ => by unfold intsOf at h; cases h
  | .bl _ :: _, _, _, h, _ => by unfold intsOf at h; cases h
  | .str _ :: _, _, _, h, _ => by unfold intsOf at h; cases h
  | .tup _ :: _, _, _, h, _ => by unfold intsOf at h; cases h
  | .lst _ :: _, _, _, h, _ => by unfold intsOf at h; cases h
  | .dic _ _ :: _, _, _, h, _ => by unfold intsOf at h; cases h
  | .dik _ _ :: _, _, _, h, _ => by unfold intsOf at h; cases h
  | .obj _ _ _ :: _, _, _, h, _ => by unfold intsOf at h; cases h
  | .loc _ :: _, _, _, h, _ => by unfold intsOf at h; cases h
/-- x > y: ints, or tuples of ints -/
def dGtA (x y : D) : Out D := match x, y with
  | .int i, .int j => .ok (.bl (decide (j < i)))
  | .tup xs, .tup ys => match intsOf xs, intsOf ys with
    | some ns, some ms => .ok (.bl (HT.lexLt ms ns))
    | _, _ => .stuck
  | _, _ => .stuck
theorem opd_gtA {K : PySem.W.Frag} : OpD ca K (fun x y H Q => (rI0 (fun i j => .bl (decide (j < i)))) x y H Q ∨ rGtT K x y H Q) dGtA := by
  intro G H d1 d2 v1 v2 Q mu i1 i2 o
  unfold dGtA at o
  split at o
  · rename_i i j
    rw [is_int.mp i1, is_int.mp i2]
    exact .inl ⟨i, j, rfl, rfl, o _ H (fun _ _ h => h) (is_bl.mpr rfl)⟩
  · rename_i xs ys
    obtain ⟨a, vs, rfl, ha, r1⟩ := is_tup.mp i1
    obtain ⟨b, ws, rfl, hb, r2⟩ := is_tup.mp i2
    split at o
    · rename_i ns ms h1 h2
      have e1 := ints_of_is h1 r1
      have e2 := ints_of_is h2 r2
      subst e1 e2
      exact .inr ⟨a, b, ns, ms, rfl, rfl, .inl (.inl (cut_some ha).2), .inl (.inl (cut_some hb).2), o _ H (fun _ _ h => h) (is_bl.mpr rfl)⟩
    · exact o.elim
  · exact o.elim
theorem ed_gtA {k : Nat} (J : JX X W k) {f g : Rn → Out D} (ha : ED ca X W a f) (hb : ED ca X W b g) : ED ca X W (.Compare a [.Gt] [b] pos) (bin dGtA f g) := ed_cmp (op_gt.or (op_gtT (by have := J.room.units; omega))) opd_gtA ha hb
theorem eb_gtA {k : Nat} (J : JX X W k) {f g : Rn → Out D} (ha : ED ca X W a f) (hb : ED ca X W b g) : EB ca X W (.Compare a [.Gt] [b] pos) (tst dGtA f g) := eb_cmp (op_gt.or (op_gtT (by have := J.room.units; omega))) opd_gtA ha hb
/-! ### list(x) -/
def dListOf : List D → Out D
  | [.lst ds] => .ok (.lst ds)
  | [.tup ds] => .ok (.lst ds)
  | _ => .stuck
theorem new_lst {K : PySem.W.Frag} {G : List Addr} {H : Hp} {q : Addr} {ds : List D} {vs : List V} (mu : ∀ a ∈ G, Mu (H a)) (h : H q = none) (i : IsL ca K (cut H G) ds vs) : Is ca K (cut (upd H q (.lst vs)) G) (.lst ds) (.ref q) := by
  have nq : q ∉ G := fun z => (mu q z).ne h
  have l : Le (cut H G) (cut (upd H q (.lst vs)) G) := (Le.new h).cut (fun _ n _ => n) fun a ha => by
    rw [upd_ne (fun e => nq (by rw [← e]; exact ha))]; exact (mu a ha).ne
  exact is_lst.mpr ⟨q, vs, rfl, .inl (.inl ((cut_out nq).trans upd_same)), i.le l⟩
theorem ed_list {f : Rn → Out (List D)} (hm : X.mg "list" = none) (ha : EA ca X W [e] f) (hg : Gl X "list" := by rfl) (he : starEach [e] X.env = (false, eval e X.env) :: starEach [] X.env := by rfl) (hpl : (backTo pos (starEach [] X.env)).any (·.1) = false := by rfl) : ED ca X W (.Call (.Name "list" p) [e] [] pos) (calD dListOf f) :=
  ed_callTy call_list_of (fun G H ds vs Q mu i o => by
    unfold dListOf at o
    split at o
    · obtain ⟨v, rfl, i1⟩ := isL_1 i
      obtain ⟨a, ws, rfl, hq, r⟩ := is_lst.mp i1
      exact ⟨a, ws, rfl, .inl (sq_whole hq), fun l hl => o _ _ (upd_same_new hl) (new_lst mu hl r)⟩
    · obtain ⟨v, rfl, i1⟩ := isL_1 i
      obtain ⟨a, ws, rfl, hq, r⟩ := is_tup.mp i1
      exact ⟨a, ws, rfl, .inr (.inl (.inl (cut_some hq).2)), fun l hl => o _ _ (upd_same_new hl) (new_lst mu hl r)⟩
    · exact o.elim) hm (by decide +kernel) ha hg (by decide) (by decide) he hpl
/-! ### max(x, default=d) -/
def rMaxD (K : PySem.W.Frag) : List V → List V → Hp → VK → Prop := fun xs zs H Q => ∃ (a : Addr) (ns : List Int) (d : V), xs = [.ref a] ∧ zs = [d] ∧ (SqL K H a (ns.map V.int) ∨ SqT K H a (ns.map V.int)) ∧ (ns = [] → Q d H) ∧ ∀ n ms, ns = n :: ms → Q (.int (ms.foldl max n)) H
theorem alike_ints (ns : List Int) : PySem.W.AlikeAll (ns.map PyData.int) := by
  refine ⟨fun x hx y hy => ?_, fun x hx => ?_⟩
  · obtain ⟨i, _, rfl⟩ := List.mem_map.mp hx
    obtain ⟨j, _, rfl⟩ := List.mem_map.mp hy
    rfl
  · obtain ⟨i, _, rfl⟩ := List.mem_map.mp hx
    intro e; cases e
theorem call_maxD (hc : X.calm = true) (hu : X.A.units + 1 < cLine) : CallRK X (.builtin "max") ["default"] (rMaxD X.K) := by
  intro pins s σ H xs zs us ws Q I r1 r2 h
  obtain ⟨a, ns, d, rfl, rfl, hq, q0, q1⟩ := h
  have e1 := Vals.ref1 r1
  subst e1
  obtain ⟨u, rfl, ru⟩ := Vals.one r2
  have fin : ∀ (its : List Value), IntsAre its ns → ∀ (y : PyData) (ys : List PyData) (i : Nat) v h' tk bs, ns.map PyData.int = y :: ys → its.toArray[i]? = some v → Reads h' v (PySem.W.maxD y ys) bs → (∀ b o, s.heap.get? b = some o → h'.get? b = some o) → EP X pins σ Q v { s with heap := h', toks := tk } := by
    intro its _ y ys i v h' tk bs e _ rd hk
    cases ns with
    | nil => cases e
    | cons n ms =>
      rw [List.map_cons] at e
      injection e with e1 e2
      subst e1 e2
      rw [PySem.W.maxD_ints] at rd
      cases rd with
      | int t => exact ⟨.int (ms.foldl max n), H, I.kept (t' := tk) hk, ⟨_, rfl⟩, q1 n ms rfl⟩
  have zero : ns.map PyData.int = [] → ∀ h' tk, (∀ b o, s.heap.get? b = some o → h'.get? b = some o) → EP X pins σ Q u { s with heap := h', toks := tk } := fun e h' tk hk => ⟨d, H, I.kept (t' := tk) hk, ru, q0 (List.map_eq_nil_iff.mp e)⟩
  have dz : X.A.units + 1 + PyData.depthAll (ns.map PyData.int) < cLine := by rw [PyProof.Rows.depthAll_ints]; exact hu
  show wpAny (model X.prog X.w) X.A (call (.builtin "max") [.ref a] [(Str.ofString "default", u)]) _ _ s
  rcases hq with hq | hq
  · obtain ⟨its, rv, p, _⟩ := I.list hq
    have ii := Vals.ints rv
    exact PySem.W.max_list_default (I.ok.hd hc) p.isList (ii.reads s.heap) (alike_ints ns) dz zero (fin its ii)
  · obtain ⟨its, rv, p, _⟩ := I.tuple hq
    have ii := Vals.ints rv
    exact PySem.W.max_tuple_default (I.ok.hd hc) p (ii.reads s.heap) (alike_ints ns) dz zero (fin its ii)
def dMaxD (x d : D) : Out D := match seqOf x with
  | .ok ds => match intsOf ds with
    | some [] => .ok d
    | some (n :: ms) => .ok (.int (ms.foldl max n))
    | none => .stuck
  | _ => .stuck
def maxDf (f g : Rn → Out D) (ρ : Rn) : Out D := (f ρ).bind fun x => (g ρ).bind fun d => (dMaxD x d).nx
theorem ed_maxD {k : Nat} {d : Expr} {kp : Pos} {f g : Rn → Out D} (J : JX X W k) (hm : X.mg "max" = none) (hf : ED ca X W e f) (hd : ED ca X W d g) (hg : Gl X "max" := by rfl) (hs1 : starEach [e] X.env = (false, eval e X.env) :: starEach [] X.env := by rfl)
    (he : backTo pos (starEach [e] X.env) = (false, eval e X.env) :: backTo pos (starEach [] X.env) := by rfl) (hpl : (backTo pos (starEach [e] X.env)).any (·.1) = false := by rfl)
    (hall : (backToKw pos (keywordEach [⟨some "default", d, kp⟩] X.env)).all (·.1.isSome) = true := by rfl) (hnone : (backToKw pos (keywordEach [⟨some "default", d, kp⟩] X.env)).any (·.1.isNone) = false := by rfl) (hks : (backToKw pos (keywordEach [⟨some "default", d, kp⟩] X.env)).filterMap (·.1) = [("default" : Str)] := by rfl) :
    ED ca X W (.Call (.Name "max" p) [e] [⟨some "default", d, kp⟩] pos) (maxDf f g) := by
  obtain ⟨te, pe, hf⟩ := hf
  obtain ⟨td, pd, hd⟩ := hd
  refine ⟨_, pe_callBK (call_maxD J.calm (by have := J.room.units; omega)) hg hm (by decide +kernel) (pa_cons pe pa_nil hs1) (pk_cons pd pk_nil) (by decide) (by decide) he hpl hall hnone hks, fun H0 Fa ts us ρ σ H Q hl E o => ?_⟩
  refine hf H0 Fa ts us ρ σ H _ hl E (OutE.bind o |>.imp (fun x o v H1 F1 E1 i1 => ?_) fun n q => q)
  refine hd H0 Fa (some (.dat x) :: ts) (some v :: us) ρ σ H1 _ (by simp [hl]) ⟨F1, E1.top i1⟩ (OutE.bind o |>.imp (fun y o w H2 F2 E2 i2 => ?_) fun n q a' H2 c E2 => q a' H2 c E2.pop)
  obtain ⟨E4, i⟩ := E2.popD
  have o := o.nx (Y := fun _ => False)
  unfold dMaxD at o
  cases es : seqOf x with
  | stuck => rw [es] at o; exact o.elim
  | exc z => rw [es] at o; exact o.elim
  | ok ds =>
    rw [es] at o
    have hq : ∃ a vs, v = .ref a ∧ (SqL X.K H2 a vs ∨ SqT X.K H2 a vs) ∧ IsL ca X.K (cut H2 (Fa ++ F2)) ds vs := by
      cases x with
      | lst xs =>
        cases es
        obtain ⟨a, vs, e, hq, r⟩ := is_lst.mp i
        exact ⟨a, vs, e, .inl (sq_whole hq), r⟩
      | tup xs =>
        cases es
        obtain ⟨a, vs, e, hq, r⟩ := is_tup.mp i
        exact ⟨a, vs, e, .inr (.inl (.inl (cut_some hq).2)), r⟩
      | _ => cases es
    obtain ⟨a, vs, rfl, hq, r⟩ := hq
    cases ei : intsOf ds with
    | none => simp only [ei] at o; exact o.elim
    | some ns =>
      have ev := ints_of_is ei r
      subst ev
      refine ⟨a, ns, w, rfl, rfl, hq, fun e => ?_, fun n ms e => ?_⟩
      · subst e
        simp only [ei] at o
        exact o w H2 F2 E4 i2
      · subst e
        simp only [ei] at o
        exact o _ H2 F2 E4 (is_int.mpr rfl)
end
/-! ### a class that has no __init__ -/
section
variable {X : Cx} {W : WX} {pos p : Pos} {k : Nat}
theorem run_mk0 {C : Addr} {pins : List (Addr × Obj)} {σ : L2.St} {H : Hp} {s : Shared} {Q : VK} (hm : PySem.W.makesIn X.K C = true) (hi : PySem.W.findIn X.K (.ref C) "__init__" = some (some (.builtin "object.__init__"))) (top : PySem.W.mroIn X.K C (.type "object") = some true) (I : Inv X pins σ H s)
    (h : ∀ x dx, H x = none → H dx = none → dx ≠ x → Q (.ref x) (upd (upd H dx (.own x)) x (.ins C dx []))) : wpAny (model X.prog X.w) X.A (call (.ref C) []) (EP X pins σ Q) X.xe s := by
  have q := h (s.heap.objs.size + 1) s.heap.objs.size (I.hok.fresh (Nat.le_succ _)) (I.hok.fresh (Nat.le_refl _)) (Nat.ne_of_lt (Nat.lt_succ_self _))
  have J := Inv.made (C := C) I
  have ho : ((s.heap.push PySem.W.emptyDict).push (PySem.W.instObj C s.heap.objs.size)).get? (s.heap.objs.size + 1) = some (PySem.W.instObj C s.heap.objs.size) := by
    have := Heap.get?_push_size (s.heap.push PySem.W.emptyDict) (o := PySem.W.instObj C s.heap.objs.size) rfl
    rwa [Heap.size_push] at this
  refine wpAny_call (make_map0 I.kIn hm hi (fun self => PySem.W.Looks.of_pure (PySem.W.oi_bind _)) ?_)
  have t2 : PySem.W.Looks (model X.prog X.w) ((s.heap.push PySem.W.emptyDict).push (PySem.W.instObj C s.heap.objs.size)) (isInstance (.ref (s.heap.objs.size + 1)) (.type "object")) true := (NwA.type_at ho rfl).andThen (PySem.W.looks_mroIn J.kIn top)
  refine PySem.codeAny_call_builtin PySem.W.oi_plain PySem.W.entry_oi (@PySem.W.check_slot (model X.prog X.w) _ _ _ "object.__init__" "object" "__init__" (.ref (s.heap.objs.size + 1)) [] [] _ PySem.W.oi_kind PySem.W.oi_split t2 (NwA.oi_args_any _ [] []) ?_)
  rw [PySem.W.oi_run]
  exact wpAny_pure ⟨rfl, V.ref (s.heap.objs.size + 1), _, J, rfl, q⟩
theorem ed_newO {cs : List Str} {Cn : Str} {fa : List He.Fa} {fn : List He.DefD} {fc : List (Nat × Str)} (L : LX X.prog X.w X.K X.mg X.base fa fn fc) (gm : X.mg Cn = some (.ref (He.ga X.K Cn))) (hfc : fc.contains (1, Cn) = true := by decide +kernel) (hcs : cs.contains Cn = true := by decide +kernel)
    (hg : Gl X Cn := by rfl) (hdb : (Cn == ("__debug__" : Str)) = false := by decide) : ED (caK cs X.K) X W (.Call (.Name Cn p) [] [] pos) (cst (.obj Cn [] [])) := by
  have q : mk0B X.K Cn = true := List.all_eq_true.mp L.cls (1, Cn) (List.contains_iff_mem.mp hfc)
  unfold mk0B at q
  obtain ⟨q1, q⟩ := Bool.and_eq_true_iff.mp q
  obtain ⟨q2, q⟩ := Bool.and_eq_true_iff.mp q
  obtain ⟨q3, q4⟩ := Bool.and_eq_true_iff.mp q
  have hC : caK cs X.K Cn = some (He.ga X.K Cn) := by unfold caK; rw [if_pos hcs]
  refine ⟨fun σ H Q => ∀ x dx, H x = none → H dx = none → dx ≠ x → Q (.ref x) (upd (upd H dx (.own x)) x (.ins (He.ga X.K Cn) dx [])), ⟨fun pins s σ H Q I h => wpAny_Call_Name_kw (ld_glob I hg gm ?_ hdb)⟩, fun H0 Fa ts us ρ σ H Q hl ⟨F, E⟩ o x dx hx hdx ne => ?_⟩
  · exact PySem.W.callWith_K0 I.kIn q4 (run_mk0 q1 (He.eqO_ok q2) (of_decide_eq_true q3) I h)
  · have h1 : ∀ a u, H a = some u → (upd (upd H dx (.own x)) x (.ins (He.ga X.K Cn) dx [])) a = some u := fun a u q => by
      rw [upd_ne (ne_of_none q hx), upd_ne (ne_of_none q hdx)]; exact q
    have nx : x ∉ Fa ++ F := fun z => (E.muG x z).ne hx
    exact o (.ref x) _ F (E.same h1) (is_obj.mpr ⟨x, _, dx, [], rfl, hC, (cut_out nx).trans upd_same, rfl, IsL.nil⟩)
end
end DA
set_option maxHeartbeats 4000000
/-! DAY: a < b < c, any and all of a list, range by steps, in -/
namespace DA
open PySem PySem.Spec PyProof.Rows L2
section
variable {ca : Str → Option Addr} {X : Cx} {W : WX} {e a b c tg : Expr} {es : List Expr} {pos p p2 : Pos} {x m : Str}
/-! ### a op b op' c -/
def chD (h h' : D → D → Out D) (f g t : Rn → Out D) (ρ : Rn) : Out D := (f ρ).bind fun x => (g ρ).bind fun y => ((h x y).nx.bind asB).bind fun k => if k then (t ρ).bind fun z => (h' y z).nx else .ok (.bl false)
theorem chain_den {K : PySem.W.Frag} {r r' : R2} {ta tb tc : TE} {f g t : Rn → Out D} {h h' : D → D → Out D} (hd : OpD ca K r h) (hd' : OpD ca K r' h') (ha : EvD ca K W ta f) (hb : EvD ca K W tb g) (hc : EvD ca K W tc t) : EvD ca K W (tChain r r' ta tb tc) (chD h h' f g t) := by
  intro H0 Fa ts us ρ σ H Q hl E o
  refine ha H0 Fa ts us ρ σ H _ hl E (OutE.bind o |>.imp (fun x o v H2 F E2 i => ?_) fun n q => q)
  refine hb H0 Fa (some (.dat x) :: ts) (some v :: us) ρ σ H2 _ (by simp [hl]) ⟨F, E2.top i⟩ (OutE.bind o |>.imp (fun y o v' H3 F3 E3 i' => ?_) fun n q a' H3 c E3 => q a' H3 c E3.pop)
  obtain ⟨E4, i1⟩ := E3.popD
  refine hd (Fa ++ F3) H3 x y v v' _ E4.muG i1 i' ?_
  have o := OutE.bind (OutE.bind o)
  refine o.nx.imp (fun d o z H4 k i4 => ?_) fun _ z => z
  cases d with
  | bl q =>
    refine ⟨q, is_bl.mp i4, ?_⟩
    cases q with
    | false => exact o (.bl false) H4 F3 (E4.same k) (is_bl.mpr rfl)
    | true =>
      have l : Le (cut H3 (Fa ++ F3)) (cut H4 (Fa ++ F3)) := (Le.of_same k).cut (fun _ n _ => n) fun a ha => ((E4.same k).muG a ha).ne
      have E5 := (E4.same k).top (i'.le l)
      refine hc H0 Fa (some (.dat y) :: ts) (some v' :: us) ρ σ H4 _ (by simp [hl]) ⟨F3, E5⟩ (OutE.bind (show OutE ((t ρ).bind fun z => (h' y z).nx) _ _ from o) |>.imp (fun z o w H5 F5 E6 i6 => ?_) fun n q a' H5 c E6 => q a' H5 c E6.pop)
      obtain ⟨E7, i7⟩ := E6.popD
      exact hd' (Fa ++ F5) H5 y z v' w Q E7.muG i7 i6 (o.nx.imp (fun d o v2 H6 k2 i8 => o v2 H6 F5 (E7.same k2) i8) fun _ z => z)
  | _ => exact o.elim
theorem ed_chain {op op' : CmpOp} {r r' : R2} {f g t : Rn → Out D} {h h' : D → D → Out D} (ho : OpR X (compareOp op) r) (ho' : OpR X (compareOp op') r') (hd : OpD ca X.K r h) (hd' : OpD ca X.K r' h') (ha : ED ca X W a f) (hb : ED ca X W b g) (hc : ED ca X W c t)
    (hm : lastMarks [op, op'] [b, c] = false := by with_unfolding_all rfl) : ED ca X W (.Compare a [op, op'] [b, c] pos) (chD h h' f g t) := by
  obtain ⟨ta, pa, ha⟩ := ha
  obtain ⟨tb, pb, hb⟩ := hb
  obtain ⟨tc, pc, hc⟩ := hc
  exact ⟨_, pe_chain ho ho' pa pb pc hm, chain_den hd hd' ha hb hc⟩
theorem eb_chain {op op' : CmpOp} {r r' : R2} {f g t : Rn → Out D} {h h' : D → D → Out D} (ho : OpR X (compareOp op) r) (ho' : OpR X (compareOp op') r') (hd : OpD ca X.K r h) (hd' : OpD ca X.K r' h') (ha : ED ca X W a f) (hb : ED ca X W b g) (hc : ED ca X W c t)
    (hm : lastMarks [op, op'] [b, c] = false := by with_unfolding_all rfl) : EB ca X W (.Compare a [op, op'] [b, c] pos) (isB (chD h h' f g t)) := by
  obtain ⟨ta, pa, ha⟩ := ha
  obtain ⟨tb, pb, hb⟩ := hb
  obtain ⟨tc, pc, hc⟩ := hc
  refine ⟨_, pt_chain ho ho' pa pb pc hm, fun H0 Fa ts us ρ σ H Q hl E o => ?_⟩
  refine chain_den hd hd' ha hb hc H0 Fa ts us ρ σ H _ hl E (OutE.bind o |>.imp (fun d o v H2 F E2 i => ?_) fun n q => q)
  cases d with
  | bl k => exact ⟨k, is_bl.mp i, o H2 ⟨F, E2⟩⟩
  | _ => exact o.elim
/-! ### any, all -/
def blsOf : List D → Option (List Bool)
  | [] => some []
  | .bl b :: ds => (blsOf ds).map (b :: ·)
  | _ => none
theorem bls_of_is {K : PySem.W.Frag} {H : Hp} : ∀ {ds : List D} {bs : List Bool} {vs : List V}, blsOf ds = some bs → IsL ca K H ds vs → vs = bs.map V.bl
  | [], bs, vs, h, i => by
    have : bs = [] := by unfold blsOf at h; cases h; rfl
    subst this
    exact isL_nil.mp i
  | d :: ds, bs, vs, h, i => by
    obtain ⟨v, vs', rfl, i1, r⟩ := isL_cons.mp i
    cases d with
    | bl b =>
      unfold blsOf at h
      cases e : blsOf ds with
      | none => rw [e] at h; cases h
      | some cs =>
        rw [e] at h
        cases h
        rw [is_bl.mp i1, bls_of_is e r]
        rfl
    | _ => unfold blsOf at h; cases h
def dAny : List D → Out D
  | [.lst ds] => match blsOf ds with | some bs => .ok (.bl (bs.any id)) | none => .stuck
  | _ => .stuck
def dAll : List D → Out D
  | [.lst ds] => match blsOf ds with | some bs => .ok (.bl (bs.all id)) | none => .stuck
  | _ => .stuck
theorem ed_any {k : Nat} {f : Rn → Out (List D)} (J : JX X W k) (hm : X.mg "any" = none) (ha : EA ca X W [e] f) (hg : Gl X "any" := by rfl) (he : starEach [e] X.env = (false, eval e X.env) :: starEach [] X.env := by rfl) (hpl : (backTo pos (starEach [] X.env)).any (·.1) = false := by rfl) : ED ca X W (.Call (.Name "any" p) [e] [] pos) (calD dAny f) :=
  ed_callB (cr_any J.calm) (fun G H ds vs Q mu i o => by
    unfold dAny at o
    split at o
    · split at o
      · rename_i bs hb
        obtain ⟨v, rfl, i1⟩ := isL_1 i
        obtain ⟨a, ws, rfl, hq, r⟩ := is_lst.mp i1
        have e := bls_of_is hb r
        subst e
        exact ⟨a, bs, rfl, sq_whole hq, o _ H (fun _ _ h => h) (is_bl.mpr rfl)⟩
      · exact o.elim
    · exact o.elim) hm (by decide +kernel) ha hg (by decide) (by decide) he hpl
theorem ed_all {k : Nat} {f : Rn → Out (List D)} (J : JX X W k) (hm : X.mg "all" = none) (ha : EA ca X W [e] f) (hg : Gl X "all" := by rfl) (he : starEach [e] X.env = (false, eval e X.env) :: starEach [] X.env := by rfl) (hpl : (backTo pos (starEach [] X.env)).any (·.1) = false := by rfl) : ED ca X W (.Call (.Name "all" p) [e] [] pos) (calD dAll f) :=
  ed_callB (cr_all J.calm) (fun G H ds vs Q mu i o => by
    unfold dAll at o
    split at o
    · split at o
      · rename_i bs hb
        obtain ⟨v, rfl, i1⟩ := isL_1 i
        obtain ⟨a, ws, rfl, hq, r⟩ := is_lst.mp i1
        have e := bls_of_is hb r
        subst e
        exact ⟨a, bs, rfl, sq_whole hq, o _ H (fun _ _ h => h) (is_bl.mpr rfl)⟩
      · exact o.elim
    · exact o.elim) hm (by decide +kernel) ha hg (by decide) (by decide) he hpl
end
end DA
set_option maxHeartbeats 4000000
/-! DB: dicts read -/
namespace DA
open PySem PySem.Spec PyProof.Rows L2
/-! ### keys -/
def keyOf : D → Option Key
  | .int i => some (.inl i)
  | .str x => some (.inr x)
  | _ => none
def keysOf : List D → Option (List Key)
  | [] => some []
  | d :: ds => (keyOf d).bind fun k => (keysOf ds).map (k :: ·)
def tkOf : D → Option (List Key)
  | .tup ds => keysOf ds
  | _ => none
section
variable {ca : Str → Option Addr} {K : PySem.W.Frag} {H : Hp} {G : List Addr}
theorem key_is {d : D} {k : Key} {v : V} (h : keyOf d = some k) (i : Is ca K H d v) : v = kV k := by
  cases d with
  | int n => cases h; exact is_int.mp i
  | str x => cases h; exact is_str.mp i
  | _ => cases h
theorem keys_is : ∀ {ds : List D} {ks : List Key} {vs : List V}, keysOf ds = some ks → IsL ca K H ds vs → vs = ks.map kV
  | [], ks, vs, h, i => by
    cases h
    exact isL_nil.mp i
  | d :: ds, ks, vs, h, i => by
    obtain ⟨v, vs', rfl, i1, r⟩ := isL_cons.mp i
    unfold keysOf at h
    cases e1 : keyOf d with
    | none => rw [e1] at h; cases h
    | some k =>
      cases e2 : keysOf ds with
      | none => rw [e1, e2] at h; cases h
      | some ks' =>
        rw [e1, e2] at h
        cases h
        rw [key_is e1 i1, keys_is e2 r]
        rfl
def lookD {κ : Type} [DecidableEq κ] : List κ → List D → κ → Option D
  | k' :: ks, d :: ds, k => if k' = k then some d else lookD ks ds k
  | _, _, _ => none
def OptIs (ca : Str → Option Addr) (K : PySem.W.Frag) (H : Hp) : Option D → Option V → Prop
  | some d, ov => ∃ v, ov = some v ∧ Is ca K H d v
  | none, ov => ov = none
theorem look_val {κ : Type} [DecidableEq κ] (k : κ) : ∀ {kvs : List (κ × V)} {ds : List D}, IsL ca K H ds (kvs.map (·.2)) →
    OptIs ca K H (lookD (kvs.map (·.1)) ds k) (valV kvs k)
  | [], ds, i => by
    cases ds <;> exact valV_nil
  | (k', v) :: kvs, [], i => by
    have := i.len
    simp at this
  | (k', v) :: kvs, d :: ds, i => by
    obtain ⟨v', vs', e, i1, r⟩ := isL_cons.mp i
    simp only [List.map_cons] at e
    injection e with e1 e2
    subst e1
    rw [← e2] at r
    have ih := look_val k r
    rw [List.map_cons, lookD]
    by_cases z : k' = k
    · rw [if_pos z]
      exact ⟨v, valV_pos z, i1⟩
    · rw [if_neg z, valV_neg (p := (k', v)) z]
      exact ih
/-- what a dict holds at a key -/
def dGetO (x y : D) : Out (Option D) := match x with
  | .dic ks ds => match tkOf y with
    | some k => .ok (lookD ks ds k)
    | none => .stuck
  | .dik ks ds => match keyOf y with
    | some k => .ok (lookD ks ds k)
    | none => .stuck
  | _ => .stuck
theorem dget_of {x y : D} {vx vy : V} {o : Option D} (mu : ∀ a ∈ G, Mu (H a)) (i1 : Is ca K (cut H G) x vx) (i2 : Is ca K (cut H G) y vy) (h : dGetO x y = .ok o) :
    ∃ a ov, vx = .ref a ∧ DGet H a vy ov ∧ OptIs ca K (cut H G) o ov := by
  unfold dGetO at h
  cases x with
  | dic ks ds =>
    obtain ⟨a, kvs, rfl, ha, ek, r⟩ := is_dic.mp i1
    subst ek
    cases y with
    | tup ys =>
      obtain ⟨b, vs, rfl, hb, rb⟩ := is_tup.mp i2
      cases et : keysOf ys with
      | none => simp only [tkOf, et] at h; cases h
      | some k =>
        have ev := keys_is et rb
        subst ev
        simp only [tkOf, et] at h
        cases h
        have lv := look_val k r
        exact ⟨a, valV kvs k, rfl, .inr ⟨kvs, k, b, (rd_cut ha).2, rfl, (cut_some hb).2, rfl⟩, lv⟩
    | _ => cases h
  | dik ks ds =>
    obtain ⟨a, kvs, rfl, ha, ek, r⟩ := is_dik.mp i1
    subst ek
    cases et : keyOf y with
    | none => simp only [et] at h; cases h
    | some k =>
      have ev := key_is et i2
      subst ev
      simp only [et] at h
      cases h
      have lv := look_val k r
      exact ⟨a, valV kvs k, rfl, .inl ⟨kvs, k, (rd_cut ha).2, rfl, rfl⟩, lv⟩
  | _ => cases h
end
section
variable {ca : Str → Option Addr} {X : Cx} {W : WX} {e a b c tg o : Expr} {es : List Expr} {pos p p2 apos : Pos} {x m : Str}
theorem PE.or2 {e : Expr} {t1 t2 : TE} (h1 : PE X e t1) (h2 : PE X e t2) : PE X e (fun σ H Q => t1 σ H Q ∨ t2 σ H Q) := ⟨fun pins s σ H Q I h => h.elim (h1.run pins s σ H Q I) (h2.run pins s σ H Q I)⟩
theorem evd_or {K : PySem.W.Frag} {t1 t2 : TE} {f1 f2 : Rn → Out D} (c : Rn → Bool) (h1 : EvD ca K W t1 f1) (h2 : EvD ca K W t2 f2) : EvD ca K W (fun σ H Q => t1 σ H Q ∨ t2 σ H Q) (fun ρ => if c ρ then f2 ρ else f1 ρ) := by
  intro H0 Fa ts us ρ σ H Q hl E o
  cases z : c ρ with
  | true => simp only [z, if_true] at o; exact .inr (h2 H0 Fa ts us ρ σ H Q hl E o)
  | false => simp only [z, Bool.false_eq_true, if_false] at o; exact .inl (h1 H0 Fa ts us ρ σ H Q hl E o)
def isDicO : Out D → Bool
  | .ok (.dic _ _) => true
  | .ok (.dik _ _) => true
  | _ => false
def gotD : Option D → Out D
  | some d => .ok d
  | none => .stuck
def dgD (f g : Rn → Out D) (ρ : Rn) : Out D := (f ρ).bind fun x => (g ρ).bind fun y => ((dGetO x y).nx.bind gotD)
theorem ed_dget {k : Nat} (J : JX X W k) {f g : Rn → Out D} (ha : ED ca X W o f) (hb : ED ca X W e g) (hs : NoSl e) : ED ca X W (.Subscript o e pos) (dgD f g) := by
  obtain ⟨ta, pa, ha⟩ := ha
  obtain ⟨tb, pb, hb⟩ := hb
  refine ⟨_, pe_dget (by have := J.room.units; omega) pa pb hs, fun H0 Fa ts us ρ σ H Q hl E o => ?_⟩
  refine ha H0 Fa ts us ρ σ H _ hl E (OutE.bind o |>.imp (fun x o v H2 F E2 i => ?_) fun n q => q)
  refine hb H0 Fa (some (.dat x) :: ts) (some v :: us) ρ σ H2 _ (by simp [hl]) ⟨F, E2.top i⟩ (OutE.bind o |>.imp (fun y o v' H3 F E3 i' => ?_) fun n q a' H3 c E3 => q a' H3 c E3.pop)
  obtain ⟨E4, i1⟩ := E3.popD
  cases eg : dGetO x y with
  | stuck => rw [eg] at o; exact o.elim
  | exc n => rw [eg] at o; exact o.elim
  | ok od =>
    rw [eg] at o
    obtain ⟨a, ov, rfl, g, r⟩ := dget_of E4.muG i1 i' eg
    cases od with
    | none => exact o.elim
    | some d =>
      obtain ⟨v, rfl, iv⟩ := r
      exact ⟨a, v, rfl, g, o v H3 F E4 iv⟩
def ixA (f g : Rn → Out D) (ρ : Rn) : Out D := if isDicO (f ρ) then dgD f g ρ else bin dIx f g ρ
theorem ed_alt {e : Expr} {f1 f2 : Rn → Out D} (c : Rn → Bool) (h1 : ED ca X W e f1) (h2 : ED ca X W e f2) : ED ca X W e (fun ρ => if c ρ then f2 ρ else f1 ρ) := by
  obtain ⟨t1, p1, h1⟩ := h1
  obtain ⟨t2, p2, h2⟩ := h2
  exact ⟨_, DA.PE.or2 p1 p2, evd_or c h1 h2⟩
/-! ### d.get(k, x) -/
def gtD (f g t : Rn → Out D) (ρ : Rn) : Out D := (f ρ).bind fun x => (g ρ).bind fun y => (t ρ).bind fun z => (dGetO x y).nx.map fun o => o.getD z
theorem isD_of {K : PySem.W.Frag} {H : Hp} {G : List Addr} {x : D} {v : V} (hx : isDicO (.ok x) = true) (i : Is ca K (cut H G) x v) : ∃ a, v = .ref a ∧ IsD H a := by
  cases x with
  | dic ks ds => obtain ⟨a, kvs, rfl, ha, _⟩ := is_dic.mp i; exact ⟨a, rfl, .inr ⟨kvs, (rd_cut ha).2⟩⟩
  | dik ks ds => obtain ⟨a, kvs, rfl, ha, _⟩ := is_dik.mp i; exact ⟨a, rfl, .inl ⟨kvs, (rd_cut ha).2⟩⟩
  | _ => cases hx
theorem ed_get2 {k : Nat} (J : JX X W k) {f : Expr} {fo fe ff : Rn → Out D} (ho : ED ca X W o fo) (he : ED ca X W e fe) (hf : ED ca X W f ff) (m : M2 X o "get" apos e f pos) : ED ca X W (.Call (.Attribute o "get" apos) [e, f] [] pos) (fun ρ => if isDicO (fo ρ) then gtD fo fe ff ρ else .stuck) := by
  obtain ⟨ta, pa, ho⟩ := ho
  obtain ⟨tb, pb, he⟩ := he
  obtain ⟨tc, pc, hf⟩ := hf
  refine ⟨_, pe_dget2 (by have := J.room.units; omega) pa pb pc m, fun H0 Fa ts us ρ σ H Q hl E o => ?_⟩
  cases hx : isDicO (fo ρ) with
  | false => simp only [hx, Bool.false_eq_true, if_false] at o; exact o.elim
  | true =>
    simp only [hx, if_true] at o
    refine ho H0 Fa ts us ρ σ H _ hl E ?_
    cases ef : fo ρ with
    | stuck => rw [ef] at hx; cases hx
    | exc n => rw [ef] at hx; cases hx
    | ok x =>
      rw [ef] at hx
      unfold gtD at o
      rw [ef] at o
      simp only [bind_ok] at o
      intro v H1 F1 E1 i1
      obtain ⟨a, rfl, hd⟩ := isD_of hx i1
      refine ⟨a, rfl, hd, ?_⟩
      refine he H0 Fa (some (.dat x) :: ts) (some (.ref a) :: us) ρ σ H1 _ (by simp [hl]) ⟨F1, E1.top i1⟩ (OutE.bind o |>.imp (fun y o v2 H2 F2 E2 i2 => ?_) fun n q a' H3 c E3 => q a' H3 c E3.pop)
      refine hf H0 Fa (some (.dat y) :: some (.dat x) :: ts) (some v2 :: some (.ref a) :: us) ρ σ H2 _ (by simp [hl]) ⟨F2, E2.top i2⟩ (OutE.bind o |>.imp (fun z o v3 H3 F3 E3 i3 => ?_) fun n q a' H3 c E3 => q a' H3 c E3.pop.pop)
      obtain ⟨E4, i4⟩ := E3.popD
      obtain ⟨E5, i5⟩ := E4.popD
      cases eg : dGetO x y with
      | stuck => rw [eg] at o; exact o.elim
      | exc n => rw [eg] at o; exact o.elim
      | ok od =>
        rw [eg] at o
        obtain ⟨a', ov, e1, g, r⟩ := dget_of E5.muG i5 i4 eg
        cases e1
        refine ⟨ov, g, ?_⟩
        cases od with
        | none =>
          have r : ov = none := r
          subst r
          exact o v3 H3 F3 E5 i3
        | some d =>
          obtain ⟨v, rfl, iv⟩ := r
          exact o v H3 F3 E5 iv
/-! ### x in y -/
def flatD : D → Bool
  | .non => true
  | .bl _ => true
  | .int _ => true
  | .str _ => true
  | _ => false
def flV : D → V
  | .bl b => .bl b
  | .int i => .int i
  | .str x => .str x
  | _ => .non
theorem flat_is {K : PySem.W.Frag} {H : Hp} {d : D} {v : V} (h : flatD d = true) (i : Is ca K H d v) : v = flV d ∧ flatV v = true := by
  cases d with
  | non => rw [is_non.mp i]; exact ⟨rfl, rfl⟩
  | bl b => rw [is_bl.mp i]; exact ⟨rfl, rfl⟩
  | int n => rw [is_int.mp i]; exact ⟨rfl, rfl⟩
  | str x => rw [is_str.mp i]; exact ⟨rfl, rfl⟩
  | _ => cases h
theorem flats_is {K : PySem.W.Frag} {H : Hp} : ∀ {ds : List D} {vs : List V}, ds.all flatD = true → IsL ca K H ds vs → vs = ds.map flV ∧ vs.all flatV = true
  | [], _, _, i => by rw [isL_nil.mp i]; exact ⟨rfl, rfl⟩
  | d :: ds, _, h, i => by
    obtain ⟨v, vs', rfl, i1, r⟩ := isL_cons.mp i
    rw [List.all_cons] at h
    obtain ⟨h1, h2⟩ := Bool.and_eq_true_iff.mp h
    obtain ⟨e1, f1⟩ := flat_is h1 i1
    obtain ⟨e2, f2⟩ := flats_is h2 r
    rw [List.all_cons, f1, f2, e1, e2]
    exact ⟨rfl, rfl⟩
def dInS (neg : Bool) (x y : D) : Out D := match seqOf y with
  | .ok ds => if flatD x && ds.all flatD then .ok (.bl (if neg then !inV (flV x) (ds.map flV) else inV (flV x) (ds.map flV))) else .stuck
  | _ => .stuck
theorem opd_inS {K : PySem.W.Frag} (neg : Bool) : OpD ca K (rIn K neg) (dInS neg) := by
  intro G H d1 d2 v1 v2 Q mu i1 i2 o
  unfold dInS at o
  cases es : seqOf d2 with
  | stuck => rw [es] at o; exact o.elim
  | exc n => rw [es] at o; exact o.elim
  | ok ds =>
    rw [es] at o
    dsimp only at o
    cases z : flatD d1 && ds.all flatD with
    | false => rw [z] at o; exact o.elim
    | true =>
      rw [z] at o
      obtain ⟨z1, z2⟩ := Bool.and_eq_true_iff.mp z
      have hq : ∃ a vs, v2 = .ref a ∧ (SqL K H a vs ∨ SqT K H a vs) ∧ IsL ca K (cut H G) ds vs := by
        cases d2 with
        | lst xs =>
          cases es
          obtain ⟨a, vs, e, hq, r⟩ := is_lst.mp i2
          exact ⟨a, vs, e, .inl (sq_whole hq), r⟩
        | tup xs =>
          cases es
          obtain ⟨a, vs, e, hq, r⟩ := is_tup.mp i2
          exact ⟨a, vs, e, .inr (.inl (.inl (cut_some hq).2)), r⟩
        | _ => cases es
      obtain ⟨a, vs, rfl, hq, r⟩ := hq
      obtain ⟨e1, f1⟩ := flat_is z1 i1
      obtain ⟨e2, f2⟩ := flats_is z2 r
      subst e1 e2
      exact ⟨a, _, rfl, hq, f1, f2, o _ H (fun _ _ h => h) (is_bl.mpr rfl)⟩
/-! ### owned dicts of data -/
theorem owL_dats {K : PySem.W.Frag} {G : List Addr} {H : Hp} : ∀ {ds : List D} {vs : List V} {F : List Addr}, OwL ca K G H (ds.map .dat) vs F → F = [] ∧ IsL ca K (cut H G) ds vs
  | [], vs, F, h => by
    obtain ⟨e, f⟩ := owL_nil.mp h
    exact ⟨f, by rw [e]; exact IsL.nil⟩
  | d :: ds, vs, F, h => by
    obtain ⟨v, vs', F1, F2, rfl, h1, h2, rfl⟩ := owL_cons.mp h
    obtain ⟨f1, i1⟩ := ow_dat.mp h1
    obtain ⟨f2, i2⟩ := owL_dats h2
    exact ⟨by rw [f1, f2]; rfl, IsL.cons i1 i2⟩
theorem EnvF.putT {K : PySem.W.Frag} {H0 H : Hp} {Fa F : List Addr} {ρ : Rn} {σ : L2.St} {i : Nat} {ks : List (List Key)} {ds : List D} (E : EnvF ca K H0 Fa ρ σ H F) (h : ρ[i]? = some (some (.dic ks (ds.map .dat)))) :
    ∃ l kvs, σ[i]? = some (some (.ref l)) ∧ H l = some (.dT kvs) ∧ kvs.map (·.1) = ks ∧ IsL ca K (cut H (Fa ++ F)) ds (kvs.map (·.2)) ∧ ∀ (kvs' : List (List Key × V)) (ds' : List D), IsL ca K (cut H (Fa ++ F)) ds' (kvs'.map (·.2)) →
      Env ca K H0 Fa (ρ.set i (some (.dic (kvs'.map (·.1)) (ds'.map .dat)))) (σ.set i (some (.ref l))) (upd H l (.dT kvs')) := by
  obtain ⟨w, A, Fi, B, rfl, e2, ⟨v, e3, ho⟩, back⟩ := E.own.split h
  obtain ⟨l, kvs, Fi', rfl, hl, ek, hr, rfl⟩ := ow_dic.mp ho
  obtain ⟨rfl, iL⟩ := owL_dats hr
  subst e3
  refine ⟨l, kvs, e2, hl, ek, iL, fun kvs' ds' i' => ?_⟩
  have hlG : l ∈ Fa ++ (A ++ ([l] ++ B)) := by simp
  have nd := E.nd
  have nl : l ∉ A ++ B := by
    intro z
    simp only [List.nodup_append, List.cons_append, List.nil_append, List.nodup_cons, List.mem_append, List.mem_cons] at nd z
    rcases z with z | z
    · exact nd.2.2 l z l (.inl rfl) rfl
    · exact nd.2.1.1 z
  have nFa : l ∉ Fa := E.apart l (by simp)
  have hn : H0 l = none := E.fresh l (by simp)
  have lc : Le (cut H (Fa ++ (A ++ ([l] ++ B)))) (cut (upd H l (.dT kvs')) (Fa ++ (A ++ ([l] ++ B)))) := by
    rw [cut_upd hlG]; exact Le.refl _
  have tu : ∀ b ys, H b = some (.tup ys) → (upd H l (.dT kvs')) b = some (.tup ys) := fun b ys q => by
    rw [upd_ne (fun e => by subst e; rw [hl] at q; cases q)]; exact q
  refine ⟨A ++ ([l] ++ B), le_upd E.le hn, fun b hb => ?_, E.mu, nd, E.fresh, back _ _ _ _ [l] lc (fun b hb => upd_ne fun e => nl (by rw [← e]; exact hb)) tu ⟨_, rfl, ow_dic.mpr ⟨l, kvs', [], rfl, upd_same, rfl, OwL.of_dats (i'.le lc), rfl⟩⟩⟩
  rw [upd_ne (fun e => nFa (by rw [← e]; exact hb))]; exact E.keep b hb
theorem EnvF.putK {K : PySem.W.Frag} {H0 H : Hp} {Fa F : List Addr} {ρ : Rn} {σ : L2.St} {i : Nat} {ks : List (Key)} {ds : List D} (E : EnvF ca K H0 Fa ρ σ H F) (h : ρ[i]? = some (some (.dik ks (ds.map .dat)))) :
    ∃ l kvs, σ[i]? = some (some (.ref l)) ∧ H l = some (.dK kvs) ∧ kvs.map (·.1) = ks ∧ IsL ca K (cut H (Fa ++ F)) ds (kvs.map (·.2)) ∧ ∀ (kvs' : List (Key × V)) (ds' : List D), IsL ca K (cut H (Fa ++ F)) ds' (kvs'.map (·.2)) →
      Env ca K H0 Fa (ρ.set i (some (.dik (kvs'.map (·.1)) (ds'.map .dat)))) (σ.set i (some (.ref l))) (upd H l (.dK kvs')) := by
  obtain ⟨w, A, Fi, B, rfl, e2, ⟨v, e3, ho⟩, back⟩ := E.own.split h
  obtain ⟨l, kvs, Fi', rfl, hl, ek, hr, rfl⟩ := ow_dik.mp ho
  obtain ⟨rfl, iL⟩ := owL_dats hr
  subst e3
  refine ⟨l, kvs, e2, hl, ek, iL, fun kvs' ds' i' => ?_⟩
  have hlG : l ∈ Fa ++ (A ++ ([l] ++ B)) := by simp
  have nd := E.nd
  have nl : l ∉ A ++ B := by
    intro z
    simp only [List.nodup_append, List.cons_append, List.nil_append, List.nodup_cons, List.mem_append, List.mem_cons] at nd z
    rcases z with z | z
    · exact nd.2.2 l z l (.inl rfl) rfl
    · exact nd.2.1.1 z
  have nFa : l ∉ Fa := E.apart l (by simp)
  have hn : H0 l = none := E.fresh l (by simp)
  have lc : Le (cut H (Fa ++ (A ++ ([l] ++ B)))) (cut (upd H l (.dK kvs')) (Fa ++ (A ++ ([l] ++ B)))) := by
    rw [cut_upd hlG]; exact Le.refl _
  have tu : ∀ b ys, H b = some (.tup ys) → (upd H l (.dK kvs')) b = some (.tup ys) := fun b ys q => by
    rw [upd_ne (fun e => by subst e; rw [hl] at q; cases q)]; exact q
  refine ⟨A ++ ([l] ++ B), le_upd E.le hn, fun b hb => ?_, E.mu, nd, E.fresh, back _ _ _ _ [l] lc (fun b hb => upd_ne fun e => nl (by rw [← e]; exact hb)) tu ⟨_, rfl, ow_dik.mpr ⟨l, kvs', [], rfl, upd_same, rfl, OwL.of_dats (i'.le lc), rfl⟩⟩⟩
  rw [upd_ne (fun e => nFa (by rw [← e]; exact hb))]; exact E.keep b hb
/-- what a store makes of keys and values -/
def putDs {κ : Type} [DecidableEq κ] (ks : List κ) (ds : List D) (k : κ) (d : D) : List κ × List D :=
  if (ks.any fun k' => decide (k' = k)) = true then (ks, (ks.zip ds).map fun p => if p.1 = k then d else p.2) else (ks ++ [k], ds ++ [d])
theorem putK_keys {κ : Type} [DecidableEq κ] (kvs : List (κ × V)) (k : κ) (v : V) (ds : List D) (d : D) : (putK kvs k v).map (·.1) = (putDs (kvs.map (·.1)) ds k d).1 := by
  unfold putK putDs
  have e : ((kvs.map (·.1)).any fun k' => decide (k' = k)) = kvs.any fun kv => decide (kv.1 = k) := by rw [List.any_map]; rfl
  rw [e]
  by_cases z : (kvs.any fun kv => decide (kv.1 = k)) = true
  · rw [if_pos z, if_pos z, List.map_map]
    exact List.map_congr_left fun p _ => by
      by_cases q : p.1 = k
      · show (if p.1 = k then (p.1, v) else p).1 = p.1
        rw [if_pos q]
      · show (if p.1 = k then (p.1, v) else p).1 = p.1
        rw [if_neg q]
  · rw [if_neg z, if_neg z, List.map_append]; rfl
theorem putK_vals {κ : Type} [DecidableEq κ] {K : PySem.W.Frag} {H : Hp} (k : κ) {v : V} {d : D} (iv : Is ca K H d v) {kvs : List (κ × V)} {ds : List D} (i : IsL ca K H ds (kvs.map (·.2))) : IsL ca K H (putDs (kvs.map (·.1)) ds k d).2 ((putK kvs k v).map (·.2)) := by
  unfold putK putDs
  have e : ((kvs.map (·.1)).any fun k' => decide (k' = k)) = kvs.any fun kv => decide (kv.1 = k) := by rw [List.any_map]; rfl
  rw [e]
  by_cases z : (kvs.any fun kv => decide (kv.1 = k)) = true
  · rw [if_pos z, if_pos z]
    clear e z
    induction kvs generalizing ds with
    | nil =>
      rw [List.map_nil, List.map_nil, List.zip_nil_left, List.map_nil]
      exact IsL.nil
    | cons p kvs ih =>
      cases ds with
      | nil => have := i.len; simp at this
      | cons d0 ds =>
        obtain ⟨v0, vs', e, i1, r⟩ := isL_cons.mp i
        rw [List.map_cons] at e
        injection e with e1 e2
        subst e1
        rw [← e2] at r
        have := ih r
        simp only [List.map_cons, List.zip_cons_cons]
        refine IsL.cons ?_ this
        by_cases q : p.1 = k
        · simp only [if_pos q]; exact iv
        · simp only [if_neg q]; exact i1
  · rw [if_neg z, if_neg z, List.map_append]
    exact i.app (IsL.cons iv IsL.nil)
def datsOf : List M → Option (List D)
  | [] => some []
  | .dat d :: ms => (datsOf ms).map (d :: ·)
  | _ => none
theorem datsOf_eq : ∀ {ms : List M} {ds : List D}, datsOf ms = some ds → ms = ds.map .dat
  | [], ds, h => by cases h; rfl
  | m :: ms, ds, h => by
    cases m with
    | dat d =>
      unfold datsOf at h
      cases e : datsOf ms with
      | none => rw [e] at h; cases h
      | some ds' =>
        rw [e] at h
        cases h
        rw [datsOf_eq e]
        rfl
    | _ => cases h
theorem set_self {σ : L2.St} {i : Nat} {x : Option V} (h : σ[i]? = some x) : σ.set i x = σ := by
  refine List.ext_getElem? fun j => ?_
  by_cases hj : i = j
  · subst hj
    by_cases hlt : i < σ.length
    · rw [List.getElem?_set_self hlt, h]
    · rw [List.getElem?_eq_none (by omega)] at h; cases h
  · rw [List.getElem?_set_ne hj]
/-- x[k] = v, x a local name whose dict is its own -/
def sPut (i : Nat) (fk fv : Rn → Out D) (ρ : Rn) : SOut := match ρ[i]? with
  | some (some (.dic ks ms)) => match datsOf ms with
    | some ds => (fv ρ).bind fun d => (fk ρ).bind fun y => match tkOf y with
      | some k => if ks.length < sizeLine then .ok (.nx, ρ.set i (some (.dic (putDs ks ds k d).1 ((putDs ks ds k d).2.map .dat)))) else .stuck
      | none => .stuck
    | none => .stuck
  | some (some (.dik ks ms)) => match datsOf ms with
    | some ds => (fv ρ).bind fun d => (fk ρ).bind fun y => match keyOf y with
      | some k => if ks.length < sizeLine then .ok (.nx, ρ.set i (some (.dik (putDs ks ds k d).1 ((putDs ks ds k d).2.map .dat)))) else .stuck
      | none => .stuck
    | none => .stuck
  | _ => .stuck
theorem ss_put (i : Nat) {k0 : Nat} {key value : Expr} {fk fv : Rn → Out D} {p1 pos' : Pos} (J : JX X W k0) (hk : ED ca X W key fk) (hv : ED ca X W value fv) (hN : X.N[i]? = some x := by rfl) (hvis : Vis X.env.scope x := by first | exact Or.inl rfl | exact Or.inr (Or.inl rfl) | exact Or.inr (Or.inr rfl))
    (hd : (x == ("__debug__" : Str)) = false := by decide) (hcd : (x == ("__classdict__" : Str)) = false := by decide)
    (hs : swapsWith value (some (.Subscript (.Name x p1) key pos')) pos.line X.env = pure false := by rfl) : SS ca X W (.Assign [.Subscript (.Name x p1) key pos'] value pos) (sPut i fk fv) := by
  obtain ⟨tk, pk, hk⟩ := hk
  obtain ⟨tv, pv, hv⟩ := hv
  refine ⟨_, ps_dput (by have := J.room.units; omega) (pe_var hN hvis hd hcd) pk pv hs, fun H0 Fa ts us ρ σ H Dn hl E o => ?_⟩
  unfold sPut at o
  split at o
  · rename_i ks ms hρ
    cases em : datsOf ms with
    | none => simp only [em] at o; exact o.elim
    | some ds =>
      simp only [em] at o
      have hms := datsOf_eq em
      subst hms
      obtain ⟨F, E⟩ := E
      refine hv H0 Fa ts us ρ σ H _ hl ⟨F, E⟩ (SPost.ofE o fun d o v H1 F1 E1 i1 => ?_)
      obtain ⟨l0, kvs0, e2, _, _, _, _⟩ := E1.putT (i := ts.length + i) (by rw [drop_get]; exact hρ)
      rw [hl, drop_get] at e2
      refine ⟨.ref l0, e2, ?_⟩
      refine hk H0 Fa (some (.dat d) :: ts) (some v :: us) ρ σ H1 _ (by simp [hl]) ⟨F1, E1.top i1⟩ ?_
      cases ek : fk ρ with
      | stuck => rw [ek] at o; exact o.elim
      | exc n => rw [ek] at o; exact fun a H2 c E2 => o a σ H2 c E2.frm
      | ok y =>
        rw [ek] at o
        intro vy H2 F2 E2 i2
        obtain ⟨E3, i3⟩ := E2.popD
        have E3 : EnvF ca X.K H0 Fa (ts ++ ρ) (us ++ σ) H2 F2 := E3
        obtain ⟨l, kvs, e4, hl4, ek4, iL, put⟩ := E3.putT (i := ts.length + i) (by rw [drop_get]; exact hρ)
        rw [hl, drop_get, e2] at e4
        injection e4 with e4
        injection e4 with e4
        injection e4 with e4
        subst e4
        subst ek4
        simp only [bind_ok] at o
        cases et : tkOf y with
        | none => simp only [et] at o; exact o.elim
        | some k =>
          simp only [et] at o
          by_cases z : (kvs.map (·.1)).length < sizeLine
          · rw [if_pos z] at o
            have q := put (putK kvs k v) (putDs (kvs.map (·.1)) ds k d).2 (putK_vals k i3 iL)
            rw [putK_keys kvs k v ds d, drop_set, hl, drop_set, set_self e2] at q
            have zl : kvs.length < sizeLine := by simpa using z
            cases y with
            | tup ys =>
              obtain ⟨b, vs, rfl, hb, rb⟩ := is_tup.mp (E2.whole i2)
              have ev := keys_is et rb
              subst ev
              exact ⟨l0, _, rfl, .inr ⟨kvs, k, b, hl4, rfl, hb, zl, rfl⟩, o σ _ q⟩
            | _ => cases et
          · rw [if_neg z] at o; exact o.elim
  · rename_i ks ms hρ
    cases em : datsOf ms with
    | none => simp only [em] at o; exact o.elim
    | some ds =>
      simp only [em] at o
      have hms := datsOf_eq em
      subst hms
      obtain ⟨F, E⟩ := E
      refine hv H0 Fa ts us ρ σ H _ hl ⟨F, E⟩ (SPost.ofE o fun d o v H1 F1 E1 i1 => ?_)
      obtain ⟨l0, kvs0, e2, _, _, _, _⟩ := E1.putK (i := ts.length + i) (by rw [drop_get]; exact hρ)
      rw [hl, drop_get] at e2
      refine ⟨.ref l0, e2, ?_⟩
      refine hk H0 Fa (some (.dat d) :: ts) (some v :: us) ρ σ H1 _ (by simp [hl]) ⟨F1, E1.top i1⟩ ?_
      cases ek : fk ρ with
      | stuck => rw [ek] at o; exact o.elim
      | exc n => rw [ek] at o; exact fun a H2 c E2 => o a σ H2 c E2.frm
      | ok y =>
        rw [ek] at o
        intro vy H2 F2 E2 i2
        obtain ⟨E3, i3⟩ := E2.popD
        have E3 : EnvF ca X.K H0 Fa (ts ++ ρ) (us ++ σ) H2 F2 := E3
        obtain ⟨l, kvs, e4, hl4, ek4, iL, put⟩ := E3.putK (i := ts.length + i) (by rw [drop_get]; exact hρ)
        rw [hl, drop_get, e2] at e4
        injection e4 with e4
        injection e4 with e4
        injection e4 with e4
        subst e4
        subst ek4
        simp only [bind_ok] at o
        cases et : keyOf y with
        | none => simp only [et] at o; exact o.elim
        | some k =>
          simp only [et] at o
          by_cases z : (kvs.map (·.1)).length < sizeLine
          · rw [if_pos z] at o
            have q := put (putK kvs k v) (putDs (kvs.map (·.1)) ds k d).2 (putK_vals k i3 iL)
            rw [putK_keys kvs k v ds d, drop_set, hl, drop_set, set_self e2] at q
            have zl : kvs.length < sizeLine := by simpa using z
            have ev := key_is et i2
            subst ev
            exact ⟨l0, _, rfl, .inl ⟨kvs, k, hl4, rfl, zl, rfl⟩, o σ _ q⟩
          · rw [if_neg z] at o; exact o.elim
  · exact o.elim
/-! ### {} -/
theorem em_dnewT : EM ca X W (.Dict [] [] pos) (fun _ => .ok (.dic [] [])) := by
  refine ⟨_, pe_dnewT, fun H0 Fa ts us ρ σ H Q hl ⟨F, E⟩ o p hp => ?_⟩
  exact o _ _ ⟨_, E.push (F' := [p]) (Le.new hp) (fun a ha => upd_ne fun e => (E.muG a ha).ne (by rw [e]; exact hp)) (by simp) (fun a ha => by rw [List.mem_singleton.mp ha]; exact hp) (ow_dic.mpr ⟨p, [], [], rfl, upd_same, rfl, owL_nil.mpr ⟨rfl, rfl⟩, rfl⟩)⟩
theorem em_dnewK : EM ca X W (.Dict [] [] pos) (fun _ => .ok (.dik [] [])) := by
  refine ⟨_, pe_dnewK, fun H0 Fa ts us ρ σ H Q hl ⟨F, E⟩ o p hp => ?_⟩
  exact o _ _ ⟨_, E.push (F' := [p]) (Le.new hp) (fun a ha => upd_ne fun e => (E.muG a ha).ne (by rw [e]; exact hp)) (by simp) (fun a ha => by rw [List.mem_singleton.mp ha]; exact hp) (ow_dik.mpr ⟨p, [], [], rfl, upd_same, rfl, owL_nil.mpr ⟨rfl, rfl⟩, rfl⟩)⟩
end
end DA
set_option maxHeartbeats 4000000
/-! DE: x in y (lists, tuples, dicts), int, bool, str of plain values -/
namespace DA
open PySem PySem.Spec PyProof.Rows L2
section
variable {ca : Str → Option Addr} {X : Cx} {W : WX} {e a b c tg o : Expr} {es : List Expr} {pos p p2 apos : Pos} {x m : Str}
/-! ### x in y -/
def rInDic (neg : Bool) : R2 := fun x y H Q => ∃ (a : Addr) (o : Option V), y = .ref a ∧ DGet H a x o ∧ Q (.bl (if neg then !o.isSome else o.isSome)) H
theorem op_in_dic (hu : X.A.units + 1 < cLine) : OpR X (compareOp .In) (rInDic false) := by
  intro pins s σ H x y v u Q I rx ry h
  obtain ⟨a, o, rfl, g, q⟩ := h
  cases ry
  exact d_in hu I g rx fun s' I' => ⟨.bl o.isSome, H, I', rfl, q⟩
theorem op_notIn_dic (hu : X.A.units + 1 < cLine) : OpR X (compareOp .NotIn) (rInDic true) := by
  intro pins s σ H x y v u Q I rx ry h
  obtain ⟨a, o, rfl, g, q⟩ := h
  cases ry
  exact d_notIn hu I g rx fun s' I' => ⟨.bl (!o.isSome), H, I', rfl, q⟩
/-- x in y for a list, a tuple, a dict -/
def dIn (neg : Bool) (x y : D) : Out D := if isDicO (.ok y) then (dGetO y x).map fun o => .bl (if neg then !o.isSome else o.isSome) else dInS neg x y
theorem opd_in {K : PySem.W.Frag} (neg : Bool) : OpD ca K (fun x y H Q => rIn K neg x y H Q ∨ rInDic neg x y H Q) (dIn neg) := by
  intro G H d1 d2 v1 v2 Q mu i1 i2 o
  unfold dIn at o
  cases hd : isDicO (.ok d2) with
  | false =>
    simp only [hd, Bool.false_eq_true, if_false] at o
    exact .inl (opd_inS neg G H d1 d2 v1 v2 Q mu i1 i2 o)
  | true =>
    simp only [hd, if_true] at o
    cases eg : dGetO d2 d1 with
    | stuck => rw [eg] at o; exact o.elim
    | exc n => rw [eg] at o; exact o.elim
    | ok od =>
      rw [eg] at o
      obtain ⟨a, ov, rfl, g, r⟩ := dget_of mu i2 i1 eg
      have hs : ov.isSome = od.isSome := by
        cases od with
        | none => have r : ov = none := r; subst r; rfl
        | some d => obtain ⟨v, rfl, iv⟩ := r; rfl
      refine .inr ⟨a, ov, rfl, g, ?_⟩
      rw [hs]
      exact o _ H (fun _ _ h => h) (is_bl.mpr rfl)
theorem ed_inA {k : Nat} (J : JX X W k) {f g : Rn → Out D} (ha : ED ca X W a f) (hb : ED ca X W b g) (hm : behindInMarks .In b = false := by rfl) : ED ca X W (.Compare a [.In] [b] pos) (bin (dIn false) f g) := ed_cmp (op_in_seq.or (op_in_dic (by have := J.room.units; omega))) (opd_in false) ha hb hm
theorem eb_inA {k : Nat} (J : JX X W k) {f g : Rn → Out D} (ha : ED ca X W a f) (hb : ED ca X W b g) (hm : behindInMarks .In b = false := by rfl) : EB ca X W (.Compare a [.In] [b] pos) (tst (dIn false) f g) := eb_cmp (op_in_seq.or (op_in_dic (by have := J.room.units; omega))) (opd_in false) ha hb hm
theorem ed_notInA {k : Nat} (J : JX X W k) {f g : Rn → Out D} (ha : ED ca X W a f) (hb : ED ca X W b g) (hm : behindInMarks .NotIn b = false := by rfl) : ED ca X W (.Compare a [.NotIn] [b] pos) (bin (dIn true) f g) := ed_cmp (op_notIn_seq.or (op_notIn_dic (by have := J.room.units; omega))) (opd_in true) ha hb hm
theorem eb_notInA {k : Nat} (J : JX X W k) {f g : Rn → Out D} (ha : ED ca X W a f) (hb : ED ca X W b g) (hm : behindInMarks .NotIn b = false := by rfl) : EB ca X W (.Compare a [.NotIn] [b] pos) (tst (dIn true) f g) := eb_cmp (op_notIn_seq.or (op_notIn_dic (by have := J.room.units; omega))) (opd_in true) ha hb hm
/-! ### int, bool, str -/
def dInt1 : List D → Out D
  | [.int i] => .ok (.int i)
  | [.bl k] => .ok (.int (if k then 1 else 0))
  | _ => .stuck
theorem ed_int1 {f : Rn → Out (List D)} (hm : X.mg "int" = none) (ha : EA ca X W [e] f) (hg : Gl X "int" := by rfl) (he : starEach [e] X.env = (false, eval e X.env) :: starEach [] X.env := by rfl) (hpl : (backTo pos (starEach [] X.env)).any (·.1) = false := by rfl) : ED ca X W (.Call (.Name "int" p) [e] [] pos) (calD dInt1 f) :=
  ed_callTy call_int1 (fun G H ds vs Q mu i o => by
    unfold dInt1 at o
    split at o
    · obtain ⟨v, rfl, i1⟩ := isL_1 i
      exact .inl ⟨_, by rw [is_int.mp i1], o _ H (fun _ _ h => h) (is_int.mpr rfl)⟩
    · obtain ⟨v, rfl, i1⟩ := isL_1 i
      exact .inr ⟨_, by rw [is_bl.mp i1], o _ H (fun _ _ h => h) (is_int.mpr rfl)⟩
    · exact o.elim) hm (by decide +kernel) ha hg (by decide) (by decide) he hpl
def dBool1 : List D → Out D
  | [.int i] => .ok (.bl (i != 0))
  | [.bl k] => .ok (.bl k)
  | _ => .stuck
theorem ed_bool1 {f : Rn → Out (List D)} (hm : X.mg "bool" = none) (ha : EA ca X W [e] f) (hg : Gl X "bool" := by rfl) (he : starEach [e] X.env = (false, eval e X.env) :: starEach [] X.env := by rfl) (hpl : (backTo pos (starEach [] X.env)).any (·.1) = false := by rfl) : ED ca X W (.Call (.Name "bool" p) [e] [] pos) (calD dBool1 f) :=
  ed_callTy call_bool1 (fun G H ds vs Q mu i o => by
    unfold dBool1 at o
    split at o
    · obtain ⟨v, rfl, i1⟩ := isL_1 i
      exact .inl ⟨_, by rw [is_int.mp i1], o _ H (fun _ _ h => h) (is_bl.mpr rfl)⟩
    · obtain ⟨v, rfl, i1⟩ := isL_1 i
      exact .inr ⟨_, by rw [is_bl.mp i1], o _ H (fun _ _ h => h) (is_bl.mpr rfl)⟩
    · exact o.elim) hm (by decide +kernel) ha hg (by decide) (by decide) he hpl
def StrC (i : Int) : Prop := i.natAbs.log2 < 1920
noncomputable instance (i : Int) : Decidable (StrC i) := Classical.propDecidable _
noncomputable def dStr1 : List D → Out D
  | [.int i] => if StrC i then .ok (.str (toString i : String)) else .stuck
  | _ => .stuck
theorem ed_str1 {f : Rn → Out (List D)} (hm : X.mg "str" = none) (ha : EA ca X W [e] f) (hg : Gl X "str" := by rfl) (he : starEach [e] X.env = (false, eval e X.env) :: starEach [] X.env := by rfl) (hpl : (backTo pos (starEach [] X.env)).any (·.1) = false := by rfl) : ED ca X W (.Call (.Name "str" p) [e] [] pos) (calD dStr1 f) :=
  ed_callTy call_str_int (fun G H ds vs Q mu i o => by
    unfold dStr1 at o
    split at o
    · split at o
      · rename_i n hz
        obtain ⟨v, rfl, i1⟩ := isL_1 i
        exact ⟨_, by rw [is_int.mp i1], hz, o _ H (fun _ _ h => h) (is_str.mpr rfl)⟩
      · exact o.elim
    · exact o.elim) hm (by decide +kernel) ha hg (by decide) (by decide) he hpl
/-! ### one subscript for lists, tuples, texts, dicts -/
theorem ed_ixA {k : Nat} (J : JX X W k) {f g : Rn → Out D} (ha : ED ca X W a f) (hb : ED ca X W b g) (hp : PlainIx b := by exact fun _ _ => rfl) (hs : NoSl b := by exact fun _ _ => rfl) : ED ca X W (.Subscript a b pos) (ixA f g) :=
  ed_alt (fun ρ => isDicO (f ρ)) (ed_ix ha hb hp) (ed_dget J ha hb hs)
def dicT0 : Rn → Out M := fun _ => .ok (.dic [] [])
theorem em_dic0 : EM ca X W (.Dict [] [] pos) dicT0 := em_dnewT
def gtF (f g t : Rn → Out D) (ρ : Rn) : Out D := if isDicO (f ρ) then gtD f g t ρ else .stuck
theorem ed_getF {k : Nat} (J : JX X W k) {f : Expr} {fo fe ff : Rn → Out D} (ho : ED ca X W o fo) (he : ED ca X W e fe) (hf : ED ca X W f ff) (m : M2 X o "get" apos e f pos) : ED ca X W (.Call (.Attribute o "get" apos) [e, f] [] pos) (gtF fo fe ff) := ed_get2 J ho he hf m
end
end DA
set_option maxHeartbeats 4000000
/-! DF: a dict told as one pair whose key is a tuple -/
namespace DA
open PySem PySem.Spec PyProof.Rows L2
section
variable {ca : Str → Option Addr} {X : Cx} {W : WX} {e a b c tg o k v : Expr} {es : List Expr} {pos p p2 apos : Pos} {x m : Str}
theorem d_setT {A : Around} {E : Value → Shared → Prop} {pins : List (Addr × Obj)} {σ : L2.St} {H : Hp} {s : Shared} {a b : Addr} {kvs : List (List Key × V)} {k : List Key} {v : V} {r : Value} {Q : Unit → Shared → Prop} (hu : A.units + 1 < cLine) (I : Inv X pins σ H s)
    (e : H a = some (.dT kvs)) (eb : H b = some (.tup (k.map kV))) (l : kvs.length < sizeLine) (rv : RelV v r) (h : ∀ s', Inv X pins σ (upd H a (.dT (putK kvs k v))) s' → Q () s') :
    wpAny (model X.prog X.w) A (dictSet a (.ref b) r) Q E s := by
  obtain ⟨z, hd, xs, rel, dd⟩ := dt_of I.hok e
  have hz : xs.length ≤ sizeLine := by rw [← Paired.length rel]; exact z
  have hl : (putK kvs k v).length ≤ sizeLine := by have := length_putK kvs k v; omega
  refine wpAny_dictSet_heap (hsz := hz) (by have := hu; show A.units < cLine; omega) (key_of I.hok eb) dd fun h' dd' hs => h _ ?_
  obtain ⟨q, es, ep, hq, h2, h3, h4, _, h5⟩ := dd'
  refine d_write I (by rw [e]; exact True.intro) hs ⟨q, hq⟩ ⟨hl, hd, _, (rel.put k eb rv).keeps fun c ys ec => ?_, q, es, ep, hq, h2, h3, h4, h5⟩
  rw [upd_ne (ne_of ec e (fun z => nomatch z))]
  exact ec
def tDisp1 (tk tv : TE) : TE := fun σ H Q => ∀ p, H p = none → tPairs [(tk, tv)] σ (upd H p (.dT [])) fun ps H2 => ∃ (ks : List Key) (b : Addr) (y : V), ps = [(.ref b, y)] ∧ H2 b = some (.tup (ks.map kV)) ∧ H2 p = some (.dT []) ∧ Q (.ref p) (upd H2 p (.dT [(ks, y)]))
theorem pe_disp1 {tk tv : TE} (hu : X.A.units + 1 < cLine) (hk : PE X k tk) (hv : PE X v tv) : PE X (.Dict [some k] [v] pos) (tDisp1 tk tv) := by
  refine ⟨fun pins s σ H Q I q => ?_⟩
  have hn := I.hok.fresh (Nat.le_refl s.heap.objs.size)
  have I1 := I.laid (a := s.heap.objs.size) (o := .dT []) (h' := s.heap.push { cls := .type "dict", data := .dict #[] }) (t' := s.toks) (fun _ _ q => Heap.get?_push_of_some _ q) (Nat.le_refl _) (dt_empty s.heap I.big)
  refine wpAny_Dict_any rfl rfl (by simp) (by simp) (thn ((pps_cons hk hv pps_nil).run pins _ σ _ _ I1 (q _ hn)) fun ws s2 ⟨ps, H2, I2, rel, ks, b, y, ep, hb, hp, q2⟩ => ?_)
  subst ep
  cases rel with
  | @cons a0 w as ws h t =>
    cases t
    obtain ⟨u, r⟩ := w
    obtain ⟨ru, rv⟩ := h
    have ru : u = Value.ref b := ru
    subst ru
    unfold storeAll
    rw [List.forIn_cons]
    refine wpAny_bind (wpAny_bind (d_setT hu I2 hp hb (by rw [sizeLine_eq, List.length_nil]; omega) rv fun s' I' => wpAny_pure ?_))
    exact wpAny_pure ⟨.ref s.heap.objs.size, _, I', rfl, q2⟩
noncomputable def dispM (fk fv : Rn → Out D) (ρ : Rn) : Out M := (fk ρ).bind fun y => (fv ρ).bind fun d => match tkOf y with
  | some k => .ok (.dic [k] [.dat d])
  | none => .stuck
theorem em_disp1 {n : Nat} (J : JX X W n) {fk fv : Rn → Out D} (hk : ED ca X W k fk) (hv : ED ca X W v fv) : EM ca X W (.Dict [some k] [v] pos) (dispM fk fv) := by
  obtain ⟨tk, pk, hk⟩ := hk
  obtain ⟨tv, pv, hv⟩ := hv
  refine ⟨_, pe_disp1 (by have := J.room.units; omega) pk pv, fun H0 Fa ts us ρ σ H Q hl ⟨F, E⟩ o p hp => ?_⟩
  have E0 := E.push (m := .dic [] []) (v := .ref p) (F' := [p]) (H' := upd H p (.dT [])) (Le.new hp) (fun a ha => upd_ne fun e => (E.muG a ha).ne (by rw [e]; exact hp)) (by simp) (fun a ha => by rw [List.mem_singleton.mp ha]; exact hp) (ow_dic.mpr ⟨p, [], [], rfl, upd_same, rfl, owL_nil.mpr ⟨rfl, rfl⟩, rfl⟩)
  refine hk H0 Fa (some (.dic [] []) :: ts) (some (.ref p) :: us) ρ σ _ _ (by simp [hl]) ⟨_, E0⟩ (OutE.bind o |>.imp (fun y o vy H2 F2 E2 i2 => ?_) fun n q a' H3 c E3 => q a' H3 c E3.pop)
  refine hv H0 Fa (some (.dat y) :: some (.dic [] []) :: ts) (some vy :: some (.ref p) :: us) ρ σ H2 _ (by simp [hl]) ⟨F2, E2.top i2⟩ (OutE.bind o |>.imp (fun d o2 vd H3 F3 E3 i3 => ?_) fun n q a' H3 c E3 => q a' H3 c E3.pop.pop)
  obtain ⟨E4, i4⟩ := E3.popD
  cases et : tkOf y with
  | none => simp only [et] at o2; exact o2.elim
  | some k =>
    simp only [et] at o2
    cases y with
    | tup ys =>
      obtain ⟨b, vs, rfl, hb, rb⟩ := is_tup.mp (E4.whole i4)
      have ev := keys_is et rb
      subst ev
      obtain ⟨l, kvs, e4, hl4, ek4, iL, put⟩ := E4.putT (i := 0) (ks := []) (ds := []) rfl
      injection e4 with e4
      injection e4 with e4
      injection e4 with e4
      subst e4
      have ek : kvs = [] := by cases kvs with | nil => rfl | cons _ _ => cases ek4
      subst ek
      have q := put [(k, vd)] [d] (IsL.cons i3 iL)
      exact ⟨k, b, vd, rfl, hb, hl4, o2 _ _ q⟩
    | _ => cases et
end
end DA
set_option maxHeartbeats 4000000
/-! DG: tuple(range(..)), list(range(..)), range with a step -/
namespace DA
open PySem PySem.Spec PyProof.Rows L2
section
variable {ca : Str → Option Addr} {X : Cx} {W : WX} {e a b c tg o k v : Expr} {es : List Expr} {pos p p2 pos2 apos : Pos} {x m : Str}
theorem rangeL_is {K : PySem.W.Frag} {H : Hp} (i j : Int) : IsL ca K H (rangeL i j) (rgV i j) := by
  unfold rangeL rgV
  generalize (List.range (j - i).toNat) = xs
  induction xs with
  | nil => exact isL_nil.mpr rfl
  | cons y ys ih => exact IsL.cons (is_int.mpr rfl) ih
noncomputable instance (i j : Int) : Decidable (RgOk i j) := Classical.propDecidable _
noncomputable def rg1 (h : List D → D) (f : Rn → Out D) (ρ : Rn) : Out D := (f ρ).bind fun x => match x with
  | .int j => if RgOk 0 j then .ok (h (rangeL 0 j)) else .stuck
  | _ => .stuck
noncomputable def rg2 (h : List D → D) (f g : Rn → Out D) (ρ : Rn) : Out D := (f ρ).bind fun x => (g ρ).bind fun y => match x, y with
  | .int i, .int j => if RgOk i j then .ok (h (rangeL i j)) else .stuck
  | _, _ => .stuck
theorem ed_tupRg1 {n : Nat} (J : JX X W n) {f : Rn → Out D} (hm : X.mg "tuple" = none) (hr : X.mg "range" = none) (ha : ED ca X W a f) (hg : Gl X "tuple" := by rfl) (hgr : Gl X "range" := by rfl)
    (n1 : starEach [a] X.env = (false, eval a X.env) :: starEach [] X.env := by rfl)
    (n2 : starEach [.Call (.Name "range" p2) [a] [] pos2] X.env = (false, eval (.Call (.Name "range" p2) [a] [] pos2) X.env) :: starEach [] X.env := by rfl) :
    ED ca X W (.Call (.Name "tuple" p) [.Call (.Name "range" p2) [a] [] pos2] [] pos) (rg1 .tup f) := by
  obtain ⟨ta, pa, ha⟩ := ha
  refine ⟨_, pe_tupRg J.calm hg hm (prg_1 hgr hr pa n1) n2, fun H0 Fa ts us ρ σ H Q hl E o => ?_⟩
  refine ha H0 Fa ts us ρ σ H _ hl E (OutE.bind o |>.imp (fun x o v H2 F E2 i => ?_) fun n q => q)
  split at o
  · rename_i j
    split at o
    · rename_i z
      exact ⟨j, is_int.mp i, z, fun q hq => o _ _ F (E2.same (upd_same_new hq)) (new_is E2.muG hq (rangeL_is 0 j))⟩
    · exact o.elim
  · exact o.elim
theorem ed_lstRg1 {n : Nat} (J : JX X W n) {f : Rn → Out D} (hm : X.mg "list" = none) (hr : X.mg "range" = none) (ha : ED ca X W a f) (hg : Gl X "list" := by rfl) (hgr : Gl X "range" := by rfl)
    (n1 : starEach [a] X.env = (false, eval a X.env) :: starEach [] X.env := by rfl)
    (n2 : starEach [.Call (.Name "range" p2) [a] [] pos2] X.env = (false, eval (.Call (.Name "range" p2) [a] [] pos2) X.env) :: starEach [] X.env := by rfl) :
    ED ca X W (.Call (.Name "list" p) [.Call (.Name "range" p2) [a] [] pos2] [] pos) (rg1 .lst f) := by
  obtain ⟨ta, pa, ha⟩ := ha
  refine ⟨_, pe_listRg J.calm hg hm (prg_1 hgr hr pa n1) n2, fun H0 Fa ts us ρ σ H Q hl E o => ?_⟩
  refine ha H0 Fa ts us ρ σ H _ hl E (OutE.bind o |>.imp (fun x o v H2 F E2 i => ?_) fun n q => q)
  split at o
  · rename_i j
    split at o
    · rename_i z
      exact ⟨j, is_int.mp i, z, fun q hq => o _ _ F (E2.same (upd_same_new hq)) (new_lst E2.muG hq (rangeL_is 0 j))⟩
    · exact o.elim
  · exact o.elim
theorem ed_tupRg2 {n : Nat} (J : JX X W n) {f g : Rn → Out D} (hm : X.mg "tuple" = none) (hr : X.mg "range" = none) (ha : ED ca X W a f) (hb : ED ca X W b g) (hg : Gl X "tuple" := by rfl) (hgr : Gl X "range" := by rfl)
    (n1 : starEach [a, b] X.env = (false, eval a X.env) :: starEach [b] X.env := by rfl) (n3 : starEach [b] X.env = (false, eval b X.env) :: starEach [] X.env := by rfl)
    (n4 : (backTo pos2 (starEach [b] X.env)).any (·.1) = false := by rfl)
    (n2 : starEach [.Call (.Name "range" p2) [a, b] [] pos2] X.env = (false, eval (.Call (.Name "range" p2) [a, b] [] pos2) X.env) :: starEach [] X.env := by rfl) :
    ED ca X W (.Call (.Name "tuple" p) [.Call (.Name "range" p2) [a, b] [] pos2] [] pos) (rg2 .tup f g) := by
  obtain ⟨ta, pa, ha⟩ := ha
  obtain ⟨tb, pb, hb⟩ := hb
  refine ⟨_, pe_tupRg J.calm hg hm (prg_2 hgr hr pa pb n1 n3 n4) n2, fun H0 Fa ts us ρ σ H Q hl E o => ?_⟩
  refine ha H0 Fa ts us ρ σ H _ hl E (OutE.bind o |>.imp (fun x o v H1 F1 E1 i1 => ?_) fun n q => q)
  refine hb H0 Fa (some (.dat x) :: ts) (some v :: us) ρ σ H1 _ (by simp [hl]) ⟨F1, E1.top i1⟩ (OutE.bind o |>.imp (fun y o2 v' H3 F E3 i' => ?_) fun n q a' H3 c E3 => q a' H3 c E3.pop)
  obtain ⟨E2, i⟩ := E3.popD
  split at o2
  · rename_i i0 j
    split at o2
    · rename_i z
      exact ⟨i0, j, is_int.mp i, is_int.mp i', z, fun q hq => o2 _ _ F (E2.same (upd_same_new hq)) (new_is E2.muG hq (rangeL_is i0 j))⟩
    · exact o2.elim
  · exact o2.elim
theorem ed_lstRg2 {n : Nat} (J : JX X W n) {f g : Rn → Out D} (hm : X.mg "list" = none) (hr : X.mg "range" = none) (ha : ED ca X W a f) (hb : ED ca X W b g) (hg : Gl X "list" := by rfl) (hgr : Gl X "range" := by rfl)
    (n1 : starEach [a, b] X.env = (false, eval a X.env) :: starEach [b] X.env := by rfl) (n3 : starEach [b] X.env = (false, eval b X.env) :: starEach [] X.env := by rfl)
    (n4 : (backTo pos2 (starEach [b] X.env)).any (·.1) = false := by rfl)
    (n2 : starEach [.Call (.Name "range" p2) [a, b] [] pos2] X.env = (false, eval (.Call (.Name "range" p2) [a, b] [] pos2) X.env) :: starEach [] X.env := by rfl) :
    ED ca X W (.Call (.Name "list" p) [.Call (.Name "range" p2) [a, b] [] pos2] [] pos) (rg2 .lst f g) := by
  obtain ⟨ta, pa, ha⟩ := ha
  obtain ⟨tb, pb, hb⟩ := hb
  refine ⟨_, pe_listRg J.calm hg hm (prg_2 hgr hr pa pb n1 n3 n4) n2, fun H0 Fa ts us ρ σ H Q hl E o => ?_⟩
  refine ha H0 Fa ts us ρ σ H _ hl E (OutE.bind o |>.imp (fun x o v H1 F1 E1 i1 => ?_) fun n q => q)
  refine hb H0 Fa (some (.dat x) :: ts) (some v :: us) ρ σ H1 _ (by simp [hl]) ⟨F1, E1.top i1⟩ (OutE.bind o |>.imp (fun y o2 v' H3 F E3 i' => ?_) fun n q a' H3 c E3 => q a' H3 c E3.pop)
  obtain ⟨E2, i⟩ := E3.popD
  split at o2
  · rename_i i0 j
    split at o2
    · rename_i z
      exact ⟨i0, j, is_int.mp i, is_int.mp i', z, fun q hq => o2 _ _ F (E2.same (upd_same_new hq)) (new_lst E2.muG hq (rangeL_is i0 j))⟩
    · exact o2.elim
  · exact o2.elim
/-! ### range(i, j, c) -/
def stepL (i c : Int) (n : Nat) : List D := (List.range n).map fun k => D.int (i + (k : Nat) * c)
theorem stepL_len (i c : Int) (n : Nat) : (stepL i c n).length = n := by unfold stepL; rw [List.length_map, List.length_range]
theorem stepL_get {i c : Int} {n k : Nat} {d : D} (h : (stepL i c n)[k]? = some d) : k < n ∧ d = .int (i + (k : Nat) * c) := by
  unfold stepL at h
  rw [List.getElem?_map] at h
  by_cases hk : k < n
  · rw [List.getElem?_range hk] at h
    cases h
    exact ⟨hk, rfl⟩
  · rw [List.getElem?_eq_none (by rw [List.length_range]; omega)] at h; cases h
theorem itOk_step {K : PySem.W.Frag} {i c : Int} {n : Nat} : ItOk ca K (Itc i c n) (stepL i c n) [] [] := by
  intro H0 Fa pre pus ρ σ H F k hp E
  refine ⟨fun d hd => ?_, fun h => by rw [stepL_len] at h; exact h⟩
  obtain ⟨hlt, rfl⟩ := stepL_get hd
  refine ⟨hlt, fun x H' ⟨eH, ex⟩ => ?_⟩
  subst eH ex
  exact ⟨E, is_int.mpr rfl⟩
def Rg3 (i j c : Int) : Prop := ∃ n, RgC i j c n
noncomputable instance (i j c : Int) : Decidable (Rg3 i j c) := Classical.propDecidable _
noncomputable def range3 : List D → Out (List D)
  | [.int i, .int j, .int c] => if Rg3 i j c ∧ (Builtin.Range.rangeSize i j c).toNat ≤ sizeLine then .ok (stepL i c (Builtin.Range.rangeSize i j c).toNat) else .stuck
  | _ => .stuck
theorem ei_range3 {f : Rn → Out (List D)} (hm : X.mg "range" = none) (h : EA ca X W [a, b, c] f) (hg : Gl X "range" := by rfl) (hs : starEach [a, b, c] X.env = (false, eval a X.env) :: starEach [b, c] X.env := by rfl) (hpl : (backTo pos (starEach [b, c] X.env)).any (·.1) = false := by rfl) :
    EI ca X W tg (.Call (.Name "range" p) [a, b, c] [] pos) (fun ρ => (f ρ).bind range3) := by
  obtain ⟨ta, pa, ha⟩ := h
  refine ⟨_, pi_range3 hg hm pa hs hpl, fun H0 Fa ts us ρ σ H R hl E o => ha H0 Fa ts us ρ σ H _ hl E (o.bind.imp (fun ds o vs H2 F E2 i => ?_) fun n q => q)⟩
  unfold range3 at o
  split at o
  · rename_i i0 j c0
    split at o
    · rename_i z
      obtain ⟨⟨n, z⟩, hsz⟩ := z
      obtain ⟨v, v', v2, rfl, iv, iv', iv2⟩ := isL_3 i
      rw [is_int.mp iv, is_int.mp iv', is_int.mp iv2]
      have en : (Builtin.Range.rangeSize i0 j c0).toNat = n := by rw [z.2.2.2]; rfl
      rw [en] at o
      exact ⟨i0, j, c0, n, rfl, z, o (Itc i0 c0 n) H2 [] [] rfl (by rw [stepL_len, ← en]; exact hsz) ⟨F, E2⟩ itOk_step⟩
    · exact o.elim
  · exact o.elim
noncomputable def itRange3 (f : Rn → Out (List D)) (ρ : Rn) : Out (List D) := (f ρ).bind range3
end
end DA
set_option maxHeartbeats 4000000
/-! DH: a local name's own dict, read: x[k], x.get(k, d), k in x -/
namespace DA
open PySem PySem.Spec PyProof.Rows L2
section
variable {ca : Str → Option Addr} {X : Cx} {W : WX} {e a b c tg o key dflt : Expr} {es : List Expr} {pos p p1 p2 pos2 apos : Pos} {x m : Str}
def dOwn (s : Option (Option M)) (y : D) : Out (Option D) := match s with
  | some (some (.dic ks ms)) => match datsOf ms with
    | some ds => match tkOf y with
      | some k => .ok (lookD ks ds k)
      | none => .stuck
    | none => .stuck
  | some (some (.dik ks ms)) => match datsOf ms with
    | some ds => match keyOf y with
      | some k => .ok (lookD ks ds k)
      | none => .stuck
    | none => .stuck
  | _ => .stuck
def isOwn : Option (Option M) → Bool
  | some (some (.dic _ ms)) => (datsOf ms).isSome
  | some (some (.dik _ ms)) => (datsOf ms).isSome
  | _ => false
theorem own_ref {K : PySem.W.Frag} {H0 H : Hp} {Fa F : List Addr} {ts ρ : Rn} {us σ : L2.St} {i : Nat} (hl : ts.length = us.length) (E : EnvF ca K H0 Fa (ts ++ ρ) (us ++ σ) H F) (h : isOwn ρ[i]? = true) :
    ∃ l, σ[i]? = some (some (.ref l)) ∧ IsD H l := by
  unfold isOwn at h
  split at h
  · rename_i ks ms hρ
    obtain ⟨ds, hd⟩ := Option.isSome_iff_exists.mp h
    have hm := datsOf_eq hd
    subst hm
    obtain ⟨l, kvs, e, hk, _⟩ := E.putT (i := ts.length + i) (by rw [drop_get]; exact hρ)
    rw [hl, drop_get] at e
    exact ⟨l, e, .inr ⟨kvs, .inl hk⟩⟩
  · rename_i ks ms hρ
    obtain ⟨ds, hd⟩ := Option.isSome_iff_exists.mp h
    have hm := datsOf_eq hd
    subst hm
    obtain ⟨l, kvs, e, hk, _⟩ := E.putK (i := ts.length + i) (by rw [drop_get]; exact hρ)
    rw [hl, drop_get] at e
    exact ⟨l, e, .inl ⟨kvs, .inl hk⟩⟩
  · cases h
theorem own_get {K : PySem.W.Frag} {H0 H : Hp} {Fa F : List Addr} {ts ρ : Rn} {us σ : L2.St} {i : Nat} {l : Addr} {y : D} {vy : V} {od : Option D} (hl : ts.length = us.length) (E : EnvF ca K H0 Fa (ts ++ ρ) (us ++ σ) H F) (e2 : σ[i]? = some (some (.ref l)))
    (i2 : Is ca K (cut H (Fa ++ F)) y vy) (h : dOwn ρ[i]? y = .ok od) : ∃ ov, DGet H l vy ov ∧ OptIs ca K (cut H (Fa ++ F)) od ov := by
  unfold dOwn at h
  split at h
  · rename_i ks ms hρ
    split at h
    · rename_i ds hd
      have hm := datsOf_eq hd
      subst hm
      obtain ⟨l', kvs, e, hk, ek, iL, _⟩ := E.putT (i := ts.length + i) (by rw [drop_get]; exact hρ)
      rw [hl, drop_get, e2] at e
      injection e with e
      injection e with e
      injection e with e
      subst e
      subst ek
      split at h
      · rename_i k et
        cases h
        cases y with
        | tup ys =>
          obtain ⟨b, vs, rfl, hb, rb⟩ := is_tup.mp (E.whole i2)
          have ev := keys_is et rb
          subst ev
          exact ⟨_, DGet.t hk hb, look_val k iL⟩
        | _ => cases et
      · cases h
    · cases h
  · rename_i ks ms hρ
    split at h
    · rename_i ds hd
      have hm := datsOf_eq hd
      subst hm
      obtain ⟨l', kvs, e, hk, ek, iL, _⟩ := E.putK (i := ts.length + i) (by rw [drop_get]; exact hρ)
      rw [hl, drop_get, e2] at e
      injection e with e
      injection e with e
      injection e with e
      subst e
      subst ek
      split at h
      · rename_i k et
        cases h
        have ev := key_is et i2
        subst ev
        exact ⟨_, DGet.k hk, look_val k iL⟩
      · cases h
    · cases h
  · cases h
/-- x[k] -/
def oIx (i : Nat) (fk : Rn → Out D) (ρ : Rn) : Out D := if isOwn ρ[i]? then (fk ρ).bind fun y => (dOwn ρ[i]? y).nx.bind gotD else .stuck
theorem ed_oIx (i : Nat) {n : Nat} (J : JX X W n) {fk : Rn → Out D} (hk : ED ca X W key fk) (hN : X.N[i]? = some x := by rfl) (hvis : Vis X.env.scope x := by first | exact Or.inl rfl | exact Or.inr (Or.inl rfl) | exact Or.inr (Or.inr rfl))
    (hd : (x == ("__debug__" : Str)) = false := by decide) (hcd : (x == ("__classdict__" : Str)) = false := by decide) (hs : NoSl key := by exact fun _ _ => rfl) : ED ca X W (.Subscript (.Name x p1) key pos) (oIx i fk) := by
  obtain ⟨tk, pk, hk⟩ := hk
  refine ⟨_, pe_dget (by have := J.room.units; omega) (pe_var hN hvis hd hcd) pk hs, fun H0 Fa ts us ρ σ H Q hl E o => ?_⟩
  unfold oIx at o
  split at o
  · rename_i ho
    obtain ⟨F, E⟩ := E
    obtain ⟨l, e2, _⟩ := own_ref hl E ho
    refine ⟨.ref l, e2, ?_⟩
    refine hk H0 Fa ts us ρ σ H _ hl ⟨F, E⟩ (OutE.bind o |>.imp (fun y o2 vy H2 F2 E2 i2 => ?_) fun n q => q)
    cases eg : dOwn ρ[i]? y with
    | stuck => rw [eg] at o2; exact o2.elim
    | exc n => rw [eg] at o2; exact o2.elim
    | ok od =>
      rw [eg] at o2
      obtain ⟨ov, g, r⟩ := own_get hl E2 e2 i2 eg
      cases od with
      | none => exact o2.elim
      | some d =>
        obtain ⟨v, rfl, iv⟩ := r
        exact ⟨l, v, rfl, g, o2 v H2 F2 E2 iv⟩
  · exact o.elim
/-- x.get(k, d) -/
def oGet (i : Nat) (fk fd : Rn → Out D) (ρ : Rn) : Out D := if isOwn ρ[i]? then (fk ρ).bind fun y => (fd ρ).bind fun z => (dOwn ρ[i]? y).nx.map fun o => o.getD z else .stuck
theorem ed_oGet (i : Nat) {n : Nat} (J : JX X W n) {fk fd : Rn → Out D} (hk : ED ca X W key fk) (hf : ED ca X W dflt fd) (m : M2 X (.Name x p1) "get" apos key dflt pos) (hN : X.N[i]? = some x := by rfl) (hvis : Vis X.env.scope x := by first | exact Or.inl rfl | exact Or.inr (Or.inl rfl) | exact Or.inr (Or.inr rfl))
    (hd : (x == ("__debug__" : Str)) = false := by decide) (hcd : (x == ("__classdict__" : Str)) = false := by decide) : ED ca X W (.Call (.Attribute (.Name x p1) "get" apos) [key, dflt] [] pos) (oGet i fk fd) := by
  obtain ⟨tk, pk, hk⟩ := hk
  obtain ⟨td, pd, hf⟩ := hf
  refine ⟨_, pe_dget2 (by have := J.room.units; omega) (pe_var hN hvis hd hcd) pk pd m, fun H0 Fa ts us ρ σ H Q hl E o => ?_⟩
  unfold oGet at o
  split at o
  · rename_i ho
    obtain ⟨F, E⟩ := E
    obtain ⟨l, e2, hD⟩ := own_ref hl E ho
    refine ⟨.ref l, e2, l, rfl, hD, ?_⟩
    refine hk H0 Fa ts us ρ σ H _ hl ⟨F, E⟩ (OutE.bind o |>.imp (fun y o2 vy H2 F2 E2 i2 => ?_) fun n q => q)
    refine hf H0 Fa (some (.dat y) :: ts) (some vy :: us) ρ σ H2 _ (by simp [hl]) ⟨F2, E2.top i2⟩ (OutE.bind o2 |>.imp (fun z o3 vz H3 F3 E3 i3 => ?_) fun n q a' H3 c E3 => q a' H3 c E3.pop)
    obtain ⟨E4, i4⟩ := E3.popD
    cases eg : dOwn ρ[i]? y with
    | stuck => rw [eg] at o3; exact o3.elim
    | exc n => rw [eg] at o3; exact o3.elim
    | ok od =>
      rw [eg] at o3
      obtain ⟨ov, g, r⟩ := own_get hl E4 e2 i4 eg
      refine ⟨ov, g, ?_⟩
      cases od with
      | none =>
        have r : ov = none := r
        subst r
        exact o3 vz H3 F3 E4 i3
      | some d =>
        obtain ⟨v, rfl, iv⟩ := r
        exact o3 v H3 F3 E4 iv
  · exact o.elim
/-- k in x -/
def oIn (neg : Bool) (i : Nat) (fk : Rn → Out D) (ρ : Rn) : Out D := if isOwn ρ[i]? then (fk ρ).bind fun y => (dOwn ρ[i]? y).nx.map fun o => .bl (if neg then !o.isSome else o.isSome) else .stuck
theorem opt_some {K : PySem.W.Frag} {H : Hp} {od : Option D} {ov : Option V} (r : OptIs ca K H od ov) : ov.isSome = od.isSome := by
  cases od with
  | none => have r : ov = none := r; subst r; rfl
  | some d => obtain ⟨v, rfl, iv⟩ := r; rfl
theorem ev_oIn (i : Nat) {fk : Rn → Out D} {tk : TE} (hk : EvD ca X.K W tk fk) (hN : X.N[i]? = some x) : EvD ca X.K W (tDIn tk (tVar i)) (oIn false i fk) := by
  intro H0 Fa ts us ρ σ H Q hl E o
  unfold oIn at o
  split at o
  · rename_i ho
    refine hk H0 Fa ts us ρ σ H _ hl E (OutE.bind o |>.imp (fun y o2 vy H2 F2 E2 i2 => ?_) fun n q => q)
    obtain ⟨l, e2, hD⟩ := own_ref hl E2 ho
    refine ⟨.ref l, e2, ?_⟩
    cases eg : dOwn ρ[i]? y with
    | stuck => rw [eg] at o2; exact o2.elim
    | exc n => rw [eg] at o2; exact o2.elim
    | ok od =>
      rw [eg] at o2
      obtain ⟨ov, g, r⟩ := own_get hl E2 e2 i2 eg
      refine ⟨l, ov, rfl, g, ?_⟩
      rw [opt_some r]
      exact o2 _ H2 F2 E2 (is_bl.mpr rfl)
  · exact o.elim
theorem ev_oNotIn (i : Nat) {fk : Rn → Out D} {tk : TE} (hk : EvD ca X.K W tk fk) (hN : X.N[i]? = some x) : EvD ca X.K W (tDNotIn tk (tVar i)) (oIn true i fk) := by
  intro H0 Fa ts us ρ σ H Q hl E o
  unfold oIn at o
  split at o
  · rename_i ho
    refine hk H0 Fa ts us ρ σ H _ hl E (OutE.bind o |>.imp (fun y o2 vy H2 F2 E2 i2 => ?_) fun n q => q)
    obtain ⟨l, e2, hD⟩ := own_ref hl E2 ho
    refine ⟨.ref l, e2, ?_⟩
    cases eg : dOwn ρ[i]? y with
    | stuck => rw [eg] at o2; exact o2.elim
    | exc n => rw [eg] at o2; exact o2.elim
    | ok od =>
      rw [eg] at o2
      obtain ⟨ov, g, r⟩ := own_get hl E2 e2 i2 eg
      refine ⟨l, ov, rfl, g, ?_⟩
      rw [opt_some r]
      exact o2 _ H2 F2 E2 (is_bl.mpr rfl)
  · exact o.elim
theorem ed_oIn (i : Nat) {n : Nat} (J : JX X W n) {fk : Rn → Out D} (hk : ED ca X W key fk) (hN : X.N[i]? = some x := by rfl) (hvis : Vis X.env.scope x := by first | exact Or.inl rfl | exact Or.inr (Or.inl rfl) | exact Or.inr (Or.inr rfl))
    (hd : (x == ("__debug__" : Str)) = false := by decide) (hcd : (x == ("__classdict__" : Str)) = false := by decide) : ED ca X W (.Compare key [.In] [.Name x p1] pos) (oIn false i fk) := by
  obtain ⟨tk, pk, hk⟩ := hk
  exact ⟨_, pe_cmp (pc_din (by have := J.room.units; omega) pk (pe_var hN hvis hd hcd)) rfl, ev_oIn i hk hN⟩
theorem ed_oNotIn (i : Nat) {n : Nat} (J : JX X W n) {fk : Rn → Out D} (hk : ED ca X W key fk) (hN : X.N[i]? = some x := by rfl) (hvis : Vis X.env.scope x := by first | exact Or.inl rfl | exact Or.inr (Or.inl rfl) | exact Or.inr (Or.inr rfl))
    (hd : (x == ("__debug__" : Str)) = false := by decide) (hcd : (x == ("__classdict__" : Str)) = false := by decide) : ED ca X W (.Compare key [.NotIn] [.Name x p1] pos) (oIn true i fk) := by
  obtain ⟨tk, pk, hk⟩ := hk
  exact ⟨_, pe_cmp (pc_dnotin (by have := J.room.units; omega) pk (pe_var hN hvis hd hcd)) rfl, ev_oNotIn i hk hN⟩
theorem ev_tB {te : TE} {f : Rn → Out D} (h : EvD ca X.K W te f) : EvB ca X.K W (tB te) (isB f) := by
  intro H0 Fa ts us ρ σ H Q hl E o
  refine h H0 Fa ts us ρ σ H _ hl E (OutE.bind o |>.imp (fun x o v H2 F E2 i => ?_) fun n q => q)
  cases x with
  | bl b => exact ⟨b, is_bl.mp i, o H2 ⟨F, E2⟩⟩
  | _ => exact o.elim
theorem eb_oIn (i : Nat) {n : Nat} (J : JX X W n) {fk : Rn → Out D} (hk : ED ca X W key fk) (hN : X.N[i]? = some x := by rfl) (hvis : Vis X.env.scope x := by first | exact Or.inl rfl | exact Or.inr (Or.inl rfl) | exact Or.inr (Or.inr rfl))
    (hd : (x == ("__debug__" : Str)) = false := by decide) (hcd : (x == ("__classdict__" : Str)) = false := by decide) : EB ca X W (.Compare key [.In] [.Name x p1] pos) (isB (oIn false i fk)) := by
  obtain ⟨tk, pk, hk⟩ := hk
  exact ⟨_, pt_cmp (pc_din (by have := J.room.units; omega) pk (pe_var hN hvis hd hcd)) rfl, ev_tB (ev_oIn i hk hN)⟩
theorem eb_oNotIn (i : Nat) {n : Nat} (J : JX X W n) {fk : Rn → Out D} (hk : ED ca X W key fk) (hN : X.N[i]? = some x := by rfl) (hvis : Vis X.env.scope x := by first | exact Or.inl rfl | exact Or.inr (Or.inl rfl) | exact Or.inr (Or.inr rfl))
    (hd : (x == ("__debug__" : Str)) = false := by decide) (hcd : (x == ("__classdict__" : Str)) = false := by decide) : EB ca X W (.Compare key [.NotIn] [.Name x p1] pos) (isB (oIn true i fk)) := by
  obtain ⟨tk, pk, hk⟩ := hk
  exact ⟨_, pt_cmp (pc_dnotin (by have := J.room.units; omega) pk (pe_var hN hvis hd hcd)) rfl, ev_tB (ev_oNotIn i hk hN)⟩
end
end DA
set_option maxHeartbeats 4000000
/-! DI: x.pop(k) of a dict with tuple keys, the key there -/
namespace DA
open PySem PySem.Spec PyProof.Rows L2
section
variable {ca : Str → Option Addr} {X : Cx} {W : WX} {e o key : Expr} {pos p1 pos' apos cpos : Pos} {x : Str} {td ty : TE}
theorem d_popT {A : Around} {E : Value → Shared → Prop} {pins : List (Addr × Obj)} {σ : L2.St} {H : Hp} {s : Shared} {a b : Addr} {kvs : List (List Key × V)} {k : List Key} {v : V} {Q : Value → Shared → Prop} (hu : A.units + 1 < cLine) (I : Inv X pins σ H s)
    (ha : H a = some (.dT kvs)) (hb : H b = some (.tup (k.map kV))) (l : valV kvs k = some v) (h : ∀ w' s', Inv X pins σ (upd H a (.dT (dropK kvs k))) s' → RelV v w' → Q w' s') : wpAny (model X.prog X.w) A (call (.builtin "dict.pop") [.ref a, .ref b]) Q E s := by
  obtain ⟨z, hd, xs, rel, dd⟩ := dt_of I.hok ha
  have hz : xs.length ≤ sizeLine := by rw [← Paired.length rel]; exact z
  obtain ⟨w', hw, rw'⟩ := RelO.some_of (v := v) (o := (atKey xs k).map (·.2)) (by rw [← l]; exact rel.val k)
  obtain ⟨p, hp, hp2⟩ := Option.map_eq_some_iff.mp hw
  refine call_pop_heap (hsz := hz) (.inl rfl) (PySem.F.args_dict_pop_2 _ _) (tupleKind_room_in1 hu) (key_of I.hok hb) hd dd hp fun h' dd' hs => ?_
  rw [hp2]
  refine h w' _ ?_ rw'
  obtain ⟨o, es, ep, hq, h2, h3, h4, _, h5⟩ := dd'
  exact d_write I (by rw [ha]; exact True.intro) hs ⟨o, hq⟩ ⟨Nat.le_trans (dropK_le kvs k) z, hd, _, (L2.DX.KT_drop k rel).keeps (fun c ys ec => (by rw [upd_ne (ne_of ec ha (fun z => nomatch z))]; exact ec)), o, es, ep, hq, h2, h3, h4, h5⟩
def tPopT1 (td ty : TE) : TE := fun σ H Q => td σ H fun x H1 => ∃ a, x = .ref a ∧ IsD H1 a ∧ ty σ H1 fun y H2 => ∃ (kvs : List (List Key × V)) (k : List Key) (b : Addr) (v : V), H2 a = some (.dT kvs) ∧ y = .ref b ∧ H2 b = some (.tup (k.map kV)) ∧ valV kvs k = some v ∧ Q v (upd H2 a (.dT (dropK kvs k)))
theorem pe_popT1 (hu : X.A.units + 1 < cLine) (ho : PE X o td) (he : PE X e ty) (m : M1 X o "pop" apos e cpos) : PE X (.Call (.Attribute o "pop" apos) [e] [] cpos) (tPopT1 td ty) := by
  refine ⟨fun pins s σ H Q I h => ?_⟩
  refine wpAny_Call_method m.base m.few m.line PySem.F.plainAttrs_dict PySem.F.slot_dict_pop PySem.F.type_dict_pop (thn (ho.run pins s σ H _ I h) fun u s1 ⟨x, H1, I1, rx, a, ex, d, q1⟩ => ?_)
  subst ex
  obtain rfl : u = Value.ref a := rx
  obtain ⟨t1, t2, _⟩ := isD_at I1 d
  refine ⟨t1, t2, ?_⟩
  rw [m.trees]
  refine Calls.callWith_builtin rfl (Calls.evalArgs_plain (Calls.spliced_cons (thn (he.run pins s1 σ H1 _ I1 q1) fun iv s2 ⟨y, H2, I2, ry, kvs, k, b, v, ea, ey, eb, l, q2⟩ => Calls.spliced_nil ?_)))
  subst ey
  obtain rfl : iv = Value.ref b := ry
  exact d_popT hu I2 ea eb l fun w' s3 I3 rw' => ⟨v, _, I3, rw', q2⟩
def dropDs {κ : Type} [DecidableEq κ] : List κ → List D → κ → List κ × List D
  | k0 :: ks, d :: ds, k => if k0 = k then dropDs ks ds k else (k0 :: (dropDs ks ds k).1, d :: (dropDs ks ds k).2)
  | _, _, _ => ([], [])
theorem dropK_both {κ : Type} [DecidableEq κ] {K : PySem.W.Frag} {H : Hp} (k : κ) : ∀ {kvs : List (κ × V)} {ds : List D}, IsL ca K H ds (kvs.map (·.2)) →
    (dropK kvs k).map (·.1) = (dropDs (kvs.map (·.1)) ds k).1 ∧ IsL ca K H (dropDs (kvs.map (·.1)) ds k).2 ((dropK kvs k).map (·.2))
  | [], ds, h => by
    cases ds with
    | nil => exact ⟨rfl, h⟩
    | cons d ds => exact absurd h.len (by simp)
  | (k0, v0) :: kvs, ds, h => by
    cases ds with
    | nil => exact absurd h.len (by simp)
    | cons d ds =>
      obtain ⟨v, vs, e, h1, h2⟩ := isL_cons.mp h
      injection e with e1 e2
      subst e1 e2
      obtain ⟨i1, i2⟩ := dropK_both k h2
      by_cases e : k0 = k
      · have z1 : dropK ((k0, v0) :: kvs) k = dropK kvs k := List.filter_cons_of_neg (by simp [e])
        rw [z1]
        simp only [List.map_cons, dropDs, if_pos e]
        exact ⟨i1, i2⟩
      · have z1 : dropK ((k0, v0) :: kvs) k = (k0, v0) :: dropK kvs k := List.filter_cons_of_pos (by simp [e])
        rw [z1]
        simp only [List.map_cons, dropDs, if_neg e]
        exact ⟨by rw [i1], IsL.cons h1 i2⟩
/-- x.pop(k), x a local name whose dict is its own, the key there -/
def sPop (i : Nat) (fk : Rn → Out D) (ρ : Rn) : SOut := match ρ[i]? with
  | some (some (.dic ks ms)) => match datsOf ms with
    | some ds => (fk ρ).bind fun y => match tkOf y with
      | some k => if (lookD ks ds k).isSome then .ok (.nx, ρ.set i (some (.dic (dropDs ks ds k).1 ((dropDs ks ds k).2.map .dat)))) else .stuck
      | none => .stuck
    | none => .stuck
  | _ => .stuck
theorem ss_popT (i : Nat) {k0 : Nat} {fk : Rn → Out D} (J : JX X W k0) (hk : ED ca X W key fk) (m : M1 X (.Name x p1) "pop" apos key cpos) (hN : X.N[i]? = some x := by rfl) (hvis : Vis X.env.scope x := by first | exact Or.inl rfl | exact Or.inr (Or.inl rfl) | exact Or.inr (Or.inr rfl))
    (hd : (x == ("__debug__" : Str)) = false := by decide) (hcd : (x == ("__classdict__" : Str)) = false := by decide)
    (hs : swapsWith (.Call (.Attribute (.Name x p1) "pop" apos) [key] [] cpos) none pos.line X.env = pure false := by rfl) : SS ca X W (.Expr (.Call (.Attribute (.Name x p1) "pop" apos) [key] [] cpos) pos) (sPop i fk) := by
  obtain ⟨tk, pk, hk⟩ := hk
  refine ⟨_, ps_expr (pe_popT1 (by have := J.room.units; omega) (pe_var hN hvis hd hcd) pk m) hs, fun H0 Fa ts us ρ σ H Dn hl E o => ?_⟩
  unfold sPop at o
  split at o
  · rename_i ks ms hρ
    cases em : datsOf ms with
    | none => simp only [em] at o; exact o.elim
    | some ds =>
      simp only [em] at o
      have hms := datsOf_eq em
      subst hms
      obtain ⟨F, E⟩ := E
      obtain ⟨l0, kvs0, e2, hk0, _, _, _⟩ := E.putT (i := ts.length + i) (by rw [drop_get]; exact hρ)
      rw [hl, drop_get] at e2
      refine ⟨.ref l0, e2, l0, rfl, .inr ⟨kvs0, .inl hk0⟩, ?_⟩
      refine hk H0 Fa ts us ρ σ H _ hl ⟨F, E⟩ ?_
      cases ek : fk ρ with
      | stuck => rw [ek] at o; exact o.elim
      | exc n => rw [ek] at o; exact fun a H2 c E2 => o a σ H2 c E2.frm
      | ok y =>
        rw [ek] at o
        intro vy H2 F2 E2 i2
        obtain ⟨l, kvs, e4, hl4, ek4, iL, put⟩ := E2.putT (i := ts.length + i) (by rw [drop_get]; exact hρ)
        rw [hl, drop_get, e2] at e4
        injection e4 with e4
        injection e4 with e4
        injection e4 with e4
        subst e4
        subst ek4
        simp only [bind_ok] at o
        cases et : tkOf y with
        | none => simp only [et] at o; exact o.elim
        | some k =>
          simp only [et] at o
          have lv := look_val k iL
          cases eo : lookD (kvs.map (·.1)) ds k with
          | none => simp only [eo, Option.isSome_none, Bool.false_eq_true, if_false] at o; exact o.elim
          | some d =>
            simp only [eo, Option.isSome_some, if_true] at o
            rw [eo] at lv
            obtain ⟨v, hv, iv⟩ := lv
            obtain ⟨q1, q2⟩ := dropK_both k iL
            have q := put (dropK kvs k) (dropDs (kvs.map (·.1)) ds k).2 q2
            rw [q1, drop_set, hl, drop_set, set_self e2] at q
            cases y with
            | tup ys =>
              obtain ⟨b, vs, rfl, hb, rb⟩ := is_tup.mp (E2.whole i2)
              have ev := keys_is et rb
              subst ev
              exact ⟨kvs, k, b, v, hl4, rfl, hb, hv, o σ _ q⟩
            | _ => cases et
  · exact o.elim
end
end DA
set_option maxHeartbeats 4000000
/-! DJ: owned slots seen as data for the time of one expression; slots turned to data -/
namespace DA
open PySem PySem.Spec PyProof.Rows L2
mutual
def immD : D → Bool
  | .non => true
  | .bl _ => true
  | .int _ => true
  | .str _ => true
  | .tup xs => immL xs
  | _ => false
def immL : List D → Bool
  | [] => true
  | d :: ds => immD d && immL ds
end
mutual
def immM : M → Bool
  | .dat d => immD d
  | .lst ms => immMs ms
  | .dic _ ms => immMs ms
  | .dik _ ms => immMs ms
  | .tup ms => immMs ms
  | .obj _ _ ms => immMs ms
  | .at _ m => immM m
def immMs : List M → Bool
  | [] => true
  | m :: ms => immM m && immMs ms
end
section
variable {ca : Str → Option Addr} {K : PySem.W.Frag} {G G' : List Addr} {H : Hp}
mutual
theorem imm_cut (mu : ∀ a ∈ G', Mu (H a)) : ∀ {d : D} {v : V}, immD d = true → Is ca K (cut H G) d v → Is ca K (cut H G') d v
  | .non, _, _, i => is_non.mpr (is_non.mp i)
  | .bl b, _, _, i => is_bl.mpr (is_bl.mp i)
  | .int n, _, _, i => is_int.mpr (is_int.mp i)
  | .str x, _, _, i => is_str.mpr (is_str.mp i)
  | .tup xs, _, h, i => by
    obtain ⟨a, vs, e, ha, r⟩ := is_tup.mp i
    have ha := (cut_some ha).2
    exact is_tup.mpr ⟨a, vs, e, (cut_out fun z => (mu a z).noTup ha).trans ha, immL_cut mu (by rw [immD] at h; exact h) r⟩
  | .lst _, _, h, _ => by simp [immD] at h
  | .dic _ _, _, h, _ => by simp [immD] at h
  | .dik _ _, _, h, _ => by simp [immD] at h
  | .obj _ _ _, _, h, _ => by simp [immD] at h
  | .loc _, _, h, _ => by simp [immD] at h
theorem immL_cut (mu : ∀ a ∈ G', Mu (H a)) : ∀ {ds : List D} {vs : List V}, immL ds = true → IsL ca K (cut H G) ds vs → IsL ca K (cut H G') ds vs
  | [], _, _, i => isL_nil.mpr (isL_nil.mp i)
  | d :: ds, _, h, i => by
    obtain ⟨v, vs', rfl, i1, r⟩ := isL_cons.mp i
    rw [immL, Bool.and_eq_true] at h
    exact IsL.cons (imm_cut mu h.1 i1) (immL_cut mu h.2 r)
end
mutual
theorem immM_cut (mu : ∀ a ∈ G', Mu (H a)) : ∀ {m : M} {v : V} {F : List Addr}, immM m = true → Ow ca K G H m v F → Ow ca K G' H m v F
  | .dat d, _, _, h, o => by
    obtain ⟨e, i⟩ := ow_dat.mp o
    exact ow_dat.mpr ⟨e, imm_cut mu (by rw [immM] at h; exact h) i⟩
  | .lst ms, _, _, h, o => by
    obtain ⟨a, vs, F', e, hh, r, ef⟩ := ow_lst.mp o
    exact ow_lst.mpr ⟨a, vs, F', e, hh, immMs_cut mu (by rw [immM] at h; exact h) r, ef⟩
  | .dic ks ms, _, _, h, o => by
    obtain ⟨a, vs, F', e, hh, ek, r, ef⟩ := ow_dic.mp o
    exact ow_dic.mpr ⟨a, vs, F', e, hh, ek, immMs_cut mu (by rw [immM] at h; exact h) r, ef⟩
  | .dik ks ms, _, _, h, o => by
    obtain ⟨a, vs, F', e, hh, ek, r, ef⟩ := ow_dik.mp o
    exact ow_dik.mpr ⟨a, vs, F', e, hh, ek, immMs_cut mu (by rw [immM] at h; exact h) r, ef⟩
  | .tup ms, _, _, h, o => by
    obtain ⟨a, vs, e, hh, r⟩ := ow_tup.mp o
    exact ow_tup.mpr ⟨a, vs, e, hh, immMs_cut mu (by rw [immM] at h; exact h) r⟩
  | .obj C fs ms, _, _, h, o => by
    obtain ⟨a, Ca, dx, vs, F', e, c, hh, ek, r, ef⟩ := ow_obj.mp o
    exact ow_obj.mpr ⟨a, Ca, dx, vs, F', e, c, hh, ek, immMs_cut mu (by rw [immM] at h; exact h) r, ef⟩
  | .at a m, _, _, h, o => by
    obtain ⟨e, o⟩ := ow_at.mp o
    exact ow_at.mpr ⟨e, immM_cut mu (by rw [immM] at h; exact h) o⟩
theorem immMs_cut (mu : ∀ a ∈ G', Mu (H a)) : ∀ {ms : List M} {vs : List V} {F : List Addr}, immMs ms = true → OwL ca K G H ms vs F → OwL ca K G' H ms vs F
  | [], _, _, _, o => owL_nil.mpr (owL_nil.mp o)
  | m :: ms, _, _, h, o => by
    obtain ⟨v, vs', F1, F2, e, o1, r, ef⟩ := owL_cons.mp o
    rw [immMs, Bool.and_eq_true] at h
    exact owL_cons.mpr ⟨v, vs', F1, F2, e, immM_cut mu h.1 o1, immMs_cut mu h.2 r, ef⟩
end
end
/-- all slots as data -/
def erR (ρ : Rn) : Rn := ρ.map (Option.map fun m => .dat m.er)
section
variable {ca : Str → Option Addr} {K : PySem.W.Frag} {H0 H H2 : Hp} {Fa F : List Addr} {ρ ts : Rn} {σ us : L2.St}
theorem OwS.erAll {G : List Addr} : ∀ {ρ : Rn} {σ : L2.St} {F : List Addr}, (∀ a xs, H a = some (.tup xs) → a ∉ ([] : List Addr)) → OwS ca K G H ρ σ F → OwS ca K [] H (erR ρ) σ []
  | [], _, _, _, ⟨e, f⟩ => ⟨e, rfl⟩
  | none :: ρ, _, _, t, ⟨w, σ', F1, F2, e, h, r, ef⟩ => by
    subst e
    exact OwS.cons (F1 := []) (F2 := []) (o := none) rfl (OwS.erAll t r)
  | some m :: ρ, _, _, t, ⟨w, σ', F1, F2, e, ⟨v, ev, h⟩, r, ef⟩ => by
    subst e
    exact OwS.cons (F1 := []) (F2 := []) (o := some (.dat m.er)) ⟨v, ev, ow_dat.mpr ⟨rfl, h.er (fun a n z => by cases z) (fun a _ z => by cases z) t⟩⟩ (OwS.erAll t r)
theorem EnvF.seen (E : EnvF ca K H0 Fa ρ σ H F) : EnvF ca K H [] (erR ρ) σ H [] :=
  ⟨Le.refl H, (fun _ _ => rfl), (fun _ z => by cases z), List.nodup_nil, (fun _ z => by cases z), by
    have := E.own.erAll (H := H) fun _ _ _ z => by cases z
    exact this⟩
theorem EnvF.back (E : EnvF ca K H0 Fa ρ σ H F) (l : Le H H2) : EnvF ca K H0 Fa ρ σ H2 F := E.same l.same
theorem erR_app (ts ρ : Rn) : erR (ts ++ ρ) = erR ts ++ erR ρ := by unfold erR; rw [List.map_append]
theorem erR_len (ρ : Rn) : (erR ρ).length = ρ.length := by unfold erR; rw [List.length_map]
/-- the data slots hold no cells -/
theorem OwS.none_of : ∀ {ρ : Rn} {σ : L2.St} {F G : List Addr}, OwS ca K G H (erR ρ) σ F → F = []
  | [], _, _, _, ⟨e, f⟩ => f
  | none :: ρ, _, _, _, ⟨w, σ', F1, F2, e, h, r, ef⟩ => by
    have h : F1 = [] := h
    rw [ef, h, OwS.none_of r]
    rfl
  | some m :: ρ, _, _, _, ⟨w, σ', F1, F2, e, ⟨v, ev, h⟩, r, ef⟩ => by
    rw [ef, (ow_dat.mp h).1, OwS.none_of r]
    rfl
end
section
variable {ca : Str → Option Addr} {X : Cx} {W : WX} {e : Expr}
def borD (f : Rn → Out D) (ρ : Rn) : Out D := (f (erR ρ)).bind fun d => if immD d then .ok d else .stuck
def borM (f : Rn → Out M) (ρ : Rn) : Out M := (f (erR ρ)).bind fun m => if immM m then .ok m else .stuck
def borB (f : Rn → Out Bool) (ρ : Rn) : Out Bool := f (erR ρ)
theorem ed_bor {f : Rn → Out D} (h : ED ca X W e f) : ED ca X W e (borD f) := by
  obtain ⟨te, p, h⟩ := h
  refine ⟨te, p, fun H0 Fa ts us ρ σ H Q hl ⟨F, E⟩ o => ?_⟩
  have ES := E.seen
  rw [erR_app] at ES
  refine h H [] (erR ts) us (erR ρ) σ H Q (by rw [erR_len]; exact hl) ⟨[], ES⟩ (OutE.bind o |>.imp (fun d o v H2 F2 E2 i => ?_) fun n q a H2 c E2 => q a H2 c ?_)
  · cases z : immD d with
    | false => rw [z] at o; exact o.elim
    | true =>
      rw [z] at o
      have EB := E.back E2.le
      refine o v H2 F EB (imm_cut (fun a ha => EB.muG a ha) z (G := [] ++ F2) ?_)
      exact i
  · obtain ⟨F2, E2⟩ := E2
    exact ⟨F, E.back E2.le⟩
theorem em_bor {f : Rn → Out M} (h : EM ca X W e f) : EM ca X W e (borM f) := by
  obtain ⟨te, p, h⟩ := h
  refine ⟨te, p, fun H0 Fa ts us ρ σ H Q hl ⟨F, E⟩ o => ?_⟩
  have ES := E.seen
  rw [erR_app] at ES
  refine h H [] (erR ts) us (erR ρ) σ H Q (by rw [erR_len]; exact hl) ⟨[], ES⟩ (OutE.bind o |>.imp (fun m o v H2 E2 => ?_) fun n q a H2 c E2 => q a H2 c ?_)
  · cases z : immM m with
    | false => rw [z] at o; exact o.elim
    | true =>
      rw [z] at o
      obtain ⟨F2, E2⟩ := E2
      obtain ⟨w', σ', F1, F3, e1, ⟨v', ev, ho⟩, r, e4⟩ := E2.own
      injection e1 with e5 e6
      subst e5 e6
      cases ev
      rw [← erR_app] at r
      have e3 := OwS.none_of r
      subst e3
      rw [List.append_nil] at e4
      subst e4
      have nd2 := E2.nd
      have fr2 := E2.fresh
      refine o v H2 ⟨_, E.push (F' := F2) E2.le (fun a ha => ?_) nd2 fr2 ?_⟩
      · have n := (E.muG a ha).ne
        cases q : H a with
        | none => exact absurd q n
        | some u => exact E2.le.same a u q
      · refine immM_cut (fun a ha => ?_) z ho
        simp only [List.mem_append] at ha
        have EB := E.back E2.le
        rcases ha with ha | ha | ha
        · exact EB.muG a (List.mem_append_left _ ha)
        · exact ho.mu a ha
        · exact EB.muG a (List.mem_append_right _ ha)
  · obtain ⟨F2, E2⟩ := E2
    exact ⟨F, E.back E2.le⟩
theorem eb_bor {f : Rn → Out Bool} (h : EB ca X W e f) : EB ca X W e (borB f) := by
  obtain ⟨te, p, h⟩ := h
  refine ⟨te, p, fun H0 Fa ts us ρ σ H Q hl ⟨F, E⟩ o => ?_⟩
  have ES := E.seen
  rw [erR_app] at ES
  refine h H [] (erR ts) us (erR ρ) σ H Q (by rw [erR_len]; exact hl) ⟨[], ES⟩ (OutE.imp o (fun d o H2 E2 => o H2 ?_) fun n q a H2 c E2 => q a H2 c ?_)
  · obtain ⟨F2, E2⟩ := E2
    exact ⟨F, E.back E2.le⟩
  · obtain ⟨F2, E2⟩ := E2
    exact ⟨F, E.back E2.le⟩
end
/-! ### a slot turned to data -/
def frzR (i : Nat) (ρ : Rn) : Rn := match ρ[i]? with
  | some (some m) => ρ.set i (some (.dat m.er))
  | _ => ρ
section
variable {ca : Str → Option Addr} {K : PySem.W.Frag} {H0 H H2 : Hp} {Fa F : List Addr} {ρ ts : Rn} {σ us : L2.St}
theorem EnvF.frzAt (E : EnvF ca K H0 Fa ρ σ H F) (i : Nat) : Env ca K H0 Fa (frzR i ρ) σ H := by
  unfold frzR
  split
  · rename_i m hρ
    obtain ⟨w, A, Fi, B, eF, e2, ⟨v, ev, h⟩, back⟩ := E.own.split hρ
    subst eF ev
    have sub : ∀ a ∈ Fa ++ (A ++ ([] ++ B)), a ∈ Fa ++ (A ++ (Fi ++ B)) := fun a ha => by
      simp only [List.mem_append] at ha ⊢
      rcases ha with z | z | z | z
      · exact .inl z
      · exact .inr (.inl z)
      · cases z
      · exact .inr (.inr (.inr z))
    have nd := E.nd
    have q : Is ca K (cut H (Fa ++ (A ++ ([] ++ B)))) m.er v := h.er (fun a n z => n (sub a z)) (fun a ha z => by
      simp only [List.mem_append] at z
      rcases z with z | z | z | z
      · exact E.apart a (by simp [ha]) z
      · simp only [List.nodup_append, List.mem_append] at nd
        exact nd.2.2 a z a (.inl ha) rfl
      · cases z
      · simp only [List.nodup_append, List.mem_append] at nd
        exact nd.2.1.2.2 a ha a z rfl) fun a xs ha z => (E.muG a (sub a z)).noTup ha
    have ls := le_shrink (H := H) sub fun a ha => (E.muG a (sub a ha)).ne
    have own := back _ H (some (.dat m.er)) (some v) [] ls (fun _ _ => rfl) (fun _ _ z => z) ⟨v, rfl, ow_dat.mpr ⟨rfl, q⟩⟩
    rw [set_self e2] at own
    refine ⟨A ++ ([] ++ B), E.re ?_ (fun a ha => ?_) own⟩
    · simp only [List.nodup_append, List.mem_append] at nd ⊢
      refine ⟨nd.1, ⟨List.nodup_nil, nd.2.1.2.1, fun a z => by cases z⟩, fun a ha b hb => ?_⟩
      rcases hb with hb | hb
      · cases hb
      · exact nd.2.2 a ha b (.inr hb)
    · simp only [List.mem_append] at ha ⊢
      rcases ha with z | z | z
      · simp [z]
      · cases z
      · simp [z]
  · exact ⟨F, E⟩
theorem frzR_app (hl : ts.length = us.length) (i : Nat) : frzR (ts.length + i) (ts ++ ρ) = ts ++ frzR i ρ := by
  unfold frzR
  rw [drop_get]
  cases ρ[i]? with
  | none => rfl
  | some o =>
    cases o with
    | none => rfl
    | some m => exact drop_set
end
section
variable {ca : Str → Option Addr} {X : Cx} {W : WX} {st : Stmt}
theorem ss_frz (i : Nat) {s : Rn → SOut} (h : SS ca X W st s) : SS ca X W st (fun ρ => s (frzR i ρ)) := by
  obtain ⟨t, p, h⟩ := h
  refine ⟨t, p, fun H0 Fa ts us ρ σ H D hl ⟨F, E⟩ o => ?_⟩
  have q := E.frzAt (ts.length + i)
  rw [frzR_app hl] at q
  exact h H0 Fa ts us (frzR i ρ) σ H D hl q o
end
end DA
set_option maxHeartbeats 4000000
/-! DK: walks over a dict with tuple keys: keys, items; the dict is locked meanwhile -/
namespace DA
open PySem PySem.Calls PySem.Spec PyProof.Rows PyProof.V L2
section
variable {X : Cx} {pins : List (Addr × Obj)} {σ : L2.St} {H : Hp} {s : Shared} {d : Addr} {o : Obj}
theorem Inv.frzT2 {kvs : List (List Key × V)} (I : Inv X pins σ H s) (h : H d = some (.frz o (.dT kvs))) :
    (d == sysModules) = false ∧ s.heap.get? d = some o ∧ o.ExactDict ∧ ∃ (es : Array DictEntry) (ep : Nat), o.data = .dict es ep ∧ es.size = kvs.length ∧
      ∀ (i : Nat) (k : List Key) (v : V), kvs[i]? = some (k, v) → ∃ (en : DictEntry) (q : Addr), es[i]? = some en ∧ en.key = .ref q ∧ H q = some (.tup (k.map kV)) ∧ RelV v en.val := by
  obtain ⟨hd, z, hs, xs, pr, o', es, ep, ho, hx, hdt, he, _⟩ := I.hok d _ h
  rw [hd] at ho
  cases ho
  refine ⟨hs, hd, hx, es, ep, hdt, ?_, fun i k v e => ?_⟩
  · have l1 : es.size = xs.length := size_of_entries he
    have l2 : kvs.length = xs.length := Paired.length pr
    omega
  · obtain ⟨b, hb, e1, e2, e3⟩ := paired_get pr e
    have q := entry_at he i
    rw [hb] at q
    exact ⟨_, b.2.1, q, rfl, e2, e3⟩
end
/-- the pairs of a locked dict with tuple keys, each a new tuple -/
def Itit (d : Addr) (o : Obj) (kvs : List (List Key × V)) : It :=
  ⟨fun i H => H d = some (.frz o (.dT kvs)) ∧ i < kvs.length, fun i H x H' => ∃ T k v q, kvs[i]? = some (k, v) ∧ x = .ref T ∧ H T = none ∧ H q = some (.tup (k.map kV)) ∧ H' = upd H T (.tup [.ref q, v]), fun i H => H d = some (.frz o (.dT kvs)) ∧ kvs.length ≤ i⟩
section
variable {P : Program} {w : World} {K : PySem.W.Frag} {tg : Expr} {d : Addr} {o : Obj} {es : Array DictEntry} {ep : Nat}
theorem turn_itemsT {kvs : List (List Key × V)} {elts : List Expr} {kk : Nat} {tpos : Pos} (it : Addr) (hod : o.data = .dict es ep) :
    Turn P w K (.Tuple elts kk tpos) (Itit d o kvs) [it] it (fun i h => ∃ ok ov, IsItemIter h it d i es.size ep ok ov) where
  mem := by simp
  obj := fun i h st b hb => by
    have e : b = it := by simpa using hb
    subst e
    obtain ⟨ok, ov, e⟩ := st
    exact ⟨_, e, fun v z => nomatch z⟩
  keep := fun i h h' st k => let ⟨ok, ov, e⟩ := st; ⟨ok, ov, k it (by simp) _ e⟩
  item := by
    intro X hP hw hK hc i pins s σ H E I hf st hg
    subst hP hw hK
    obtain ⟨hd, hi⟩ := hg
    obtain ⟨hs, hgd, hx, es', ep', hdt, hsz, ent⟩ := Inv.frzT2 I hd
    obtain ⟨rfl, rfl⟩ := dict_ep hod hdt
    obtain ⟨⟨k, v⟩, hkv⟩ : ∃ p, kvs[i]? = some p := ⟨kvs[i], List.getElem?_eq_getElem hi⟩
    obtain ⟨en, q, hen, hkey, hq, rv⟩ := ent i k v hkv
    obtain ⟨ok, ov, he⟩ := st
    have hlt : it < s.heap.objs.size := Heap.lt_size he
    have hie : i < es'.size := by rw [hsz]; exact hi
    have een : es'[i] = en := by
      rw [Array.getElem?_eq_getElem hie] at hen
      exact Option.some.inj hen
    refine DT.nextI he ⟨o, hgd, hx, hdt⟩ hie fun h' ho hT hz hk => ?_
    rw [een] at ho hT
    refine ⟨_, rfl, wpAny_letOwnedTupleGo_items (s := { s with heap := h' }) ho fun h'' he' sb => ?_⟩
    have hT2 : h''.get? s.heap.objs.size = some { cls := .type "tuple", data := .seq #[en.key, en.val] } := (sb.2 _ (Nat.ne_of_gt hlt)).trans hT
    have new : ObjOk X.prog X.w (upd H s.heap.objs.size (.tup [.ref q, v])) h'' s.heap.objs.size (.tup [.ref q, v]) :=
      ⟨by show 2 ≤ sizeLine; decide, [en.key, en.val], .cons hkey (.cons rv .nil), ⟨_, hT2, rfl, _, rfl⟩⟩
    have I1 : Inv X pins σ (upd H s.heap.objs.size (.tup [.ref q, v])) { s with heap := h'' } :=
      I.turnedNew (t' := s.toks) (ch := [it]) (fun b ob hb e => (sb.2 b (by simpa using hb)).trans (hk b ob (by simpa using hb) e)) hf (Nat.le_refl _) new
    refine ⟨.ref s.heap.objs.size, _, I1, rfl, ⟨_, k, v, q, hkv, rfl, I.hok.fresh (Nat.le_refl _), hq, rfl⟩, ⟨en.key, en.val, he'⟩, fun b hb => ?_⟩
    have e : b = it := by simpa using hb
    rw [e, upd_ne (Nat.ne_of_lt hlt)]
    exact (hf it (by simp)).1
  done := by
    intro X hP hw hK hc i pins s σ H E I hf st hg
    subst hP hw hK
    obtain ⟨hd, hi⟩ := hg
    obtain ⟨f0, f1, f2, f3, f4, f5⟩ := hf it (by simp)
    obtain ⟨hs, hgd, hx, es', ep', hdt, hsz, ent⟩ := Inv.frzT2 I hd
    obtain ⟨rfl, rfl⟩ := dict_ep hod hdt
    obtain ⟨ok, ov, he⟩ := st
    exact DT.endI (I.ok.hd hc) he ⟨o, hgd, hx, hdt⟩ (by omega) fun h' eb => ⟨rfl, I.turned (t' := s.toks) (fun b ob hb e => eb b ob hb e) f0 f1 f3 f4 f5⟩
  self := fun A i s Q E st h => let ⟨_, _, e⟩ := st; PySem.W.kcp_self e h
end
/-- what is said of a dict ahead of a walk: it is locked already, or it is locked now -/
def LkT (H0 : Hp) (H : Hp) (d : Addr) (kvs : List (List Key × V)) (R : Obj → Hp → Prop) : Prop :=
  (H d = some (.dT kvs) ∧ ((∀ o' u', H0 d ≠ some (.frz o' u')) → ∀ od, R od (upd H d (.frz od (.dT kvs))))) ∨ ∃ o, H d = some (.frz o (.dT kvs)) ∧ R o H
section
variable {X : Cx} {tg e : Expr} {td : TE} {apos cpos : Pos}
def iKeysT (H0 : Hp) (td : TE) : TI := fun σ H R => td σ H fun x H1 => ∃ d kvs, x = .ref d ∧ LkT H0 H1 d kvs fun o H2 => R (Itkt d o kvs) H2
def iItemsT (H0 : Hp) (td : TE) : TI := fun σ H R => td σ H fun x H1 => ∃ d kvs, x = .ref d ∧ LkT H0 H1 d kvs fun o H2 => R (Itit d o kvs) H2
theorem lkT_run {pins : List (Addr × Obj)} {σ : L2.St} {H : Hp} {s : Shared} {d : Addr} {kvs : List (List Key × V)} {R : Obj → Hp → Prop} (I : Inv X pins σ H s) (h : LkT X.H_0 H d kvs R) : ∃ o H2, Inv X pins σ H2 s ∧ H2 d = some (.frz o (.dT kvs)) ∧ R o H2 := by
  rcases h with ⟨hd, r⟩ | ⟨o, hd, r⟩
  · have mu : Mut (some (.dT kvs)) := trivial
    obtain ⟨od, I1⟩ := I.lock hd mu
    exact ⟨od, _, I1, upd_same, r (I.nofrz hd mu) od⟩
  · exact ⟨o, H, I, hd, r⟩
theorem pi_keysT (he : PE X e td) : L2.PI X tg e (iKeysT X.H_0 td) := by
  refine ⟨fun pins s σ H R I h => ?_⟩
  refine thn (he.run pins s σ H _ I h) fun u s1 ⟨x, H1, I1, rx, d, kvs, ex, q⟩ => ?_
  subst ex
  obtain rfl : u = Value.ref d := rx
  obtain ⟨o, H2, I2, hd, q⟩ := lkT_run I1 q
  obtain ⟨hs, hgd, hx, es, ep, hdt, hsz, ent⟩ := I2.frzT hd
  refine iter_keys hs hgd hx hdt (pi_one (tk := s1.toks) I2 _ (turn_keysT _ hdt) ⟨_, Heap.get?_push_size _ rfl, rfl, ?_⟩ q)
  rw [hsz] <;> rfl
theorem pi_itemsT {elts : List Expr} {kk : Nat} {tpos : Pos} (he : PE X e td) (hbase : attributeBase e "items" X.env (eval e X.env) = eval e X.env := by rfl) (hline : (apos.endLine == cpos.line) = true := by rfl) :
    L2.PI X (.Tuple elts kk tpos) (.Call (.Attribute e "items" apos) [] [] cpos) (iItemsT X.H_0 td) := by
  refine ⟨fun pins s σ H R I h => ?_⟩
  refine wpAny_Call_method (T := "dict") (id := "dict.items") hbase rfl hline F.plainAttrs_dict F.slot_dict_items F.type_dict_items (thn (he.run pins s σ H _ I h) fun u s1 ⟨x, H1, I1, rx, d, kvs, ex, q⟩ => ?_)
  subst ex
  obtain rfl : u = Value.ref d := rx
  obtain ⟨o, H2, I2, hd, q⟩ := lkT_run I1 q
  obtain ⟨hs, hgd, hx, es, ep, hdt, hsz, ent⟩ := I2.frzT hd
  have raw : DT.Raw s1.heap d es ep := ⟨o, hgd, hx, hdt⟩
  refine ⟨raw.typeIs, fun a ea => by cases ea; exact ⟨o, hgd, hx.2.1⟩, ?_⟩
  have I3 : Inv X pins σ H2 { s1 with heap := s1.heap.push { cls := .type "dict_items", data := .fields #[.ref d] } } := I2.kept (t' := s1.toks) fun b ob q => Heap.get?_push_of_some _ q
  have fin : wpAny (model X.prog X.w) X.A (pyIter (.ref s1.heap.objs.size)) (PIE X pins σ (.Tuple elts kk tpos) R) X.xe { s1 with heap := s1.heap.push { cls := .type "dict_items", data := .fields #[.ref d] } } := by
    refine DT.iterI (d := d) (es := es) (ep := ep) ⟨_, Heap.get?_push_size _ rfl, rfl, rfl⟩ (raw.push _) (pi_one (tk := s1.toks) I3 _ (turn_itemsT _ hdt) ⟨.none, .none, ?_⟩ q)
    exact Heap.get?_push_size _ rfl
  show wpAny _ _ (callWith cpos (.builtin "dict.items") [.ref d] [] []) _ X.xe s1
  exact method_meetsIn F.slot_dict_items F.entry_dict_items rfl (PySem.evalArgs_none ⟨rfl, raw.typeIs, F.args_dict_items_1 _, _, DT.meetsItems (es := es) (ep := ep) hs, raw, fin⟩)
/-- what was locked is free again behind the statement -/
def Unl (H0 : Hp) (Q : Hp → Prop) (H : Hp) : Prop := Q H ∨ ∃ d od u, H d = some (.frz od u) ∧ (∀ o' u', H0 d ≠ some (.frz o' u')) ∧ Q (upd H d u)
theorem unl_run {pins : List (Addr × Obj)} {σ : L2.St} {H : Hp} {s : Shared} {Q : Hp → Prop} (I : Inv X pins σ H s) (h : Unl X.H_0 Q H) : ∃ H', Inv X pins σ H' s ∧ Q H' := by
  rcases h with h | ⟨d, od, u, hd, hn, q⟩
  · exact ⟨H, I, h⟩
  · exact ⟨_, I.unlock hd hn, q⟩
def tUnl (H0 : Hp) (t : TS) : TS := fun D σ H => t ⟨fun σ' => Unl H0 (D.nx σ'), fun v => Unl H0 (D.rt v), fun σ' => Unl H0 (D.bk σ'), fun σ' => Unl H0 (D.ct σ')⟩ σ H
theorem ps_unl {st : Stmt} {t : TS} (h : PS X st t) : PS X st (tUnl X.H_0 t) := by
  refine ⟨fun pins s σ H D I hw => ?_⟩
  refine thn (h.run pins s σ _ _ I hw) fun f s1 q => ?_
  cases f with
  | next => obtain ⟨σ', H', I2, q⟩ := q; obtain ⟨H3, I3, q⟩ := unl_run I2 q; exact ⟨σ', H3, I3, q⟩
  | brk => obtain ⟨σ', H', I2, q⟩ := q; obtain ⟨H3, I3, q⟩ := unl_run I2 q; exact ⟨σ', H3, I3, q⟩
  | cont => obtain ⟨σ', H', I2, q⟩ := q; obtain ⟨H3, I3, q⟩ := unl_run I2 q; exact ⟨σ', H3, I3, q⟩
  | ret v => obtain ⟨x, σ', H', I2, r, q⟩ := q; obtain ⟨H3, I3, q⟩ := unl_run I2 q; exact ⟨x, σ', H3, I3, r, q⟩
def tUnlE (H0 : Hp) (t : TE) : TE := fun σ H Q => t σ H fun v => Unl H0 (Q v)
theorem pe_unl {e : Expr} {t : TE} (h : PE X e t) : PE X e (tUnlE X.H_0 t) := by
  refine ⟨fun pins s σ H Q I hw => ?_⟩
  refine thn (h.run pins s σ _ _ I hw) fun v s1 ⟨x, H1, I2, r, q⟩ => ?_
  obtain ⟨H3, I3, q⟩ := unl_run I2 q
  exact ⟨x, H3, I3, r, q⟩
end
end DA
set_option maxHeartbeats 4000000
/-! DL: for over a dict with tuple keys -/
namespace DA
open PySem PySem.Spec PyProof.Rows L2
/-- what is told of data still holds (a thing may be locked or freed meanwhile) -/
structure Lw (H H' : Hp) : Prop where
  tup : ∀ a xs, H a = some (.tup xs) → H' a = some (.tup xs)
  ins : ∀ a C dx fs, H a = some (.ins C dx fs) → H' a = some (.ins C dx fs)
  lst : ∀ a xs, Rd H a (.lst xs) → Rd H' a (.lst xs)
  dT : ∀ a kvs, Rd H a (.dT kvs) → Rd H' a (.dT kvs)
  dK : ∀ a kvs, Rd H a (.dK kvs) → Rd H' a (.dK kvs)
section
variable {ca : Str → Option Addr} {K : PySem.W.Frag} {H H' : Hp}
mutual
theorem Is.lw (l : Lw H H') : ∀ {d : D} {v : V}, Is ca K H d v → Is ca K H' d v
  | .non, _, h => by unfold Is at *; exact h
  | .bl b, _, h => by unfold Is at *; exact h
  | .int i, _, h => by unfold Is at *; exact h
  | .str x, _, h => by unfold Is at *; exact h
  | .loc a, _, h => by unfold Is at *; exact h
  | .tup xs, _, h => by
    unfold Is at *
    obtain ⟨a, vs, e, h, r⟩ := h
    exact ⟨a, vs, e, l.tup _ _ h, IsL.lw l r⟩
  | .lst xs, _, h => by
    unfold Is at *
    obtain ⟨a, vs, e, h, r⟩ := h
    exact ⟨a, vs, e, h.imp (l.lst _ _) id, IsL.lw l r⟩
  | .dic ks ds, _, h => by
    unfold Is at *
    obtain ⟨a, kvs, e, h, k, r⟩ := h
    exact ⟨a, kvs, e, l.dT _ _ h, k, IsL.lw l r⟩
  | .dik ks ds, _, h => by
    unfold Is at *
    obtain ⟨a, kvs, e, h, k, r⟩ := h
    exact ⟨a, kvs, e, l.dK _ _ h, k, IsL.lw l r⟩
  | .obj C fs ds, _, h => by
    unfold Is at *
    obtain ⟨a, Ca, dx, kvs, e, c, h, k, r⟩ := h
    exact ⟨a, Ca, dx, kvs, e, c, l.ins _ _ _ _ h, k, IsL.lw l r⟩
theorem IsL.lw (l : Lw H H') : ∀ {ds : List D} {vs : List V}, IsL ca K H ds vs → IsL ca K H' ds vs
  | [], _, h => by unfold IsL at *; exact h
  | d :: ds, _, h => by
    unfold IsL at *
    obtain ⟨v, vs', e, h, r⟩ := h
    exact ⟨v, vs', e, Is.lw l h, IsL.lw l r⟩
end
variable {G G' : List Addr}
mutual
theorem Ow.mapI (l : Lw (cut H G) (cut H' G')) : ∀ {m : M} {v : V} {F : List Addr}, (∀ a ∈ F, H' a = H a) → (∀ a xs, H a = some (.tup xs) → H' a = some (.tup xs)) → Ow ca K G H m v F → Ow ca K G' H' m v F
  | .dat d, _, _, k, t, h => by
    obtain ⟨e, h⟩ := ow_dat.mp h
    exact ow_dat.mpr ⟨e, h.lw l⟩
  | .lst ms, _, _, k, t, h => by
    obtain ⟨a, vs, F', e, hh, r, rfl⟩ := ow_lst.mp h
    exact ow_lst.mpr ⟨a, vs, F', e, (k a (by simp)).trans hh, OwL.mapI l (fun b hb => k b (List.mem_cons_of_mem _ hb)) t r, rfl⟩
  | .dic ks ms, _, _, k, t, h => by
    obtain ⟨a, vs, F', e, hh, ek, r, rfl⟩ := ow_dic.mp h
    exact ow_dic.mpr ⟨a, vs, F', e, (k a (by simp)).trans hh, ek, OwL.mapI l (fun b hb => k b (List.mem_cons_of_mem _ hb)) t r, rfl⟩
  | .dik ks ms, _, _, k, t, h => by
    obtain ⟨a, vs, F', e, hh, ek, r, rfl⟩ := ow_dik.mp h
    exact ow_dik.mpr ⟨a, vs, F', e, (k a (by simp)).trans hh, ek, OwL.mapI l (fun b hb => k b (List.mem_cons_of_mem _ hb)) t r, rfl⟩
  | .tup ms, _, _, k, t, h => by
    obtain ⟨a, vs, e, hh, r⟩ := ow_tup.mp h
    exact ow_tup.mpr ⟨a, vs, e, t _ _ hh, OwL.mapI l k t r⟩
  | .obj C fs ms, _, _, k, t, h => by
    obtain ⟨a, Ca, dx, vs, F', e, c, hh, ek, r, rfl⟩ := ow_obj.mp h
    exact ow_obj.mpr ⟨a, Ca, dx, vs, F', e, c, (k a (by simp)).trans hh, ek, OwL.mapI l (fun b hb => k b (List.mem_cons_of_mem _ hb)) t r, rfl⟩
  | .at a m, _, _, k, t, h => by
    obtain ⟨e, h⟩ := ow_at.mp h
    exact ow_at.mpr ⟨e, Ow.mapI l k t h⟩
theorem OwL.mapI (l : Lw (cut H G) (cut H' G')) : ∀ {ms : List M} {vs : List V} {F : List Addr}, (∀ a ∈ F, H' a = H a) → (∀ a xs, H a = some (.tup xs) → H' a = some (.tup xs)) → OwL ca K G H ms vs F → OwL ca K G' H' ms vs F
  | [], _, _, k, t, h => by
    obtain ⟨e, f⟩ := owL_nil.mp h
    exact owL_nil.mpr ⟨e, f⟩
  | m :: ms, _, _, k, t, h => by
    obtain ⟨v, vs', F1, F2, e, h1, r, rfl⟩ := owL_cons.mp h
    exact owL_cons.mpr ⟨v, vs', F1, F2, e, Ow.mapI l (fun b hb => k b (List.mem_append_left _ hb)) t h1, OwL.mapI l (fun b hb => k b (List.mem_append_right _ hb)) t r, rfl⟩
end
theorem OwS.mapI (l : Lw (cut H G) (cut H' G')) : ∀ {ρ : Rn} {σ : L2.St} {F : List Addr}, (∀ a ∈ F, H' a = H a) → (∀ a xs, H a = some (.tup xs) → H' a = some (.tup xs)) → OwS ca K G H ρ σ F → OwS ca K G' H' ρ σ F
  | [], _, _, _, _, h => h
  | none :: ρ, _, _, k, t, ⟨w, σ', F1, F2, e, h, r, ef⟩ => by
    subst ef
    exact ⟨w, σ', F1, F2, e, h, OwS.mapI l (fun a ha => k a (List.mem_append_right _ ha)) t r, rfl⟩
  | some m :: ρ, _, _, k, t, ⟨w, σ', F1, F2, e, ⟨v, ev, h⟩, r, ef⟩ => by
    subst ef
    exact ⟨w, σ', F1, F2, e, ⟨v, ev, Ow.mapI l (fun a ha => k a (List.mem_append_left _ ha)) t h⟩, OwS.mapI l (fun a ha => k a (List.mem_append_right _ ha)) t r, rfl⟩
theorem lw_lock {p : Addr} {od : Obj} {kvs : List (List Key × V)} (h : H p = some (.dT kvs)) (hp : p ∉ G) : Lw (cut H G) (cut (upd H p (.frz od (.dT kvs))) G) := by
  have ne : ∀ b u, H b = some u → (∀ k, u ≠ .dT k) → b ≠ p := fun b u e n z => by subst z; rw [h] at e; cases e; exact n _ rfl
  refine ⟨fun a xs e => ?_, fun a C dx fs e => ?_, fun a xs e => ?_, fun a ks e => ?_, fun a ks e => ?_⟩
  · obtain ⟨n, e⟩ := cut_some e
    rw [cut_out n, upd_ne (ne a _ e (fun k z => by cases z))]; exact e
  · obtain ⟨n, e⟩ := cut_some e
    rw [cut_out n, upd_ne (ne a _ e (fun k z => by cases z))]; exact e
  · obtain ⟨n, e⟩ := rd_cut e
    refine rd_cut_of n ?_
    rcases e with e | ⟨o, e⟩
    · exact .inl (by rw [upd_ne (ne a _ e (fun k z => by cases z))]; exact e)
    · exact .inr ⟨o, by rw [upd_ne (ne a _ e (fun k z => by cases z))]; exact e⟩
  · obtain ⟨n, e⟩ := rd_cut e
    refine rd_cut_of n ?_
    rcases e with e | ⟨o, e⟩
    · by_cases z : a = p
      · subst z
        rw [h] at e
        cases e
        exact .inr ⟨od, upd_same⟩
      · exact .inl (by rw [upd_ne z]; exact e)
    · exact .inr ⟨o, by rw [upd_ne (ne a _ e (fun k z => by cases z))]; exact e⟩
  · obtain ⟨n, e⟩ := rd_cut e
    refine rd_cut_of n ?_
    rcases e with e | ⟨o, e⟩
    · exact .inl (by rw [upd_ne (ne a _ e (fun k z => by cases z))]; exact e)
    · exact .inr ⟨o, by rw [upd_ne (ne a _ e (fun k z => by cases z))]; exact e⟩
theorem lw_free {p : Addr} {od : Obj} {kvs : List (List Key × V)} (h : H p = some (.frz od (.dT kvs))) (hp : p ∉ G) : Lw (cut H G) (cut (upd H p (.dT kvs)) G) := by
  have ne : ∀ b u, H b = some u → (∀ k, u ≠ .frz od (.dT k)) → b ≠ p := fun b u e n z => by subst z; rw [h] at e; cases e; exact n _ rfl
  refine ⟨fun a xs e => ?_, fun a C dx fs e => ?_, fun a xs e => ?_, fun a ks e => ?_, fun a ks e => ?_⟩
  · obtain ⟨n, e⟩ := cut_some e
    rw [cut_out n, upd_ne (ne a _ e (fun k z => by cases z))]; exact e
  · obtain ⟨n, e⟩ := cut_some e
    rw [cut_out n, upd_ne (ne a _ e (fun k z => by cases z))]; exact e
  · obtain ⟨n, e⟩ := rd_cut e
    refine rd_cut_of n ?_
    rcases e with e | ⟨o, e⟩
    · exact .inl (by rw [upd_ne (ne a _ e (fun k z => by cases z))]; exact e)
    · exact .inr ⟨o, by rw [upd_ne (ne a _ e (fun k z => by cases z))]; exact e⟩
  · obtain ⟨n, e⟩ := rd_cut e
    refine rd_cut_of n ?_
    rcases e with e | ⟨o, e⟩
    · exact .inl (by rw [upd_ne (ne a _ e (fun k z => by cases z))]; exact e)
    · by_cases z : a = p
      · subst z
        rw [h] at e
        cases e
        exact .inl upd_same
      · exact .inr ⟨o, by rw [upd_ne z]; exact e⟩
  · obtain ⟨n, e⟩ := rd_cut e
    refine rd_cut_of n ?_
    rcases e with e | ⟨o, e⟩
    · exact .inl (by rw [upd_ne (ne a _ e (fun k z => by cases z))]; exact e)
    · exact .inr ⟨o, by rw [upd_ne (ne a _ e (fun k z => by cases z))]; exact e⟩
variable {H0 : Hp} {Fa F : List Addr} {ρ : Rn} {σ : L2.St}
theorem Mu.notT {o : Option HO} {od : Obj} {u : HO} (h : Mu o) (e : o = some (.frz od u)) : False := by
  rcases h with ⟨_, h⟩ | ⟨_, h⟩ | ⟨_, h⟩ | ⟨_, _, _, h⟩ <;> (rw [h] at e; cases e)
theorem EnvF.lock {p : Addr} {od : Obj} {kvs : List (List Key × V)} (E : EnvF ca K H0 Fa ρ σ H F) (h : H p = some (.dT kvs)) (hp : p ∉ Fa ++ F) : EnvF ca K (upd H0 p (.frz od (.dT kvs))) Fa ρ σ (upd H p (.frz od (.dT kvs))) F := by
  have n1 : ∀ a ∈ Fa, a ≠ p := fun a ha e => hp (by rw [← e]; exact List.mem_append_left _ ha)
  have n2 : ∀ a ∈ F, a ≠ p := fun a ha e => hp (by rw [← e]; exact List.mem_append_right _ ha)
  refine ⟨le_both E.le (by rw [h]; simp), fun a ha => ?_, fun a ha => ?_, E.nd, fun a ha => ?_, E.own.mapI (lw_lock h hp) (fun a ha => upd_ne (n2 a ha)) fun a xs e => ?_⟩
  · rw [upd_ne (n1 a ha), upd_ne (n1 a ha)]; exact E.keep a ha
  · rw [upd_ne (n1 a ha)]; exact E.mu a ha
  · rw [upd_ne (n2 a ha)]; exact E.fresh a ha
  · rw [upd_ne (fun z => by subst z; rw [h] at e; cases e)]; exact e
theorem EnvF.free {p : Addr} {od : Obj} {kvs : List (List Key × V)} (E : EnvF ca K (upd H0 p (.frz od (.dT kvs))) Fa ρ σ H F) (h0 : ∀ u, H0 p = some u → u = .dT kvs) (hp : p ∉ Fa) : H p = some (.frz od (.dT kvs)) ∧ EnvF ca K H0 Fa ρ σ (upd H p (.dT kvs)) F := by
  have h : H p = some (.frz od (.dT kvs)) := E.le.same p _ upd_same
  have hG : p ∉ Fa ++ F := fun z => (E.muG p z).notT h
  have n1 : ∀ a ∈ Fa, a ≠ p := fun a ha e => hp (by rw [← e]; exact ha)
  have n2 : ∀ a ∈ F, a ≠ p := fun a ha e => hG (by rw [← e]; exact List.mem_append_right _ ha)
  refine ⟨h, ⟨fun a u e => ?_⟩, fun a ha => ?_, fun a ha => ?_, E.nd, fun a ha => ?_, E.own.mapI (lw_free h hG) (fun a ha => upd_ne (n2 a ha)) fun a xs e => ?_⟩
  · by_cases z : a = p
    · subst z; rw [upd_same, h0 u e]
    · rw [upd_ne z]; exact E.le.same a u (by rw [upd_ne z]; exact e)
  · rw [upd_ne (n1 a ha)]
    have := E.keep a ha
    rwa [upd_ne (n1 a ha)] at this
  · have := E.mu a ha
    rwa [upd_ne (n1 a ha)] at this
  · have := E.fresh a ha
    rwa [upd_ne (n2 a ha)] at this
  · rw [upd_ne (fun z => by subst z; rw [h] at e; cases e)]; exact e
/-- a thing that is locked already: the base says so -/
theorem EnvF.says {p : Addr} {u : HO} (E : EnvF ca K H0 Fa ρ σ H F) (h : H p = some u) (hp : p ∉ Fa ++ F) : EnvF ca K (upd H0 p u) Fa ρ σ H F := by
  have n1 : ∀ a ∈ Fa, a ≠ p := fun a ha e => hp (by rw [← e]; exact List.mem_append_left _ ha)
  have n2 : ∀ a ∈ F, a ≠ p := fun a ha e => hp (by rw [← e]; exact List.mem_append_right _ ha)
  refine ⟨⟨fun a w e => ?_⟩, fun a ha => ?_, fun a ha => ?_, E.nd, fun a ha => ?_, E.own⟩
  · by_cases z : a = p
    · subst z; rw [upd_same] at e; rw [h]; exact e
    · rw [upd_ne z] at e; exact E.le.same a w e
  · rw [upd_ne (n1 a ha)]; exact E.keep a ha
  · rw [upd_ne (n1 a ha)]; exact E.mu a ha
  · rw [upd_ne (n2 a ha)]; exact E.fresh a ha
theorem EnvF.unsays {p : Addr} {u : HO} (E : EnvF ca K (upd H0 p u) Fa ρ σ H F) (h0 : ∀ w, H0 p = some w → w = u) (hp : p ∉ Fa) (hu : ¬ Mu (some u)) : EnvF ca K H0 Fa ρ σ H F := by
  have h : H p = some u := E.le.same p _ upd_same
  have n1 : ∀ a ∈ Fa, a ≠ p := fun a ha e => hp (by rw [← e]; exact ha)
  have n2 : ∀ a ∈ F, a ≠ p := fun a ha e => hu (by rw [← h, ← e]; exact E.muG a (List.mem_append_right _ ha))
  refine ⟨⟨fun a w e => ?_⟩, fun a ha => ?_, fun a ha => ?_, E.nd, fun a ha => ?_, E.own⟩
  · by_cases z : a = p
    · subst z; rw [h0 w e]; exact h
    · exact E.le.same a w (by rw [upd_ne z]; exact e)
  · have := E.keep a ha
    rwa [upd_ne (n1 a ha)] at this
  · have := E.mu a ha
    rwa [upd_ne (n1 a ha)] at this
  · have := E.fresh a ha
    rwa [upd_ne (n2 a ha)] at this
end
/-! ### what is walked -/
def kD : Key → D
  | .inl i => .int i
  | .inr x => .str x
def keyD (k : List Key) : D := .tup (k.map kD)
theorem isL_keys {ca : Str → Option Addr} {K : PySem.W.Frag} {H : Hp} : ∀ k : List Key, IsL ca K H (k.map kD) (k.map kV)
  | [] => IsL.nil
  | .inl i :: k => IsL.cons (is_int.mpr rfl) (isL_keys k)
  | .inr x :: k => IsL.cons (is_str.mpr rfl) (isL_keys k)
theorem is_key {ca : Str → Option Addr} {K : PySem.W.Frag} {H : Hp} {G : List Addr} {q : Addr} {k : List Key} (mu : ∀ a ∈ G, Mu (H a)) (h : H q = some (.tup (k.map kV))) : Is ca K (cut H G) (keyD k) (.ref q) :=
  is_tup.mpr ⟨q, _, rfl, (cut_out fun z => (mu q z).noTup h).trans h, isL_keys k⟩
def keysD : D → Out (List D)
  | .dic ks _ => .ok (ks.map keyD)
  | _ => .stuck
def itemsD : D → Out (List D)
  | .dic ks ds => .ok (List.zipWith (fun k d => D.tup [keyD k, d]) ks ds)
  | _ => .stuck
def noX : SOut → SOut
  | .exc _ => .stuck
  | o => o
def sForD (f : Rn → Out (List D)) (tg : D → Rn → Out Rn) (body : Rn → SOut) (ρ : Rn) : SOut := noX ((f ρ).bind fun ds => forD tg body ds ρ)
def itKeys (f : Rn → Out D) (ρ : Rn) : Out (List D) := (f ρ).bind keysD
def itItems (f : Rn → Out D) (ρ : Rn) : Out (List D) := (f ρ).bind itemsD
section
variable {ca : Str → Option Addr} {X : Cx} {W : WX} {e a b c : Expr} {pos apos cpos : Pos} {st : Stmt} {s s' : Rn → SOut}
/-- the turns of a loop whose iterator is held -/
theorem for_turns {K : PySem.W.Frag} {H0 H2 : Hp} {Fa : List Addr} {ts ms ρ : Rn} {us vs σ : L2.St} {Dn : Ends} {ds : List D} {g : D → Rn → Out Rn} {is : List Nat} {tt : TG} {tb : TS} {Jt : It} (hm : ms.length = vs.length) (hl : ts.length = us.length)
    (ok : ∀ (ρ' : Rn) (σ' : L2.St) (H : Hp) (F : List Addr) (i : Nat), EnvF ca K H0 Fa (ms ++ (ts ++ ρ')) (vs ++ (us ++ σ')) H F → (∀ d, ds[i]? = some d → Jt.go i H ∧ ∀ x H', Jt.yld i H x H' → EnvF ca K H0 Fa (ms ++ (ts ++ ρ')) (vs ++ (us ++ σ')) H' F ∧ Is ca K (cut H' (Fa ++ F)) d x) ∧ (ds.length ≤ i → Jt.stop i H))
    (hg : TgI ca K tt is g) (hb : StM ca K W tb s) (E2 : Env ca K H0 Fa (ms ++ (ts ++ ρ)) (vs ++ (us ++ σ)) H2) (o : SPost ca K W H0 Fa ts us Dn (forD g s ds ρ)) :
    ∃ Wt : Nat → Nat → L2.St → Hp → Prop, (∃ n, Wt 0 n σ H2) ∧ ∀ i n σ' H', Wt i n σ' H' → (Jt.stop i H' ∧ Dn.nx σ' H') ∨ (Jt.go i H' ∧ ∃ Nx : L2.St → Hp → Prop, (∀ σ2 H2, Nx σ2 H2 → ∃ n', n' < n ∧ Wt (i + 1) n' σ2 H2) ∧ ∀ x H3, Jt.yld i H' x H3 → tt x σ' H3 fun σ1 H4 => tb ⟨Nx, Dn.rt, fun σ2 H5 => Dn.nx σ2 H5, Nx⟩ σ1 H4) := by
  refine ⟨fun i n σ' H' => ∃ ρ', n = ds.length - i ∧ Env ca K H0 Fa (ms ++ (ts ++ ρ')) (vs ++ (us ++ σ')) H' ∧ SPost ca K W H0 Fa ts us Dn (forD g s (ds.drop i) ρ'), ⟨_, ρ, rfl, E2, o⟩, ?_⟩
  rintro i n σ' H' ⟨ρ', rfl, ⟨F, E'⟩, o⟩
  obtain ⟨hgo, hstop⟩ := ok ρ' σ' H' F i E'
  by_cases hlt : i < ds.length
  · have hd : ds[i]? = some ds[i] := List.getElem?_eq_getElem hlt
    obtain ⟨go, yl⟩ := hgo _ hd
    refine .inr ⟨go, fun σ2 H2 => ∃ ρ2, Env ca K H0 Fa (ms ++ (ts ++ ρ2)) (vs ++ (us ++ σ2)) H2 ∧ SPost ca K W H0 Fa ts us Dn (forD g s (ds.drop (i + 1)) ρ2), fun σ2 H2 ⟨ρ2, E3, o3⟩ => ⟨ds.length - (i + 1), by omega, ρ2, rfl, E3, o3⟩, fun x H3 hy => ?_⟩
    obtain ⟨E3, i3⟩ := yl x H3 hy
    rw [List.drop_eq_getElem_cons hlt] at o
    unfold forD at o
    refine hg.run (ts := ms ++ ts) (us := vs ++ us) (by simp [hl, hm]) (by rw [List.append_assoc, List.append_assoc]; exact E3) i3 ((SPost.ofE (ρ := ρ) (σ := σ) o fun ρ1 o σ1 H4 E4 _ _ => ?_))
    refine hb H0 Fa (ms ++ ts) (vs ++ us) ρ1 σ1 H4 _ (by simp [hl, hm]) E4 ?_
    cases e : s ρ1 with
    | stuck => rw [e] at o; exact o
    | exc n => rw [e] at o; exact o
    | ok p =>
      obtain ⟨fl, ρ2⟩ := p
      rw [e] at o
      cases fl with
      | nx =>
        intro σ2 H5 E5
        rw [List.append_assoc, List.append_assoc] at E5
        exact ⟨ρ2, E5, o⟩
      | ct =>
        intro σ2 H5 E5
        rw [List.append_assoc, List.append_assoc] at E5
        exact ⟨ρ2, E5, o⟩
      | bk =>
        intro σ2 H5 E5
        rw [List.append_assoc, List.append_assoc] at E5
        exact o σ2 H5 (E5.tail hm)
      | rt m => exact o
  · refine .inl ⟨hstop (by omega), ?_⟩
    rw [List.drop_eq_nil_of_le (by omega)] at o
    exact o σ' H' (Env.tail hm ⟨F, E'⟩)
theorem spost_lock {K : PySem.W.Frag} {H0 H0' H00 : Hp} {Fa : List Addr} {ts : Rn} {us : L2.St} {Dn : Ends} {out : SOut} (conv : ∀ (ρ : Rn) (σ : L2.St) (H2 : Hp) (Q : Hp → Prop), Env ca K H0' Fa ρ σ H2 → (∀ H3, Env ca K H0 Fa ρ σ H3 → Q H3) → Unl H00 Q H2)
    (o : SPost ca K W H0 Fa ts us Dn (noX out)) : SPost ca K W H0' Fa ts us ⟨fun σ' => Unl H00 (Dn.nx σ'), fun v => Unl H00 (Dn.rt v), fun σ' => Unl H00 (Dn.bk σ'), fun σ' => Unl H00 (Dn.ct σ')⟩ out := by
  cases out with
  | stuck => exact o
  | exc n => exact o.elim
  | ok p =>
    obtain ⟨fl, ρ2⟩ := p
    cases fl with
    | nx => exact fun σ' H2 E => conv _ _ _ _ E fun H3 E3 => o σ' H3 E3
    | bk => exact fun σ' H2 E => conv _ _ _ _ E fun H3 E3 => o σ' H3 E3
    | ct => exact fun σ' H2 E => conv _ _ _ _ E fun H3 E3 => o σ' H3 E3
    | rt m => exact fun v H2 E => conv _ _ _ _ E fun H3 E3 => o v H3 E3
/-- the dict that is walked, as it stands -/
theorem dic_here {K : PySem.W.Frag} {H0 H : Hp} {Fa F : List Addr} {ρ : Rn} {σ : L2.St} {d : Addr} {od : Obj} {kvs : List (List Key × V)} {ks : List (List Key)} {dvs : List D} {pre : Rn} {pus : L2.St} (hp : pre.length = pus.length) (E : EnvF ca K (upd H0 d (.frz od (.dT kvs))) Fa (pre ++ (some (.dat (.dic ks dvs)) :: ρ)) (pus ++ (some (.ref d) :: σ)) H F) :
    H d = some (.frz od (.dT kvs)) ∧ kvs.map (·.1) = ks ∧ IsL ca K (cut H (Fa ++ F)) dvs (kvs.map (·.2)) := by
  have h : H d = some (.frz od (.dT kvs)) := E.le.same d _ upd_same
  have i := E.at0 hp
  obtain ⟨a, kvs', e, hr, ek, r⟩ := is_dic.mp i
  cases e
  have hk : kvs' = kvs := by
    rcases (rd_cut hr).2 with z | ⟨o, z⟩ <;> (rw [h] at z; cases z)
    rfl
  subst hk
  exact ⟨h, ek, r⟩
theorem get_zip {α β γ : Type} {f : α → β → γ} {xs : List α} {ys : List β} {i : Nat} {z : γ} (h : (List.zipWith f xs ys)[i]? = some z) : ∃ x y, xs[i]? = some x ∧ ys[i]? = some y ∧ z = f x y := by
  rw [List.getElem?_zipWith] at h
  cases e1 : xs[i]? with
  | none => rw [e1] at h; cases h
  | some x =>
    cases e2 : ys[i]? with
    | none => rw [e1, e2] at h; cases h
    | some y =>
      rw [e1, e2] at h
      exact ⟨x, y, rfl, rfl, (Option.some.inj h).symm⟩
def OkW (ca : Str → Option Addr) (K : PySem.W.Frag) (J : Addr → Obj → List (List Key × V) → It) (ld : D → Out (List D)) : Prop := ∀ (H0 : Hp) (Fa : List Addr) (ρ' : Rn) (σ' : L2.St) (H : Hp) (F : List Addr) (d : Addr) (od : Obj) (kvs : List (List Key × V)) (x : D) (ds : List D) (i : Nat) (pre : Rn) (pus : L2.St), pre.length = pus.length → ld x = .ok ds →
  EnvF ca K (upd H0 d (.frz od (.dT kvs))) Fa (pre ++ (some (.dat x) :: ρ')) (pus ++ (some (.ref d) :: σ')) H F →
  (∀ dd, ds[i]? = some dd → (J d od kvs).go i H ∧ ∀ y H', (J d od kvs).yld i H y H' → EnvF ca K (upd H0 d (.frz od (.dT kvs))) Fa (pre ++ (some (.dat x) :: ρ')) (pus ++ (some (.ref d) :: σ')) H' F ∧ Is ca K (cut H' (Fa ++ F)) dd y) ∧ (ds.length ≤ i → (J d od kvs).stop i H)
theorem okW_keys {K : PySem.W.Frag} : OkW ca K Itkt keysD := by
  intro H0 Fa ρ' σ' H F d od kvs x ds i pre pus hp hx E
  cases x with
  | dic ks dvs =>
    cases hx
    obtain ⟨h, ek, r⟩ := dic_here hp E
    subst ek
    refine ⟨fun dd hdd => ?_, fun hle => ⟨h, by simpa using hle⟩⟩
    rw [List.map_map, List.getElem?_map] at hdd
    cases ekv : kvs[i]? with
    | none => rw [ekv] at hdd; cases hdd
    | some kv =>
      rw [ekv] at hdd
      cases hdd
      have hi : i < kvs.length := by
        rcases Nat.lt_or_ge i kvs.length with z | z
        · exact z
        · rw [List.getElem?_eq_none z] at ekv; cases ekv
      refine ⟨⟨h, hi⟩, fun y H' hy => ?_⟩
      obtain ⟨rfl, k, v, q, e1, rfl, hq⟩ := hy
      rw [ekv] at e1
      cases e1
      exact ⟨E, is_key E.muG hq⟩
  | _ => cases hx
theorem okW_items {K : PySem.W.Frag} : OkW ca K Itit itemsD := by
  intro H0 Fa ρ' σ' H F d od kvs x ds i pre pus hp hx E
  cases x with
  | dic ks dvs =>
    cases hx
    obtain ⟨h, ek, r⟩ := dic_here hp E
    subst ek
    have ln := r.len
    rw [List.length_map] at ln
    refine ⟨fun dd hdd => ?_, fun hle => ⟨h, ?_⟩⟩
    · obtain ⟨k0, d0, e1, e2, rfl⟩ := get_zip hdd
      rw [List.getElem?_map] at e1
      cases ekv : kvs[i]? with
      | none => rw [ekv] at e1; cases e1
      | some kv =>
        rw [ekv] at e1
        cases e1
        have hi : i < kvs.length := by
          rcases Nat.lt_or_ge i kvs.length with z | z
          · exact z
          · rw [List.getElem?_eq_none z] at ekv; cases ekv
        refine ⟨⟨h, hi⟩, fun y H' hy => ?_⟩
        obtain ⟨T, k, v, q, e1, rfl, hT, hq, rfl⟩ := hy
        rw [ekv] at e1
        cases e1
        have hTG : ∀ a ∈ Fa ++ F, a ≠ T := fun a ha e => (E.muG a ha).ne (by rw [e]; exact hT)
        have E2 := E.go (H' := upd H T (.tup [.ref q, v])) (Le.new hT) fun a ha => upd_ne (hTG a ha)
        refine ⟨E2, is_tup.mpr ⟨T, _, rfl, (cut_out fun z => hTG T z rfl).trans upd_same, ?_⟩⟩
        have hq2 : (upd H T (.tup [.ref q, v])) q = some (.tup (k.map kV)) := by rw [upd_ne (ne_of_none hq hT)]; exact hq
        obtain ⟨_, _, r2⟩ := dic_here hp E2
        obtain ⟨v', hv', iv⟩ := r2.get e2
        rw [List.getElem?_map, ekv] at hv'
        cases hv'
        exact IsL.cons (is_key E2.muG hq2) (IsL.cons iv IsL.nil)
    · rw [List.length_zipWith, List.length_map] at hle
      omega
  | _ => cases hx
theorem forD_den {k : Nat} {tg iter : Expr} {body : List Stmt} {is : List Nat} {f : Rn → Out D} {g : D → Rn → Out Rn} {te : TE} {tt : TG} {tb : TS} {J : Addr → Obj → List (List Key × V) → It} {ld : D → Out (List D)} {wi : TI}
    (hJ : OkW ca X.K J ld) (hw : wi = fun σ H R => te σ H fun x H1 => ∃ d kvs, x = .ref d ∧ LkT X.H_0 H1 d kvs fun o H2 => R (J d o kvs) H2) (hf : EvD ca X.K W te f) (hld : ∀ x ds, ld x = .ok ds → ∃ ks dvs, x = .dic ks dvs) (hlx : ∀ x n, ld x ≠ .exc n) (hg : TgI ca X.K tt is g) (hb : StM ca X.K W tb s) :
    StM ca X.K W (tUnl X.H_0 (tFor wi tt tb)) (sForD (fun ρ => (f ρ).bind ld) g s) := by
  subst hw
  intro H0 Fa ts us ρ σ H Dn hl E o
  refine hf H0 Fa ts us ρ σ H _ hl E ?_
  unfold sForD at o
  dsimp only at o
  cases ef : f ρ with
  | stuck => rw [ef] at o; exact o.elim
  | exc n => rw [ef] at o; exact o.elim
  | ok x =>
    rw [ef] at o
    simp only [bind_ok] at o
    intro v H2 F E2 i
    cases el : ld x with
    | stuck => rw [el] at o; exact o.elim
    | exc n => exact absurd el (hlx x n)
    | ok ds =>
      rw [el] at o
      simp only [bind_ok] at o
      obtain ⟨ks, dvs, rfl⟩ := hld x ds el
      obtain ⟨d, kvs, rfl, hr, ek, r⟩ := is_dic.mp i
      obtain ⟨hdG, hr⟩ := rd_cut hr
      have hdFa : d ∉ Fa := fun z => hdG (List.mem_append_left _ z)
      refine ⟨d, kvs, rfl, ?_⟩
      have EX := E2.top i
      rcases hr with hr | ⟨od, hr⟩
      · refine .inl ⟨hr, fun hn od => ?_⟩
        have E3 := EX.lock (od := od) hr hdG
        have h0 : ∀ u, H0 d = some u → u = .dT kvs := fun u e => by
          have := E2.le.same d u e
          rw [hr] at this
          cases this
          rfl
        refine for_turns (ms := [some (.dat (.dic ks dvs))]) (vs := [some (.ref d)]) (ds := ds) (Jt := J d od kvs) rfl hl (fun ρ' σ' H' F' j E' => hJ _ _ _ _ _ _ _ _ _ _ _ _ [] [] rfl el E') hg hb ⟨F, E3⟩ (spost_lock (H0 := H0) (fun ρ2 σ2 H3 Q E4 q => ?_) o)
        obtain ⟨F4, E4⟩ := E4
        obtain ⟨e4, E5⟩ := E4.free h0 hdFa
        exact .inr ⟨d, od, _, e4, hn, q _ ⟨F4, E5⟩⟩
      · refine .inr ⟨od, hr, ?_⟩
        have E3 := EX.says hr hdG
        have h0 : ∀ u, H0 d = some u → u = .frz od (.dT kvs) := fun u e => by
          have := E2.le.same d u e
          rw [hr] at this
          cases this
          rfl
        refine for_turns (ms := [some (.dat (.dic ks dvs))]) (vs := [some (.ref d)]) (ds := ds) (Jt := J d od kvs) rfl hl (fun ρ' σ' H' F' j E' => hJ _ _ _ _ _ _ _ _ _ _ _ _ [] [] rfl el E') hg hb ⟨F, E3⟩ (spost_lock (H0 := H0) (fun ρ2 σ2 H3 Q E4 q => ?_) o)
        obtain ⟨F4, E4⟩ := E4
        exact .inl (q _ ⟨F4, E4.unsays h0 hdFa (fun z => z.notT rfl)⟩)
theorem ld_keys : ∀ x ds, keysD x = .ok ds → ∃ ks dvs, x = .dic ks dvs := fun x ds h => by cases x <;> first | exact ⟨_, _, rfl⟩ | cases h
theorem ld_items : ∀ x ds, itemsD x = .ok ds → ∃ ks dvs, x = .dic ks dvs := fun x ds h => by cases x <;> first | exact ⟨_, _, rfl⟩ | cases h
theorem lx_keys : ∀ x n, keysD x ≠ .exc n := fun x n h => by cases x <;> cases h
theorem lx_items : ∀ x n, itemsD x ≠ .exc n := fun x n h => by cases x <;> cases h
theorem ss_forKeys {k : Nat} {tg iter : Expr} {body : List Stmt} {is : List Nat} {f : Rn → Out D} {g : D → Rn → Out Rn} (J : JX X W k) (hi : ED ca X W iter f) (hg : TGi ca X tg is g) (hb : SSs ca X W body s) (hs : ∀ x, foldedSetIterable iter X.env x = pure x := by intro _; rfl) :
    SS ca X W (.For tg iter body [] pos) (sForD (itKeys f) g s) := by
  obtain ⟨te, p, hf⟩ := hi
  obtain ⟨tt, pg, hg⟩ := hg
  obtain ⟨tb, pb, hb⟩ := hb
  exact ⟨_, ps_unl (ps_for J.own J.calm (pi_keysT p) pg pb hs), forD_den (k := k) (tg := tg) (iter := iter) (body := body) okW_keys rfl hf ld_keys lx_keys hg hb⟩
theorem ss_forItems {k kk : Nat} {elts : List Expr} {tpos : Pos} {body : List Stmt} {is : List Nat} {f : Rn → Out D} {g : D → Rn → Out Rn} (J : JX X W k) (hi : ED ca X W e f) (hg : TGi ca X (.Tuple elts kk tpos) is g) (hb : SSs ca X W body s) (hbase : attributeBase e "items" X.env (eval e X.env) = eval e X.env := by rfl) (hline : (apos.endLine == cpos.line) = true := by rfl)
    (hs : ∀ x, foldedSetIterable (.Call (.Attribute e "items" apos) [] [] cpos) X.env x = pure x := by intro _; rfl) :
    SS ca X W (.For (.Tuple elts kk tpos) (.Call (.Attribute e "items" apos) [] [] cpos) body [] pos) (sForD (itItems f) g s) := by
  obtain ⟨te, p, hf⟩ := hi
  obtain ⟨tt, pg, hg⟩ := hg
  obtain ⟨tb, pb, hb⟩ := hb
  exact ⟨_, ps_unl (ps_for J.own J.calm (pi_itemsT p hbase hline) pg pb hs), forD_den (k := k) (tg := e) (iter := e) (body := body) okW_items rfl hf ld_items lx_items hg hb⟩
theorem lc_turns {K : PySem.W.Frag} {tt : TG} {tte : TT} {te : TE} {is vs : List Nat} {g : D → Rn → Out Rn} {t : Rn → Out Bool} {f : Rn → Out D} {H0 H1 : Hp} {Fa : List Addr} {ts ms ρ : Rn} {us ws σ : L2.St} {Q : VK} {ds ys : List D} {Jt : It} {Dl : Addr} (hm : ms.length = ws.length) (hl : ts.length = us.length)
    (ok : ∀ (pre : Rn) (pus : L2.St) (ρ' : Rn) (σ' : L2.St) (H : Hp) (F : List Addr) (i : Nat), pre.length = pus.length → EnvF ca K H0 Fa (pre ++ (ms ++ ρ')) (pus ++ (ws ++ σ')) H F → (∀ d, ds[i]? = some d → Jt.go i H ∧ ∀ x H', Jt.yld i H x H' → EnvF ca K H0 Fa (pre ++ (ms ++ ρ')) (pus ++ (ws ++ σ')) H' F ∧ Is ca K (cut H' (Fa ++ F)) d x) ∧ (ds.length ≤ i → Jt.stop i H))
    (hg : TgI ca K tt is g) (ht : EvB ca K W0 tte t) (he : EvD ca K W0 te f) (hsub : ∀ j ∈ is, j ∈ vs) (E1 : Env ca K H0 Fa (ms ++ (ts ++ ρ)) (ws ++ (us ++ σ)) H1) (hD : H1 Dl = none) (eC : compD g t f (wipeR vs ρ) ds = .ok ys) (hz : ys.length ≤ sizeLine)
    (o : ∀ v H2, Env ca K H0 Fa (some (.lst (ys.map .dat)) :: (ts ++ ρ)) (some v :: (us ++ σ)) H2 → Q v H2) :
    ∃ Wt : Nat → Nat → Hp → Prop, (∃ m, Wt 0 m (upd H1 Dl (.lst []))) ∧ ∀ i m H, Wt i m H → (Jt.stop i H ∧ Q (.ref Dl) H) ∨ (Jt.go i H ∧ ∃ Nx : Hp → Prop, (∀ H', Nx H' → ∃ m', m' < m ∧ Wt (i + 1) m' H') ∧ ∀ x H', Jt.yld i H x H' → tt x (wipe σ vs) H' fun σ2 H2 => wipe σ2 vs = wipe σ vs ∧ tte σ2 H2 fun b H3 =>
      if b = true then te σ2 H3 fun y H4 => ∃ acc, H4 Dl = some (.lst acc) ∧ acc.length < sizeLine ∧ Nx (upd H4 Dl (.lst (acc ++ [y]))) else Nx H3) := by
    · 
      obtain ⟨F1, E1⟩ := E1
      -- the block's stack
      have E1b : EnvF ca K H0 Fa ((ms ++ (ts ++ ρ)) ++ wipeR vs ρ) ((ws ++ (us ++ σ)) ++ wipe σ vs) H1 F1 := by
        have q := EnvF.block (ts := ms ++ ts) (us := ws ++ us) (ρ := ρ) (σ := σ) (by rw [List.append_assoc, List.append_assoc]; exact E1) (by simp [hl, hm]) vs
        simpa only [List.append_assoc] using q
      have hnG : Dl ∉ Fa ++ F1 := fun z => (E1.muG Dl z).ne hD
      have E2 : EnvF ca K H0 Fa (some (.lst (([] : List D).map .dat)) :: ((ms ++ (ts ++ ρ)) ++ wipeR vs ρ)) (some (.ref Dl) :: ((ws ++ (us ++ σ)) ++ wipe σ vs)) (upd H1 Dl (.lst [])) ([Dl] ++ F1) :=
        E1b.push (F' := [Dl]) (Le.new hD) (fun a ha => upd_ne fun e => hnG (e ▸ ha)) (by simp) (fun a ha => by
          have e : a = Dl := by simpa using ha
          subst e; exact hD) (ow_lst.mpr ⟨Dl, [], [], rfl, upd_same, owL_nil.mpr ⟨rfl, rfl⟩, rfl⟩)
      have lenB : ((ms ++ (ts ++ ρ)) ++ wipeR vs ρ).length = ((ws ++ (us ++ σ)) ++ wipe σ vs).length := E1b.own.len
      refine ⟨fun i n H' => ∃ done, n = ds.length - i ∧ Env ca K H0 Fa (some (.lst (done.map .dat)) :: ((ms ++ (ts ++ ρ)) ++ wipeR vs ρ)) (some (.ref Dl) :: ((ws ++ (us ++ σ)) ++ wipe σ vs)) H' ∧ ∃ rest, compD g t f (wipeR vs ρ) (ds.drop i) = .ok rest ∧ ys = done ++ rest,
        ⟨_, [], rfl, ⟨_, E2⟩, ys, by simpa using eC, rfl⟩, ?_⟩
      rintro i n H' ⟨done, rfl, ⟨F', E'⟩, rest, hrest, hys⟩
      have E'' : EnvF ca K H0 Fa ([some (.lst (done.map .dat))] ++ (ms ++ ((ts ++ ρ) ++ wipeR vs ρ))) ([some (.ref Dl)] ++ (ws ++ ((us ++ σ) ++ wipe σ vs))) H' F' := by simpa only [List.append_assoc, List.singleton_append, List.cons_append, List.nil_append] using E'
      obtain ⟨hgo, hstop⟩ := ok _ _ _ _ H' F' i rfl E''
      by_cases hlt : i < ds.length
      · have hd : ds[i]? = some ds[i] := List.getElem?_eq_getElem hlt
        obtain ⟨go, yl⟩ := hgo _ hd
        refine .inr ⟨go, fun H3 => ∃ done', Env ca K H0 Fa (some (.lst (done'.map .dat)) :: ((ms ++ (ts ++ ρ)) ++ wipeR vs ρ)) (some (.ref Dl) :: ((ws ++ (us ++ σ)) ++ wipe σ vs)) H3 ∧ ∃ rest', compD g t f (wipeR vs ρ) (ds.drop (i + 1)) = .ok rest' ∧ ys = done' ++ rest',
          fun H3 ⟨done', E3, r3⟩ => ⟨ds.length - (i + 1), by omega, done', rfl, E3, r3⟩, fun x H3 hy => ?_⟩
        obtain ⟨E3, ix⟩ := yl x H3 hy
        have E4 : EnvF ca K H0 Fa ((some (.lst (done.map .dat)) :: (ms ++ (ts ++ ρ))) ++ wipeR vs ρ) ((some (.ref Dl) :: (ws ++ (us ++ σ))) ++ wipe σ vs) H3 F' := by simpa only [List.append_assoc, List.singleton_append, List.cons_append, List.nil_append] using E3
        rw [List.drop_eq_getElem_cons hlt] at hrest
        unfold compD at hrest
        have lenT : (some (M.lst (done.map .dat)) :: (ms ++ (ts ++ ρ))).length = (some (V.ref Dl) :: (ws ++ (us ++ σ))).length := by
          have z := E1.own.len
          simp only [List.length_cons]
          omega
        cases eg : g ds[i] (wipeR vs ρ) with
        | stuck => rw [eg] at hrest; cases hrest
        | exc n => rw [eg] at hrest; cases hrest
        | ok ρ1 =>
          rw [eg] at hrest
          have hrest : ((t ρ1).nx.bind fun x => if x then (f ρ1).nx.bind fun y => (compD g t f (wipeR vs ρ) (ds.drop (i + 1))).map (y :: ·) else compD g t f (wipeR vs ρ) (ds.drop (i + 1))) = .ok rest := hrest
          refine hg H0 Fa _ _ _ _ H3 F' ds[i] x _ lenT E4 ix ?_
          rw [eg]
          intro σ1 H5 E5 l5 k5
          have hw : wipe σ1 vs = wipe σ vs := by
            rw [← wipe_wipe (σ := σ)]
            exact wipe_same l5 fun j hj => k5 j fun z => hj (hsub j z)
          refine ⟨hw, ?_⟩
          refine ht H0 Fa _ _ ρ1 σ1 H5 _ lenT E5 ?_
          cases et : t ρ1 with
          | stuck => rw [et] at hrest; cases hrest
          | exc n => rw [et] at hrest; cases hrest
          | ok bb =>
            rw [et] at hrest
            have hrest : (if bb then (f ρ1).nx.bind fun y => (compD g t f (wipeR vs ρ) (ds.drop (i + 1))).map (y :: ·) else compD g t f (wipeR vs ρ) (ds.drop (i + 1))) = .ok rest := hrest
            intro H6 E6
            -- the slots of the block as they were
            have again : ∀ {dn : List D} {H7 : Hp}, Env ca K H0 Fa ((some (.lst (dn.map .dat)) :: (ms ++ (ts ++ ρ))) ++ ρ1) ((some (.ref Dl) :: (ws ++ (us ++ σ))) ++ σ1) H7 → Env ca K H0 Fa (some (.lst (dn.map .dat)) :: ((ms ++ (ts ++ ρ)) ++ wipeR vs ρ)) (some (.ref Dl) :: ((ws ++ (us ++ σ)) ++ wipe σ vs)) H7 := fun {dn H7} E7 => by
              obtain ⟨F8, E8⟩ := Env.head (by have z := E1.own.len; simp only [List.length_cons]; omega) E7
              have q := EnvF.block (ts := some (.lst (dn.map .dat)) :: (ms ++ ts)) (us := some (.ref Dl) :: (ws ++ us)) (ρ := ρ) (σ := σ) (F := F8) (by simpa only [List.append_assoc, List.cons_append] using E8) (by simp [hl, hm]) vs
              exact ⟨F8, by simpa only [List.append_assoc, List.cons_append] using q⟩
            cases bb with
            | false =>
              simp only [Bool.false_eq_true, if_false] at hrest ⊢
              exact ⟨done, again E6, rest, hrest, hys⟩
            | true =>
              simp only [if_true] at hrest ⊢
              refine he H0 Fa _ _ ρ1 σ1 H6 _ lenT E6 ?_
              cases ef : f ρ1 with
              | stuck => rw [ef] at hrest; cases hrest
              | exc n => rw [ef] at hrest; cases hrest
              | ok y =>
                rw [ef] at hrest
                have hrest : (compD g t f (wipeR vs ρ) (ds.drop (i + 1))).map (y :: ·) = .ok rest := hrest
                intro yv H7 F7 E7 iy
                cases ec : compD g t f (wipeR vs ρ) (ds.drop (i + 1)) with
                | stuck => rw [ec] at hrest; cases hrest
                | exc n => rw [ec] at hrest; cases hrest
                | ok rest' =>
                  rw [ec] at hrest
                  have er : y :: rest' = rest := by
                    have z : Out.ok (y :: rest') = Out.ok rest := hrest
                    injection z
                  obtain ⟨l, xs, e1, e2, e3, e4⟩ := E7.append (i := 0) (ms := done.map .dat) rfl iy
                  have el : Dl = l := by
                    injection e1 with e1
                    injection e1 with e1
                    injection e1
                  subst el
                  refine ⟨xs, e2, ?_, done ++ [y], again (dn := done ++ [y]) ?_, rest', rfl, by rw [hys, ← er, List.append_assoc]; rfl⟩
                  · rw [e3, List.length_map]
                    have z : ys.length = done.length + rest.length := by rw [hys, List.length_append]
                    rw [← er, List.length_cons] at z
                    omega
                  · rw [List.map_append]
                    exact e4
      · refine .inl ⟨hstop (by omega), o _ _ ?_⟩
        rw [List.drop_eq_nil_of_le (by omega)] at hrest
        have er : rest = [] := by
          have z : Out.ok [] = Out.ok rest := hrest
          injection z with z
          exact z.symm
        rw [hys, er, List.append_nil]
        have q : Env ca K H0 Fa ([some (.lst (done.map .dat))] ++ (ms ++ ((ts ++ ρ) ++ wipeR vs ρ))) ([some (.ref Dl)] ++ (ws ++ ((us ++ σ) ++ wipe σ vs))) H' := ⟨F', E''⟩
        have q2 := Env.part (A := [some (.lst (done.map .dat))]) (a := [some (.ref Dl)]) rfl hm q
        have lenS : (ts ++ ρ).length = (us ++ σ).length := by
          have z := E1.own.len
          simp only [List.length_append] at z ⊢
          omega
        have q3 : Env ca K H0 Fa (([some (.lst (done.map .dat))] ++ (ts ++ ρ)) ++ wipeR vs ρ) (([some (.ref Dl)] ++ (us ++ σ)) ++ wipe σ vs) H' := by simpa only [List.append_assoc] using q2
        exact Env.head (by simp only [List.length_append, List.length_cons, List.length_nil] at lenS ⊢; omega) q3

/-- the keys of a dict gone through in a comprehension -/
theorem lcT_den {K : PySem.W.Frag} {wi : TI} {tt : TG} {tte : TT} {te t0 : TE} {is vs : List Nat} {f0 : Rn → Out D} {g : D → Rn → Out Rn} {t : Rn → Out Bool} {f : Rn → Out D} {J : Addr → Obj → List (List Key × V) → It} {ld : D → Out (List D)} {H00 : Hp} (hJ : OkW ca K J ld)
    (hw : wi = fun σ H R => t0 σ H fun x H1 => SzF K H1 → ∃ d kvs, x = .ref d ∧ LkT H00 H1 d kvs fun o H2 => R (J d o kvs) H2) (hf : EvD ca K W t0 f0) (hld : ∀ x ds, ld x = .ok ds → ∃ ks dvs, x = .dic ks dvs ∧ (ds.length ≤ ks.length)) (hlx : ∀ x n, ld x ≠ .exc n) (hg : TgI ca K tt is g) (ht : EvB ca K W0 tte t) (he : EvD ca K W0 te f) (hsub : ∀ j ∈ is, j ∈ vs) :
    EvM ca K W (tUnlE H00 (tLc wi tt tte te vs)) (lcD (fun ρ => (f0 ρ).bind ld) vs g t f) := by
  subst hw
  intro H0 Fa ts us ρ σ H Q hl E o
  unfold lcD at o
  dsimp only at o
  refine hf H0 Fa ts us ρ σ H _ hl E ?_
  cases ef : f0 ρ with
  | stuck => rw [ef] at o; exact o.elim
  | exc n => rw [ef] at o; exact o
  | ok x =>
    rw [ef] at o
    simp only [bind_ok] at o
    intro v H2 F E2 i fz
    cases el : ld x with
    | stuck => rw [el] at o; exact o.elim
    | exc n => exact absurd el (hlx x n)
    | ok ds =>
      rw [el] at o
      simp only [bind_ok] at o
      cases eC : compD g t f (wipeR vs ρ) ds with
      | stuck => rw [eC] at o; exact o.elim
      | exc n => rw [eC] at o; exact o.elim
      | ok ys =>
        rw [eC] at o
        have o : ∀ v H2, Env ca K H0 Fa (some (.lst (ys.map .dat)) :: (ts ++ ρ)) (some v :: (us ++ σ)) H2 → Q v H2 := o
        obtain ⟨ks, dvs, rfl, hlen⟩ := hld x ds el
        obtain ⟨d, kvs, rfl, hr, ek, r⟩ := is_dic.mp i
        obtain ⟨hdG, hr⟩ := rd_cut hr
        have hdFa : d ∉ Fa := fun z => hdG (List.mem_append_left _ z)
        have hz : ys.length ≤ sizeLine := by
          have z1 := compD_len eC
          have z2 := fz.dT d kvs hr
          have z3 : ks.length = kvs.length := by rw [← ek, List.length_map]
          omega
        refine ⟨d, kvs, rfl, ?_⟩
        have EX := E2.top i
        rcases hr with hr | ⟨od, hr⟩
        · refine .inl ⟨hr, fun hn od Dl hD => ?_⟩
          have E3 := EX.lock (od := od) hr hdG
          have h0 : ∀ u, H0 d = some u → u = .dT kvs := fun u e => by
            have := E2.le.same d u e
            rw [hr] at this
            cases this
            rfl
          refine lc_turns (Q := fun v => Unl H00 (Q v)) (ms := [some (.dat (.dic ks dvs))]) (ws := [some (.ref d)]) (ds := ds) (Jt := J d od kvs) rfl hl (fun pre pus ρ' σ' H' F' j hp E' => hJ _ _ _ _ _ _ _ _ _ _ _ _ pre pus hp el E') hg ht he hsub ⟨F, E3⟩ hD eC hz (fun v H3 E4 => ?_)
          obtain ⟨F4, E4⟩ := E4
          obtain ⟨e4, E5⟩ := E4.free h0 hdFa
          exact .inr ⟨d, od, _, e4, hn, o _ _ ⟨F4, E5⟩⟩
        · refine .inr ⟨od, hr, fun Dl hD => ?_⟩
          have E3 := EX.says hr hdG
          have h0 : ∀ u, H0 d = some u → u = .frz od (.dT kvs) := fun u e => by
            have := E2.le.same d u e
            rw [hr] at this
            cases this
            rfl
          refine lc_turns (Q := fun v => Unl H00 (Q v)) (ms := [some (.dat (.dic ks dvs))]) (ws := [some (.ref d)]) (ds := ds) (Jt := J d od kvs) rfl hl (fun pre pus ρ' σ' H' F' j hp E' => hJ _ _ _ _ _ _ _ _ _ _ _ _ pre pus hp el E') hg ht he hsub ⟨F, E3⟩ hD eC hz (fun v H3 E4 => ?_)
          obtain ⟨F4, E4⟩ := E4
          exact .inl (o _ _ ⟨F4, E4.unsays h0 hdFa (fun z => z.notT rfl)⟩)
structure LcOkD (ca : Str → Option Addr) (X : Cx) (W : WX) (elt tg iter : Expr) (ifs : List Expr) (scope : Scope) (f : Rn → Out M) : Prop where
  ex : ∃ (own : List (Str × Nat)) (wi : TI) (g : TG) (tt : TT) (te : TE), X.calm = true ∧ X.N.Nodup ∧ L2.PI X tg iter wi ∧ BlkOk X.N X.env.scope scope own ∧ (∀ (s : Shared) (H : Hp) (C : Addr) (cl : List (Str × Addr)) (fp : List Addr), PG (X.blk s H scope (compEnvC scope cl C X.env) fp) tg g) ∧
    (∀ (s : Shared) (H : Hp) (C : Addr) (cl : List (Str × Addr)) (fp : List Addr), PTs (X.blk s H scope (compEnvC scope cl C X.env) fp) ifs tt) ∧ (∀ (s : Shared) (H : Hp) (C : Addr) (cl : List (Str × Addr)) (fp : List Addr), PE (X.blk s H scope (compEnvC scope cl C X.env) fp) elt te) ∧
    (∀ x, foldedSetIterable iter X.env x = pure x) ∧ EvM ca X.K W (tUnlE X.H_0 (tLc wi g tt te (own.map (·.2)))) f
theorem lcD_okG {k : Nat} {elt tg iter e0 : Expr} {ifs : List Expr} {scope : Scope} (own : List (Str × Nat)) {is : List Nat} {f0 : Rn → Out D} {g : D → Rn → Out Rn} {t : Rn → Out Bool} {f : Rn → Out D} {J0 : Addr → Obj → List (List Key × V) → It} {ld : D → Out (List D)} (J : JX X W k) (hi : ED ca X W e0 f0) (hJ : OkW ca X.K J0 ld)
    (hpi : ∀ te, PE X e0 te → L2.PI X tg iter (fun σ H R => te σ H fun x H1 => SzF X.K H1 → ∃ d kvs, x = .ref d ∧ LkT X.H_0 H1 d kvs fun o H2 => R (J0 d o kvs) H2))
    (hld : ∀ x ds, ld x = .ok ds → ∃ ks dvs, x = .dic ks dvs ∧ (ds.length ≤ ks.length)) (hlx : ∀ x n, ld x ≠ .exc n) (ok : BlkOk X.N X.env.scope scope own)
    (hg : ∀ (s : Shared) (H : Hp) (C : Addr) (cl : List (Str × Addr)) (fp : List Addr), JX (X.blk s H scope (compEnvC scope cl C X.env) fp) W0 k → TGi ca (X.blk s H scope (compEnvC scope cl C X.env) fp) tg is g)
    (ht : ∀ (s : Shared) (H : Hp) (C : Addr) (cl : List (Str × Addr)) (fp : List Addr), JX (X.blk s H scope (compEnvC scope cl C X.env) fp) W0 k → ETs ca (X.blk s H scope (compEnvC scope cl C X.env) fp) W0 ifs t)
    (he : ∀ (s : Shared) (H : Hp) (C : Addr) (cl : List (Str × Addr)) (fp : List Addr), JX (X.blk s H scope (compEnvC scope cl C X.env) fp) W0 k → ED ca (X.blk s H scope (compEnvC scope cl C X.env) fp) W0 elt f)
    (hsub : ∀ j ∈ is, j ∈ own.map (·.2)) (hs : ∀ x, foldedSetIterable iter X.env x = pure x) :
    LcOkD ca X W elt tg iter ifs scope (lcD (fun ρ => (f0 ρ).bind ld) (own.map (·.2)) g t f) := by
  have jb : ∀ (s : Shared) (H : Hp) (C : Addr) (cl : List (Str × Addr)) (fp : List Addr), JX (X.blk s H scope (compEnvC scope cl C X.env) fp) W0 k := fun s H C cl fp => ⟨J.calm, takes0, J.nd, PassesOwn.never, J.room⟩
  have g1 := fun (z : Shared × Hp × Addr × List (Str × Addr) × List Addr) => hg z.1 z.2.1 z.2.2.1 z.2.2.2.1 z.2.2.2.2 (jb _ _ _ _ _)
  have t1 := fun (z : Shared × Hp × Addr × List (Str × Addr) × List Addr) => ht z.1 z.2.1 z.2.2.1 z.2.2.2.1 z.2.2.2.2 (jb _ _ _ _ _)
  have e1 := fun (z : Shared × Hp × Addr × List (Str × Addr) × List Addr) => he z.1 z.2.1 z.2.2.1 z.2.2.2.1 z.2.2.2.2 (jb _ _ _ _ _)
  obtain ⟨te0, pe0, hf0⟩ := hi
  refine ⟨own, _, fun v σ H Q => ∀ z, Classical.choose (g1 z) v σ H Q, fun σ H Q => ∀ z, Classical.choose (t1 z) σ H Q, fun σ H Q => ∀ z, Classical.choose (e1 z) σ H Q, J.calm, J.nd, hpi te0 pe0, ok, ?_, ?_, ?_, hs, lcT_den hJ (is := is) rfl hf0 hld hlx ?_ ?_ ?_ hsub⟩
  · intro s H C cl fp
    have q := (Classical.choose_spec (g1 (s, H, C, cl, fp))).1
    exact ⟨fun pins s1 σ H1 v u Q I r h => q.run pins s1 σ H1 v u Q I r (h (s, H, C, cl, fp))⟩
  · intro s H C cl fp
    have q := (Classical.choose_spec (t1 (s, H, C, cl, fp))).1
    exact ⟨fun pins s1 σ H1 Q I h => q.run pins s1 σ H1 Q I (h (s, H, C, cl, fp))⟩
  · intro s H C cl fp
    have q := (Classical.choose_spec (e1 (s, H, C, cl, fp))).1
    exact ⟨fun pins s1 σ H1 Q I h => q.run pins s1 σ H1 Q I (h (s, H, C, cl, fp))⟩
  · intro H0 Fa ts us ρ σ H F d v Q hl E i o z
    exact (Classical.choose_spec (g1 z)).2 H0 Fa ts us ρ σ H F d v Q hl E i o
  · intro H0 Fa ts us ρ σ H Q hl E o z
    exact (Classical.choose_spec (t1 z)).2 H0 Fa ts us ρ σ H Q hl E o
  · intro H0 Fa ts us ρ σ H Q hl E o z
    exact (Classical.choose_spec (e1 z)).2 H0 Fa ts us ρ σ H Q hl E o
theorem lz_keys : ∀ x ds, keysD x = .ok ds → ∃ ks dvs, x = .dic ks dvs ∧ ds.length ≤ ks.length := fun x ds h => by
  cases x <;> first | (cases h; exact ⟨_, _, rfl, by rw [List.length_map]; exact Nat.le_refl _⟩) | cases h
theorem lz_items : ∀ x ds, itemsD x = .ok ds → ∃ ks dvs, x = .dic ks dvs ∧ ds.length ≤ ks.length := fun x ds h => by
  cases x <;> first | (cases h; exact ⟨_, _, rfl, by rw [List.length_zipWith]; exact Nat.min_le_left _ _⟩) | cases h
theorem lc_okK {k : Nat} {elt tg iter : Expr} {ifs : List Expr} {scope : Scope} (own : List (Str × Nat)) {is : List Nat} {f0 : Rn → Out D} {g : D → Rn → Out Rn} {t : Rn → Out Bool} {f : Rn → Out D} (J : JX X W k) (hi : ED ca X W iter f0) (ok : BlkOk X.N X.env.scope scope own)
    (hg : ∀ (s : Shared) (H : Hp) (C : Addr) (cl : List (Str × Addr)) (fp : List Addr), JX (X.blk s H scope (compEnvC scope cl C X.env) fp) W0 k → TGi ca (X.blk s H scope (compEnvC scope cl C X.env) fp) tg is g)
    (ht : ∀ (s : Shared) (H : Hp) (C : Addr) (cl : List (Str × Addr)) (fp : List Addr), JX (X.blk s H scope (compEnvC scope cl C X.env) fp) W0 k → ETs ca (X.blk s H scope (compEnvC scope cl C X.env) fp) W0 ifs t)
    (he : ∀ (s : Shared) (H : Hp) (C : Addr) (cl : List (Str × Addr)) (fp : List Addr), JX (X.blk s H scope (compEnvC scope cl C X.env) fp) W0 k → ED ca (X.blk s H scope (compEnvC scope cl C X.env) fp) W0 elt f)
    (hsub : ∀ j ∈ is, j ∈ own.map (·.2)) (hs : ∀ x, foldedSetIterable iter X.env x = pure x := by intro _; rfl) : LcOkD ca X W elt tg iter ifs scope (lcD (itKeys f0) (own.map (·.2)) g t f) :=
  lcD_okG own J hi okW_keys (fun te p => pi_keysT (PE.facts p)) lz_keys lx_keys ok hg ht he hsub hs
theorem lc_okI {k kk : Nat} {elt e0 : Expr} {elts ifs : List Expr} {tpos : Pos} {scope : Scope} (own : List (Str × Nat)) {is : List Nat} {f0 : Rn → Out D} {g : D → Rn → Out Rn} {t : Rn → Out Bool} {f : Rn → Out D} (J : JX X W k) (hi : ED ca X W e0 f0) (ok : BlkOk X.N X.env.scope scope own)
    (hg : ∀ (s : Shared) (H : Hp) (C : Addr) (cl : List (Str × Addr)) (fp : List Addr), JX (X.blk s H scope (compEnvC scope cl C X.env) fp) W0 k → TGi ca (X.blk s H scope (compEnvC scope cl C X.env) fp) (.Tuple elts kk tpos) is g)
    (ht : ∀ (s : Shared) (H : Hp) (C : Addr) (cl : List (Str × Addr)) (fp : List Addr), JX (X.blk s H scope (compEnvC scope cl C X.env) fp) W0 k → ETs ca (X.blk s H scope (compEnvC scope cl C X.env) fp) W0 ifs t)
    (he : ∀ (s : Shared) (H : Hp) (C : Addr) (cl : List (Str × Addr)) (fp : List Addr), JX (X.blk s H scope (compEnvC scope cl C X.env) fp) W0 k → ED ca (X.blk s H scope (compEnvC scope cl C X.env) fp) W0 elt f)
    (hsub : ∀ j ∈ is, j ∈ own.map (·.2)) (hbase : attributeBase e0 "items" X.env (eval e0 X.env) = eval e0 X.env := by rfl) (hline : (apos.endLine == cpos.line) = true := by rfl) (hs : ∀ x, foldedSetIterable (.Call (.Attribute e0 "items" apos) [] [] cpos) X.env x = pure x := by intro _; rfl) :
    LcOkD ca X W elt (.Tuple elts kk tpos) (.Call (.Attribute e0 "items" apos) [] [] cpos) ifs scope (lcD (itItems f0) (own.map (·.2)) g t f) :=
  lcD_okG own J hi okW_items (fun te p => pi_itemsT (PE.facts p) hbase hline) lz_items lx_items ok hg ht he hsub hs
theorem em_lcD1 {elt tg iter : Expr} {ifs : List Expr} {scope : Scope} {f : Rn → Out M} (h : LcOkD ca X W elt tg iter ifs scope f) : EM ca X W (.ListComp elt [⟨tg, iter, ifs, 0⟩] scope pos) f := by
  obtain ⟨own, wi, g, tt, te, h1, h2, h3, h4, h5, h6, h7, h8, h9⟩ := h.ex
  exact ⟨_, pe_unl (pe_lc h1 h2 h3 h4 h5 h6 h7 h8), h9⟩
theorem lcD_frz {elt tg iter : Expr} {ifs : List Expr} {scope : Scope} {f : Rn → Out M} (h : LcOkD ca X W elt tg iter ifs scope f) : LcOkD ca X W elt tg iter ifs scope (toM (toD f)) := by
  obtain ⟨own, wi, g, tt, te, h1, h2, h3, h4, h5, h6, h7, h8, h9⟩ := h.ex
  exact ⟨own, wi, g, tt, te, h1, h2, h3, h4, h5, h6, h7, h8, h9.frz⟩
theorem ss_setLcD (i : Nat) {elt tg iter : Expr} {ifs : List Expr} {scope : Scope} {f : Rn → Out M} {y : Str} {py spos : Pos} (h : LcOkD ca X W elt tg iter ifs scope f) (hy : X.N[i]? = some y := by rfl) (hyl : X.env.scope.names.lookup y = some .local := by rfl)
    (hsw : swapsWith (.ListComp elt [⟨tg, iter, ifs, 0⟩] scope pos) (some (.Name y py)) spos.line X.env = pure true := by exact sw_true rfl rfl rfl (by decide +kernel)) :
    SS ca X W (.Assign [.Name y py] (.ListComp elt [⟨tg, iter, ifs, 0⟩] scope pos) spos) (sSet i f) := by
  obtain ⟨own, wi, g, tt, te, h1, h2, h3, h4, h5, h6, h7, h8, h9⟩ := h.ex
  refine ⟨_, ps_unl (ps_setLc h1 h2 hy hyl hsw h3 h4 h5 h6 h7 h8), fun H0 Fa ts us ρ σ H D hl E o => h9 H0 Fa ts us ρ σ H _ hl E (SPost.ofE o fun m o v H2 E2 => ?_)⟩
  by_cases z : i < ρ.length
  · rw [if_pos z] at o
    refine o _ H2 ?_
    obtain ⟨F, E3⟩ := E2
    have q := E3.store (i := ts.length + i) (by simp; omega)
    rw [drop_set] at q
    rw [hl, drop_set] at q
    exact q
  · rw [if_neg z] at o; exact o.elim
/-! borrowed comprehensions that are stored -/
theorem EvM.bor {K : PySem.W.Frag} {te : TE} {f : Rn → Out M} (h : EvM ca K W te f) : EvM ca K W te (borM f) := by
  intro H0 Fa ts us ρ σ H Q hl ⟨F, E⟩ o
  have ES := E.seen
  rw [erR_app] at ES
  refine h H [] (erR ts) us (erR ρ) σ H Q (by rw [erR_len]; exact hl) ⟨[], ES⟩ (OutE.bind o |>.imp (fun m o v H2 E2 => ?_) fun n q a H2 c E2 => q a H2 c ?_)
  · cases z : immM m with
    | false => rw [z] at o; exact o.elim
    | true =>
      rw [z] at o
      obtain ⟨F2, E2⟩ := E2
      obtain ⟨w', σ', F1, F3, e1, ⟨v', ev, ho⟩, r, e4⟩ := E2.own
      injection e1 with e5 e6
      subst e5 e6
      cases ev
      rw [← erR_app] at r
      have e3 := OwS.none_of r
      subst e3
      rw [List.append_nil] at e4
      subst e4
      have nd2 := E2.nd
      have fr2 := E2.fresh
      refine o v H2 ⟨_, E.push (F' := F2) E2.le (fun a ha => ?_) nd2 fr2 ?_⟩
      · have n := (E.muG a ha).ne
        cases q : H a with
        | none => exact absurd q n
        | some u => exact E2.le.same a u q
      · refine immM_cut (fun a ha => ?_) z ho
        simp only [List.mem_append] at ha
        have EB := E.back E2.le
        rcases ha with ha | ha | ha
        · exact EB.muG a (List.mem_append_left _ ha)
        · exact ho.mu a ha
        · exact EB.muG a (List.mem_append_right _ ha)
  · obtain ⟨F2, E2⟩ := E2
    exact ⟨F, E.back E2.le⟩
theorem lc_bor {elt tg iter : Expr} {ifs : List Expr} {scope : Scope} {f : Rn → Out M} (h : LcOk ca X W elt tg iter ifs scope f) : LcOk ca X W elt tg iter ifs scope (borM f) := by
  obtain ⟨own, wi, g, tt, te, h1, h2, h3, h4, h5, h6, h7, h8, h9⟩ := h.ex
  exact ⟨own, wi, g, tt, te, h1, h2, h3, h4, h5, h6, h7, h8, h9.bor⟩
theorem lcD_bor {elt tg iter : Expr} {ifs : List Expr} {scope : Scope} {f : Rn → Out M} (h : LcOkD ca X W elt tg iter ifs scope f) : LcOkD ca X W elt tg iter ifs scope (borM f) := by
  obtain ⟨own, wi, g, tt, te, h1, h2, h3, h4, h5, h6, h7, h8, h9⟩ := h.ex
  exact ⟨own, wi, g, tt, te, h1, h2, h3, h4, h5, h6, h7, h8, h9.bor⟩
end
end DA
set_option maxHeartbeats 4000000
/-! DN: a method as a value; sorted by such a key -/
namespace DA
open PySem PySem.Spec PyProof.Rows L2
section
variable {ca : Str → Option Addr} {X : Cx} {W : WX} {e a b c tg o k v : Expr} {es : List Expr} {pos p p2 pos2 apos : Pos} {x m : Str}
/-! ### x.m as a value -/
def tBnd (K : PySem.W.Frag) (ta : TE) (m : Str) : TE := fun σ H Q => ta σ H fun x H1 => ∃ a C dx fs g, x = .ref a ∧ H1 a = some (.ins C dx fs) ∧ Cls K C ∧ BMeth K C m g ∧ fs.lookup m = none ∧ ∀ p, H1 p = none → Q (.ref p) (upd H1 p (.met g a))
theorem pe_bnd {ta : TE} (he : PE X e ta) (hb : attributeBase e m X.env (eval e X.env) = eval e X.env) : PE X (.Attribute e m pos) (tBnd X.K ta m) := by
  refine ⟨fun pins s σ H Q I h => ?_⟩
  refine attr_of hb (thn (he.run pins s σ H _ I h) fun u s1 ⟨x, H1, I1, rx, a, C, dx, fs, g, ex, ea, c, k, l, q⟩ => ?_)
  subst ex
  obtain rfl : u = Value.ref a := rx
  exact getbound_ok I1 ea c k l fun p s2 hp I2 => ⟨.ref p, _, I2, rfl, q p hp⟩
/-- the key's call -/
theorem key_turn {A' : Around} {j : Nat} {g q a : Addr} {fd : FuncData} {ps : List Str} {f0 : List D → Out M} {dsv : List Value} {dvs : List V} {dd : List D} {pins : List (Addr × Obj)} {s : Shared} {σ : L2.St} {H : Hp} {G : List Addr} {o x d : D} {xv : V} {u : Value} {E : Value → Shared → Prop}
    (F : FnOk X.prog X.w X.K X.mg X.base (L2.CX X.prog X.w) j g fd ps (PF ca X.K f0)) (hb : Binds X.K fd ps dsv) (hd : Vals dvs dsv) (hdd : ∀ H, IsL ca X.K H dd dvs) (hr : Room j A') (e0 : Env0 X.prog X.w X.K X.mg X.base A' X.stack s H)
    (I : Inv X pins σ H s) (hq : H q = some (.met g a)) (mu : ∀ b ∈ G, Mu (H b)) (i : IsL ca X.K (cut H G) [o, x] [.ref a, xv]) (ru : RelV xv u) (hf : f0 ([o, x] ++ dd) = .ok (.dat d)) :
    wpAny (model X.prog X.w) A' (call (.ref q) [u]) (fun r s' => ∃ v H2, Inv X pins σ H2 s' ∧ RelV v r ∧ Le H H2 ∧ (∀ b ∈ G, H2 b = H b) ∧ Is ca X.K (cut H2 G) d v) E s := by
  have r1 : Vals [V.ref a, xv] [Value.ref a, u] := .cons rfl (.cons ru .nil)
  have r2 : Vals ([V.ref a, xv] ++ dvs) ([Value.ref a, u] ++ dsv) := r1.append hd
  have sp : PF ca X.K f0 ([V.ref a, xv] ++ dvs) H (fun v H2 => Le H H2 ∧ (∀ b ∈ G, H2 b = H b) ∧ Is ca X.K (cut H2 G) d v) (fun _ _ _ => False) := by
    refine ⟨G, [o, x] ++ dd, mu, i.app (hdd _), ?_⟩
    rw [hf]
    intro v H2 ⟨F2, E2⟩
    obtain ⟨E3, i3⟩ := E2.popD
    exact ⟨E3.le, E3.keep, i3.le (le_shrink (fun b hb => List.mem_append_left _ hb) fun b hb => (E3.muG b (List.mem_append_left _ hb)).ne)⟩
  have hl : ([Value.ref a, u] ++ dsv).length = ps.length := by rw [← r2.length]; exact F.len _ _ _ _ sp
  refine wpAny_call (call_met I hq (codeAny_mono (F.run A' X.stack s H ⟨[.ref a, u], []⟩ ([.ref a, u] ++ dsv) ([.ref a, xv] ++ dvs) _ (fun _ _ _ => False) hr e0 (hb s [.ref a, u] I.kIn hl) r2 sp) fun r s' hq => ?_))
  cases r with
  | error e =>
    obtain ⟨_, _, _, _, _, _, _, _, _, _, _, _, z⟩ := hq
    exact z.elim
  | ok fl =>
    cases fl with
    | ret u =>
      obtain ⟨v, H2, I2, rv, q2⟩ := I.after hq
      exact ⟨v, H2, I2, rv, q2⟩
    | next => exact False.elim hq
    | brk => exact False.elim hq
    | cont => exact False.elim hq
/-! ### the order of keys -/
theorem kt_lt : ∀ (xs ys : List Int), PyProof.Rows.lexLt PyProof.Rows.itemOrd (PySem.W.keyToksAll (xs.map .int)) (PySem.W.keyToksAll (ys.map .int)) = HT.lexLt xs ys
  | [], [] => by
    rw [HT.lexLt_nil_nil]
    exact PyProof.Rows.lex_irrefl _
  | [], y :: ys => rfl
  | x :: xs, [] => rfl
  | x :: xs, y :: ys => by
    have ih := kt_lt xs ys
    rw [HT.lexLt_cons]
    simp only [List.map_cons, PySem.W.keyToksAll, PySem.W.keyToks, List.cons_append, List.nil_append]
    rw [PyProof.Rows.lex_cons, PyProof.Rows.lex_cons, ih]
    show (decide ((1 : Int) < 1) || (!decide ((1 : Int) < 1) && (decide (x < y) || (!decide (y < x) && HT.lexLt xs ys)))) = _
    by_cases z : x = y
    · subst z; simp
    · rw [if_neg z]
      by_cases z2 : x < y
      · simp [z2]
      · have : y < x := by omega
        simp [z2, this]
/-! ### the list of keys, made -/
/-- the key object's value: a new tuple of ints, wherever the walk stands -/
def KTurn (X : Cx) (A' : Around) (σ : L2.St) (G : List Addr) (H0 : Hp) (f : Value) (vs : List Value) (ks : List (List Int)) : Prop :=
  ∀ (i : Nat) (v : Value) (key : List Int), vs[i]? = some v → ks[i]? = some key → ∀ (pins : List (Addr × Obj)) (s : Shared) (H : Hp), Le H0 H → (∀ b ∈ G, H b = H0 b) → Inv X pins σ H s →
    wpAny (model X.prog X.w) A' (call f [v]) (fun r s' => ∃ (t : Addr) (H2 : Hp), r = .ref t ∧ Inv X pins σ H2 s' ∧ Le H H2 ∧ (∀ b ∈ G, H2 b = H b) ∧ H2 t = some (.tup (key.map V.int))) (fun _ _ => False) s
def kzOf (ks : List (List Int)) : List PyData := ks.map fun key => .tuple (key.map .int)
theorem kz_depth (l : List Int) : PyData.depth (.tuple (l.map .int)) ≤ 2 := by
  have h : ∀ l : List Int, PyData.depthAll (l.map .int) ≤ 1 := by
    intro l
    induction l with
    | nil => decide
    | cons x r ih =>
      simp only [List.map_cons, PyData.depthAll, PyData.depth]
      omega
  have := h l
  simp only [PyData.depth]
  omega
theorem kz_alike : ∀ xs ys : List Int, PySem.W.alikeAll (xs.map .int) (ys.map .int) = true
  | [], _ => by unfold PySem.W.alikeAll; rfl
  | _ :: _, [] => by unfold PySem.W.alikeAll; rfl
  | x :: xs, y :: ys => by
    simp only [List.map_cons, PySem.W.alikeAll, PySem.W.alike, Bool.true_and]
    exact kz_alike xs ys
theorem kz_all (ks : List (List Int)) : PySem.W.AllAlike (kzOf ks) := by
  intro d hd d' hd'
  obtain ⟨x, _, rfl⟩ := List.mem_map.mp hd
  obtain ⟨y, _, rfl⟩ := List.mem_map.mp hd'
  show PySem.W.alikeAll _ _ = true
  exact kz_alike x y
theorem kz_sort (ks : List (List Int)) (h : ∀ key ∈ ks, key ≠ []) : PySem.W.Sortable (kzOf ks) := by
  refine .inl fun d hd => ?_
  obtain ⟨x, hx, rfl⟩ := List.mem_map.mp hd
  cases x with
  | nil => exact absurd rfl (h _ hx)
  | cons y r => exact ⟨_, _, rfl⟩
theorem reads_ints {h : Heap} : ∀ {its : List Value} {ns : List Int}, Vals (ns.map V.int) its → ReadsAll h its (ns.map .int) []
  | its, [], r => by
    cases r
    exact .nil
  | its, n :: ns, r => by
    cases r with
    | cons h1 h2 =>
      obtain ⟨t, rfl⟩ := h1
      exact .cons (as := []) (bs := []) (.int n t) (reads_ints h2)
theorem tup_reads {pins : List (Addr × Obj)} {σ : L2.St} {H : Hp} {s : Shared} {t : Addr} {ns : List Int} (I : Inv X pins σ H s) (h : H t = some (.tup (ns.map V.int))) : Reads s.heap (.ref t) (.tuple (ns.map .int)) [] := by
  obtain ⟨its, r, ⟨o, ho, hc, n, hd⟩, _⟩ := I.tuple (.inl (.inl h))
  refine .tuple ho hc hd ?_
  rw [List.toList_toArray]
  exact reads_ints r
theorem keys_rest {A' : Around} {σ : L2.St} {G : List Addr} {H0 H : Hp} {f : Value} {vs : List Value} {ks : List (List Int)} {pins : List (Addr × Obj)} {s : Shared} {a kS : Addr} {e1 : Nat} {b : Bool} {P : PySem.Fin → Shared → Prop} {E : Value → Shared → Prop}
    (I : Inv X ((a, seqObj "list" #[] e1) :: pins) σ H s) (fk : FpOk X ((a, seqObj "list" #[] e1) :: pins) H kS) (fa : FpOk X pins H a) (nk : s.heap.get? kS = some (seqObj "list" #[] 0)) (l0 : Le H0 H) (k0 : ∀ b ∈ G, H b = H0 b)
    (hlen : ks.length = vs.length) (hZ : vs.length ≤ sizeLine) (hne : ∀ key ∈ ks, key ≠ []) (hu : A'.units + 2 < cLine) (turn : KTurn X A' σ G H0 f vs ks)
    (fin : ∀ (s2 : Shared) (H2 : Hp) (h' : Heap) (tk : Nat) (out : List Value) (c : Nat), Inv X pins σ H2 { s2 with heap := h', toks := tk } → Le H H2 → (∀ b ∈ G, H2 b = H b) → FpOk X pins H2 a → h'.get? a = some (seqObj "list" (List.toArray out) c) → PySem.W.KeyedOut b (kzOf ks) vs out → P (.done (.ret .none)) { s2 with heap := h', toks := tk }) :
    wpAny (model X.prog X.w) A' (ksk_rest a f b vs.toArray e1 (.ref kS)) P E s := by
  unfold ksk_rest
  refine wpAny_bind (wpAny_rule ?_)
  first
    | rw [List.forIn_toArray]
    | (rw [← Array.forIn_toList]; simp only [List.toList_toArray])
    | rw [← Array.forIn_toList]
  have ffs : ∀ {H' : Hp}, H' kS = none → FpOk X ((a, seqObj "list" #[] e1) :: pins) H' kS := fun hn => ⟨hn, fk.2⟩
  have ffa : ∀ {H' : Hp}, H' a = none → FpOk X pins H' a := fun hn => ⟨hn, fa.2⟩
  have hka : kS ≠ a := fun z => (fk.2.2.2.2.2 (a, seqObj "list" #[] e1) (List.mem_append_right _ List.mem_cons_self)) z.symm
  refine wpAny_bind (ksk_fold (fun i s' => ∃ (H' : Hp) (kA : Array Value) (n : Nat), Inv X ((a, seqObj "list" #[] e1) :: pins) σ H' s' ∧ Le H H' ∧ (∀ b ∈ G, H' b = H b) ∧ H' kS = none ∧ s'.heap.get? kS = some (seqObj "list" kA n) ∧
      PySem.W.EachIs (fun v key => ∃ t, v = .ref t ∧ H' t = some (.tup (key.map V.int))) kA.toList (ks.take i)) vs 0 s ⟨H, #[], 0, I, Le.refl H, fun _ _ => rfl, fk.1, nk, by rw [List.take_zero]; exact .nil⟩ ?step ?done)
  case step =>
    rintro j x s' hx ⟨H', kA, n, I', l', k', hkn, nk', hk⟩
    simp only [Nat.zero_add] at hk ⊢
    have hj : j < vs.length := (List.getElem?_eq_some_iff.mp hx).1
    obtain ⟨key, hkj⟩ : ∃ key, ks[j]? = some key := ⟨_, List.getElem?_eq_getElem (by omega)⟩
    have hz : kA.size ≤ vs.length := by
      have h1 := hk.length
      rw [Array.length_toList, List.length_take] at h1
      omega
    have I1 : Inv X ((kS, seqObj "list" kA n) :: (a, seqObj "list" #[] e1) :: pins) σ H' s' := I'.pins_of fun p hp => by
      rcases List.mem_cons.mp hp with e | e
      · subst e
        exact ⟨nk', hkn, fk.2.1, fk.2.2.1, fun v z => nomatch z⟩
      · exact I'.pin p (List.mem_append_right _ e)
    refine wpAny_bind (wpAny_attempt (wpAny_mono (turn j x key hx hkj _ s' H' (l0.trans l') (fun b hb => (k' b hb).trans (k0 b hb)) I1) (fun v s'' he => ?_) fun _ _ hF => hF.elim))
    obtain ⟨t, H2, rfl, I2, l2, k2, ht⟩ := he
    try dsimp only
    have nk2 : s''.heap.get? kS = some (seqObj "list" kA n) := ClX.pin_at I2
    have hkn2 : H2 kS = none := ClX.pin_un I2
    have I3 : Inv X ((a, seqObj "list" #[] e1) :: pins) σ H2 s'' := ClX.unpin I2
    have s1 := Heap.SameBut.update s''.heap kS (Obj.mapSeq (·.push (Value.ref t)))
    obtain ⟨c2, hc2⟩ : ∃ c2, (s''.heap.update kS (Obj.mapSeq (·.push (Value.ref t)))).get? kS = some (seqObj "list" (kA.push (Value.ref t)) c2) := ⟨_, get?_update_seq nk2 (·.push (Value.ref t))⟩
    have ek : ks.take (j + 1) = ks.take j ++ [key] := by rw [List.take_add_one, hkj]; simp
    have ea : (kA.push (Value.ref t)).toList = kA.toList ++ [Value.ref t] := by simp
    have I4 : Inv X ((a, seqObj "list" #[] e1) :: pins) σ H2 { s'' with heap := s''.heap.update kS (Obj.mapSeq (·.push (Value.ref t))), toks := s''.toks } := I3.turnedL (ch := [kS]) (fun b o hb e => (s1.2 b (by simpa using hb)).trans e) (fun b hb => by
      obtain rfl : b = kS := by simpa using hb
      exact ffs hkn2)
    refine wpAny_bind (listUpdate_at nk2 rfl ?_ (Nat.le_trans hz hZ) (Nat.le_trans (Nat.le_of_eq (Array.size_push ..)) (Nat.succ_le_succ (Nat.le_trans hz hZ))))
    refine wpAny_pure ⟨rfl, H2, kA.push (.ref t), c2, I4, l'.trans l2, fun b hb => (k2 b hb).trans (k' b hb), hkn2, hc2, ?_⟩
    rw [ea, ek]
    exact PySem.W.each_snoc ⟨t, rfl, ht⟩ (hk.mono fun u key' q => by
      obtain ⟨t', e', h'⟩ := q
      exact ⟨t', e', l2.same _ _ h'⟩)
  case done =>
    rintro s' ⟨H', kA, n, I', l', k', hkn, nk', hk⟩
    have e3 : ks.take (0 + vs.length) = ks := List.take_of_length_le (by omega)
    rw [e3] at hk
    have hk' : PySem.W.EachIs (fun v d => ∃ as, Reads s'.heap v d as) kA.toList (kzOf ks) := PySem.W.each_map (fun key : List Int => PyData.tuple (key.map .int)) (hk.mono fun v key q => by
      obtain ⟨t, rfl, ht⟩ := q
      exact ⟨[], tup_reads I' ht⟩)
    have hsz : kA.size = vs.length := by
      have h1 := hk.length
      rw [Array.length_toList] at h1
      omega
    have na' : s'.heap.get? a = some (seqObj "list" #[] e1) := ClX.pin_at I'
    have han : H' a = none := ClX.pin_un I'
    have I2 : Inv X pins σ H' s' := ClX.unpin I'
    obtain ⟨Gh, g1, g2⟩ := L2.restrict s'.heap fun b => !decide (b = kS)
    try dsimp only
    refine wpAny_bind (listItems_at nk' rfl ?_)
    refine PySem.W.keyH_end (κ := PySem.W.dataKind s'.heap (kzOf ks)) (h₁ := Gh) (fun b o _ z => ?_) (g2 kS (by simp)) nk' na' hka (PySem.W.SortsAt.data hk' (kz_all ks) (kz_sort ks hne) fun d hd => ?_) hsz hZ fun h3 tk3 c k3 n3 => ?_
    · by_cases hb : b = kS
      · subst hb
        rw [g2 b (by simp)] at z; cases z
      · rw [← g1 b (by simp [hb])]; exact z
    · obtain ⟨key, _, rfl⟩ := List.mem_map.mp hd
      have := kz_depth key
      omega
    · have I3 : Inv X pins σ H' { s' with heap := h3, toks := tk3 } := I2.turnedL (ch := [kS, a]) (fun b o hb e => by
        have hb' : b ≠ kS ∧ b ≠ a := by simpa using hb
        exact k3 b o hb'.2 ((g1 b (by simp [hb'.1])).trans e)) (fun b hb => by
        rcases List.mem_cons.mp hb with rfl | hb
        · exact ⟨hkn, fk.2.1, fk.2.2.1, fk.2.2.2.1, fk.2.2.2.2.1, fun p hp => fk.2.2.2.2.2 p (by
            rcases List.mem_append.mp hp with z | z
            · exact List.mem_append_left _ z
            · exact List.mem_append_right _ (List.mem_cons_of_mem _ z))⟩
        · obtain rfl : b = a := by simpa using hb
          exact ffa han)
      exact fin s' H' h3 tk3 _ c I3 l' k' (ffa han) n3 ⟨s'.heap, kA.toList, kz_all ks, rfl, hk'⟩
/-! ### sorted(xs, key=f), sorted(xs, key=f, reverse=b) -/
def leK (b : Bool) (p q : D × List Int) : Bool := cond b (!HT.lexLt p.2 q.2) (!HT.lexLt q.2 p.2)
def sortD (b : Bool) (ds : List D) (ks : List (List Int)) : List D := ((ds.zip ks).mergeSort (leK b)).map (·.1)
theorem dataLe_leK (b : Bool) : PySem.W.dataLe b (fun p : D × List Int => PyData.tuple (p.2.map .int)) = leK b := by
  funext p q
  show cond b (!PyProof.Rows.lexLt itemOrd (PySem.W.keyToksAll _) (PySem.W.keyToksAll _)) (!PyProof.Rows.lexLt itemOrd (PySem.W.keyToksAll _) (PySem.W.keyToksAll _)) = _
  rw [kt_lt, kt_lt]
  rfl
theorem each_is {K : PySem.W.Frag} {H : Hp} : ∀ {ds : List D} {xs : List V} {its : List Value} {ks : List (List Int)}, IsL ca K H ds xs → Vals xs its → ks.length = xs.length →
    PySem.W.EachIs (fun u (p : D × List Int) => ∃ x, RelV x u ∧ Is ca K H p.1 x) its (ds.zip ks)
  | [], xs, its, ks, i, r, hl => by
    have := isL_nil.mp i
    subst this
    cases r
    exact .nil
  | d :: ds, xs, its, ks, i, r, hl => by
    obtain ⟨v, vs, rfl, i1, i2⟩ := isL_cons.mp i
    cases r with
    | cons h1 h2 =>
      cases ks with
      | nil => simp at hl
      | cons k ks => exact .cons ⟨v, h1, i1⟩ (each_is i2 h2 (by simpa using hl))
theorem is_each {K : PySem.W.Frag} {H : Hp} : ∀ {ps : List (D × List Int)} {out : List Value}, PySem.W.EachIs (fun u (p : D × List Int) => ∃ x, RelV x u ∧ Is ca K H p.1 x) out ps → ∃ ws : List V, Vals ws out ∧ IsL ca K H (ps.map (·.1)) ws
  | [], _, .nil => ⟨[], .nil, isL_nil.mpr rfl⟩
  | p :: ps, _, .cons ⟨x, rx, ix⟩ t => by
    obtain ⟨ws, r, i⟩ := is_each t
    exact ⟨x :: ws, .cons rx r, IsL.cons ix i⟩
theorem sortK_run {σ : L2.St} {G : List Addr} {H : Hp} {f : Value} {ks : List (List Int)} {pins : List (Addr × Obj)} {s : Shared} {l : Addr} {xs : List V} {ds : List D} {b : Bool} {kw : List (Str × Value)} {Q : VK} (I : Inv X pins σ H s) (hs : SqL X.K H l xs)
    (ha1 : argsOk "sorted" ⟨[.ref l], kw⟩) (ha2 : ∀ x, argsOk "list.sort" ⟨[.ref x], kw⟩) (ht : ∀ x, Builtin.«list.sort» ⟨[.ref x], kw⟩ = ksk_tree x f b) (hlen : ks.length = xs.length) (hne : ∀ key ∈ ks, key ≠ []) (hu : X.A.units + 8 < cLine)
    (turn : ∀ vs, Vals xs vs → KTurn X X.A.in1.in1 σ G H f vs ks) (mu : ∀ b ∈ G, Mu (H b)) (il : IsL ca X.K (cut H G) ds xs)
    (q : ∀ (H2 : Hp) (p : Addr) (ws : List V), Le H H2 → (∀ b ∈ G, H2 b = H b) → H2 p = none → IsL ca X.K (cut H2 G) (sortD b ds ks) ws → Q (.ref p) (upd H2 p (.lst ws))) :
    wpAny (model X.prog X.w) X.A (call (.builtin "sorted") [.ref l] kw) (EP X pins σ Q) X.xe s := by
  obtain ⟨its, rv, hl, hz⟩ := I.list hs
  have hZ : its.length ≤ sizeLine := by rw [← rv.length]; exact hz
  refine PySem.W.sorted_of_sort hl.isList hZ ha1 ha2 fun E' => ?_
  rw [ht]
  have ho := PySem.W.copyHeap_at s.heap its
  obtain ⟨hc, ehc⟩ : ∃ hc, hc = PySem.W.copyHeap s.heap its := ⟨_, rfl⟩
  obtain ⟨a, ea⟩ : ∃ a, a = s.heap.objs.size + 1 := ⟨_, rfl⟩
  have hold : ∀ b o, s.heap.get? b = some o → hc.get? b = some o := fun b o z => by rw [ehc]; exact PySem.W.copyHeap_old z
  rw [← ehc, ← ea] at ho ⊢
  have ha : s.heap.objs.size ≤ a := by omega
  have haz : a < hc.objs.size := Heap.lt_size ho
  obtain ⟨e1, ho1⟩ : ∃ e1, (hc.update a (Obj.mapSeq fun _ => (#[] : Array Value))).get? a = some (seqObj "list" #[] e1) := ⟨_, get?_update_seq ho fun _ => #[]⟩
  have hkS : ((hc.update a (Obj.mapSeq fun _ => (#[] : Array Value))).push (seqObj "tuple" its.toArray 0)).objs.size = hc.objs.size + 1 := by rw [size_push', Heap.size_update]
  have kp : PySem.W.KeepsBut a hc (PySem.W.sortingHeap hc a its) := fun b o hb q => PySem.W.sortingHeap_old hb q
  have hup : ∀ b o, s.heap.get? b = some o → (((hc.update a (Obj.mapSeq fun _ => (#[] : Array Value))).push (seqObj "tuple" its.toArray 0)).push (seqObj "list" #[] 0)).get? b = some o := fun b o z => kp b o (Nat.ne_of_lt (Nat.lt_of_lt_of_le (Heap.lt_size z) ha)) (hold b o z)
  unfold ksk_tree
  refine wpAny_bind (listItems_at ho rfl ?_)
  refine wpAny_bind (listUpdate_at ho rfl ?_ (by rw [List.size_toArray]; exact hZ) (Nat.zero_le _))
  refine wpAny_bind (seqEpoch_at ho1 rfl ?_)
  refine wpAny_bind (wpAny_newTuple ?_ (by show its.length ≤ _; exact hZ))
  refine wpAny_bind (wpAny_newList ?_ (Nat.zero_le _))
  refine wpAny_holding ?_
  have hs0 : s.heap.objs.size ≤ ((hc.update a (Obj.mapSeq fun _ => (#[] : Array Value))).push (seqObj "tuple" its.toArray 0)).objs.size := by rw [hkS]; omega
  have hak : a ≠ ((hc.update a (Obj.mapSeq fun _ => (#[] : Array Value))).push (seqObj "tuple" its.toArray 0)).objs.size := by rw [hkS]; omega
  have I0 : Inv X pins σ H { s with heap := ((hc.update a (Obj.mapSeq fun _ => (#[] : Array Value))).push (seqObj "tuple" its.toArray 0)).push (seqObj "list" #[] 0), toks := s.toks } := I.kept hup
  have I1 : Inv X ((a, seqObj "list" #[] e1) :: pins) σ H { s with heap := ((hc.update a (Obj.mapSeq fun _ => (#[] : Array Value))).push (seqObj "tuple" its.toArray 0)).push (seqObj "list" #[] 0), toks := s.toks } := I0.pins_of fun p hp => by
    rcases List.mem_cons.mp hp with e | e
    · subst e
      exact ⟨Heap.get?_push_of_some _ (Heap.get?_push_of_some _ ho1), I.hok.fresh ha, Nat.ne_of_gt (Nat.lt_of_lt_of_le I.lt ha), I.nofs ha, fun v z => nomatch z⟩
    · exact I0.pin p (List.mem_append_right _ e)
  have fa : FpOk X pins H a := I.fpOk ha (I.hok.fresh ha)
  have fk0 := I.fpOk hs0 (I.hok.fresh hs0)
  have fk : FpOk X ((a, seqObj "list" #[] e1) :: pins) H _ := ⟨fk0.1, fk0.2.1, fk0.2.2.1, fk0.2.2.2.1, fk0.2.2.2.2.1, fun p hp => by
    rcases List.mem_append.mp hp with z | z
    · exact fk0.2.2.2.2.2 p (List.mem_append_left _ z)
    · rcases List.mem_cons.mp z with z | z
      · subst z
        exact hak
      · exact fk0.2.2.2.2.2 p (List.mem_append_right _ z)⟩
  refine keys_rest (H0 := H) I1 fk fa (Heap.get?_push_size _ rfl) (Le.refl H) (fun _ _ => rfl) (by rw [← rv.length]; exact hlen) hZ hne (by show X.A.units + _ + _ + _ < _; omega) (turn its rv) fun s2 H2 h' tk out c I2 l2 k2 fa2 na ko => ⟨rfl, ?_⟩
  have ez : (ds.zip ks).map (fun p : D × List Int => PyData.tuple (p.2.map .int)) = kzOf ks := by
    unfold kzOf
    rw [show (fun p : D × List Int => PyData.tuple (p.2.map .int)) = (fun key : List Int => PyData.tuple (key.map .int)) ∘ Prod.snd from rfl, ← List.map_map, List.map_snd_zip (by rw [il.len, hlen]; exact Nat.le_refl _)]
  rw [← ez] at ko
  have e1 := PySem.W.keyedOut_each _ ko (each_is il rv hlen)
  rw [dataLe_leK] at e1
  obtain ⟨ws, rw', iw⟩ := is_each e1
  have lw : ws.length ≤ sizeLine := by
    rw [← iw.len, List.length_map, List.length_mergeSort, List.length_zip]
    have : ds.length = xs.length := il.len
    omega
  have lc : Le (cut H G) (cut H2 G) := l2.cut (fun _ n _ => n) fun b hb => by rw [k2 b hb]; exact (mu b hb).ne
  exact ⟨.ref a, _, Inv.take (s := { s2 with heap := h', toks := tk }) (h' := h') (t' := tk) (o := .lst ws) I2 (fun _ _ _ z => z) fa2 ⟨lw, _, c, rw', na⟩, rfl, q H2 a ws l2 k2 fa2.1 (iw.le lc)⟩
end
end DA
set_option maxHeartbeats 4000000
/-! DO: max by such a key -/
namespace PySem
open PySem
/-- what max's key= needs, with a ghost: J0 at the start, J i k where k is the key of the i-th item (the best one so far) -/
structure KeyG (prog : Program) (w : World) (A : Around) (q : Value) (S : Addr) (wr : List Addr) (G : Array GenState → Array GenState → Prop) (n : Nat) (P : Nat → Value → Prop) (St : Nat → Shared → Prop) (J0 : Shared → Prop) (J : Nat → Value → Shared → Prop) (bt : Nat → Nat → Bool) : Prop where
  keep0 : ∀ s s', J0 s → Moved (S :: wr) G s s' → J0 s'
  keep : ∀ i k s s', J i k s → Moved (S :: wr) G s s' → J i k s'
  first : ∀ v (s : Shared) (o : Obj) (Q : Value → Shared → Prop) (E : Value → Shared → Prop), P 0 v → J0 s → St 1 s → s.heap.get? S = some o →
    (∀ v, o.data ≠ .cell v) → (∀ k s', J 0 k s' → St 1 s' → s'.heap.get? S = some o → Q k s') → wpAny (model prog w) A (call q [v]) Q E s
  turn : ∀ i bi kb v (s : Shared) (o : Obj) (Q : Value → Shared → Prop) (E : Value → Shared → Prop), i < n → P i v → J bi kb s → St (i + 1) s → s.heap.get? S = some o →
    (∀ v, o.data ≠ .cell v) → (∀ k s', J i k s' → J bi kb s' → St (i + 1) s' → s'.heap.get? S = some o → Q k s') → wpAny (model prog w) A (call q [v]) Q E s
  cmp : ∀ i j ki kj (s : Shared) (Q : Value → Shared → Prop) (E : Value → Shared → Prop), J i ki s → J j kj s → Q (.bool (bt i j)) s → wpAny (model prog w) A (richCompare .Gt ki kj) Q E s
section
variable {prog : Program} {w : World} {A : Around} {R : Result → Shared → Prop} {I : Addr} {fp wr : List Addr} {G : Array GenState → Array GenState → Prop} {n : Nat} {P : Nat → Value → Prop} {St : Nat → Shared → Prop} {J0 : Shared → Prop} {J : Nat → Value → Shared → Prop} {bt : Nat → Nat → Bool} {q : Addr}
theorem maxG_loop (W : WalksS prog w A.in1 I fp wr G n P St) (S : Addr) (hSf : S ∉ fp) (K : KeyG prog w A.in1 (.ref q) S wr G n P St J0 J bt) (kw : List (Str × Value)) :
    ∀ (k j : Nat) (s : Shared) (vb kb : Value) (c : Nat), n - (j + 1) = k → j + 1 ≤ n → J (argBest bt j) kb s → St (j + 1) s → P (argBest bt j) vb →
    s.heap.get? S = some { cls := .type "list", dict := none, data := .seq #[vb, kb] c, slots := #[] } →
    (∀ v kv s', P (argBest bt (n - 1)) v → J (argBest bt (n - 1)) kv s' → R (.ok (.ret v)) s') → codeAny (model prog w) A (.builtin "max.loop" ⟨[.ref I, (.ref q), .ref S], kw⟩) R s := by
  have hSw : S ∉ wr := fun h => hSf (W.sub _ h)
  have hsub : ∀ b ∈ wr, b ∈ S :: wr := fun b hb => List.mem_cons_of_mem _ hb
  have hname : (toString "max" ++ toString ".loop" : String) = "max.loop" := by decide
  have notS : ∀ {b : Addr}, b ∉ S :: wr → S ≠ b := fun hb h => hb (by rw [h]; exact List.mem_cons_self)
  intro k
  induction k with
  | zero =>
    intro j s vb kb c hk hj hJ hst hPb hS hR
    have hin : j + 1 = n := by omega
    refine codeAny_builtin F.entry_max_loop ?_
    rw [Around.under_plainId F.plain_max_loop _]
    show wpAny _ A.in1 (seqItems? (.ref S) >>= _) _ _ s
    refine wpAny_bind (wpAny_seqItems hS rfl ?_)
    show wpAny _ A.in1 (tryCatch (pyNext (.ref I)) _ >>= _) _ _ s
    refine wpAny_bind (wpAny_tryCatch (W.done s _ _ (hin ▸ hst) fun s' hm => ?_))
    have hS' := hm.heap S _ hSw hS
    show wpAny _ A.in1 (updateSeq S (fun _ => #[]) >>= _) _ _ _
    refine wpAny_bind ?_
    refine wpAny_updateSeq hS' rfl (wpAny_bind (wpAny_letGo (wpAny_pure ?_)))
    exact hR vb kb _ (by rw [← hin]; exact hPb) (by rw [← hin]; exact K.keep _ _ _ _ hJ ((hm.mono hsub).then_heap (tk := s'.toks) (Nat.le_refl _) fun b o hb e => (Heap.get?_update_other _ _ (notS hb)).trans e))
  | succ k ih =>
    intro j s vb kb c hk hj hJ hst hPb hS hR
    have hlt : j + 1 < n := by omega
    refine codeAny_builtin F.entry_max_loop ?_
    rw [Around.under_plainId F.plain_max_loop _]
    show wpAny _ A.in1 (seqItems? (.ref S) >>= _) _ _ s
    refine wpAny_bind (wpAny_seqItems hS rfl ?_)
    show wpAny _ A.in1 (tryCatch (pyNext (.ref I)) _ >>= _) _ _ s
    refine wpAny_bind (wpAny_tryCatch (W.item (j + 1) s _ _ hlt hst fun v s' hP hst' hm => ?_))
    have hS' := hm.heap S _ hSw hS
    have hJ' := K.keep _ _ _ _ hJ (hm.mono hsub)
    show wpAny _ A.in1 (tryCatch (holding [v] (call (.ref q) [v])) _ >>= _) _ _ _
    refine wpAny_bind (wpAny_tryCatch (wpAny_holding (K.turn (j + 1) _ kb v s' _ _ _ hlt hP hJ' hst' hS' (fun v z => nomatch z) fun kx s'' hJ2 hJb hst2 hS2 => ?_)))
    show wpAny _ A.in1 (tryCatch (holding [v, kx] (richCompare .Gt kx kb >>= _)) _ >>= _) _ _ _
    refine wpAny_bind (wpAny_tryCatch (wpAny_holding (wpAny_bind (K.cmp (j + 1) (argBest bt j) kx kb s'' _ _ hJ2 hJb ?_))))
    refine wpAny_bind (wpAny_holding (wpAny_truthy_bool ?_))
    refine wpAny_bind (wpAny_letGo (wpAny_pure ?_))
    cases hb : bt (j + 1) (argBest bt j) with
    | true =>
      simp only [if_true]
      refine wpAny_bind ?_
      refine wpAny_updateSeq hS2 rfl (wpAny_bind (wpAny_letGo ?_))
      rw [hname]
      have hm2 : Moved (S :: wr) G s'' { s'' with heap := s''.heap.update S (Obj.mapSeq fun _ => #[v, kx]), toks := s''.toks } := (Moved.refl W.grefl).then_heap (tk := s''.toks) (Nat.le_refl _) fun b o hb e => (Heap.get?_update_other _ _ (notS hb)).trans e
      refine wpAny_pure ⟨plainId_quiet F.plain_max_loop _, ih (j + 1) _ v kx _ (by omega) hlt (by simp only [argBest, hb, if_true]; exact K.keep _ _ _ _ hJ2 hm2) (W.frame _ s'' _ s''.toks hst2 (Nat.le_refl _) fun b hbf o e => ?_) (by simp only [argBest, hb, if_true]; exact hP) (Heap.get?_update_self _ hS2 rfl) hR⟩
      exact (Heap.get?_update_other _ _ (fun h : S = b => hSf (by rw [h]; exact hbf))).trans e
    | false =>
      simp only [Bool.false_eq_true, if_false]
      refine wpAny_bind (wpAny_letGo ?_)
      rw [hname]
      exact wpAny_pure ⟨plainId_quiet F.plain_max_loop _, ih (j + 1) _ vb kb c (by omega) hlt (by simp only [argBest, hb, Bool.false_eq_true, if_false]; exact hJb) hst2 (by simp only [argBest, hb, Bool.false_eq_true, if_false]; exact hPb) hS2 hR⟩
theorem maxG_first (W : WalksS prog w A.in1 I fp wr G n P St) (S : Addr) (hSf : S ∉ fp) (K : KeyG prog w A.in1 (.ref q) S wr G n P St J0 J bt) (kw : List (Str × Value)) (hn : 0 < n) {s : Shared} {c : Nat} (hJ : J0 s) (hst : St 0 s)
    (hS : s.heap.get? S = some { cls := .type "list", dict := none, data := .seq #[] c, slots := #[] })
    (hR : ∀ v kv s', P (argBest bt (n - 1)) v → J (argBest bt (n - 1)) kv s' → R (.ok (.ret v)) s') : codeAny (model prog w) A (.builtin "max.loop" ⟨[.ref I, (.ref q), .ref S], kw⟩) R s := by
  have hSw : S ∉ wr := fun h => hSf (W.sub _ h)
  have hsub : ∀ b ∈ wr, b ∈ S :: wr := fun b hb => List.mem_cons_of_mem _ hb
  have hname : (toString "max" ++ toString ".loop" : String) = "max.loop" := by decide
  have notS : ∀ {b : Addr}, b ∉ S :: wr → S ≠ b := fun hb h => hb (by rw [h]; exact List.mem_cons_self)
  refine codeAny_builtin F.entry_max_loop ?_
  rw [Around.under_plainId F.plain_max_loop _]
  show wpAny _ A.in1 (seqItems? (.ref S) >>= _) _ _ s
  refine wpAny_bind (wpAny_seqItems hS rfl ?_)
  show wpAny _ A.in1 (tryCatch (pyNext (.ref I)) _ >>= _) _ _ s
  refine wpAny_bind (wpAny_tryCatch (W.item 0 s _ _ hn hst fun v s' hP hst' hm => ?_))
  have hS' := hm.heap S _ hSw hS
  have hJ' := K.keep0 _ _ hJ (hm.mono hsub)
  show wpAny _ A.in1 (tryCatch (holding [v] (call (.ref q) [v])) _ >>= _) _ _ _
  refine wpAny_bind (wpAny_tryCatch (wpAny_holding (K.first v s' _ _ _ hP hJ' hst' hS' (fun v z => nomatch z) fun kx s'' hJ2 hst2 hS2 => ?_)))
  show wpAny _ A.in1 (updateSeq S (fun _ => #[v, kx]) >>= _) _ _ _
  refine wpAny_bind ?_
  refine wpAny_updateSeq hS2 rfl ?_
  rw [hname]
  have hm2 : Moved (S :: wr) G s'' { s'' with heap := s''.heap.update S (Obj.mapSeq fun _ => #[v, kx]), toks := s''.toks } := (Moved.refl W.grefl).then_heap (tk := s''.toks) (Nat.le_refl _) fun b o hb e => (Heap.get?_update_other _ _ (notS hb)).trans e
  refine wpAny_pure ⟨plainId_quiet F.plain_max_loop _, maxG_loop W S hSf K kw _ 0 _ v kx _ rfl hn (K.keep _ _ _ _ hJ2 hm2) (W.frame _ s'' _ s''.toks hst2 (Nat.le_refl _) fun b hbf o e => ?_) hP (Heap.get?_update_self _ hS2 rfl) hR⟩
  exact (Heap.get?_update_other _ _ (fun h : S = b => hSf (by rw [h]; exact hbf))).trans e
/-- max(x, key=f) over anything that is walked -/
theorem call_maxG {E : Value → Shared → Prop} {s : Shared} {x : Value} {Q : Value → Shared → Prop}
    (h : wpAny (model prog w) A.in1 (pyIter x) (fun it s₂ => ∃ I fp wr G n P St J0 J bt, it = .ref I ∧ WalksS prog w A.in1 I fp wr G n P St ∧ St 0 s₂ ∧ (∀ b ∈ fp, b < s₂.heap.objs.size) ∧ 0 < n ∧ 
      KeyG prog w A.in1 (.ref q) s₂.heap.objs.size wr G n P St J0 J bt ∧ J0 s₂ ∧ ∀ v kv s', P (argBest bt (n - 1)) v → J (argBest bt (n - 1)) kv s' → Q v s') E s) :
    wpAny (model prog w) A (call (.builtin "max") [x] [(Str.ofString "key", .ref q)]) Q E s := by
  have hname : (toString "max" ++ toString ".loop" : String) = "max.loop" := by decide
  refine PyProof.Rows.kmk_tree F.kind_max F.plain_max F.entry_max (PyProof.Rows.kmk_max_key _ _) ?_
  show wpAny _ A.in1 (Builtin.Builtins.bindParams "max" ["key", "default"] 0 ⟨[], [(Str.ofString "key", .ref q)]⟩ >>= _) _ _ s
  refine wpAny_bind (wpAny_of_eq (show Builtin.Builtins.bindParams "max" ["key", "default"] 0 ⟨[], [(Str.ofString "key", .ref q)]⟩ = pure [some (.ref q), none] from rfl) ?_)
  refine wpAny_bind (wpAny_pure ?_)
  refine wpAny_bind (wpAny_mono h (fun it s₂ h₂ => ?_) fun _ _ e => e)
  obtain ⟨I, fp, wr, G, n, P, St, J0, J, bt, rfl, W, hst, hfp, hn, K, hJ, hQ⟩ := h₂
  refine wpAny_bind (wpAny_newObj_type ?_)
  have hSf : s₂.heap.objs.size ∉ fp := fun hm => Nat.lt_irrefl _ (hfp _ hm)
  rw [hname]
  have hm0 : Moved (s₂.heap.objs.size :: wr) G s₂ { s₂ with heap := s₂.heap.push { cls := .type "list", data := .seq #[] 0 }, toks := s₂.toks } := (Moved.refl W.grefl).then_heap (tk := s₂.toks) (Nat.le_refl _) fun b o _ e => Heap.get?_push_of_some _ e
  have hst' := W.frame 0 s₂ (s₂.heap.push { cls := .type "list", data := .seq #[] 0 }) s₂.toks hst (Nat.le_refl _) fun b _ o e => Heap.get?_push_of_some _ e
  exact wpAny_pure ⟨plainId_quiet F.plain_max_loop _, maxG_first W s₂.heap.objs.size hSf K _ hn (K.keep0 _ _ hJ hm0) hst' (Heap.get?_push_size _ rfl) hQ⟩
end
end PySem
namespace DA
open PySem PySem.Spec PyProof.Rows L2
section
variable {ca : Str → Option Addr} {X : Cx} {W : WX} {e a b c tg o k v : Expr} {es : List Expr} {pos p p2 pos2 apos : Pos} {x m : Str}
/-- a list walked, its items told by their V's -/
theorem walk_vals {prog : Program} {w : World} {A : Around} (hh : A.handled = none) (I l : Addr) (hne : l ≠ I) (xs : List V) :
    Walks prog w A I [I, l] [I] xs.length (fun i v => ∃ x, xs[i]? = some x ∧ RelV x v) (fun i h => ∃ its, Vals xs its ∧ h.IsListIter I l i ∧ h.IsList l its.toArray) where
  sub := fun b hb => by simp at hb; simp [hb]
  frame := fun i h h' ⟨its, r, st⟩ hk => ⟨its, r, (Walks.list (prog := prog) (w := w) (A := A) hh I l hne its.toArray).frame i h h' st hk⟩
  item := fun i s Q E hi ⟨its, r, st⟩ hQ => by
    have hs : its.toArray.size = xs.length := by rw [List.size_toArray]; exact r.length.symm
    refine (Walks.list (prog := prog) (w := w) (A := A) hh I l hne its.toArray).item i s Q E (by omega) st fun v h' tk hv st' hk => ?_
    have hv' : its[i]? = some v := by simpa using hv
    obtain ⟨x, hx⟩ : ∃ x, xs[i]? = some x := ⟨_, List.getElem?_eq_getElem hi⟩
    obtain ⟨u, hu, rx⟩ := Vals.get r hx
    rw [hv'] at hu
    cases hu
    exact hQ v h' tk ⟨x, hx, rx⟩ ⟨its, r, st'⟩ hk
  done := fun s Q E ⟨its, r, st⟩ hQ => by
    have hs : its.toArray.size = xs.length := by rw [List.size_toArray]; exact r.length.symm
    exact (Walks.list (prog := prog) (w := w) (A := A) hh I l hne its.toArray).done s Q E (by rw [hs]; exact st) hQ
  self := fun i s Q E ⟨its, r, st⟩ hQ => (Walks.list (prog := prog) (w := w) (A := A) hh I l hne its.toArray).self i s Q E st hQ
theorem set_same {α : Type} : ∀ {l : List α} {i : Nat} {x : α}, l[i]? = some x → l.set i x = l
  | [], i, x, h => by simp at h
  | y :: l, 0, x, h => by
    have : some y = some x := by simpa using h
    cases this
    rfl
  | y :: l, i + 1, x, h => by
    show y :: l.set i x = y :: l
    rw [set_same (l := l) (by simpa using h)]
/-- the best one, the first of its kind -/
def bestI (ks : List (List Int)) (i j : Nat) : Bool := HT.lexLt (ks.getD j []) (ks.getD i [])
theorem maxK_run {σ : L2.St} {G : List Addr} {H : Hp} {q : Addr} {ks : List (List Int)} {pins : List (Addr × Obj)} {s : Shared} {l : Addr} {xs : List V} {Q : VK} (I : Inv X pins σ H s) (hc : X.calm = true) (hs : SqL X.K H l xs)
    (hlen : ks.length = xs.length) (hne : 0 < xs.length) (hu : X.A.units + 8 < cLine)
    (turn : ∀ vs, Vals xs vs → KTurn X X.A.in1 σ G H (.ref q) vs ks)
    (fin : ∀ (H2 : Hp) (x : V), Le H H2 → (∀ b ∈ G, H2 b = H b) → xs[argBest (bestI ks) (xs.length - 1)]? = some x → Q x H2) :
    wpAny (model X.prog X.w) X.A (call (.builtin "max") [.ref l] [(Str.ofString "key", .ref q)]) (EP X pins σ Q) X.xe s := by
  have hh : X.A.in1.handled = none := I.ok.hd hc
  obtain ⟨its0, rv0, hl0, hz0⟩ := I.list hs
  have hll : l < s.heap.objs.size := by
    obtain ⟨o, n, ho, _⟩ := hl0
    exact Heap.lt_size ho
  refine call_maxG (wpAny_pyIter_list hl0.isList ?_)
  have hlI : l ≠ s.heap.objs.size := Nat.ne_of_lt hll
  obtain ⟨it, eit⟩ : ∃ it, it = s.heap.objs.size := ⟨_, rfl⟩
  have I0 : Inv X pins σ H { s with heap := s.heap.push { cls := .type "list_iterator", data := .fields #[.ref l, .int 0 0] }, toks := s.toks } := I.kept fun b u z => Heap.get?_push_of_some _ z
  have hS : (s.heap.push { cls := .type "list_iterator", data := .fields #[.ref l, .int 0 0] }).objs.size = it + 1 := by rw [size_push', eit]
  have fI : FpOk X pins H it := I.fpOk (Nat.le_of_eq eit.symm) (I.hok.fresh (Nat.le_of_eq eit.symm))
  have fS : FpOk X pins H (it + 1) := I.fpOk (by omega) (I.hok.fresh (by omega))
  have W := (walk_vals (prog := X.prog) (w := X.w) (A := X.A.in1) hh it l (by rw [eit]; exact hlI) xs).toS
  have fIs : ∀ {H' : Hp}, H' it = none → FpOk X pins H' it := fun hn => ⟨hn, fI.2⟩
  have fSs : ∀ {H' : Hp}, H' (it + 1) = none → FpOk X pins H' (it + 1) := fun hn => ⟨hn, fS.2⟩
  have moved : ∀ {H' : Hp} {s1 s2 : Shared}, Inv X pins σ H' s1 → H' it = none → H' (it + 1) = none → Moved ((it + 1) :: [it]) (fun a b => b = a) s1 s2 → Inv X pins σ H' s2 := by
    intro H' s1 s2 I1 h1 h2 mv
    have I2 : Inv X pins σ H' { s1 with heap := s2.heap, toks := s2.toks } := I1.turnedL (ch := (it + 1) :: [it]) (fun b o hb e => mv.heap b o hb e) (fun b hb => by
      rcases List.mem_cons.mp hb with rfl | hb
      · exact fSs h2
      · obtain rfl : b = it := by simpa using hb
        exact fIs h1)
    obtain ⟨h2, g2, d2, t2, o2⟩ := s2
    obtain rfl : g2 = s1.gens := mv.gens
    obtain rfl : d2 = s1.drawn := mv.drawn
    obtain rfl : o2 = s1.os := mv.os
    exact I2
  obtain ⟨J0, eJ0⟩ : ∃ J0 : Shared → Prop, J0 = fun s1 => ∃ H', Inv X pins σ H' s1 ∧ Le H H' ∧ (∀ b ∈ G, H' b = H b) ∧ H' it = none ∧ H' (it + 1) = none := ⟨_, rfl⟩
  obtain ⟨J, eJ⟩ : ∃ J : Nat → Value → Shared → Prop, J = fun i kv s1 => ∃ H', Inv X pins σ H' s1 ∧ Le H H' ∧ (∀ b ∈ G, H' b = H b) ∧ H' it = none ∧ H' (it + 1) = none ∧ ∃ t key, kv = .ref t ∧ ks[i]? = some key ∧ H' t = some (.tup (key.map V.int)) := ⟨_, rfl⟩
  have step : ∀ (i i2 : Nat) (v : Value) (s1 : Shared) (o : Obj) (H' : Hp) (Q' : Value → Shared → Prop) (E' : Value → Shared → Prop), i < xs.length → (∃ x, xs[i]? = some x ∧ RelV x v) → Inv X pins σ H' s1 → Le H H' → (∀ b ∈ G, H' b = H b) → H' it = none → H' (it + 1) = none →
      (∃ its, Vals xs its ∧ s1.heap.IsListIter it l i2 ∧ s1.heap.IsList l its.toArray) → s1.heap.get? (it + 1) = some o → (∀ v, o.data ≠ .cell v) →
      (∀ (t : Addr) (key : List Int) (H2 : Hp) (s2 : Shared), Inv X pins σ H2 s2 → Le H' H2 → (∀ b ∈ G, H2 b = H b) → H2 it = none → H2 (it + 1) = none → ks[i]? = some key → H2 t = some (.tup (key.map V.int)) → (∃ its, Vals xs its ∧ s2.heap.IsListIter it l i2 ∧ s2.heap.IsList l its.toArray) → s2.heap.get? (it + 1) = some o → Q' (.ref t) s2) →
      wpAny (model X.prog X.w) X.A.in1 (call (.ref q) [v]) Q' E' s1 := by
    intro i i2 v s1 o H' Q' E' hi ⟨x, hx, rx⟩ I1 l1 k1 h1 h2 ⟨its, r, ⟨oI, hoI, cI, dI⟩, hL⟩ ho hcell q
    obtain ⟨key, hk⟩ : ∃ key, ks[i]? = some key := ⟨_, List.getElem?_eq_getElem (by omega)⟩
    obtain ⟨u, hu', ru⟩ := Vals.get r hx
    -- the item's value, put into the list's place
    obtain ⟨vs, r2, hv2⟩ : ∃ vs, Vals xs vs ∧ vs[i]? = some v := ⟨its.set i v, by
      have := Vals.set rx (xs := xs) (us := its) i r
      rwa [set_same hx] at this, by
      rw [List.getElem?_set_self (by rw [← r.length]; exact hi)]⟩
    have I2 : Inv X ((it + 1, o) :: (it, oI) :: pins) σ H' s1 := I1.pins_of fun p hp => by
      rcases List.mem_cons.mp hp with e | hp
      · subst e
        exact ⟨ho, h2, fS.2.1, fS.2.2.1, hcell⟩
      · rcases List.mem_cons.mp hp with e | hp
        · subst e
          exact ⟨hoI, h1, fI.2.1, fI.2.2.1, fun v z => by rw [dI] at z; cases z⟩
        · exact I1.pin p (List.mem_append_right _ hp)
    refine wpAny_mono (turn vs r2 i v key hv2 hk _ s1 H' l1 k1 I2) (fun kv s2 he => ?_) fun _ _ z => z.elim
    obtain ⟨t, H2, rfl, I3, l3, k3, ht⟩ := he
    have I4 := ClX.unpin I3
    have I5 := ClX.unpin I4
    obtain ⟨its2, r5, hl5, _⟩ := I5.list (sqL_le (l1.trans l3) hs)
    exact q t key H2 s2 I5 l3 (fun b hb => (k3 b hb).trans (k1 b hb)) (ClX.pin_un I4) (ClX.pin_un I3) hk ht ⟨its2, r5, ⟨oI, ClX.pin_at I4, cI, dI⟩, hl5.isList⟩ (ClX.pin_at I3)
  refine ⟨it, [it, l], [it], _, xs.length, _, _, J0, J, bestI ks, by rw [eit], W, ⟨its0, rv0, ⟨_, by rw [eit]; exact Heap.get?_push_size _ rfl, rfl, rfl⟩, ?_⟩, fun b hb => ?_, hne, ?_, ?_, ?_⟩
  · obtain ⟨o, ho, hcl, n, hd⟩ := hl0.isList
    exact ⟨o, Heap.get?_push_of_some _ ho, hcl, n, hd⟩
  · show b < (s.heap.push _).objs.size
    rw [hS]
    rcases List.mem_cons.mp hb with z | hb
    · rw [z]
      exact Nat.lt_succ_self _
    · have z : b = l := by simpa using hb
      rw [z, eit]
      exact Nat.lt_succ_of_lt hll
  · show KeyG _ _ _ _ (s.heap.push _).objs.size _ _ _ _ _ _ _ _
    rw [hS]
    subst eJ0 eJ
    refine ⟨fun s1 s2 ⟨H', I1, l1, k1, h1, h2⟩ mv => ⟨H', moved I1 h1 h2 mv, l1, k1, h1, h2⟩, fun i kv s1 s2 ⟨H', I1, l1, k1, h1, h2, r⟩ mv => ⟨H', moved I1 h1 h2 mv, l1, k1, h1, h2, r⟩, ?_, ?_, ?_⟩
    · intro v s1 o Q' E' hP ⟨H', I1, l1, k1, h1, h2⟩ hst ho hcell q
      exact step 0 1 v s1 o H' Q' E' hne hP I1 l1 k1 h1 h2 hst ho hcell fun t key H2 s2 I2 l2 k2 n1 n2 hk ht hst2 ho2 => q _ s2 ⟨H2, I2, l1.trans l2, k2, n1, n2, t, key, rfl, hk, ht⟩ hst2 ho2
    · intro i bi kb v s1 o Q' E' hi hP ⟨H', I1, l1, k1, h1, h2, t0, key0, e0, hk0, ht0⟩ hst ho hcell q
      exact step i (i + 1) v s1 o H' Q' E' hi hP I1 l1 k1 h1 h2 hst ho hcell fun t key H2 s2 I2 l2 k2 n1 n2 hk ht hst2 ho2 =>
        q _ s2 ⟨H2, I2, l1.trans l2, k2, n1, n2, t, key, rfl, hk, ht⟩ ⟨H2, I2, l1.trans l2, k2, n1, n2, t0, key0, e0, hk0, l2.same _ _ ht0⟩ hst2 ho2
    · intro i j ki kj s1 Q' E' ⟨H', I1, _, _, _, _, t, key, e, hk, ht⟩ ⟨H3, I3, _, _, _, _, t3, key3, e3, hk3, ht3⟩ q
      subst e e3
      refine PySem.W.rcGt_alike _ _ X.A.in1 s1 _ _ _ _ (tup_reads I1 ht) (tup_reads I3 ht3) (kz_alike key key3) (fun z => nomatch z) (by
        have := kz_depth key
        show X.A.units + _ + _ < _
        omega) X.prog X.w E' Q' ?_
      have e1 : PySem.W.dataLt (PyData.tuple (key3.map .int)) (PyData.tuple (key.map .int)) = bestI ks i j := by
        unfold bestI
        rw [List.getD_eq_getElem?_getD, List.getD_eq_getElem?_getD, hk, hk3]
        exact kt_lt key3 key
      rw [e1]
      exact q
  · subst eJ0
    exact ⟨H, I0, Le.refl H, fun _ _ => rfl, fI.1, fS.1⟩
  · intro v kv s2 ⟨x, hx, rx⟩ hJ
    subst eJ
    obtain ⟨H2, I2, l2, k2, _⟩ := hJ
    exact ⟨x, H2, I2, rx, fin H2 x l2 k2 hx⟩
end
end DA
set_option maxHeartbeats 4000000
/-! DP: sorted(xs, key=o.m), max(xs, key=o.m), sorted(lists of ints, reverse=b), as data -/
namespace DA
open PySem PySem.Spec PyProof.Rows L2
section
variable {ca : Str → Option Addr} {X : Cx} {W : WX} {e a b c tg o k v : Expr} {es : List Expr} {pos p p2 pos2 apos : Pos} {x m : Str}
/-- the key of d: a tuple of ints, one at least -/
def keyO (f : D → Out M) (d : D) : Option (List Int) := match f d with
  | .ok (.dat (.tup ys)) => (match intsOf ys with
    | some (n :: ns) => some (n :: ns)
    | _ => none)
  | _ => none
def keysO (f : D → Out M) : List D → Option (List (List Int))
  | [] => some []
  | d :: ds => (keyO f d).bind fun k => (keysO f ds).map (k :: ·)
def lstO : D → Out (List D)
  | .lst ds => .ok ds
  | _ => .stuck
def optO {α : Type} : Option α → Out α
  | some a => .ok a
  | none => .stuck
def sortKD (b : Bool) (m : Str) (tab : List (Str × (List D → Out M))) (g go : Rn → Out D) (ρ : Rn) : Out D := (g ρ).bind fun d => (lstO d).bind fun ds => (go ρ).bind fun o => (mtR m tab o).nx.bind fun f => (optO (keysO (fun x => f [o, x]) ds)).bind fun ks => .ok (.lst (sortD b ds ks))
def bestD (ds : List D) (ks : List (List Int)) : Out D := match ds[argBest (bestI ks) (ds.length - 1)]? with
  | some d => .ok d
  | none => .stuck
def maxKD (m : Str) (tab : List (Str × (List D → Out M))) (g go : Rn → Out D) (ρ : Rn) : Out D := (g ρ).bind fun d => (lstO d).bind fun ds => (go ρ).bind fun o => (mtR m tab o).nx.bind fun f => (optO (keysO (fun x => f [o, x]) ds)).bind fun ks => bestD ds ks
theorem keyO_some {f : D → Out M} {d : D} {key : List Int} (h : keyO f d = some key) : key ≠ [] ∧ ∃ ys, f d = .ok (.dat (.tup ys)) ∧ intsOf ys = some key := by
  unfold keyO at h
  split at h
  · rename_i ys hy
    split at h
    · rename_i n ns hi
      cases h
      exact ⟨fun z => (nomatch z), ys, hy, hi⟩
    · cases h
  · cases h
theorem keysO_len {f : D → Out M} : ∀ {ds : List D} {ks : List (List Int)}, keysO f ds = some ks → ks.length = ds.length
  | [], ks, h => by
    cases h
    rfl
  | d :: ds, ks, h => by
    unfold keysO at h
    cases e : keyO f d with
    | none => rw [e] at h; cases h
    | some k =>
      cases e2 : keysO f ds with
      | none => rw [e, e2] at h; cases h
      | some ks2 =>
        rw [e, e2] at h
        cases h
        simp [keysO_len e2]
theorem keysO_get {f : D → Out M} : ∀ {ds : List D} {ks : List (List Int)} {i : Nat} {key : List Int}, keysO f ds = some ks → ks[i]? = some key → ∃ d, ds[i]? = some d ∧ keyO f d = some key
  | [], ks, i, key, h, hk => by
    cases h
    simp at hk
  | d :: ds, ks, i, key, h, hk => by
    unfold keysO at h
    cases e : keyO f d with
    | none => rw [e] at h; cases h
    | some k =>
      cases e2 : keysO f ds with
      | none => rw [e, e2] at h; cases h
      | some ks2 =>
        rw [e, e2] at h
        cases h
        cases i with
        | zero =>
          have : some k = some key := by simpa using hk
          cases this
          exact ⟨d, rfl, e⟩
        | succ i => exact keysO_get (i := i) e2 (by simpa using hk)
theorem keysO_ne {f : D → Out M} {ds : List D} {ks : List (List Int)} (h : keysO f ds = some ks) : ∀ key ∈ ks, key ≠ [] := fun key hk => by
  obtain ⟨i, hi, e⟩ := List.getElem_of_mem hk
  obtain ⟨d, _, h2⟩ := keysO_get (i := i) h (by rw [List.getElem?_eq_getElem hi, e])
  exact (keyO_some h2).1
/-- what the key's def is: its promise and where it stands -/
structure KeyAt (X : Cx) (ca : Str → Option Addr) (j : Nat) (H : Hp) (G : List Addr) (q : Addr) (o : D) (ds : List D) (xs : List V) (ks : List (List Int)) : Prop where
  ex : ∃ (g a : Addr) (fd : FuncData) (ps : List Str) (f0 : List D → Out M) (dsv : List Value) (dvs : List V) (dd : List D), H q = some (.met g a) ∧ FnOk X.prog X.w X.K X.mg X.base (L2.CX X.prog X.w) j g fd ps (PF ca X.K f0) ∧ Binds X.K fd ps dsv ∧ Vals dvs dsv ∧ (∀ H, IsL ca X.K H dd dvs) ∧
    Is ca X.K (cut H G) o (.ref a) ∧ keysO (fun x => f0 ([o, x] ++ dd)) ds = some ks
  mu : ∀ b ∈ G, Mu (H b)
  il : IsL ca X.K (cut H G) ds xs
theorem KeyAt.turn {A' : Around} {j : Nat} {H : Hp} {G : List Addr} {q : Addr} {o : D} {ds : List D} {xs : List V} {ks : List (List Int)} {σ : L2.St} (h : KeyAt X ca j H G q o ds xs ks) (hr : Room j A') (e0 : ∀ (pins : List (Addr × Obj)) (s : Shared) (H1 : Hp), Inv X pins σ H1 s → Env0 X.prog X.w X.K X.mg X.base A' X.stack s H1) :
    ∀ vs, Vals xs vs → KTurn X A' σ G H (.ref q) vs ks := by
  intro vs rv i v key hv hk pins s H1 l1 k1 I1
  obtain ⟨g, a, fd, ps, f0, dsv, dvs, dd, hq, F, hb, hd, hdd, io, hks⟩ := h.ex
  obtain ⟨d, hdi, hkey⟩ := keysO_get hks hk
  obtain ⟨_, ys, hf, hi⟩ := keyO_some hkey
  obtain ⟨x, hx, ix⟩ := IsL.get h.il hdi
  obtain ⟨u, hu, ru⟩ := Vals.get rv hx
  rw [hv] at hu
  cases hu
  have mu1 : ∀ b ∈ G, Mu (H1 b) := fun b hb => by rw [k1 b hb]; exact h.mu b hb
  have lc : Le (cut H G) (cut H1 G) := l1.cut (fun _ n _ => n) fun b hb => (mu1 b hb).ne
  refine wpAny_mono (key_turn (E := fun _ _ => False) F hb hd hdd hr (e0 pins s H1 I1) I1 (l1.same _ _ hq) mu1 (IsL.cons (io.le lc) (IsL.cons (ix.le lc) IsL.nil)) ru hf) (fun r s' hh => ?_) fun _ _ z => z
  obtain ⟨w', H2, I2, rw', l2, k2, iw⟩ := hh
  obtain ⟨t, vs2, rfl, ht, it⟩ := is_tup.mp iw
  obtain rfl := ints_of_is hi it
  obtain rfl : r = Value.ref t := rw'
  exact ⟨t, H2, rfl, I2, l2, k2, (cut_some ht).2⟩
def rKeyS (X : Cx) (ca : Str → Option Addr) (j : Nat) (b : Bool) (zs0 : List V) : List V → List V → Hp → VK → Prop := fun vs zs H Q => ∃ (l q : Addr) (G : List Addr) (o : D) (ds : List D) (xs : List V) (ks : List (List Int)), vs = [.ref l] ∧ zs = .ref q :: zs0 ∧ SqL X.K H l xs ∧
  KeyAt X ca j H G q o ds xs ks ∧ (∀ key ∈ ks, key ≠ []) ∧ ks.length = ds.length ∧ ∀ (H2 : Hp) (p : Addr) (ws : List V), Le H H2 → (∀ b ∈ G, H2 b = H b) → H2 p = none → IsL ca X.K (cut H2 G) (sortD b ds ks) ws → Q (.ref p) (upd H2 p (.lst ws))
def rKeyM (X : Cx) (ca : Str → Option Addr) (j : Nat) : List V → List V → Hp → VK → Prop := fun vs zs H Q => ∃ (l q : Addr) (G : List Addr) (o : D) (ds : List D) (xs : List V) (ks : List (List Int)), vs = [.ref l] ∧ zs = [.ref q] ∧ SqL X.K H l xs ∧
  KeyAt X ca j H G q o ds xs ks ∧ 0 < ds.length ∧ ks.length = ds.length ∧ ∀ (H2 : Hp) (x : V), Le H H2 → (∀ b ∈ G, H2 b = H b) → xs[argBest (bestI ks) (ds.length - 1)]? = some x → Q x H2
theorem room_in1 {j k : Nat} {A : Around} (r : Room k A) (h : j + 1 ≤ k) : Room j A.in1 := (r.mono h).in1
theorem cr_sortKR {j k : Nat} (J : JX X W k) (hj : j + 2 ≤ k) {b : Bool} : CallRK X (.builtin "sorted") [Str.ofString "key", Str.ofString "reverse"] (rKeyS X ca j b [.bl b]) := by
  intro pins s σ H vs zs us ws Q I r rz h
  obtain ⟨l, q, G, o, ds, xs, ks, rfl, rfl, hs, hk, hne, hl, fin⟩ := h
  obtain rfl := Vals.ref1 r
  obtain ⟨w1, w2, rfl, e1, e2⟩ := vals2 rz
  obtain rfl : w1 = Value.ref q := e1
  obtain rfl : w2 = Value.bool b := e2
  have hu := J.room.units
  exact sortK_run I hs (PyProof.Rows.ksk_s2 _ _ _) (fun _ => PyProof.Rows.ksk_l2 _ _ _) (fun _ => PyProof.Rows.ksk_t2 _ _ _) (hl.trans hk.il.len) hne (by omega) (hk.turn (room_in1 (room_in1 (k := j + 2) (J.room.mono hj) (Nat.le_refl _)) (Nat.le_refl _)) fun pins s H1 I1 => I1.env0.in1.in1) hk.mu hk.il fin
theorem cr_sortK {j k : Nat} (J : JX X W k) (hj : j + 2 ≤ k) : CallRK X (.builtin "sorted") [Str.ofString "key"] (rKeyS X ca j false []) := by
  intro pins s σ H vs zs us ws Q I r rz h
  obtain ⟨l, q, G, o, ds, xs, ks, rfl, rfl, hs, hk, hne, hl, fin⟩ := h
  obtain rfl := Vals.ref1 r
  obtain ⟨w1, rfl, e1⟩ := vals1 rz
  obtain rfl : w1 = Value.ref q := e1
  have hu := J.room.units
  exact sortK_run I hs (PyProof.Rows.ksk_s1 _ _) (fun _ => PyProof.Rows.ksk_l1 _ _) (fun _ => PyProof.Rows.ksk_t1 _ _) (hl.trans hk.il.len) hne (by omega) (hk.turn (room_in1 (room_in1 (k := j + 2) (J.room.mono hj) (Nat.le_refl _)) (Nat.le_refl _)) fun pins s H1 I1 => I1.env0.in1.in1) hk.mu hk.il fin
theorem cr_maxK {j k : Nat} (J : JX X W k) (hj : j + 2 ≤ k) : CallRK X (.builtin "max") [Str.ofString "key"] (rKeyM X ca j) := by
  intro pins s σ H vs zs us ws Q I r rz h
  obtain ⟨l, q, G, o, ds, xs, ks, rfl, rfl, hs, hk, h0, hl, fin⟩ := h
  obtain rfl := Vals.ref1 r
  obtain ⟨w1, rfl, e1⟩ := vals1 rz
  obtain rfl : w1 = Value.ref q := e1
  have hu := J.room.units
  have hln : ds.length = xs.length := hk.il.len
  exact maxK_run I J.calm hs (hl.trans hln) (by omega) (by omega) (hk.turn (room_in1 (k := j + 2) (J.room.mono hj) (Nat.le_succ _)) fun pins s H1 I1 => I1.env0.in1) (fun H2 x l2 k2 hx => fin H2 x l2 k2 (by rw [hln]; exact hx))
/-- the method's def at the class, also as a value -/
def BmF (ca : Str → Option Addr) (K : PySem.W.Frag) (m n : Str) : Prop := ∀ C, ca n = some C → ∃ g, BMeth K C m g
theorem bm_at {P : Program} {w : World} {K : PySem.W.Frag} {mg : Str → Option Value} {base : Heap} {fa : List He.Fa} {fn : List He.DefD} {fc : List (Nat × Str)} {cs : List Str} (L : LX P w K mg base fa fn fc) (im : Nat) (C : Str) (hm : fa[im]? = some (.meth C "rank") := by rfl) (hfc : fc.contains (2, C) = true := by decide +kernel) : BmF (caK cs K) K "rank" C := by
  intro a ha
  obtain ⟨_, rfl⟩ := caK_eq ha
  have q : bmB K C "rank" = true := List.all_eq_true.mp L.cls (2, C) (List.contains_iff_mem.mp hfc)
  unfold bmB at q
  obtain ⟨q1, q2⟩ := Bool.and_eq_true_iff.mp q
  obtain ⟨q2, q3⟩ := Bool.and_eq_true_iff.mp q2
  obtain ⟨q3, q4⟩ := Bool.and_eq_true_iff.mp q3
  exact ⟨_, ⟨He.meth_ok (L.fact im hm), He.eqO_ok q1, of_decide_eq_true q2, by simpa using q3, q4⟩⟩
theorem bm_no {K : PySem.W.Frag} {cs : List Str} {m C : Str} (h : cs.contains C = false := by rfl) : BmF (caK cs K) K m C := fun a q => by
  obtain ⟨z, _⟩ := caK_eq q
  rw [h] at z; cases z
theorem bm_nil {K : PySem.W.Frag} {m : Str} : ∀ q ∈ ([] : List (Str × (List D → Out M))), BmF ca K m q.1 := fun q h => by cases h
theorem bm_cons {K : PySem.W.Frag} {m n : Str} {f : List D → Out M} {r : List (Str × (List D → Out M))} (h : BmF ca K m n) (t : ∀ q ∈ r, BmF ca K m q.1) : ∀ q ∈ (n, f) :: r, BmF ca K m q.1 := fun q hq => by
  rcases List.mem_cons.mp hq with e | e
  · subst e; exact h
  · exact t q e
/-- xs and o.m, told -/
theorem key_den {j : Nat} {tab : List (Str × (List D → Out M))} {g go : Rn → Out D} {te to : TE} {zs0 : List V} {tk : TA} {f : List D → List (List Int) → Out D} {R : List V → List V → Hp → VK → Prop} (ht : ∀ q ∈ tab, MtOk ca X j m q.1 q.2) (hbm : ∀ q ∈ tab, BmF ca X.K m q.1) (h : EvD ca X.K W te g) (ho : EvD ca X.K W to go)
    (hz : ∀ σ H (Q : List V → Hp → Prop), Q zs0 H → tk σ H Q)
    (hR : ∀ (H : Hp) (Q : VK) (l q : Addr) (G : List Addr) (o : D) (ds : List D) (xs : List V) (ks : List (List Int)), SqL X.K H l xs → KeyAt X ca j H G q o ds xs ks → (∀ key ∈ ks, key ≠ []) → ks.length = ds.length → OutE (f ds ks) (fun d => ∀ v H2, Le H H2 → (∀ b ∈ G, H2 b = H b) → Is ca X.K (cut H2 G) d v → Q v H2) (fun _ => False) → R [.ref l] (.ref q :: zs0) H Q)
    (hf : ∀ ds ks n, f ds ks ≠ .exc n) :
    EvD ca X.K W (tCKw R (tCons te tNil) (tCons (tBnd X.K to m) tk)) (fun ρ => (g ρ).bind fun d => (lstO d).bind fun ds => (go ρ).bind fun o => (mtR m tab o).nx.bind fun f' => (optO (keysO (fun x => f' [o, x]) ds)).bind fun ks => f ds ks) := by
  intro H0 Fa ts us ρ σ H Q hl E od
  refine h H0 Fa ts us ρ σ H _ hl E (OutE.bind od |>.imp (fun d od v H2 F2 E2 i => ?_) fun n q => q)
  cases d with
  | lst ds =>
    have od : OutE ((go ρ).bind fun o => (mtR m tab o).nx.bind fun f' => (optO (keysO (fun x => f' [o, x]) ds)).bind fun ks => f ds ks) _ _ := od
    refine ho H0 Fa (some (.dat (.lst ds)) :: ts) (some v :: us) ρ σ H2 _ (by simp [hl]) ⟨F2, E2.top i⟩ (od.bind.imp (fun o od w H3 F3 E3 io => ?_) fun n q a' H3 c E3 => q a' H3 c E3.pop)
    obtain ⟨E4, i4⟩ := E3.popD
    cases o with
    | obj C fs dsf =>
      unfold mtR at od
      dsimp only at od
      by_cases z : fs.contains m = true
      · rw [if_pos z] at od; exact od.elim
      · rw [if_neg z] at od
        cases el : tab.lookup C with
        | none => rw [el] at od; exact od.elim
        | some f' =>
          rw [el] at od
          have od : OutE ((optO (keysO (fun x => f' [.obj C fs dsf, x]) ds)).bind fun ks => f ds ks) _ _ := od
          cases ek2 : keysO (fun x => f' [.obj C fs dsf, x]) ds with
          | none => rw [ek2] at od; exact od.elim
          | some ks =>
            rw [ek2] at od
            have od : OutE (f ds ks) _ _ := od
            obtain ⟨a, Ca, dx, kvs, rfl, hC, hins, ek, r⟩ := is_obj.mp io
            obtain ⟨gg, fd, ps, f0, dd, dvs, dsv, c1, c2, c3, c4, c5, c6, c7⟩ := (ht (C, f') (mem_of_lookup el)).ok Ca hC
            obtain ⟨g2, bm⟩ := hbm (C, f') (mem_of_lookup el) Ca hC
            have eg : g2 = gg := by
              have := bm.mt.at_.symm.trans c2.at_
              injection this with this
              injection this with this
              injection this
            subst eg
            refine ⟨a, Ca, dx, kvs, g2, rfl, (cut_some hins).2, c1, bm, lookup_none_of (by rw [ek]; simpa using z), fun p hp => ?_⟩
            refine hz _ _ _ ?_
            have E5 := E4.same (upd_same_new (o := HO.met g2 a) hp)
            have np : ∀ b ∈ Fa ++ F3, b ≠ p := fun b hb e => (E4.muG b hb).ne (by rw [e]; exact hp)
            have lc : Le (cut H3 (Fa ++ F3)) (cut (upd H3 p (.met g2 a)) (Fa ++ F3)) := (Le.new hp).cut (fun _ n _ => n) fun b hb => (E5.muG b hb).ne
            obtain ⟨l, xs, rfl, hsq, il⟩ := is_lst.mp i4
            refine hR _ Q l p (Fa ++ F3) (.obj C fs dsf) ds xs ks (sqL_le (Le.new hp) (sq_whole hsq)) ⟨⟨g2, a, fd, ps, f0, dsv, dvs, dd, upd_same, c3, c4, c5, c6, io.le lc, ?_⟩, E5.muG, il.le lc⟩ (keysO_ne ek2) (keysO_len ek2) ?_
            · rw [← ek2]
              congr 1
              funext x
              exact (c7 _).symm
            · cases e : f ds ks with
              | stuck => rw [e] at od; exact od.elim
              | exc n => exact absurd e (hf ds ks n)
              | ok d =>
                rw [e] at od
                exact fun v H5 l5 k5 i5 => od v H5 F3 (E5.go l5 k5) i5
    | _ => exact od.elim
  | _ => exact od.elim
theorem ed_sortKR {j k : Nat} {tab : List (Str × (List D → Out M))} {g go : Rn → Out D} {b : Bool} {kp1 kp2 bp : Pos} {bn : Nat} (J : JX X W k) (hj : j + 2 ≤ k) (ht : ∀ q ∈ tab, MtOk ca X j m q.1 q.2) (hbm : ∀ q ∈ tab, BmF ca X.K m q.1) (hm : X.mg "sorted" = none) (h : ED ca X W e g) (ho : ED ca X W o go)
    (hb : attributeBase o m X.env (eval o X.env) = eval o X.env := by rfl) (hg : Gl X "sorted" := by rfl) (he0 : starEach [e] X.env = (false, eval e X.env) :: starEach [] X.env := by rfl)
    (he : backTo pos (starEach [e] X.env) = (false, eval e X.env) :: backTo pos (starEach [] X.env) := by rfl) (hpl : (backTo pos (starEach [e] X.env)).any (·.1) = false := by rfl)
    (hall : (backToKw pos (keywordEach [⟨some "key", .Attribute o m apos, kp1⟩, ⟨some "reverse", .Constant (.bool b) bn bp, kp2⟩] X.env)).all (·.1.isSome) = true := by rfl)
    (hnone : (backToKw pos (keywordEach [⟨some "key", .Attribute o m apos, kp1⟩, ⟨some "reverse", .Constant (.bool b) bn bp, kp2⟩] X.env)).any (·.1.isNone) = false := by rfl)
    (hks : (backToKw pos (keywordEach [⟨some "key", .Attribute o m apos, kp1⟩, ⟨some "reverse", .Constant (.bool b) bn bp, kp2⟩] X.env)).filterMap (·.1) = [Str.ofString "key", Str.ofString "reverse"] := by rfl) :
    ED ca X W (.Call (.Name "sorted" p) [e] [⟨some "key", .Attribute o m apos, kp1⟩, ⟨some "reverse", .Constant (.bool b) bn bp, kp2⟩] pos) (sortKD b m tab g go) := by
  obtain ⟨te, pe, h⟩ := h
  obtain ⟨to, po, ho⟩ := ho
  refine ⟨_, pe_callBK (cr_sortKR (ca := ca) (b := b) J hj) hg hm (by decide +kernel) (pa_cons pe pa_nil he0) (pk_cons (pe_bnd (m := m) po hb) (pk_cons pe_bl pk_nil)) (by decide) (by decide) he hpl hall hnone hks, ?_⟩
  refine key_den (zs0 := [.bl b]) (f := fun ds ks => .ok (.lst (sortD b ds ks))) ht hbm h ho (fun σ H Q q => q) (fun H Q l q G o ds xs ks hs hk hne hl od => ?_) (fun _ _ _ z => nomatch z)
  exact ⟨l, q, G, o, ds, xs, ks, rfl, rfl, hs, hk, hne, hl, fun H2 p ws l2 k2 hn iw => od _ _ (l2.trans (Le.new hn)) (fun b hb => (upd_ne (fun e => (hk.mu b hb).ne (by rw [← k2 b hb, e]; exact hn))).trans (k2 b hb)) (new_lst (fun b hb => by rw [k2 b hb]; exact hk.mu b hb) hn iw)⟩
theorem ed_sortK {j k : Nat} {tab : List (Str × (List D → Out M))} {g go : Rn → Out D} {kp1 : Pos} (J : JX X W k) (hj : j + 2 ≤ k) (ht : ∀ q ∈ tab, MtOk ca X j m q.1 q.2) (hbm : ∀ q ∈ tab, BmF ca X.K m q.1) (hm : X.mg "sorted" = none) (h : ED ca X W e g) (ho : ED ca X W o go)
    (hb : attributeBase o m X.env (eval o X.env) = eval o X.env := by rfl) (hg : Gl X "sorted" := by rfl) (he0 : starEach [e] X.env = (false, eval e X.env) :: starEach [] X.env := by rfl)
    (he : backTo pos (starEach [e] X.env) = (false, eval e X.env) :: backTo pos (starEach [] X.env) := by rfl) (hpl : (backTo pos (starEach [e] X.env)).any (·.1) = false := by rfl)
    (hall : (backToKw pos (keywordEach [⟨some "key", .Attribute o m apos, kp1⟩] X.env)).all (·.1.isSome) = true := by rfl)
    (hnone : (backToKw pos (keywordEach [⟨some "key", .Attribute o m apos, kp1⟩] X.env)).any (·.1.isNone) = false := by rfl)
    (hks : (backToKw pos (keywordEach [⟨some "key", .Attribute o m apos, kp1⟩] X.env)).filterMap (·.1) = [Str.ofString "key"] := by rfl) :
    ED ca X W (.Call (.Name "sorted" p) [e] [⟨some "key", .Attribute o m apos, kp1⟩] pos) (sortKD false m tab g go) := by
  obtain ⟨te, pe, h⟩ := h
  obtain ⟨to, po, ho⟩ := ho
  refine ⟨_, pe_callBK (cr_sortK (ca := ca) J hj) hg hm (by decide +kernel) (pa_cons pe pa_nil he0) (pk_cons (pe_bnd (m := m) po hb) pk_nil) (by decide) (by decide) he hpl hall hnone hks, ?_⟩
  refine key_den (zs0 := []) (f := fun ds ks => .ok (.lst (sortD false ds ks))) ht hbm h ho (fun σ H Q q => q) (fun H Q l q G o ds xs ks hs hk hne hl od => ?_) (fun _ _ _ z => nomatch z)
  exact ⟨l, q, G, o, ds, xs, ks, rfl, rfl, hs, hk, hne, hl, fun H2 p ws l2 k2 hn iw => od _ _ (l2.trans (Le.new hn)) (fun b hb => (upd_ne (fun e => (hk.mu b hb).ne (by rw [← k2 b hb, e]; exact hn))).trans (k2 b hb)) (new_lst (fun b hb => by rw [k2 b hb]; exact hk.mu b hb) hn iw)⟩
theorem ed_maxK {j k : Nat} {tab : List (Str × (List D → Out M))} {g go : Rn → Out D} {kp1 : Pos} (J : JX X W k) (hj : j + 2 ≤ k) (ht : ∀ q ∈ tab, MtOk ca X j m q.1 q.2) (hbm : ∀ q ∈ tab, BmF ca X.K m q.1) (hm : X.mg "max" = none) (h : ED ca X W e g) (ho : ED ca X W o go)
    (hb : attributeBase o m X.env (eval o X.env) = eval o X.env := by rfl) (hg : Gl X "max" := by rfl) (he0 : starEach [e] X.env = (false, eval e X.env) :: starEach [] X.env := by rfl)
    (he : backTo pos (starEach [e] X.env) = (false, eval e X.env) :: backTo pos (starEach [] X.env) := by rfl) (hpl : (backTo pos (starEach [e] X.env)).any (·.1) = false := by rfl)
    (hall : (backToKw pos (keywordEach [⟨some "key", .Attribute o m apos, kp1⟩] X.env)).all (·.1.isSome) = true := by rfl)
    (hnone : (backToKw pos (keywordEach [⟨some "key", .Attribute o m apos, kp1⟩] X.env)).any (·.1.isNone) = false := by rfl)
    (hks : (backToKw pos (keywordEach [⟨some "key", .Attribute o m apos, kp1⟩] X.env)).filterMap (·.1) = [Str.ofString "key"] := by rfl) :
    ED ca X W (.Call (.Name "max" p) [e] [⟨some "key", .Attribute o m apos, kp1⟩] pos) (maxKD m tab g go) := by
  obtain ⟨te, pe, h⟩ := h
  obtain ⟨to, po, ho⟩ := ho
  refine ⟨_, pe_callBK (cr_maxK (ca := ca) J hj) hg hm (by decide +kernel) (pa_cons pe pa_nil he0) (pk_cons (pe_bnd (m := m) po hb) pk_nil) (by decide) (by decide) he hpl hall hnone hks, ?_⟩
  refine key_den (zs0 := []) (f := bestD) ht hbm h ho (fun σ H Q q => q) (fun H Q l q G o ds xs ks hs hk hne hl od => ?_) (fun ds ks n => by unfold bestD; split <;> exact fun z => nomatch z)
  unfold bestD at od
  split at od
  · rename_i d hd
    have h0 : 0 < ds.length := Nat.lt_of_le_of_lt (Nat.zero_le _) (List.getElem?_eq_some_iff.mp hd).1
    refine ⟨l, q, G, o, ds, xs, ks, rfl, rfl, hs, hk, h0, hl, fun H2 x l2 k2 hx => ?_⟩
    obtain ⟨x2, hx2, ix⟩ := IsL.get hk.il hd
    rw [hx] at hx2
    cases hx2
    exact od x H2 l2 k2 (ix.le (l2.cut (fun _ n _ => n) fun b hb => by rw [k2 b hb]; exact (hk.mu b hb).ne))
  · exact od.elim
end
end DA
set_option maxHeartbeats 4000000
/-! DQ: xs[i] = v; sorted(lists of ints); lists compared; count; isinstance of own classes; try: f(..) -/
namespace DA
open PySem PySem.Spec PyProof.Rows L2
section
variable {ca : Str → Option Addr} {X : Cx} {W : WX} {e a b c tg o k v : Expr} {es : List Expr} {pos p p2 pos2 apos : Pos} {x m : Str}
/-! ### xs[i] = v, xs a local name whose list is its own -/
theorem EnvF.putL {K : PySem.W.Frag} {H0 H : Hp} {Fa F : List Addr} {ρ : Rn} {σ : L2.St} {i : Nat} {ds : List D} (E : EnvF ca K H0 Fa ρ σ H F) (h : ρ[i]? = some (some (.lst (ds.map .dat)))) :
    ∃ l xs, σ[i]? = some (some (.ref l)) ∧ H l = some (.lst xs) ∧ IsL ca K (cut H (Fa ++ F)) ds xs ∧ ∀ (xs' : List V) (ds' : List D), IsL ca K (cut H (Fa ++ F)) ds' xs' →
      Env ca K H0 Fa (ρ.set i (some (.lst (ds'.map .dat)))) (σ.set i (some (.ref l))) (upd H l (.lst xs')) := by
  obtain ⟨w, A, Fi, B, rfl, e2, ⟨v, e3, ho⟩, back⟩ := E.own.split h
  obtain ⟨l, xs, Fi', rfl, hl, hr, rfl⟩ := ow_lst.mp ho
  obtain ⟨rfl, iL⟩ := OwL.to_dats hr
  subst e3
  refine ⟨l, xs, e2, hl, iL, fun xs' ds' i' => ?_⟩
  have hlG : l ∈ Fa ++ (A ++ ([l] ++ B)) := by simp
  have nd := E.nd
  have nl : l ∉ A ++ B := by
    intro z
    simp only [List.nodup_append, List.cons_append, List.nil_append, List.nodup_cons, List.mem_append, List.mem_cons] at nd z
    rcases z with z | z
    · exact nd.2.2 l z l (.inl rfl) rfl
    · exact nd.2.1.1 z
  have nFa : l ∉ Fa := E.apart l (by simp)
  have hn : H0 l = none := E.fresh l (by simp)
  have lc : Le (cut H (Fa ++ (A ++ ([l] ++ B)))) (cut (upd H l (.lst xs')) (Fa ++ (A ++ ([l] ++ B)))) := by
    rw [cut_upd hlG]; exact Le.refl _
  have tu : ∀ b ys, H b = some (.tup ys) → (upd H l (.lst xs')) b = some (.tup ys) := fun b ys q => by
    rw [upd_ne (fun e => by subst e; rw [hl] at q; cases q)]; exact q
  refine ⟨A ++ ([l] ++ B), le_upd E.le hn, fun b hb => ?_, E.mu, nd, E.fresh, back _ _ _ _ [l] lc (fun b hb => upd_ne fun e => nl (by rw [← e]; exact hb)) tu ⟨_, rfl, ow_lst.mpr ⟨l, xs', [], rfl, upd_same, OwL.of_dats (i'.le lc), rfl⟩⟩⟩
  rw [upd_ne (fun e => nFa (by rw [← e]; exact hb))]; exact E.keep b hb
def sPutL (i : Nat) (fk fv : Rn → Out D) (ρ : Rn) : SOut := match ρ[i]? with
  | some (some (.lst ms)) => match datsOf ms with
    | some ds => (fv ρ).bind fun d => (fk ρ).bind fun y => match y with
      | .int n => (match ixN ds.length n with
        | some j => .ok (.nx, ρ.set i (some (.lst ((ds.set j d).map .dat))))
        | none => .stuck)
      | _ => .stuck
    | none => .stuck
  | _ => .stuck
theorem ss_putL (i : Nat) {k0 : Nat} {key value : Expr} {fk fv : Rn → Out D} {p1 pos' : Pos} (J : JX X W k0) (hk : ED ca X W key fk) (hv : ED ca X W value fv) (hN : X.N[i]? = some x := by rfl) (hvis : Vis X.env.scope x := by first | exact Or.inl rfl | exact Or.inr (Or.inl rfl) | exact Or.inr (Or.inr rfl))
    (hd : (x == ("__debug__" : Str)) = false := by decide) (hcd : (x == ("__classdict__" : Str)) = false := by decide)
    (hs : swapsWithSole [.Subscript (.Name x p1) key pos'] value pos.line X.env = pure false := by rfl) (hw : swappedStores [.Subscript (.Name x p1) key pos'] value X.env = pure none := by rfl)
    (h1 : (assignEach [.Subscript (.Name x p1) key pos'] X.env).map (·.2) = [assign (.Subscript (.Name x p1) key pos') X.env] := by rfl)
    (ha : ∀ v, assign (.Subscript (.Name x p1) key pos') X.env v = (do
      let ov ← holding [v] (eval (.Name x p1) X.env)
      let iv ← holding [v, ov] (eval key X.env)
      standAt pos'
      holding [v, ov, iv] (setItem ov iv v)
      release [v, ov, iv] []) := by intro _; rfl) : SS ca X W (.Assign [.Subscript (.Name x p1) key pos'] value pos) (sPutL i fk fv) := by
  obtain ⟨tk, pk, hk⟩ := hk
  obtain ⟨tv, pv, hv⟩ := hv
  refine ⟨_, ps_asg pv (pg_sub (pe_var hN hvis hd hcd) pk set_list ha) hs hw h1, fun H0 Fa ts us ρ σ H Dn hl E o => ?_⟩
  unfold sPutL at o
  split at o
  · rename_i ms hρ
    cases em : datsOf ms with
    | none => simp only [em] at o; exact o.elim
    | some ds =>
      simp only [em] at o
      have hms := datsOf_eq em
      subst hms
      obtain ⟨F, E⟩ := E
      refine hv H0 Fa ts us ρ σ H _ hl ⟨F, E⟩ (SPost.ofE o fun d o v H1 F1 E1 i1 => ?_)
      obtain ⟨l0, xs0, e2, _, _, _⟩ := E1.putL (i := ts.length + i) (by rw [drop_get]; exact hρ)
      rw [hl, drop_get] at e2
      refine ⟨.ref l0, e2, ?_⟩
      refine hk H0 Fa (some (.dat d) :: ts) (some v :: us) ρ σ H1 _ (by simp [hl]) ⟨F1, E1.top i1⟩ ?_
      cases ek : fk ρ with
      | stuck => rw [ek] at o; exact o.elim
      | exc n => rw [ek] at o; exact fun a H2 c E2 => o a σ H2 c E2.frm
      | ok y =>
        rw [ek] at o
        intro vy H2 F2 E2 i2
        obtain ⟨E3, i3⟩ := E2.popD
        have E3 : EnvF ca X.K H0 Fa (ts ++ ρ) (us ++ σ) H2 F2 := E3
        obtain ⟨l, xs, e4, hl4, iL, put⟩ := E3.putL (i := ts.length + i) (by rw [drop_get]; exact hρ)
        rw [hl, drop_get, e2] at e4
        injection e4 with e4
        injection e4 with e4
        injection e4 with e4
        subst e4
        simp only [bind_ok] at o
        cases y with
        | int n =>
          dsimp only at o
          cases ej : ixN ds.length n with
          | none => rw [ej] at o; exact o.elim
          | some j =>
            rw [ej] at o
            obtain rfl := is_int.mp i2
            refine ⟨l0, xs, n, j, rfl, rfl, hl4, by rw [← iL.len]; exact ej, ?_⟩
            have q := put (xs.set j v) (ds.set j d) (IsL.set iL i3)
            rw [drop_set, hl, drop_set, set_self e2] at q
            exact o σ _ q
        | _ => exact o.elim
  · exact o.elim
/-! ### isinstance(e, C), C a class of the text -/
/-- the class n is told to be one of B, or none -/
def IsiC (ca : Str → Option Addr) (K : PySem.W.Frag) (B : Str) (q : Str × Bool) : Prop := ∀ C, ca q.1 = some C → (∀ (H : Hp) (a dx : Addr) (fs : List (Str × V)), H a = some (.ins C dx fs) → TyX K H (.ref a) (.ref C)) ∧ PySem.W.kitOne K (.ref C) (.ref (He.ga K B)) = some q.2
def isiC (tab : List (Str × Bool)) : D → Out D
  | .obj C _ _ => (match tab.lookup C with
    | some b => .ok (.bl b)
    | none => .stuck)
  | _ => .stuck
theorem ed_isiC {B : Str} {tab : List (Str × Bool)} {f : Rn → Out D} {q : Pos} (ht : ∀ r ∈ tab, IsiC ca X.K B r) (hm : X.mg "isinstance" = none) (gm : X.mg B = some (.ref (He.ga X.K B))) (ha : ED ca X W e f) (hgB : Gl X B := by rfl) (hdB : (B == ("__debug__" : Str)) = false := by decide) (hg : Gl X "isinstance" := by rfl)
    (h1 : starEach [e, .Name B q] X.env = (false, eval e X.env) :: starEach [.Name B q] X.env := by rfl) (h2 : starEach [.Name B q] X.env = (false, eval (.Name B q) X.env) :: starEach [] X.env := by rfl)
    (hpl : (backTo pos (starEach [.Name B q] X.env)).any (·.1) = false := by rfl) : ED ca X W (.Call (.Name "isinstance" p) [e, .Name B q] [] pos) (una (isiC tab) f) := by
  obtain ⟨te, pe, ha⟩ := ha
  refine ⟨_, pe_callB call_isi hg hm (by decide +kernel) (pa_cons pe (pa_cons (pe_glob (v := .ref (He.ga X.K B)) hgB gm rfl hdB) pa_nil h2) h1) (by decide) (by decide) h1 hpl, fun H0 Fa ts us ρ σ H Q hl E o => ?_⟩
  refine ha H0 Fa ts us ρ σ H _ hl E (OutE.bind o |>.imp (fun d o v H2 F E2 i => ?_) fun n q => q)
  have o := o.nx (Y := fun _ => False)
  cases d with
  | obj C fs ds =>
    unfold isiC at o
    dsimp only at o
    cases el : tab.lookup C with
    | none => rw [el] at o; exact o.elim
    | some b =>
      rw [el] at o
      obtain ⟨a, Ca, dx, kvs, rfl, hC, hins, ek, r⟩ := is_obj.mp i
      obtain ⟨t1, t2⟩ := ht (C, b) (mem_of_lookup el) Ca hC
      exact ⟨.ref a, .ref (He.ga X.K B), .ref Ca, .ref (He.ga X.K B), b, rfl, .own _, t1 _ _ _ _ (cut_some hins).2, t2, o _ H2 F E2 (is_bl.mpr rfl)⟩
  | _ => exact o.elim
theorem isi_nil {K : PySem.W.Frag} {B : Str} : ∀ q ∈ ([] : List (Str × Bool)), IsiC ca K B q := fun q h => by cases h
theorem isi_cons {K : PySem.W.Frag} {B n : Str} {b : Bool} {r : List (Str × Bool)} (h : IsiC ca K B (n, b)) (t : ∀ q ∈ r, IsiC ca K B q) : ∀ q ∈ (n, b) :: r, IsiC ca K B q := fun q hq => by
  rcases List.mem_cons.mp hq with e | e
  · subst e; exact h
  · exact t q e
theorem isi_no {K : PySem.W.Frag} {cs : List Str} {B n : Str} {b : Bool} (h : cs.contains n = false := by rfl) : IsiC (caK cs K) K B (n, b) := fun a q => by
  obtain ⟨z, _⟩ := caK_eq q
  rw [h] at z; cases z
theorem isi_at {P : Program} {w : World} {K : PySem.W.Frag} {mg : Str → Option Value} {base : Heap} {fa : List He.Fa} {fn : List He.DefD} {fc : List (Nat × Str)} {cs : List Str} (L : LX P w K mg base fa fn fc) (ic : Nat) (j : Nat) {B C : Str} {b : Bool} (hc : fa[ic]? = some (.cls C) := by rfl)
    (hfc : fc.contains (3 + j, C) = true := by decide +kernel) (hB : isiBases.getD (j / 2) "" = B := by rfl) (hb : (j % 2 == 1) = b := by rfl) : IsiC (caK cs K) K B (C, b) := by
  intro a ha
  obtain ⟨_, rfl⟩ := caK_eq ha
  have q : isB3 K j C = true := by
    have q : facB K (3 + j, C) = true := List.all_eq_true.mp L.cls (3 + j, C) (List.contains_iff_mem.mp hfc)
    unfold facB at q
    rw [if_neg (by show ¬ 3 + j = 0; omega), if_neg (by show ¬ 3 + j = 1; omega), if_neg (by show ¬ 3 + j = 2; omega)] at q
    rwa [show 3 + j - 3 = j by omega] at q
  unfold isB3 at q
  obtain ⟨q1, q2⟩ := Bool.and_eq_true_iff.mp q
  unfold insB at q1
  obtain ⟨r1, r2⟩ := Bool.and_eq_true_iff.mp q1
  obtain ⟨r2, r3⟩ := Bool.and_eq_true_iff.mp r2
  obtain ⟨r3, r4⟩ := Bool.and_eq_true_iff.mp r3
  subst hB hb
  exact ⟨fun H a dx fs h => .base (.ins h (He.cls_ok (L.fact ic hc)) (He.eqO_ok r1) (He.eqO_ok r2) (of_decide_eq_true r3) (of_decide_eq_true r4)), of_decide_eq_true q2⟩
/-! ### try: f(..); except C: .. -/
def sTryE (n : Str) (s : Rn → SOut) (f : Rn → Out M) (ρ : Rn) : SOut := match f ρ with
  | .stuck => .stuck
  | .exc n' => if List.contains exNames n' then (if subE n' n then (s ρ).nx else .exc n') else .stuck
  | .ok _ => .ok (.nx, ρ)
theorem ss_tryE {k : Nat} {c : Value} {n : Str} {b0 : Stmt} {suite : List Stmt} {np pos' p2 : Pos} {s : Rn → SOut} {f : Rn → Out M} (J : JX X W k) (hc : Names X x c) (hx : ∀ n', List.contains exNames n' = true → ∀ C', ca n' = some C' → PySem.W.exmOne X.K (.ref C') c = some (subE n' n))
    (hb : ∀ (W' : WX) (pn : List (Addr × Obj)) (xe : Value → Shared → Prop), JX (X.tr pn xe) W' k → EM ca (X.tr pn xe) W' e f)
    (hsu : ∀ (a : Addr) (pn : List (Addr × Obj)), SSs ca (X.suite a pn) W0 (b0 :: suite) s)
    (hsw : swapsWith e none p2.line X.env = pure false := by rfl)
    (hs : X.stack = X.env :: X.outer := by rfl) (hfr : X.env.frame = some X.env.locals := by rfl) :
    SS ca X W (.Try [.Expr e p2] [.ExceptHandler (some (.Name x np)) none (b0 :: suite) pos'] [] [] pos) (sTryE n s f) := by
  have hb1 := fun (W' : WX) (z : { z : List (Addr × Obj) × (Value → Shared → Prop) // JX (X.tr z.1 z.2) W' k }) => hb W' z.1.1 z.1.2 z.2
  have hs1 := fun (z : Addr × List (Addr × Obj)) => hsu z.1 z.2
  refine ⟨_, ps_try_only (tb := fun W' => tDrop (fun σ H Q => ∀ z, Classical.choose (hb1 W' z) σ H Q)) (ts := fun a cls d => fun D σ H => ∀ z, z.1 = a → Classical.choose (hs1 z) D σ H) (Wout := W) hs hfr hc J.tk
    (fun W' pn xe tk po => pss_one (ps_expr (X := X.tr pn xe) ⟨fun pins s1 σ H Q I h => ?_⟩ hsw)) (fun a oe cls d pn hz hff => ⟨fun pins s1 σ H D I h => ?_⟩), fun H0 Fa ts us ρ σ H D hl E od => ?_⟩
  · have jj : JX (X.tr pn xe) W' k := ⟨J.calm, tk, J.nd, po, J.room⟩
    exact (Classical.choose_spec (hb1 W' ⟨(pn, xe), jj⟩)).1.run pins s1 σ H Q I (h ⟨(pn, xe), jj⟩)
  · exact (Classical.choose_spec (hs1 (a, (a, oe) :: pn))).1.run pins s1 σ H D I (h (a, (a, oe) :: pn) rfl)
  · intro z
    refine (Classical.choose_spec (hb1 _ z)).2 H0 Fa ts us ρ σ H _ hl E ?_
    unfold sTryE at od
    cases ef : f ρ with
    | stuck => rw [ef] at od; exact od
    | exc n' =>
      rw [ef] at od
      intro a H2 hca E2
      dsimp only at od
      by_cases zn : List.contains exNames n' = true
      case neg => rw [if_neg zn] at od; exact od.elim
      rw [if_pos zn] at od
      refine ⟨subE n' n, hx n' zn a hca, fun hb a' ha' z => ?_, fun hb => ?_⟩
      · rw [if_pos hb] at od
        intro ez
        refine (Classical.choose_spec (hs1 z)).2 H0 Fa ts us ρ σ H2 D hl E2 ?_
        cases es : s ρ with
        | stuck => rw [es] at od; exact od
        | exc nn => rw [es] at od; exact od.elim
        | ok q =>
          rw [es] at od
          obtain ⟨fl, ρ'⟩ := q
          cases fl <;> exact od
      · rw [if_neg (by rw [hb]; simp)] at od
        exact od a σ H2 hca (Env.frm E2)
    | ok m =>
      rw [ef] at od
      intro v H2 E2
      exact od σ H2 E2.pop
end
end DA
set_option maxHeartbeats 4000000
/-! DR: sorted(lists or tuples of ints[, reverse=b]); > of lists of ints; xs.count(x) -/
namespace DA
open PySem PySem.Spec PyProof.Rows L2
section
variable {ca : Str → Option Addr} {X : Cx} {W : WX} {e a b c tg o k v : Expr} {es : List Expr} {pos p p2 pos2 apos : Pos} {x m : Str}
def flatK (t : Bool) : D → Option (List Int)
  | .lst ys => if t then none else intsOf ys
  | .tup (y :: ys) => if t then intsOf (y :: ys) else none
  | _ => none
def flatKs (t : Bool) : List D → Option (List (List Int))
  | [] => some []
  | d :: ds => (flatK t d).bind fun k => (flatKs t ds).map (k :: ·)
def flatP (t : Bool) (k : List Int) : PyData := if t then .tuple (k.map .int) else .list (k.map .int)
theorem flatKs_len {t : Bool} : ∀ {ds : List D} {ks : List (List Int)}, flatKs t ds = some ks → ks.length = ds.length
  | [], ks, h => by cases h; rfl
  | d :: ds, ks, h => by
    unfold flatKs at h
    cases e : flatK t d with
    | none => rw [e] at h; cases h
    | some k =>
      cases e2 : flatKs t ds with
      | none => rw [e, e2] at h; cases h
      | some ks2 => rw [e, e2] at h; cases h; simp [flatKs_len e2]
theorem flat_dp {K : PySem.W.Frag} {H : Hp} {t : Bool} {d : D} {k : List Int} {v : V} (h : flatK t d = some k) (i : Is ca K H d v) : Dp K H v (flatP t k) ∧ (t = true → k ≠ []) := by
  have q : ∀ (ys : List D) (ns : List Int), intsOf ys = some ns → toPs ys = some (ns.map PyData.int) := by
    intro ys ns e
    have := intsOf_eq e
    subst this
    clear e
    induction ns with
    | nil => rfl
    | cons n ns ih =>
      show toPs (.int n :: ns.map D.int) = _
      simp only [toPs, toP, ih]
      rfl
  unfold flatK at h
  split at h
  · rename_i ys
    split at h
    · cases h
    · rename_i z
      have z : t = false := by simpa using z
      subst z
      refine ⟨dp_of i ?_, fun z => nomatch z⟩
      show toP (.lst ys) = some (.list (k.map .int))
      rw [toP, q ys k h]
      rfl
  · rename_i y ys
    split at h
    · rename_i z
      subst z
      refine ⟨dp_of i ?_, fun _ e => ?_⟩
      · show toP (.tup (y :: ys)) = some (.tuple (k.map .int))
        rw [toP, q _ k h]
        rfl
      · subst e
        have := intsOf_eq h
        cases this
    · cases h
  · cases h
theorem fp_toks (t : Bool) (k : List Int) : PySem.W.keyToks (flatP t k) = PySem.W.keyToksAll (k.map .int) := by
  cases t
  · show PySem.W.keyToks (.list _) = _
    unfold PySem.W.keyToks
    rfl
  · show PySem.W.keyToks (.tuple _) = _
    unfold PySem.W.keyToks
    rfl
theorem fp_depth (t : Bool) (k : List Int) : PyData.depth (flatP t k) ≤ 2 := by
  have h := kz_depth k
  cases t
  · show PyData.depth (.list _) ≤ 2
    simp only [PyData.depth] at h ⊢
    exact h
  · exact h
theorem fp_alike (t : Bool) (k l : List Int) : PySem.W.alike (flatP t k) (flatP t l) = true := by
  cases t
  · show PySem.W.alikeAll _ _ = true
    exact kz_alike k l
  · show PySem.W.alikeAll _ _ = true
    exact kz_alike k l
theorem fp_lt (t : Bool) (k l : List Int) : PySem.W.dataLt (flatP t k) (flatP t l) = HT.lexLt k l := by
  unfold PySem.W.dataLt
  rw [fp_toks, fp_toks]
  exact kt_lt k l
theorem leK_flat (t b : Bool) : PySem.W.dataLe b (fun p : D × List Int => flatP t p.2) = leK b := by
  funext p q
  show cond b (!PyProof.Rows.lexLt itemOrd (PySem.W.keyToks _) (PySem.W.keyToks _)) (!PyProof.Rows.lexLt itemOrd (PySem.W.keyToks _) (PySem.W.keyToks _)) = _
  rw [fp_toks, fp_toks, kt_lt, kt_lt]
  rfl
/-- the items, their data and their values together -/
theorem flat_each {pins : List (Addr × Obj)} {σ : L2.St} {H : Hp} {s : Shared} {t : Bool} {G : List Addr} (I : Inv X pins σ H s) (mu : ∀ b ∈ G, Mu (H b)) : ∀ {ds : List D} {xs : List V} {its : List Value} {ks : List (List Int)}, IsL ca X.K (cut H G) ds xs → Vals xs its → flatKs t ds = some ks →
    PySem.W.EachIs (fun v d => ∃ as, Reads s.heap v d as) its (ks.map (flatP t)) ∧ (t = true → ∀ k ∈ ks, k ≠ [])
  | [], xs, its, ks, i, r, h => by
    have := isL_nil.mp i
    subst this
    cases r
    cases h
    exact ⟨.nil, fun _ k hk => by cases hk⟩
  | d :: ds, xs, its, ks, i, r, h => by
    obtain ⟨v, vs, rfl, i1, i2⟩ := isL_cons.mp i
    unfold flatKs at h
    cases e : flatK t d with
    | none => rw [e] at h; cases h
    | some k =>
      cases e2 : flatKs t ds with
      | none => rw [e, e2] at h; cases h
      | some ks2 =>
        rw [e, e2] at h
        cases h
        cases r with
        | cons h1 h2 =>
          obtain ⟨dp, ne⟩ := flat_dp e (i1.le (le_of_cut fun b hb => (mu b hb).ne))
          obtain ⟨q1, q2⟩ := flat_each I mu i2 h2 e2
          refine ⟨.cons (Dp.reads I _ _ _ dp h1) q1, fun ht k' hk' => ?_⟩
          rcases List.mem_cons.mp hk' with z | z
          · rw [z]; exact ne ht
          · exact q2 ht k' z
def sortFD (b : Bool) (d : D) : Out D := match d with
  | .lst ds => (match flatKs false ds with
    | some ks => .ok (.lst (sortD b ds ks))
    | none => (match flatKs true ds with
      | some ks => .ok (.lst (sortD b ds ks))
      | none => .stuck))
  | _ => .stuck
theorem sortF_run {σ : L2.St} {G : List Addr} {H : Hp} {t : Bool} {ks : List (List Int)} {pins : List (Addr × Obj)} {s : Shared} {l : Addr} {xs : List V} {ds : List D} {b : Bool} {Q : VK} {kw : List (Str × Value)} (I : Inv X pins σ H s) (hs : SqL X.K H l xs) (hu : X.A.units + 8 < cLine) (mu : ∀ b ∈ G, Mu (H b)) (il : IsL ca X.K (cut H G) ds xs) (hk : flatKs t ds = some ks)
    (hc : ∀ (κ : PyProof.Rows.KeyKind) (its : List Value) (E : Value → Shared → Prop) (Q : Value → Shared → Prop), s.heap.IsList l its.toArray → PySem.W.SortsAt X.prog X.w X.A.in1.in1 { s with heap := PySem.W.sortingHeap (PySem.W.copyHeap s.heap its) (s.heap.objs.size + 1) its } κ its → its.length ≤ sizeLine →
      Q (.ref (s.heap.objs.size + 1)) { s with heap := sortedAll s.heap its (PySem.W.sortVals κ b its its).toArray } → wpAny (model X.prog X.w) X.A (call (.builtin "sorted") [.ref l] kw) Q E s)
    (q : ∀ (p : Addr) (ws : List V), H p = none → IsL ca X.K (cut H G) (sortD b ds ks) ws → Q (.ref p) (upd H p (.lst ws))) :
    wpAny (model X.prog X.w) X.A (call (.builtin "sorted") [.ref l] kw) (EP X pins σ Q) X.xe s := by
  obtain ⟨its, rv, hl, hz⟩ := I.list hs
  have hZ : its.length ≤ sizeLine := by rw [← rv.length]; exact hz
  have I1 : Inv X pins σ H { s with heap := PySem.W.sortingHeap (PySem.W.copyHeap s.heap its) (s.heap.objs.size + 1) its, toks := s.toks } := I.kept fun b o z => PySem.W.sortingHeap_old (Nat.ne_of_lt (Nat.lt_succ_of_lt (Heap.lt_size z))) (PySem.W.copyHeap_old z)
  obtain ⟨er, en⟩ := flat_each I1 mu il rv hk
  have hlen := flatKs_len hk
  have al : PySem.W.AllAlike (ks.map (flatP t)) := by
    intro d hd d' hd'
    obtain ⟨x, _, rfl⟩ := List.mem_map.mp hd
    obtain ⟨y, _, rfl⟩ := List.mem_map.mp hd'
    exact fp_alike t x y
  have so : PySem.W.Sortable (ks.map (flatP t)) := by
    cases t with
    | false =>
      refine .inr fun d hd => ?_
      obtain ⟨x, _, rfl⟩ := List.mem_map.mp hd
      exact ⟨fun z => (nomatch z), fun xs z => nomatch z⟩
    | true =>
      refine .inl fun d hd => ?_
      obtain ⟨x, hx, rfl⟩ := List.mem_map.mp hd
      cases x with
      | nil => exact absurd rfl (en rfl _ hx)
      | cons y r => exact ⟨_, _, rfl⟩
  refine hc (PySem.W.dataKind _ _) its _ _ hl.isList (PySem.W.SortsAt.data er al so fun d hd => ?_) hZ ?_
  · obtain ⟨x, _, rfl⟩ := List.mem_map.mp hd
    have := fp_depth t x
    show X.A.units + _ + _ + _ < _
    omega
  · have ez : (ds.zip ks).map (fun p : D × List Int => flatP t p.2) = ks.map (flatP t) := by
      rw [show (fun p : D × List Int => flatP t p.2) = flatP t ∘ Prod.snd from rfl, ← List.map_map, List.map_snd_zip (by rw [hlen]; exact Nat.le_refl _)]
    rw [← ez] at er al ⊢
    have e1 := PySem.W.sortVals_each (rev := b) (κ := PySem.W.dataKind (PySem.W.sortingHeap (PySem.W.copyHeap s.heap its) (s.heap.objs.size + 1) its) ((ds.zip ks).map fun p : D × List Int => flatP t p.2)) (fun p : D × List Int => PySem.W.keyToks (flatP t p.2)) (each_is il rv (by rw [hlen, il.len])) (PySem.W.each_of_map (R := fun v d => (PySem.W.dataKind (PySem.W.sortingHeap (PySem.W.copyHeap s.heap its) (s.heap.objs.size + 1) its) ((ds.zip ks).map fun p : D × List Int => flatP t p.2)).keyOf v = some (PySem.W.keyToks d)) (fun p : D × List Int => flatP t p.2) (PySem.W.each_keys al er))
    obtain ⟨ep, he'⟩ := PyProof.Rows.sortedAll_at s.heap its (PySem.W.sortVals (PySem.W.dataKind (PySem.W.sortingHeap (PySem.W.copyHeap s.heap its) (s.heap.objs.size + 1) its) ((ds.zip ks).map fun p : D × List Int => flatP t p.2)) b its its).toArray
    have e2 : ((ds.zip ks).mergeSort (PySem.W.sortLe (listOrd itemOrd) b fun p : D × List Int => PySem.W.keyToks (flatP t p.2))) = (ds.zip ks).mergeSort (leK b) := by
      rw [← leK_flat t b]
      rfl
    have e1 : PySem.W.EachIs _ _ ((ds.zip ks).mergeSort (PySem.W.sortLe (listOrd itemOrd) b fun p : D × List Int => PySem.W.keyToks (flatP t p.2))) := e1
    rw [e2] at e1
    obtain ⟨ws, rw', iw⟩ := is_each e1
    have lw : ws.length ≤ sizeLine := by
      rw [← iw.len, List.length_map, List.length_mergeSort, List.length_zip]
      have : ds.length = xs.length := il.len
      omega
    exact ⟨.ref _, upd H (s.heap.objs.size + 1) (.lst ws), I.laid (t' := s.toks) (fun _ _ => PyProof.Rows.sortedAll_old) (Nat.le_succ _) ⟨lw, _, ep, rw', he'⟩, rfl, q _ ws (I.hok.fresh (Nat.le_succ _)) iw⟩
theorem cr_sortFR {t : Bool} {k : Nat} (J : JX X W k) {b : Bool} : CallRK X (.builtin "sorted") [Str.ofString "reverse"] (fun vs zs H Q => ∃ (l : Addr) (G : List Addr) (ds : List D) (xs : List V) (ks : List (List Int)), vs = [.ref l] ∧ zs = [.bl b] ∧ SqL X.K H l xs ∧ (∀ b ∈ G, Mu (H b)) ∧ IsL ca X.K (cut H G) ds xs ∧ flatKs t ds = some ks ∧
    ∀ (p : Addr) (ws : List V), H p = none → IsL ca X.K (cut H G) (sortD b ds ks) ws → Q (.ref p) (upd H p (.lst ws))) := by
  intro pins s σ H vs zs us ws Q I r rz h
  obtain ⟨l, G, ds, xs, ks, rfl, rfl, hs, mu, il, hk, fin⟩ := h
  obtain rfl := Vals.ref1 r
  obtain ⟨w1, rfl, e1⟩ := vals1 rz
  obtain rfl : w1 = Value.bool b := e1
  have hu := J.room.units
  exact sortF_run I hs (by omega) mu il hk (fun κ its E Q hl S hZ q => PySem.W.sorted_rev_vals hl S hZ q) fin
theorem call_sortF {t : Bool} {k : Nat} (J : JX X W k) : CallR X (.builtin "sorted") (fun vs H Q => ∃ (l : Addr) (G : List Addr) (ds : List D) (xs : List V) (ks : List (List Int)), vs = [.ref l] ∧ SqL X.K H l xs ∧ (∀ b ∈ G, Mu (H b)) ∧ IsL ca X.K (cut H G) ds xs ∧ flatKs t ds = some ks ∧
    ∀ (p : Addr) (ws : List V), H p = none → IsL ca X.K (cut H G) (sortD false ds ks) ws → Q (.ref p) (upd H p (.lst ws))) := by
  intro pins s σ H vs us Q I r h
  obtain ⟨l, G, ds, xs, ks, rfl, hs, mu, il, hk, fin⟩ := h
  obtain rfl := Vals.ref1 r
  have hu := J.room.units
  exact sortF_run (kw := []) I hs (by omega) mu il hk (fun κ its E Q hl S hZ q => PySem.W.sorted_vals hl S hZ q) fin
def sortFA (t b : Bool) (d : D) : Out D := match d with
  | .lst ds => (match flatKs t ds with
    | some ks => .ok (.lst (sortD b ds ks))
    | none => .stuck)
  | _ => .stuck
theorem ed_sortFR (t : Bool) {k : Nat} {g : Rn → Out D} {b : Bool} {kp2 bp : Pos} {bn : Nat} (J : JX X W k) (hm : X.mg "sorted" = none) (h : ED ca X W e g)
    (hg : Gl X "sorted" := by rfl) (he0 : starEach [e] X.env = (false, eval e X.env) :: starEach [] X.env := by rfl)
    (he : backTo pos (starEach [e] X.env) = (false, eval e X.env) :: backTo pos (starEach [] X.env) := by rfl) (hpl : (backTo pos (starEach [e] X.env)).any (·.1) = false := by rfl)
    (hall : (backToKw pos (keywordEach [⟨some "reverse", .Constant (.bool b) bn bp, kp2⟩] X.env)).all (·.1.isSome) = true := by rfl)
    (hnone : (backToKw pos (keywordEach [⟨some "reverse", .Constant (.bool b) bn bp, kp2⟩] X.env)).any (·.1.isNone) = false := by rfl)
    (hks : (backToKw pos (keywordEach [⟨some "reverse", .Constant (.bool b) bn bp, kp2⟩] X.env)).filterMap (·.1) = [Str.ofString "reverse"] := by rfl) :
    ED ca X W (.Call (.Name "sorted" p) [e] [⟨some "reverse", .Constant (.bool b) bn bp, kp2⟩] pos) (una (sortFA t b) g) := by
  obtain ⟨te, pe, h⟩ := h
  refine ⟨_, pe_callBK (cr_sortFR (ca := ca) (t := t) (b := b) J) hg hm (by decide +kernel) (pa_cons pe pa_nil he0) (pk_cons pe_bl pk_nil) (by decide) (by decide) he hpl hall hnone hks, fun H0 Fa ts us ρ σ H Q hl E o => ?_⟩
  refine h H0 Fa ts us ρ σ H _ hl E (OutE.bind o |>.imp (fun d o v H2 F E2 i => ?_) fun n q => q)
  have o := o.nx (Y := fun _ => False)
  cases d with
  | lst ds =>
    unfold sortFA at o
    dsimp only at o
    cases ek : flatKs t ds with
    | none => rw [ek] at o; exact o.elim
    | some ks =>
      rw [ek] at o
      obtain ⟨l, xs, rfl, hsq, il⟩ := is_lst.mp i
      exact ⟨l, Fa ++ F, ds, xs, ks, rfl, rfl, sq_whole hsq, E2.muG, il, ek, fun p ws hn iw => o _ _ F (E2.same (upd_same_new hn)) (new_lst E2.muG hn iw)⟩
  | _ => exact o.elim
theorem ed_sortF (t : Bool) {k : Nat} {g : Rn → Out D} (J : JX X W k) (hm : X.mg "sorted" = none) (h : ED ca X W e g) (hg : Gl X "sorted" := by rfl) (he : starEach [e] X.env = (false, eval e X.env) :: starEach [] X.env := by rfl) (hpl : (backTo pos (starEach [] X.env)).any (·.1) = false := by rfl) :
    ED ca X W (.Call (.Name "sorted" p) [e] [] pos) (una (sortFA t false) g) := by
  obtain ⟨te, pe, h⟩ := h
  refine ⟨_, pe_callB (call_sortF (ca := ca) (t := t) J) hg hm (by decide +kernel) (pa_cons pe pa_nil he) (by decide) (by decide) he hpl, fun H0 Fa ts us ρ σ H Q hl E o => ?_⟩
  refine h H0 Fa ts us ρ σ H _ hl E (OutE.bind o |>.imp (fun d o v H2 F E2 i => ?_) fun n q => q)
  have o := o.nx (Y := fun _ => False)
  cases d with
  | lst ds =>
    unfold sortFA at o
    dsimp only at o
    cases ek : flatKs t ds with
    | none => rw [ek] at o; exact o.elim
    | some ks =>
      rw [ek] at o
      obtain ⟨l, xs, rfl, hsq, il⟩ := is_lst.mp i
      exact ⟨l, Fa ++ F, ds, xs, ks, rfl, sq_whole hsq, E2.muG, il, ek, fun p ws hn iw => o _ _ F (E2.same (upd_same_new hn)) (new_lst E2.muG hn iw)⟩
  | _ => exact o.elim
/-! ### a > b, lists of ints -/
def dGtF (t : Bool) (x y : D) : Out D := match flatK t x, flatK t y with
  | some k, some l => .ok (.bl (HT.lexLt l k))
  | _, _ => .stuck
def rGtF (K : PySem.W.Frag) (t : Bool) : R2 := fun x y H Q => ∃ k l, Dp K H x (flatP t k) ∧ Dp K H y (flatP t l) ∧ Q (.bl (HT.lexLt l k)) H
theorem op_gtF (t : Bool) (hu : X.A.units + 4 < cLine) : OpR X (compareOp .Gt) (rGtF X.K t) := by
  intro pins s σ H x y v u Q I rx ry h
  obtain ⟨k, l, h1, h2, q⟩ := h
  obtain ⟨as, r1⟩ := Dp.reads I _ _ _ h1 rx
  obtain ⟨bs, r2⟩ := Dp.reads I _ _ _ h2 ry
  refine PySem.W.rcGt_alike _ _ X.A s _ _ _ _ r1 r2 (fp_alike t k l) (by cases t <;> exact fun z => nomatch z) (by have := fp_depth t k; omega) X.prog X.w _ _ ?_
  rw [fp_lt]
  exact ⟨.bl _, H, I, rfl, q⟩
theorem opd_gtF {K : PySem.W.Frag} (t : Bool) : OpD ca K (rGtF K t) (dGtF t) := by
  intro G H d1 d2 v1 v2 Q mu i1 i2 o
  unfold dGtF at o
  split at o
  · rename_i k l e1 e2
    exact ⟨k, l, (flat_dp e1 (i1.le (le_of_cut fun b hb => (mu b hb).ne))).1, (flat_dp e2 (i2.le (le_of_cut fun b hb => (mu b hb).ne))).1, o _ _ (fun _ _ h => h) (is_bl.mpr rfl)⟩
  · exact o.elim
theorem ed_gtF (t : Bool) {k : Nat} (J : JX X W k) {f g : Rn → Out D} (ha : ED ca X W a f) (hb : ED ca X W b g) : ED ca X W (.Compare a [.Gt] [b] pos) (bin (dGtF t) f g) := ed_cmp (op_gtF t (by have := J.room.units; omega)) (opd_gtF t) ha hb
theorem eb_gtF (t : Bool) {k : Nat} (J : JX X W k) {f g : Rn → Out D} (ha : ED ca X W a f) (hb : ED ca X W b g) : EB ca X W (.Compare a [.Gt] [b] pos) (tst (dGtF t) f g) := eb_cmp (op_gtF t (by have := J.room.units; omega)) (opd_gtF t) ha hb
/-! ### xs.count(x) -/

def dCount (x y : D) : Out D := match toP x, toP y with
  | some (.list qs), some r => if PyData.plainAll qs && (r.plain && decide (PyData.depthAll qs ≤ 30)) then .ok (.int ((qs.countP fun z => PyData.eqv z r : Nat) : Int)) else .stuck
  | _, _ => .stuck
def rCount (K : PySem.W.Frag) : V → List V → Hp → VK → Prop := fun x xs H Q => ∃ (l : Addr) (y : V) (qs : List PyData) (r : PyData), x = .ref l ∧ xs = [y] ∧ Dp K H (.ref l) (.list qs) ∧ Dp K H y r ∧ PyData.plainAll qs = true ∧ r.plain = true ∧ PyData.depthAll qs ≤ 30 ∧ Q (.int ((qs.countP fun z => PyData.eqv z r : Nat) : Int)) H
theorem mt_count (hu : X.A.units + 40 < cLine) : MtR X "list.count" (rCount X.K) := by
  intro pins s σ H x xs v us Q I rx rv h
  obtain ⟨l, y, qs, r, rfl, rfl, h1, h2, p1, p2, p3, q⟩ := h
  cases rx
  obtain ⟨u, rfl, ru⟩ := rv.one
  cases h1 with
  | lst hs ha =>
    obtain ⟨its, rvs, hl, hz⟩ := I.list hs
    obtain ⟨as, r1⟩ := Dp.readsAll I _ _ _ ha rvs
    obtain ⟨bs, r2⟩ := Dp.reads I _ _ _ h2 ru
    refine PySem.SeqAt.count_list_data hl.isList (by rw [List.toList_toArray]; exact r1) r2 p1 p2 ?_ ⟨.int _, H, I.tok _, ⟨_, rfl⟩, q⟩
    omega
def countD (f g : Rn → Out D) (ρ : Rn) : Out D := (f ρ).bind fun x => (lstO x).bind fun _ => (g ρ).bind fun y => (dCount x y).nx
theorem ed_count {o : Expr} {f g : Rn → Out D} {k0 : Nat} (J : JX X W k0) (ho : ED ca X W o f) (ha : ED ca X W e g)
    (hbase : attributeBase o "count" X.env (eval o X.env) = eval o X.env := by rfl)
    (hfew : ((backTo pos (starEach [e] X.env)).all (fun x => !x.1) && (backToKw pos (keywordEach [] X.env)).all (fun x => x.1.isSome)
      && decide (([e] : List Expr).length + ([] : List Keyword).length + (if ([] : List Keyword).isEmpty then 0 else 1) < 30)) = true := by rfl)
    (hline : (apos.endLine == pos.line) = true := by rfl) (hs : starEach [e] X.env = (false, eval e X.env) :: starEach [] X.env := by rfl) (hpl : (backTo pos (starEach [] X.env)).any (·.1) = false := by rfl) :
    ED ca X W (.Call (.Attribute o "count" apos) [e] [] pos) (countD f g) := by
  obtain ⟨to, po, ho⟩ := ho
  obtain ⟨te, pe, ha⟩ := ha
  refine ⟨_, pe_bm PySem.F.plainAttrs_list PySem.F.slot_list_count PySem.F.type_list_count (mt_count (by have := J.room.units; omega)) po (pa_cons pe pa_nil hs) hbase hfew hline hs hpl, fun H0 Fa ts us ρ σ H Q hl E od => ?_⟩
  refine ho H0 Fa ts us ρ σ H _ hl E (OutE.bind od |>.imp (fun d od v H2 F2 E2 i => ?_) fun n q => q)
  cases d with
  | lst ds =>
    obtain ⟨l, xs, rfl, hsq, il⟩ := is_lst.mp i
    have od : OutE ((g ρ).bind fun y => (dCount (.lst ds) y).nx) _ _ := od
    refine ⟨.inl ⟨rfl, xs, sq_whole hsq⟩, ?_⟩
    refine ha H0 Fa (some (.dat (.lst ds)) :: ts) (some (.ref l) :: us) ρ σ H2 _ (by simp [hl]) ⟨F2, E2.top i⟩ (od.bind.imp (fun y od w H3 F3 E3 iy => ?_) fun n q a' H3 c E3 => q a' H3 c E3.pop)
    obtain ⟨E4, i4⟩ := E3.popD
    have od := od.nx (Y := fun _ => False)
    unfold dCount at od
    split at od
    · rename_i qs r e1 e2
      by_cases z : (PyData.plainAll qs && (r.plain && decide (PyData.depthAll qs ≤ 30))) = true
      · rw [if_pos z] at od
        obtain ⟨z1, z2⟩ := Bool.and_eq_true_iff.mp z
        obtain ⟨z2, z3⟩ := Bool.and_eq_true_iff.mp z2
        exact ⟨l, w, qs, r, rfl, rfl, dp_of (E4.whole i4) e1, dp_of (E4.whole iy) e2, z1, z2, of_decide_eq_true z3, od _ _ F3 E4 (is_int.mpr rfl)⟩
      · rw [if_neg z] at od; exact od.elim
    · exact od.elim
  | _ => exact od.elim
/-! ### list(x), its cell new -/
def dLst : D → Out M
  | .lst ds => .ok (.lst (ds.map .dat))
  | _ => .stuck
def lofM (f : Rn → Out (List D)) (ρ : Rn) : Out M := (f ρ).bind fun xs => ((dListOf xs).nx).bind dLst
theorem lofM_eq (f : Rn → Out (List D)) (ρ : Rn) : lofM f ρ = (calD dListOf f ρ).bind dLst := by
  unfold lofM calD
  cases f ρ <;> rfl
theorem em_list {f : Rn → Out (List D)} (hm : X.mg "list" = none) (ha : EA ca X W [e] f) (hg : Gl X "list" := by rfl) (he : starEach [e] X.env = (false, eval e X.env) :: starEach [] X.env := by rfl) (hpl : (backTo pos (starEach [] X.env)).any (·.1) = false := by rfl) : EM ca X W (.Call (.Name "list" p) [e] [] pos) (lofM f) := by
  obtain ⟨ta, pa, ha⟩ := ha
  refine ⟨_, pe_callTy call_list_of hg hm (by decide +kernel) pa (by decide) (by decide) he hpl, fun H0 Fa ts us ρ σ H Q hl E o => ?_⟩
  unfold lofM at o
  refine ha H0 Fa ts us ρ σ H _ hl E (OutE.bind o |>.imp (fun xs o vs H2 F E2 i => ?_) fun n q => q)
  have put : ∀ (ds : List D) (ws : List V), dListOf xs = .ok (.lst ds) → IsL ca X.K (cut H2 (Fa ++ F)) ds ws → ∀ l, H2 l = none → Q (.ref l) (upd H2 l (.lst ws)) := by
    intro ds ws e r p hp
    rw [e] at o
    have o : OutE (Out.ok (M.lst (ds.map .dat))) _ _ := o
    refine o (.ref p) _ ⟨_, E2.push (F' := [p]) (Le.new hp) (fun a ha => upd_ne fun e => ?_) (by simp) (fun a ha => ?_) (ow_lst.mpr ⟨p, ws, [], rfl, upd_same, OwL.of_dats (r.le ((Le.new hp).cut (fun a n hn => ?_) fun a ha => ?_)), rfl⟩)⟩
    · subst e; exact (E2.muG _ ha).ne hp
    · have e : a = p := by simpa using ha
      subst e; exact hp
    · simp only [List.mem_append, List.mem_cons, not_or, List.not_mem_nil, or_false] at n ⊢
      exact ⟨n.1, ⟨fun e => hn (by rw [e]; exact hp), n.2⟩⟩
    · by_cases e : a = p
      · subst e; rw [upd_same]; simp
      · rw [upd_ne e]
        have : a ∈ Fa ++ F := by
          simp only [List.mem_append, List.mem_cons] at ha ⊢
          rcases ha with z | z | z
          · exact .inl z
          · rcases z with z | z
            · exact absurd z e
            · cases z
          · exact .inr z
        exact (E2.muG _ this).ne
  unfold dListOf at o
  split at o
  · obtain ⟨v, rfl, i1⟩ := isL_1 i
    obtain ⟨a, ws, rfl, hq, r⟩ := is_lst.mp i1
    exact ⟨a, ws, rfl, .inl (sq_whole hq), fun l hl => put _ ws rfl r l hl⟩
  · obtain ⟨v, rfl, i1⟩ := isL_1 i
    obtain ⟨a, ws, rfl, hq, r⟩ := is_tup.mp i1
    exact ⟨a, ws, rfl, .inr (.inl (.inl (cut_some hq).2)), fun l hl => put _ ws rfl r l hl⟩
  · exact o.elim
end
end DA
set_option maxHeartbeats 4000000
/-! DS: C(..) as a new cell of one's own (so that it may be made of a borrowed list) -/
namespace DA
open PySem PySem.Spec PyProof.Rows L2
def sFrz (i : Nat) (s : Rn → SOut) (ρ : Rn) : SOut := s (frzR i ρ)
def objM : D → M
  | .obj C fs ds => .obj C fs (ds.map .dat)
  | d => .dat d
noncomputable def newM (Cn : Str) (d : Addr → List D → Out Ac) (g : Rn → Out (List D)) (ρ : Rn) : Out M := (g ρ).bind fun ds => (newD Cn d ds).map objM
section
variable {X : Cx} {W : WX} {e : Expr} {es : List Expr} {pos p : Pos} {k : Nat}
theorem mk_denM {K : PySem.W.Frag} {cs Ls : List Str} {Cn : Str} {d : Addr → List D → Out Ac} {ta : TA} {g : Rn → Out (List D)} (hcs : cs.contains Cn = true) (hL : Ls.contains Cn = true) (ha : EvA (caK cs K) K W ta g) :
    EvM (caK cs K) K W (tMk (He.ga K Cn) (PI (caK cs K) K Ls d) (WE W) ta) (newM Cn d g) := by
  have hC : caK cs K Cn = some (He.ga K Cn) := by unfold caK; rw [if_pos hcs]
  intro H0 Fa ts us ρ σ H Q hl E o
  refine ha H0 Fa ts us ρ σ H _ hl E (OutE.bind o |>.imp (fun ds o vs H1 F E1 i => ?_) fun n q => q)
  intro x dx hx hdx ne
  have h1 : ∀ a u, H1 a = some u → (upd (upd H1 dx (.own x)) x (.ins (He.ga K Cn) dx [])) a = some u := fun a u q => by
    rw [upd_ne (ne_of_none q hx), upd_ne (ne_of_none q hdx)]; exact q
  have nx : x ∉ Fa ++ F := fun z => (E1.muG x z).ne hx
  have E2 := E1.same h1
  have mu2 : ∀ a ∈ Fa ++ F ++ [x], Mu ((upd (upd H1 dx (.own x)) x (.ins (He.ga K Cn) dx [])) a) := fun a ha => by
    rcases List.mem_append.mp ha with z | z
    · exact E2.muG a z
    · rw [List.mem_singleton.mp z, upd_same]; exact .inr (.inr (.inr ⟨_, _, _, rfl⟩))
  have i2 : IsL (caK cs K) K (cut (upd (upd H1 dx (.own x)) x (.ins (He.ga K Cn) dx [])) (Fa ++ F ++ [x])) ds vs := i.le ((Le.of_same h1).cut (fun a n hn z => by
    rcases List.mem_append.mp z with z | z
    · exact n z
    · exact hn (by rw [List.mem_singleton.mp z]; exact hx)) fun a ha => (mu2 a ha).ne)
  refine ⟨Fa ++ F ++ [x], x, He.ga K Cn, dx, Cn, ds, vs, rfl, mu2, by simp, upd_same, hC, hL, i2, ?_⟩
  unfold newD at o
  by_cases z : ∀ y, d y ds = d 0 ds
  · rw [if_pos z] at o
    rw [z x]
    cases ed : d 0 ds with
    | stuck => rw [ed] at o; exact o.elim
    | exc n =>
      rw [ed] at o
      intro a H3 c f
      have f2 : Frm H1 (Fa ++ F) H3 := ⟨(Le.of_same h1).trans f.le, fun b hb => (f.keep b (List.mem_append_left _ hb)).trans (by rw [upd_ne (fun e => nx (by rw [← e]; exact hb)), upd_ne (fun e => (E1.muG b hb).ne (by rw [e]; exact hdx))])⟩
      exact o a H3 c ⟨F, E1.go f2.le f2.keep⟩
    | ok acc =>
      rw [ed] at o
      have o : OutE (Out.ok (M.obj Cn (acc.reverse.map (·.1)) ((acc.reverse.map (·.2)).map .dat))) _ _ := o
      intro H2 H3 rkv b1 b2 b3 b4 b5
      have e2 : H2 = upd (upd (upd H1 dx (.own x)) x (.ins (He.ga K Cn) dx [])) x (.ins (He.ga K Cn) dx rkv.reverse) := by
        funext b
        by_cases e : b = x
        · subst e; rw [upd_same]; exact b2
        · rw [upd_ne e]; exact b1 b e
      have l2 : Le H1 H2 := by rw [e2]; exact le_upd (Le.of_same h1) hx
      have k2 : ∀ a ∈ Fa ++ F, H2 a = H1 a := fun a ha => by
        have n1 : a ≠ x := fun e => nx (by rw [← e]; exact ha)
        rw [b1 a n1, upd_ne n1, upd_ne (fun e => (E1.muG a ha).ne (by rw [e]; exact hdx))]
      have k3 : ∀ a ∈ Fa ++ F, H3 a = H1 a := fun a ha => (b4.keep a (List.mem_append_left _ ha)).trans (k2 a ha)
      have x3 : H3 x = some (.ins (He.ga K Cn) dx rkv.reverse) := by rw [b4.keep x (by simp)]; exact b2
      refine ⟨rfl, o (.ref x) H3 ⟨_, E1.push (F' := [x]) (l2.trans b4.le) k3 (by simp) (fun a ha => ?_) (ow_obj.mpr ⟨x, He.ga K Cn, dx, rkv.reverse, [], rfl, hC, x3, ?_, OwL.of_dats ?_, rfl⟩)⟩⟩
      · rw [List.mem_singleton.mp ha]; exact hx
      · rw [List.map_reverse, List.map_reverse, b3]
      · have q := b5.rev
        rw [← List.map_reverse, ← List.map_reverse] at q
        refine q.le (le_shrink (fun a ha => ?_) fun a ha => ?_)
        · simp only [List.mem_append, List.mem_singleton] at ha ⊢
          rcases ha with ha | ha | ha
          · exact .inl (.inl ha)
          · exact .inr ha
          · exact .inl (.inr ha)
        · simp only [List.mem_append, List.mem_singleton] at ha
          rcases ha with ha | ha | ha
          · rw [k3 a (List.mem_append_left _ ha)]; exact (E1.muG a (List.mem_append_left _ ha)).ne
          · rw [ha, x3]; simp
          · rw [k3 a (List.mem_append_right _ ha)]; exact (E1.muG a (List.mem_append_right _ ha)).ne
  · rw [if_neg z] at o; exact o.elim
theorem em_new {cs Ls : List Str} {Cn : Str} {j : Nat} {d : Addr → List D → Out Ac} {g : Rn → Out (List D)} (J : JX X W k) (O : OkI (caK cs X.K) X.prog X.w X.K X.mg X.base Ls Cn j d) (hk : (He.Fa.mkr Cn).ok X.K = true) (gm : X.mg Cn = some (.ref (He.ga X.K Cn)))
    (ha : EA (caK cs X.K) X W (e :: es) g) (hcs : cs.contains Cn = true := by decide +kernel) (hL : Ls.contains Cn = true := by decide +kernel) (hj : j + 1 ≤ k := by decide) (hg : Gl X Cn := by rfl) (hdb : (Cn == ("__debug__" : Str)) = false := by decide)
    (he : starEach (e :: es) X.env = (false, eval e X.env) :: starEach es X.env := by rfl) (hpl : (backTo pos (starEach es X.env)).any (·.1) = false := by rfl) : EM (caK cs X.K) X W (.Call (.Name Cn p) (e :: es) [] pos) (newM Cn d g) := by
  obtain ⟨fd, ps, c1, c2, c3⟩ := O.ex
  obtain ⟨ta, pa, ha⟩ := ha
  exact ⟨_, pe_mk (He.mkr_ok hk) c3 (J.room.mono hj) hg gm c1 (fun σ => passAt J.tk σ) pa hdb he hpl, mk_denM hcs hL ha⟩
end
/-- C(), C a class without an __init__, as a new cell of one's own -/
def newO (Cn : Str) (_ : Rn) : Out M := .ok (.obj Cn [] [])
section
variable {X : Cx} {W : WX} {pos p : Pos} {k : Nat}
theorem em_newO {cs : List Str} {Cn : Str} {fa : List He.Fa} {fn : List He.DefD} {fc : List (Nat × Str)} (L : LX X.prog X.w X.K X.mg X.base fa fn fc) (gm : X.mg Cn = some (.ref (He.ga X.K Cn))) (hfc : fc.contains (1, Cn) = true := by decide +kernel) (hcs : cs.contains Cn = true := by decide +kernel)
    (hg : Gl X Cn := by rfl) (hdb : (Cn == ("__debug__" : Str)) = false := by decide) : EM (caK cs X.K) X W (.Call (.Name Cn p) [] [] pos) (newO Cn) := by
  have q : mk0B X.K Cn = true := List.all_eq_true.mp L.cls (1, Cn) (List.contains_iff_mem.mp hfc)
  unfold mk0B at q
  obtain ⟨q1, q⟩ := Bool.and_eq_true_iff.mp q
  obtain ⟨q2, q⟩ := Bool.and_eq_true_iff.mp q
  obtain ⟨q3, q4⟩ := Bool.and_eq_true_iff.mp q
  have hC : caK cs X.K Cn = some (He.ga X.K Cn) := by unfold caK; rw [if_pos hcs]
  refine ⟨fun σ H Q => ∀ x dx, H x = none → H dx = none → dx ≠ x → Q (.ref x) (upd (upd H dx (.own x)) x (.ins (He.ga X.K Cn) dx [])), ⟨fun pins s σ H Q I h => wpAny_Call_Name_kw (ld_glob I hg gm ?_ hdb)⟩, fun H0 Fa ts us ρ σ H Q hl ⟨F, E⟩ o x dx hx hdx ne => ?_⟩
  · exact PySem.W.callWith_K0 I.kIn q4 (run_mk0 q1 (He.eqO_ok q2) (of_decide_eq_true q3) I h)
  · have h1 : ∀ a u, H a = some u → (upd (upd H dx (.own x)) x (.ins (He.ga X.K Cn) dx [])) a = some u := fun a u q => by
      rw [upd_ne (ne_of_none q hx), upd_ne (ne_of_none q hdx)]; exact q
    have nx : x ∉ Fa ++ F := fun z => (E.muG x z).ne hx
    have o : OutE (Out.ok (M.obj Cn [] [])) _ _ := o
    refine o (.ref x) _ ⟨_, E.push (F' := [x]) (Le.of_same h1) (fun a ha => ?_) (by simp) (fun a ha => ?_) (ow_obj.mpr ⟨x, _, dx, [], [], rfl, hC, upd_same, rfl, owL_nil.mpr ⟨rfl, rfl⟩, rfl⟩)⟩
    · rw [upd_ne (fun e => nx (by rw [← e]; exact ha)), upd_ne (fun e => (E.muG a ha).ne (by rw [e]; exact hdx))]
    · rw [List.mem_singleton.mp ha]; exact hx
end
section
variable {ca : Str → Option Addr} {X : Cx} {W : WX} {e a b c tg o k v : Expr} {es : List Expr} {pos p p2 pos2 apos : Pos} {x m : Str}
/-! ### list + list -/
def rCatLS (K : PySem.W.Frag) : R2 := fun x y H Q => ∃ l b xs zs, x = .ref l ∧ y = .ref b ∧ SqL K H l xs ∧ SqL K H b zs ∧ xs.length + zs.length ≤ sizeLine ∧ ∀ p, H p = none → Q (.ref p) (upd H p (.lst (xs ++ zs)))
theorem op_catLS : OpR X (binaryOp .Add) (rCatLS X.K) := by
  intro pins s σ H x y v u Q I rx ry h
  obtain ⟨l, b, xs, zs, rfl, rfl, hH, hB, hz, q⟩ := h
  cases rx
  cases ry
  obtain ⟨its, r, hl, z⟩ := I.list hH
  obtain ⟨its2, r2, hl2, z2⟩ := I.list hB
  obtain ⟨⟨cls, dd, data, sl⟩, ho, hc, n, hd⟩ := hl.isList
  obtain ⟨⟨cls2, dd2, data2, sl2⟩, ho2, hc2, n2, hd2⟩ := hl2.isList
  simp only at hc hd hc2 hd2
  subst hc hd hc2 hd2
  have ea : its.toArray ++ its2.toArray = (its ++ its2).toArray := by simp
  have e1 := r.length
  have e2 := r2.length
  refine concat_meets ⟨_, ho, rfl⟩ ⟨_, ho2, rfl⟩ noFill_list_add seq_list_add PySem.F.slot_list_add PySem.F.entry_list_add (PySem.F.args_list_add_2 _ _) (PyProof.Rows.list_addW l b its.toArray its2.toArray n n2 dd dd2 sl sl2 (by rw [List.size_toArray, List.size_toArray]; omega)) ⟨ho, ho2, ?_⟩
  rw [ea]
  exact ⟨.ref _, _, I.lnew (t' := s.toks) (r.append r2) (by rw [List.length_append]; omega), rfl, q _ I.fresh⟩
def dCatL (x y : D) : Out D := match x, y with
  | .lst xs, .lst ys => if xs.length + ys.length ≤ sizeLine then .ok (.lst (xs ++ ys)) else .stuck
  | _, _ => .stuck
theorem opd_catL {K : PySem.W.Frag} : OpD ca K (rCatLS K) dCatL := by
  intro G H d1 d2 v1 v2 Q mu i1 i2 o
  unfold dCatL at o
  split at o
  · rename_i xs ys
    split at o
    · rename_i z
      obtain ⟨a, vs, rfl, ha, r1⟩ := is_lst.mp i1
      obtain ⟨b, ws, rfl, hb, r2⟩ := is_lst.mp i2
      exact ⟨a, b, vs, ws, rfl, rfl, sq_whole ha, sq_whole hb, by rw [← r1.len, ← r2.len]; exact z, fun q hq => o _ _ (upd_same_new hq) (new_lst mu hq (r1.app r2))⟩
    · exact o.elim
  · exact o.elim
theorem ed_catL {f g : Rn → Out D} (ha : ED ca X W a f) (hb : ED ca X W b g) : ED ca X W (.BinOp a .Add b pos) (bin dCatL f g) := ed_op op_catLS opd_catL ha hb
end
end DA
set_option maxHeartbeats 4000000
/-! DT: == of dicts whose keys are tuples -/
namespace DA.Dq
open PySem PySem.Calls PyProof.Rows PySem.Spec PySem.W
section
variable {prog : Program} {w : World} {K : Type} [DecidableEq K] {knd : HeapKind prog w K} {A : Around} {E : Value → Shared → Prop} {s : Shared}
inductive HitsH (prog : Program) (w : World) (A : Around) (s : Shared) (kb : List (K × Addr × Value)) : List (K × Addr × Value) → Bool → Prop
  | nil : HitsH prog w A s kb [] true
  | miss {k : K} {p : Addr × Value} {r : List (K × Addr × Value)} : atKey kb k = none → HitsH prog w A s kb ((k, p) :: r) false
  | hit {k : K} {p q : Addr × Value} {r : List (K × Addr × Value)} {e b : Bool} : atKey kb k = some q → SeqAt.EqP prog w A s p.2 q.2 e → HitsH prog w A s kb r b → HitsH prog w A s kb ((k, p) :: r) (e && b)
theorem HitsH.inv {kb : List (K × Addr × Value)} {k : K} {p : Addr × Value} {r : List (K × Addr × Value)} {b : Bool} (h : HitsH prog w A s kb ((k, p) :: r) b) :
    (atKey kb k = none ∧ b = false) ∨ ∃ q e b', atKey kb k = some q ∧ SeqAt.EqP prog w A s p.2 q.2 e ∧ HitsH prog w A s kb r b' ∧ b = (e && b') := by
  cases h with
  | miss hn => exact .inl ⟨hn, rfl⟩
  | hit hy he hr => exact .inr ⟨_, _, _, hy, he, hr, rfl⟩
theorem samePairsH {nm : String} {a b : Addr} {ka kb : List (K × Addr × Value)} {r : Bool} {Q : Bool → Shared → Prop} (hu : knd.room A) (ha : (a == sysModules) = false) (hb : (b == sysModules) = false)
    (da : s.heap.DictOfH knd a ka) (db : s.heap.DictOfH knd b kb) (hits : ka.length = kb.length → HitsH prog w A s kb ka r) (h : Q (ka.length == kb.length && r) s) :
    wpAny (model prog w) A (Builtin.Dict.samePairs nm a b) Q E s := by
  obtain ⟨oa, es, ep, hoa, _, hda, hka, hia, hna⟩ := da
  obtain ⟨ob, es', ep', hob, _, hdb, hkb, hib, hnb⟩ := db
  have hla : ka.length = es.size := (size_of_entries hka).symm
  have hlb : kb.length = es'.size := (size_of_entries hkb).symm
  rw [hla, hlb] at h
  unfold Builtin.Dict.samePairs Builtin.Dict.showsAll
  rw [if_neg (show ¬ (a == sysModules) = true by rw [ha]; exact Bool.false_ne_true), if_neg (show ¬ (b == sysModules) = true by rw [hb]; exact Bool.false_ne_true)]
  refine wpAny_bind (wpAny_pure (wpAny_bind (wpAny_pure ?_)))
  refine wpAny_bind (wpAny_dictEntries hoa hda ?_)
  dsimp only
  refine wpAny_bind (wpAny_dictEntries hob hdb ?_)
  by_cases hsz : es.size = es'.size
  case neg =>
    rw [if_pos (by simpa using hsz)]
    have hbf : (es.size == es'.size) = false := by simpa using hsz
    rw [hbf, Bool.false_and] at h
    exact wpAny_bind (wpAny_rule (wpAny_pure h))
  case pos =>
    have h' : Q r s := by simpa [hsz] using h
    have hits' := hits (by rw [hla, hlb]; exact hsz)
    rw [if_neg (by rw [hsz]; simp)]
    refine wpAny_bind (wpAny_dictEpoch hoa hda ?_)
    refine wpAny_bind ?_
    rw [Std.Legacy.Range.forIn_eq_forIn_range']
    simp only [Std.Legacy.Range.size, Nat.sub_zero, Nat.add_sub_cancel, Nat.div_one]
    refine wpAny_forIn_list _
      (fun rest q s' => s' = s ∧ q = (none, ()) ∧ ∃ i, rest = List.range' i (es.size - i) ∧ i ≤ es.size ∧ HitsH prog w A s kb (ka.drop i) r)
      _ ?_ ?_ _ _ ⟨rfl, rfl, 0, by simp, Nat.zero_le _, hits'⟩
    · rintro x rest q s' ⟨rfl, rfl, i, hr, hi, hpre⟩
      have hlt : i < es.size := by
        rcases Nat.lt_or_ge i es.size with h | h
        · exact h
        · rw [Nat.sub_eq_zero_of_le h] at hr; simp at hr
      obtain ⟨rfl, hrest⟩ : x = i ∧ rest = List.range' (i + 1) (es.size - (i + 1)) := by
        have e : es.size - i = (es.size - (i + 1)) + 1 := by omega
        rw [e, List.range'_succ] at hr
        injection hr with h1 h2
        exact ⟨h1, h2⟩
      refine wpAny_bind (wpAny_dictEntries hoa hda ?_)
      have hlt' : x < ka.length := by rw [hla]; exact hlt
      obtain ⟨k, p, hkv⟩ : ∃ k p, ka[x] = (k, p) := ⟨_, _, rfl⟩
      have hdrop : ka.drop x = (k, p) :: ka.drop (x + 1) := by rw [← hkv]; exact List.drop_eq_getElem_cons hlt'
      have hek : es[x]? = some (entryOfKey knd (k, p)) := by
        rw [entry_at hka x, List.getElem?_eq_getElem hlt', hkv]
        rfl
      rw [hek]
      rw [hdrop] at hpre
      have hik : knd.is s'.heap k p.1 := by
        have := hia ka[x] (List.getElem_mem hlt')
        rw [hkv] at this
        exact this
      show wpAny _ _ (holding [.ref p.1, p.2] (dictFind b (.ref p.1) (knd.hash k) >>= _) >>= _) _ _ _
      refine wpAny_bind (wpAny_holding (wpAny_bind (wpAny_dictFind_heap hu hik hob hdb hkb hib hnb (fun hn => ?_) fun j q hj => ?_)))
      · have hn : atKey kb k = none := atKey_none_of_get hn
        rcases hpre.inv with ⟨_, er⟩ | ⟨y, _, _, hy, _⟩
        · rw [er] at h'
          refine wpAny_pure ?_
          show wpAny _ _ (if (!false) = true then _ else _) _ _ _
          rw [if_pos (by decide)]
          exact wpAny_pure (wpAny_pure h')
        · rw [hn] at hy; exact nomatch hy
      · have hv' : atKey kb k = some q := atKey_of_get hnb hj
        refine wpAny_bind (wpAny_dictEntries hob hdb ?_)
        have hej : es'[j]? = some (entryOfKey knd (k, q)) := by
          rw [entry_at hkb j, hj]
          rfl
        rw [hej]
        rcases hpre.inv with ⟨hn, _⟩ | ⟨y, e, b', hy, he, hrr, er⟩
        · rw [hv'] at hn; exact nomatch hn
        · have ey : q = y := Option.some.inj (hv'.symm.trans hy)
          rw [← ey] at he
          refine wpAny_holding (he _ _ ?_)
          cases e with
          | false =>
            rw [er, Bool.false_and] at h'
            show wpAny _ _ (if (!false) = true then _ else _) _ _ _
            rw [if_pos (by decide)]
            exact wpAny_pure (wpAny_pure h')
          | true =>
            rw [Bool.true_and] at er
            rw [← er] at hrr
            show wpAny _ _ (if (!true) = true then _ else _) _ _ _
            rw [if_neg (by decide)]
            refine wpAny_bind (wpAny_dictEpoch hoa hda ?_)
            rw [if_neg (by simp)]
            exact wpAny_pure ⟨rfl, rfl, x + 1, hrest, hlt, hrr⟩
    · rintro q s' ⟨rfl, rfl, i, hr, hi, hpre⟩
      have hin : i = es.size := by
        rcases Nat.lt_or_ge i es.size with h | h
        · have e : es.size - i = (es.size - (i + 1)) + 1 := by omega
          rw [e, List.range'_succ] at hr; exact nomatch hr
        · exact Nat.le_antisymm hi h
      refine wpAny_pure ?_
      rw [hin, ← hla, List.drop_length] at hpre
      cases hpre
      exact h'
theorem rcP_dictsH {a b : Addr} {ka kb : List (K × Addr × Value)} {r : Bool} (hk : knd.room A.in1) (ha : (a == sysModules) = false) (hb : (b == sysModules) = false)
    (da : s.heap.DictOfH knd a ka) (db : s.heap.DictOfH knd b kb) (hu : A.units < cLine) (hits : ka.length = kb.length → HitsH prog w A.in1 s kb ka r) (E Q : Value → Shared → Prop) (h : Q (.bool (ka.length == kb.length && r)) s) : wpAny (model prog w) A (richCompare .Eq (.ref a) (.ref b)) Q E s := by
  refine wpAny_richCompare_same_room (op := .Eq) da.typeIs db.typeIs PySem.F.slot_dict_eq (wpAny_call_entry PySem.F.slot_dict_eq da.typeIs PySem.F.entry_dict_eq ?_ (PySem.F.args_dict_eq_2 _ _)) hu
  show wpAny _ _ (Builtin.Dict.dictSlotArgs "__eq__" ⟨[.ref a, .ref b], []⟩ >>= _) _ _ s
  refine wpAny_bind ?_
  unfold Builtin.Dict.dictSlotArgs
  refine wpAny_bind (wpAny_notOrdered_dict da.typeIs ?_)
  show wpAny _ _ (pure (Value.ref a, Value.ref b)) _ _ s
  refine wpAny_pure ?_
  refine wpAny_bind (wpAny_isInstance (T := "dict") db.typeIs PySem.F.sub_dict_dict ?_)
  simp only [Bool.not_true, Bool.false_eq_true, if_false]
  refine wpAny_bind (wpAny_pure (wpAny_bind (wpAny_pure ?_)))
  refine wpAny_bind (samePairsH hk ha hb da db hits ?_)
  refine wpAny_pure ⟨_, rfl, ?_, ?_⟩
  · exact fun x => nomatch x
  · simpa using h
theorem rcN_dictsH {a b : Addr} {ka kb : List (K × Addr × Value)} {r : Bool} (hk : knd.room A.in1) (ha : (a == sysModules) = false) (hb : (b == sysModules) = false)
    (da : s.heap.DictOfH knd a ka) (db : s.heap.DictOfH knd b kb) (hu : A.units < cLine) (hits : ka.length = kb.length → HitsH prog w A.in1 s kb ka r) (E Q : Value → Shared → Prop) (h : Q (.bool (!(ka.length == kb.length && r))) s) : wpAny (model prog w) A (richCompare .NotEq (.ref a) (.ref b)) Q E s := by
  refine wpAny_richCompare_same_room (op := .NotEq) da.typeIs db.typeIs PySem.F.slot_dict_ne (wpAny_call_entry PySem.F.slot_dict_ne da.typeIs PySem.F.entry_dict_ne ?_ (PySem.F.args_dict_ne_2 _ _)) hu
  show wpAny _ _ (Builtin.Dict.dictSlotArgs "__ne__" ⟨[.ref a, .ref b], []⟩ >>= _) _ _ s
  refine wpAny_bind ?_
  unfold Builtin.Dict.dictSlotArgs
  refine wpAny_bind (wpAny_notOrdered_dict da.typeIs ?_)
  show wpAny _ _ (pure (Value.ref a, Value.ref b)) _ _ s
  refine wpAny_pure ?_
  refine wpAny_bind (wpAny_isInstance (T := "dict") db.typeIs PySem.F.sub_dict_dict ?_)
  simp only [Bool.not_true, Bool.false_eq_true, if_false]
  refine wpAny_bind (wpAny_pure (wpAny_bind (wpAny_pure ?_)))
  refine wpAny_bind (samePairsH hk ha hb da db hits ?_)
  refine wpAny_pure ⟨_, rfl, ?_, ?_⟩
  · exact fun x => nomatch x
  · have e : ((ka.length == kb.length && r) == false) = !(ka.length == kb.length && r) := by cases (ka.length == kb.length && r) <;> rfl
    first
    | exact h
    | (rw [e]; exact h)
    | simpa using h
    | (simp at h ⊢; exact h)
end
end DA.Dq
namespace DA
open PySem PySem.Spec PyProof.Rows L2
section
variable {ca : Str → Option Addr} {X : Cx} {W : WX} {e a b c tg o k v : Expr} {es : List Expr} {pos p p2 pos2 apos : Pos} {x m : Str}
/-- == of two values of a dict -/
def eqv1 (d d' : D) : Option Bool := match toP d, toP d' with
  | some q, some r => if q.plain && (r.plain && decide (q.depth ≤ 30)) then some (PyData.eqv q r) else none
  | _, _ => none
def eqDs (ks' : List (List Key)) (ds' : List D) : List (List Key) → List D → Option Bool
  | k :: ks, d :: ds => match lookD ks' ds' k with
    | none => some false
    | some d' => (eqv1 d d').bind fun e => (eqDs ks' ds' ks ds).map (e && ·)
  | [], [] => some true
  | _, _ => none
def eqDic (x y : D) : Option Bool := match x, y with
  | .dic ks ds, .dic ks' ds' => if ks.length = ks'.length then eqDs ks' ds' ks ds else some false
  | _, _ => none
theorem eqv1_run {pins : List (Addr × Obj)} {σ : L2.St} {H : Hp} {s : Shared} {A : Around} {d d' : D} {v v' : V} {u u' : Value} {r : Bool} (I : Inv X pins σ H s) (hu : A.units + 32 < cLine) (i : Is ca X.K H d v) (i' : Is ca X.K H d' v') (ru : RelV v u) (ru' : RelV v' u') (h : eqv1 d d' = some r) :
    SeqAt.EqP X.prog X.w A s u u' r := by
  unfold eqv1 at h
  split at h
  · rename_i q q' e1 e2
    split at h
    · rename_i z
      cases h
      obtain ⟨z1, z2⟩ := Bool.and_eq_true_iff.mp z
      obtain ⟨z2, z3⟩ := Bool.and_eq_true_iff.mp z2
      have z3 := of_decide_eq_true z3
      obtain ⟨as, r1⟩ := Dp.reads I _ _ _ (dp_of i e1) ru
      obtain ⟨bs, r2⟩ := Dp.reads I _ _ _ (dp_of i' e2) ru'
      exact (SeqAt.eqAt_plain _ _ A s _ _ _ _ r1 r2 z1 z2 (by omega)).eqP
    · cases h
  · cases h
theorem eqDs_run {pins : List (Addr × Obj)} {σ : L2.St} {H : Hp} {s : Shared} {A : Around} {kvs' : List (List Key × V)} {xs' : List (List Key × Addr × Value)} {ds' : List D} (I : Inv X pins σ H s) (hu : A.units + 32 < cLine) (kt' : KT H kvs' xs') (i' : IsL ca X.K H ds' (kvs'.map (·.2))) :
    ∀ {kvs : List (List Key × V)} {xs : List (List Key × Addr × Value)} {ds : List D} {r : Bool}, KT H kvs xs → IsL ca X.K H ds (kvs.map (·.2)) → eqDs (kvs'.map (·.1)) ds' (kvs.map (·.1)) ds = some r → Dq.HitsH X.prog X.w A s xs' xs r
  | [], xs, ds, r, kt, i, h => by
    cases kt
    cases ds with
    | nil => cases h; exact .nil
    | cons d ds =>
      have := i.len
      simp at this
  | (k, v) :: kvs, xs, ds, r, kt, i, h => by
    cases kt with
    | @cons _ q _ qs h1 t =>
      obtain ⟨e1, _, rv⟩ := h1
      obtain ⟨k2, pp⟩ := q
      have e1 : k = k2 := e1
      subst e1
      cases ds with
      | nil =>
        have := i.len
        simp at this
      | cons d ds =>
        obtain ⟨v0, vs', e, i1, i2⟩ := isL_cons.mp i
        rw [List.map_cons] at e
        injection e with e2 e3
        subst e2
        rw [← e3] at i2
        have lk := look_val k i'
        have vv := kt'.val k
        simp only [List.map_cons, eqDs] at h
        cases el : lookD (kvs'.map (·.1)) ds' k with
        | none =>
          rw [el] at h
          cases h
          rw [el] at lk
          refine .miss ?_
          have ev : valV kvs' k = none := lk
          rw [ev] at vv
          have := vv.none_of
          simpa using this
        | some d' =>
          rw [el] at h lk
          obtain ⟨v', ev, i3⟩ := lk
          rw [ev] at vv
          obtain ⟨u', eu, ru'⟩ := vv.some_of
          obtain ⟨qq, eq1, eq2⟩ := Option.map_eq_some_iff.mp eu
          subst eq2
          dsimp only at h
          cases eq : eqv1 d d' with
          | none => rw [eq] at h; cases h
          | some e0 =>
            rw [eq] at h
            cases er : eqDs (kvs'.map (·.1)) ds' (kvs.map (·.1)) ds with
            | none => rw [er] at h; cases h
            | some b0 =>
              rw [er] at h
              cases h
              exact .hit eq1 (eqv1_run I hu i1 i3 rv ru' eq) (eqDs_run I hu kt' i' t i2 er)
def rEqT (X : Cx) (ca : Str → Option Addr) : R2 := fun x y H Q => ∃ d d' r, Is ca X.K H d x ∧ Is ca X.K H d' y ∧ eqDic d d' = some r ∧ Q (.bl r) H
def rNeT (X : Cx) (ca : Str → Option Addr) : R2 := fun x y H Q => ∃ d d' r, Is ca X.K H d x ∧ Is ca X.K H d' y ∧ eqDic d d' = some r ∧ Q (.bl (!r)) H
theorem eqT_run {pins : List (Addr × Obj)} {σ : L2.St} {H : Hp} {s : Shared} {A : Around} {d d' : D} {v v' : V} {u u' : Value} {r : Bool} (I : Inv X pins σ H s) (hu : A.units + 64 < cLine) (i : Is ca X.K H d v) (i' : Is ca X.K H d' v') (ru : RelV v u) (ru' : RelV v' u') (h : eqDic d d' = some r)
    (E Q : Value → Shared → Prop) (q : Q (.bool r) s) : wpAny (model X.prog X.w) A (richCompare .Eq u u') Q E s := by
  unfold eqDic at h
  split at h
  · rename_i ks ds ks' ds'
    obtain ⟨a, kvs, rfl, ha, rfl, iL⟩ := is_dic.mp i
    obtain ⟨b, kvs', rfl, hb, rfl, iL'⟩ := is_dic.mp i'
    cases ru
    cases ru'
    obtain ⟨z, y, xs, kt, dd⟩ := dt_rd I.hok ha
    obtain ⟨z', y', xs', kt', dd'⟩ := dt_rd I.hok hb
    have l1 : kvs.length = xs.length := Paired.length kt
    have l2 : kvs'.length = xs'.length := Paired.length kt'
    by_cases e : (kvs.map (·.1)).length = (kvs'.map (·.1)).length
    · rw [if_pos e] at h
      simp only [List.length_map] at e
      refine Dq.rcP_dictsH (r := r) (tupleKind_room_in1 (by omega)) y y' dd dd' (by omega) (fun _ => eqDs_run I (by show A.units + _ + _ < _; omega) kt' iL' kt iL h) E Q ?_
      rw [show (xs.length == xs'.length && r) = r from by rw [← l1, ← l2, e]; simp]
      exact q
    · rw [if_neg e] at h
      cases h
      simp only [List.length_map] at e
      refine Dq.rcP_dictsH (r := false) (tupleKind_room_in1 (by omega)) y y' dd dd' (by omega) (fun z => absurd (by omega) e) E Q ?_
      rw [Bool.and_false]
      exact q
  · cases h
theorem op_eqT (hu : X.A.units + 64 < cLine) : OpR X (compareOp .Eq) (rEqT X ca) := by
  intro pins s σ H x y v u Q I rx ry h
  obtain ⟨d, d', r, i, i', hr, q⟩ := h
  exact eqT_run I hu i i' rx ry hr _ _ ⟨.bl _, H, I, rfl, q⟩
def dEqT (x y : D) : Out D := match eqDic x y with
  | some r => .ok (.bl r)
  | none => .stuck
theorem opd_eqT : OpD ca X.K (rEqT X ca) dEqT := by
  intro G H d1 d2 v1 v2 Q mu i1 i2 o
  unfold dEqT at o
  split at o
  · rename_i r e
    exact ⟨d1, d2, r, i1.le (le_of_cut fun b hb => (mu b hb).ne), i2.le (le_of_cut fun b hb => (mu b hb).ne), e, o _ _ (fun _ _ h => h) (is_bl.mpr rfl)⟩
  · exact o.elim
theorem ed_eqT {k : Nat} (J : JX X W k) {f g : Rn → Out D} (ha : ED ca X W a f) (hb : ED ca X W b g) : ED ca X W (.Compare a [.Eq] [b] pos) (bin dEqT f g) := ed_cmp (op_eqT (by have := J.room.units; omega)) opd_eqT ha hb
theorem eb_eqT {k : Nat} (J : JX X W k) {f g : Rn → Out D} (ha : ED ca X W a f) (hb : ED ca X W b g) : EB ca X W (.Compare a [.Eq] [b] pos) (tst dEqT f g) := eb_cmp (op_eqT (by have := J.room.units; omega)) opd_eqT ha hb
theorem neT_run {pins : List (Addr × Obj)} {σ : L2.St} {H : Hp} {s : Shared} {A : Around} {d d' : D} {v v' : V} {u u' : Value} {r : Bool} (I : Inv X pins σ H s) (hu : A.units + 64 < cLine) (i : Is ca X.K H d v) (i' : Is ca X.K H d' v') (ru : RelV v u) (ru' : RelV v' u') (h : eqDic d d' = some r)
    (E Q : Value → Shared → Prop) (q : Q (.bool (!r)) s) : wpAny (model X.prog X.w) A (richCompare .NotEq u u') Q E s := by
  unfold eqDic at h
  split at h
  · rename_i ks ds ks' ds'
    obtain ⟨a, kvs, rfl, ha, rfl, iL⟩ := is_dic.mp i
    obtain ⟨b, kvs', rfl, hb, rfl, iL'⟩ := is_dic.mp i'
    cases ru
    cases ru'
    obtain ⟨z, y, xs, kt, dd⟩ := dt_rd I.hok ha
    obtain ⟨z', y', xs', kt', dd'⟩ := dt_rd I.hok hb
    have l1 : kvs.length = xs.length := Paired.length kt
    have l2 : kvs'.length = xs'.length := Paired.length kt'
    by_cases e : (kvs.map (·.1)).length = (kvs'.map (·.1)).length
    · rw [if_pos e] at h
      simp only [List.length_map] at e
      refine Dq.rcN_dictsH (r := r) (tupleKind_room_in1 (by omega)) y y' dd dd' (by omega) (fun _ => eqDs_run I (by show A.units + _ + _ < _; omega) kt' iL' kt iL h) E Q ?_
      rw [show (xs.length == xs'.length && r) = r from by rw [← l1, ← l2, e]; simp]
      exact q
    · rw [if_neg e] at h
      cases h
      simp only [List.length_map] at e
      refine Dq.rcN_dictsH (r := false) (tupleKind_room_in1 (by omega)) y y' dd dd' (by omega) (fun z => absurd (by omega) e) E Q ?_
      rw [Bool.and_false]
      exact q
  · cases h
theorem op_neT (hu : X.A.units + 64 < cLine) : OpR X (compareOp .NotEq) (rNeT X ca) := by
  intro pins s σ H x y v u Q I rx ry h
  obtain ⟨d, d', r, i, i', hr, q⟩ := h
  exact neT_run I hu i i' rx ry hr _ _ ⟨.bl _, H, I, rfl, q⟩
def dNeT (x y : D) : Out D := match eqDic x y with
  | some r => .ok (.bl (!r))
  | none => .stuck
theorem opd_neT : OpD ca X.K (rNeT X ca) dNeT := by
  intro G H d1 d2 v1 v2 Q mu i1 i2 o
  unfold dNeT at o
  split at o
  · rename_i r e
    exact ⟨d1, d2, r, i1.le (le_of_cut fun b hb => (mu b hb).ne), i2.le (le_of_cut fun b hb => (mu b hb).ne), e, o _ _ (fun _ _ h => h) (is_bl.mpr rfl)⟩
  · exact o.elim
theorem ed_neT {k : Nat} (J : JX X W k) {f g : Rn → Out D} (ha : ED ca X W a f) (hb : ED ca X W b g) : ED ca X W (.Compare a [.NotEq] [b] pos) (bin dNeT f g) := ed_cmp (op_neT (by have := J.room.units; omega)) opd_neT ha hb
theorem eb_neT {k : Nat} (J : JX X W k) {f g : Rn → Out D} (ha : ED ca X W a f) (hb : ED ca X W b g) : EB ca X W (.Compare a [.NotEq] [b] pos) (tst dNeT f g) := eb_cmp (op_neT (by have := J.room.units; omega)) opd_neT ha hb
end
end DA
set_option maxHeartbeats 4000000
/-! DU: len(d), list(d), isinstance(d, dict), d a dict with tuple keys -/
namespace DA
open PySem PySem.Spec PyProof.Rows L2
section
variable {ca : Str → Option Addr} {X : Cx} {W : WX} {e a b c tg o k v : Expr} {es : List Expr} {pos p p2 pos2 apos : Pos} {x m : Str}
/-! ### len(d) -/
theorem call_len_rdT : CallR X (.builtin "len") (fun xs H Q => ∃ (p : Addr) (kvs : List (List Key × V)), xs = [.ref p] ∧ Rd H p (.dT kvs) ∧ Q (.int ((kvs.length : Nat) : Int)) H) := by
  intro pins s σ H xs us Q I r h
  obtain ⟨p, kvs, rfl, hp, q⟩ := h
  obtain ⟨u, rfl, rx⟩ := vals1 r
  obtain rfl : u = .ref p := rx
  obtain ⟨z, hd, ys, rel, dd⟩ := dt_rd I.hok hp
  have hl : kvs.length = ys.length := Paired.length rel
  refine call_len_dictH hd dd (by rw [← hl]; rw [sizeLine_eq] at z; omega) ?_
  rw [← hl]
  exact ⟨.int ((kvs.length : Nat) : Int), H, I.tok _, ⟨_, rfl⟩, q⟩
def dLenT : List D → Out D
  | [.dic ks _] => .ok (.int ks.length)
  | _ => .stuck
theorem ed_lenT {f : Rn → Out (List D)} (hm : X.mg "len" = none) (ha : EA ca X W [e] f) (hg : Gl X "len" := by rfl) (he : starEach [e] X.env = (false, eval e X.env) :: starEach [] X.env := by rfl) (hpl : (backTo pos (starEach [] X.env)).any (·.1) = false := by rfl) : ED ca X W (.Call (.Name "len" p) [e] [] pos) (calD dLenT f) :=
  ed_callB call_len_rdT (fun G H ds vs Q mu i o => by
    unfold dLenT at o
    split at o
    · obtain ⟨v, rfl, i1⟩ := isL_1 i
      obtain ⟨a, kvs, rfl, hq, ek, r⟩ := is_dic.mp i1
      exact ⟨a, kvs, rfl, (rd_cut hq).2, by
        have : kvs.length = (kvs.map (·.1)).length := by simp
        rw [this, ek]
        exact o _ H (fun _ _ h => h) (is_int.mpr rfl)⟩
    · exact o.elim) hm (by decide +kernel) ha hg (by decide) (by decide) he hpl
/-! ### list(d) -/
theorem isKeys_is {K : PySem.W.Frag} {H : Hp} {G : List Addr} (mu : ∀ a ∈ G, Mu (H a)) : ∀ {kvs : List (List Key × V)} {bs : List Addr}, IsKeys H kvs bs → IsL ca K (cut H G) ((kvs.map (·.1)).map keyD) (bs.map V.ref)
  | _, _, .nil => isL_nil.mpr rfl
  | _, _, .cons h t => IsL.cons (is_key mu h) (isKeys_is mu t)
def dListT : List D → Out D
  | [.dic ks _] => .ok (.lst (ks.map keyD))
  | _ => .stuck
theorem ed_listT {n : Nat} (J : JX X W n) {f : Rn → Out (List D)} (hm : X.mg "list" = none) (ha : EA ca X W [e] f) (hg : Gl X "list" := by rfl) (he : starEach [e] X.env = (false, eval e X.env) :: starEach [] X.env := by rfl) (hpl : (backTo pos (starEach [] X.env)).any (·.1) = false := by rfl) : ED ca X W (.Call (.Name "list" p) [e] [] pos) (calD dListT f) :=
  ed_callTy (call_list_dT J.calm) (fun G H ds vs Q mu i o => by
    unfold dListT at o
    split at o
    · obtain ⟨v, rfl, i1⟩ := isL_1 i
      obtain ⟨a, kvs, rfl, hq, ek, r⟩ := is_dic.mp i1
      subst ek
      exact ⟨a, kvs, rfl, (rd_cut hq).2, fun q bs hn hk => o _ _ (upd_same_new hn) (new_lst mu hn (isKeys_is mu hk))⟩
    · exact o.elim) hm (by decide +kernel) ha hg (by decide) (by decide) he hpl
/-! ### isinstance(d, T) -/
theorem call_isiTd : CallR X (.builtin "isinstance") (fun xs H Q => ∃ (a : Addr) (kvs : List (List Key × V)) (T : String) (b : Bool), xs = [.ref a, .ty T] ∧ Rd H a (.dT kvs) ∧ kitB "dict" T = some b ∧ Q (.bl b) H) := by
  intro pins s σ H xs us Q I r h
  obtain ⟨a, kvs, T, b, rfl, hd, e, q⟩ := h
  obtain ⟨u1, u2, rfl, r1, r2⟩ := vals2 r
  obtain rfl : u1 = Value.ref a := r1
  obtain rfl : u2 = Value.type T := r2
  obtain ⟨z, y, ys, rel, dd⟩ := dt_rd I.hok hd
  exact PySem.W.kia_one PySem.W.kitx_dict I.kIn dd.typeIs (kit_ty e) (fun z => nomatch z) fun tk => ⟨.bl b, H, I.tok tk, rfl, q⟩
def isiTd (T : String) (d : D) : Out D := match d with
  | .dic _ _ => (match kitB "dict" T with
    | some b => .ok (.bl b)
    | none => .stuck)
  | _ => .stuck
theorem ed_isiTd (T : String) {f : Rn → Out D} {q : Pos} (hm : X.mg "isinstance" = none) (hmT : X.mg (Str.ofString T) = none) (ha : ED ca X W e f) (hT : PE X (.Name (Str.ofString T) q) (tC (.ty T))) (hg : Gl X "isinstance" := by rfl)
    (h1 : starEach [e, .Name (Str.ofString T) q] X.env = (false, eval e X.env) :: starEach [.Name (Str.ofString T) q] X.env := by rfl) (h2 : starEach [.Name (Str.ofString T) q] X.env = (false, eval (.Name (Str.ofString T) q) X.env) :: starEach [] X.env := by rfl)
    (hpl : (backTo pos (starEach [.Name (Str.ofString T) q] X.env)).any (·.1) = false := by rfl) : ED ca X W (.Call (.Name "isinstance" p) [e, .Name (Str.ofString T) q] [] pos) (una (isiTd T) f) := by
  obtain ⟨te, pe, ha⟩ := ha
  refine ⟨_, pe_callB call_isiTd hg hm (by decide +kernel) (pa_cons pe (pa_cons hT pa_nil h2) h1) (by decide) (by decide) h1 hpl, fun H0 Fa ts us ρ σ H Q hl E o => ?_⟩
  refine ha H0 Fa ts us ρ σ H _ hl E (OutE.bind o |>.imp (fun d o v H2 F E2 i => ?_) fun n q => q)
  have o := o.nx (Y := fun _ => False)
  cases d with
  | dic ks ds =>
    unfold isiTd at o
    dsimp only at o
    cases ek : kitB "dict" T with
    | none => rw [ek] at o; exact o.elim
    | some b =>
      rw [ek] at o
      obtain ⟨a, kvs, rfl, hq, _, r⟩ := is_dic.mp i
      exact ⟨a, kvs, T, b, rfl, (rd_cut hq).2, ek, o _ H2 F E2 (is_bl.mpr rfl)⟩
  | _ => exact o.elim
/-! ### x.clear(), x a local name whose dict (or list) is its own -/
def rClearT : V → List V → Hp → VK → Prop := fun x xs H Q => ∃ (a : Addr) (kvs : List (List Key × V)), x = .ref a ∧ xs = [] ∧ H a = some (.dT kvs) ∧ Q .non (upd H a (.dT []))
theorem mt_clearT : MtR X "dict.clear" rClearT := by
  intro pins s σ H x xs v us Q I rx rv h
  obtain ⟨a, kvs, rfl, rfl, ha, q⟩ := h
  cases rx
  have hus := rv.zero
  subst hus
  obtain ⟨z, hd, xs, rel, o, es, ep, ho, hx, hdt, he, hi, hn⟩ := dt_of I.hok ha
  have hz : es.size ≤ sizeLine := by
    rw [size_of_entries he, ← Paired.length rel]
    exact z
  refine call_meetsIn PySem.F.slot_dict_clear ⟨o, ho, hx.1⟩ PySem.F.entry_dict_clear (PySem.F.args_dict_clear_1 _) (PySem.meets_dict_clear_raw a) ⟨es, ep, ⟨o, ho, hx, hdt⟩, hz, fun h' hr hs => ?_⟩
  obtain ⟨o', ho', hx', hd'⟩ := hr
  exact ⟨.non, _, d_write (t' := s.toks) (ob := .dT []) I (by rw [ha]; exact True.intro) hs ⟨o', ho'⟩ ⟨Nat.zero_le _, hd, [], .nil, o', #[], ep + 1, ho', hx', hd', rfl, List.nodup_nil⟩, rfl, q⟩
def sClear (i : Nat) (ρ : Rn) : SOut := match ρ[i]? with
  | some (some (.dic _ ms)) => match datsOf ms with
    | some _ => .ok (.nx, ρ.set i (some (.dic [] [])))
    | none => .stuck
  | _ => .stuck
theorem ss_clear (i : Nat) {p1 cpos : Pos} (hN : X.N[i]? = some x := by rfl) (hvis : Vis X.env.scope x := by first | exact Or.inl rfl | exact Or.inr (Or.inl rfl) | exact Or.inr (Or.inr rfl))
    (hd : (x == ("__debug__" : Str)) = false := by decide) (hcd : (x == ("__classdict__" : Str)) = false := by decide)
    (hbase : attributeBase (.Name x p1) "clear" X.env (eval (.Name x p1) X.env) = eval (.Name x p1) X.env := by rfl) (hline : (apos.endLine == cpos.line) = true := by rfl)
    (hs : swapsWith (.Call (.Attribute (.Name x p1) "clear" apos) [] [] cpos) none pos.line X.env = pure false := by rfl) : SS ca X W (.Expr (.Call (.Attribute (.Name x p1) "clear" apos) [] [] cpos) pos) (sClear i) := by
  refine ⟨_, ps_expr (pe_bm0 PySem.F.plainAttrs_dict PySem.F.slot_dict_clear PySem.F.type_dict_clear mt_clearT (pe_var hN hvis hd hcd) hbase hline) hs, fun H0 Fa ts us ρ σ H Dn hl E o => ?_⟩
  unfold sClear at o
  split at o
  · rename_i ks ms hρ
    cases em : datsOf ms with
    | none => simp only [em] at o; exact o.elim
    | some ds =>
      simp only [em] at o
      have hms := datsOf_eq em
      subst hms
      obtain ⟨F, E⟩ := E
      obtain ⟨l0, kvs0, e2, hk0, _, _, put⟩ := E.putT (i := ts.length + i) (by rw [drop_get]; exact hρ)
      rw [hl, drop_get] at e2
      refine ⟨.ref l0, e2, .inr (.inr (.inl ⟨rfl, .inr ⟨kvs0, hk0⟩⟩)), l0, kvs0, rfl, rfl, hk0, ?_⟩
      have q := put [] [] (isL_nil.mpr rfl)
      rw [drop_set, hl, drop_set, set_self e2] at q
      exact o σ _ q
  · exact o.elim
end
end DA
set_option maxHeartbeats 4000000
/-! DV: dict(d), a copy of a dict with tuple keys (no two keys may hash alike) -/
namespace PySem
open PySem.Calls PyProof.Rows PySem.Spec
section
variable {prog : Program} {w : World} {K : Type} [DecidableEq K] {knd : HeapKind prog w K} {A : Around} {E : Value → Shared → Prop} {s : Shared}
theorem call_dictH {o : Addr} {more : List (K × Addr × Value)} {Q : Value → Shared → Prop} (hu : ∀ A', A'.units ≤ A.units + 4 → knd.room A') (hoS : (o == sysModules) = false) (ho : s.heap.DictOfH knd o more) (hsz : more.length ≤ sizeLine)
    (hps : (s.heap.push { cls := .type "dict", data := .dict #[] }).DictOfH knd o more)
    (hty : ∀ x ∈ more, s.TypeIs (.ref x.2.1) "tuple") (hap : (more.map fun x => knd.hash x.1).Nodup)
    (h : ∀ h', h'.DictOfH knd s.heap.objs.size (storedAllH [] more) → Heap.SameBut s.heap.objs.size (s.heap.push { cls := .type "dict", data := .dict #[] }) h' → Q (.ref s.heap.objs.size) { s with heap := h' }) :
    wpAny (model prog w) A (call (.type "dict") [.ref o]) Q E s := by
  refine callType_codes (Q₁ := fun obj s₁ => obj = .ref s.heap.objs.size ∧ s₁ = { s with heap := s.heap.push { cls := .type "dict", data := .dict #[] } }) F.kt_called_dict (F.kt_typeCall_dict_1 _) F.entry_dict_init (kt_code_dict_new _ ⟨rfl, rfl⟩) ?_
  rintro obj s₁ ⟨rfl, rfl⟩
  have hnew : (s.heap.push { cls := .type "dict", data := .dict #[] }).DictOfH knd s.heap.objs.size [] := Heap.DictOfH.new s.heap
  have hdo : s.heap.objs.size ≠ o := by
    obtain ⟨_, _, _, hg, _⟩ := ho
    exact fun e => absurd (Heap.lt_size hg) (by rw [e]; exact Nat.lt_irrefl _)
  refine ⟨hnew.typeIs, F.args_dict_init_2 _ _, ?_⟩
  unfold Builtin.«dict.__init__»
  refine wpAny_bind ?_
  unfold Builtin.Dict.selfAndRest
  refine wpAny_bind (wpAny_notOrdered_dict hnew.typeIs ?_)
  show wpAny _ _ (pure (s.heap.objs.size, [Value.ref o])) _ _ _
  refine wpAny_pure ?_
  show wpAny _ _ (Builtin.Dict.updateFrom "dict.__init__" s.heap.objs.size (.ref o) [] .none) _ _ _
  unfold Builtin.Dict.updateFrom
  refine wpAny_bind (wpAny_typeOf hps.typeIs ?_)
  rw [if_neg (by decide)]
  refine wpAny_bind ?_
  unfold Builtin.Dict.merge
  refine wpAny_bind ?_
  unfold Builtin.Dict.readDirectly
  refine wpAny_bind (wpAny_isInstance hps.typeIs isSubtype_dict_dict ?_)
  simp only [Bool.not_true, Bool.false_eq_true, if_false]
  refine wpAny_bind (wpAny_specialOf hps.typeIs F.slot_dict_iter.lookup (wpAny_pure ?_))
  simp only [beq_self_eq_true, if_true]
  refine wpAny_bind (wpAny_pure ?_)
  refine wpAny_mergeDict_heap (hsz := by simpa using hsz) (hu _ ?hroom) hdo hoS hnew hps (.inr ⟨fun x hx => ?ty, hap⟩) fun h' hd' _ hs' => ?fin
  case ty =>
    obtain ⟨ob, h1, h2⟩ := hty x hx
    exact ⟨ob, Heap.get?_push_of_some _ h1, h2⟩
  case fin =>
    show wpAny _ _ (Builtin.Dict.addKeywords s.heap.objs.size [] >>= _) _ _ _
    exact wpAny_bind (wpAny_pure (wpAny_pure ⟨rfl, h h' hd' hs'⟩))
  case hroom =>
    show A.units + 1 + 1 ≤ A.units + 4
    omega
end
end PySem
namespace DA
open PySem PySem.Spec PyProof.Rows L2
theorem storedAllH_nil {K : Type} [DecidableEq K] (more : List (K × Addr × Value)) (hn : (more.map (·.1)).Nodup) : storedAllH [] more = more := by
  have key : ∀ (xs acc : List (K × Addr × Value)), ((acc ++ xs).map (·.1)).Nodup → xs.foldl (fun kvs x => storedH kvs x.1 x.2.1 x.2.2) acc = acc ++ xs := by
    intro xs
    induction xs with
    | nil => intro acc _; simp
    | cons x xs ih =>
      intro acc h
      have hx : atKey acc x.1 = none := atKey_none_of_get fun j p hj => by
        have m : x.1 ∈ acc.map (·.1) := List.mem_map.mpr ⟨(x.1, p), List.mem_of_getElem? hj, rfl⟩
        rw [List.map_append, List.nodup_append] at h
        exact h.2.2 x.1 m x.1 (by simp) rfl
      rw [List.foldl_cons, storedH_new hx, ih _ (by simpa using h)]
      simp
  have := key more [] (by simpa using hn)
  first
    | exact this
    | (unfold storedAllH; exact this)
    | simpa [storedAllH] using this
theorem kt_keys {H : Hp} : ∀ {kvs : List (List Key × V)} {ys : List (List Key × Addr × Value)}, KT H kvs ys → ys.map (·.1) = kvs.map (·.1)
  | _, _, .nil => rfl
  | _, _, .cons h t => by
    rw [List.map_cons, List.map_cons, kt_keys t, h.1]
/-- the hash of a key of ints (and texts) -/
noncomputable def hashK (w : World) (k : List Key) : Int := reduceHash (Builtin.Tuple.tupleHashOf (k.map (keyH w)))
section
variable {ca : Str → Option Addr} {X : Cx} {W : WX} {e a b c tg o k v : Expr} {es : List Expr} {pos p p2 pos2 apos : Pos} {x m : Str}
theorem call_dictT (hu : X.A.units + 8 < cLine) : CallR X (.type "dict") (fun xs H Q => ∃ (a : Addr) (kvs : List (List Key × V)), xs = [.ref a] ∧ Rd H a (.dT kvs) ∧ ((kvs.map (·.1)).map (hashK X.w)).Nodup ∧ ∀ p, H p = none → Q (.ref p) (upd H p (.dT kvs))) := by
  intro pins s σ H xs us Q I r q
  obtain ⟨a, kvs, rfl, hd, hh, q⟩ := q
  obtain ⟨u, rfl, rx⟩ := vals1 r
  cases rx
  obtain ⟨z, lo, ys, rel, dd⟩ := dt_rd I.hok hd
  have I1 : Inv X pins σ H { s with heap := s.heap.push { cls := .type "dict", data := .dict #[] }, toks := s.toks } := I.kept fun b u z => Heap.get?_push_of_some _ z
  obtain ⟨z1, lo1, ys1, rel1, dd1⟩ := dt_rd I1.hok hd
  have hl : kvs.length = ys.length := Paired.length rel
  have ek : ys.map (·.1) = kvs.map (·.1) := kt_keys rel
  obtain ⟨ob, es0, ep0, g1, g2, g3, g4, g5, g6⟩ := dd
  have dd : s.heap.DictOfH (tupleKind (mixKind X.prog X.w)) a ys := ⟨ob, es0, ep0, g1, g2, g3, g4, g5, g6⟩
  refine call_dictH (knd := tupleKind (mixKind X.prog X.w)) (more := ys) (fun A' hA => by
    show A'.units < cLine
    omega) lo dd (by rw [← hl]; exact z) ⟨ob, es0, ep0, Heap.get?_push_of_some _ g1, g2, g3, g4, fun x hx => ?_, g6⟩ (fun x hx => ?_) ?_ fun h' d' hs => ?_
  · obtain ⟨o', its', n', q1, q2, q3, q4⟩ := g5 x hx
    exact ⟨o', its', n', Heap.get?_push_of_some _ q1, q2, q3, q4⟩
  · obtain ⟨o', its', n', q1, q2, q3, q4⟩ := g5 x hx
    exact ⟨o', q1, q2⟩
  · have : (ys.map fun x => (tupleKind (mixKind X.prog X.w)).hash x.1) = (kvs.map (·.1)).map (hashK X.w) := by
      rw [← ek, List.map_map]
      rfl
    rw [this]
    exact hh
  · rw [storedAllH_nil ys g6] at d'
    have hm : (s.heap.objs.size == sysModules) = false := beq_eq_false_iff_ne.mpr (Nat.ne_of_gt I.big)
    obtain ⟨ob2, es2, ep2, k1, k2, k3, k4, k5, k6⟩ := d'
    have up : ∀ b u, s.heap.get? b = some u → h'.get? b = some u := fun b u e => (hs.2 b (Nat.ne_of_lt (Heap.lt_size e))).trans (Heap.get?_push_of_some _ e)
    have fr : H s.heap.objs.size = none := I.hok.fresh (Nat.le_refl _)
    exact ⟨.ref s.heap.objs.size, upd H s.heap.objs.size (.dT kvs), I.laid (t' := s.toks) up (Nat.le_refl _)
      (show ObjOk X.prog X.w _ _ _ (.dT kvs) from ⟨z, hm, ys, rel.keeps fun b ys q => by rw [upd_ne (ne_of_none q fr)]; exact q, ob2, es2, ep2, k1, k2, k3, k4, k6⟩), rfl, q _ fr⟩
/-- the hash of a key of ints -/
def hashI (k : List Key) : Int := reduceHash (Builtin.Tuple.tupleHashOf (k.map fun x => match x with
  | .inl i => hashInt i
  | .inr _ => 0))
def allI (k : List Key) : Bool := k.all fun x => match x with
  | .inl _ => true
  | .inr _ => false
theorem hashI_K {w : World} {k : List Key} (h : allI k = true) : hashK w k = hashI k := by
  unfold hashK hashI
  congr 2
  refine List.map_congr_left fun x hx => ?_
  have := List.all_eq_true.mp h x hx
  cases x with
  | inl i => rfl
  | inr y => cases this
/-- dict(d), its cell new; no two keys may hash alike -/
def dicM : D → Out M
  | .dic ks ds => if ks.all allI = true ∧ (ks.map hashI).Nodup then .ok (.dic ks (ds.map .dat)) else .stuck
  | _ => .stuck
def dictM (f : Rn → Out D) (ρ : Rn) : Out M := (f ρ).bind dicM
theorem em_dict {n : Nat} {f : Rn → Out D} (J : JX X W n) (hm : X.mg "dict" = none) (ha : ED ca X W e f) (hg : Gl X "dict" := by rfl) (he : starEach [e] X.env = (false, eval e X.env) :: starEach [] X.env := by rfl) (hpl : (backTo pos (starEach [] X.env)).any (·.1) = false := by rfl) : EM ca X W (.Call (.Name "dict" p) [e] [] pos) (dictM f) := by
  obtain ⟨te, pe, ha⟩ := ha
  refine ⟨_, pe_callTy (call_dictT (by have := J.room.units; omega)) hg hm (by decide +kernel) (pa_cons pe pa_nil he) (by decide) (by decide) he hpl, fun H0 Fa ts us ρ σ H Q hl E o => ?_⟩
  unfold dictM at o
  refine ha H0 Fa ts us ρ σ H _ hl E (OutE.bind o |>.imp (fun d o v H2 F E2 i => ?_) fun n q => q)
  unfold dicM at o
  split at o
  · rename_i ks ds
    split at o
    · rename_i z
      obtain ⟨a, kvs, rfl, hq, ek, r⟩ := is_dic.mp i
      subst ek
      refine ⟨a, kvs, rfl, (rd_cut hq).2, ?_, fun p hp => ?_⟩
      · rw [List.map_congr_left (g := hashI) fun k hk => hashI_K (List.all_eq_true.mp z.1 k hk)]
        exact z.2
      · have o : OutE (Out.ok (M.dic (kvs.map (·.1)) (ds.map .dat))) _ _ := o
        refine o (.ref p) _ ⟨_, E2.push (F' := [p]) (Le.new hp) (fun a ha => upd_ne fun e => ?_) (by simp) (fun a ha => ?_) (ow_dic.mpr ⟨p, kvs, [], rfl, upd_same, rfl, OwL.of_dats (r.le ((Le.new hp).cut (fun a n hn => ?_) fun a ha => ?_)), rfl⟩)⟩
        · subst e; exact (E2.muG _ ha).ne hp
        · have e : a = p := by simpa using ha
          subst e; exact hp
        · simp only [List.mem_append, List.mem_cons, not_or, List.not_mem_nil, or_false] at n ⊢
          exact ⟨n.1, ⟨fun e => hn (by rw [e]; exact hp), n.2⟩⟩
        · by_cases e : a = p
          · subst e; rw [upd_same]; simp
          · rw [upd_ne e]
            have : a ∈ Fa ++ F := by
              simp only [List.mem_append, List.mem_cons] at ha ⊢
              rcases ha with z | z | z
              · exact .inl z
              · rcases z with z | z
                · exact absurd z e
                · cases z
              · exact .inr z
            exact (E2.muG _ this).ne
    · exact o.elim
  · exact o.elim
/-! ### a text's slice -/
def dSlS (x : D) (lo hi : Option Int) : Out D := match x with
  | .str z => if z.length ≤ sizeLine then .ok (.str (cutS z lo hi)) else .stuck
  | _ => .stuck
def slSD (f : Rn → Out D) (l h : Rn → Out (Option Int)) (ρ : Rn) : Out D := (f ρ).bind fun d => (l ρ).bind fun lo => (h ρ).bind fun hi => (dSlS d lo hi).nx
theorem ed_sliceS {lo hi : Option Expr} {f : Rn → Out D} {l h : Rn → Out (Option Int)} (hf : ED ca X W e f) (hlo : EO ca X W lo l) (hhi : EO ca X W hi h) : ED ca X W (.Subscript e (.Slice lo hi none p2) pos) (slSD f l h) := by
  obtain ⟨te, pe, hf⟩ := hf
  obtain ⟨tl, pl, hlo⟩ := hlo
  obtain ⟨th, ph, hhi⟩ := hhi
  refine ⟨_, pe_slice sl_str pe pl ph, fun H0 Fa ts us ρ σ H Q hl E o => ?_⟩
  refine hf H0 Fa ts us ρ σ H _ hl E (OutE.bind o |>.imp (fun d o v H1 F1 E1 i1 => ?_) fun n q => q)
  refine hlo H0 Fa (some (.dat d) :: ts) (some v :: us) ρ σ H1 _ (by simp [hl]) ⟨F1, E1.top i1⟩ (OutE.bind o |>.imp (fun l0 o H2 E2 => ?_) fun n q a' H2 c E2 => q a' H2 c E2.pop)
  refine hhi H0 Fa (some (.dat d) :: ts) (some v :: us) ρ σ H2 _ (by simp [hl]) E2 (OutE.bind o |>.imp (fun h0 o H3 E3 => ?_) fun n q a' H3 c E3 => q a' H3 c E3.pop)
  obtain ⟨F, E3⟩ := E3
  obtain ⟨E4, i⟩ := E3.popD
  have o := o.nx (Y := fun _ => False)
  cases d with
  | str z =>
    unfold dSlS at o
    dsimp only at o
    split at o
    · rename_i hz
      exact ⟨z, is_str.mp i, hz, o _ H3 F E4 (is_str.mpr rfl)⟩
    · exact o.elim
  | _ => exact o.elim
end
end DA
set_option maxHeartbeats 4000000
/-! DM: the worth of the common parts, for the plain law -/
namespace DA
open PySem PySem.Spec PyProof.Rows L2
theorem ob_ok {α β : Type} (a : α) (f : α → Out β) : (Out.ok a).bind f = f a := rfl
theorem ob_st {α β : Type} (f : α → Out β) : (Out.stuck : Out α).bind f = .stuck := rfl
theorem ob_ex {α β : Type} (n : Str) (f : α → Out β) : (Out.exc n : Out α).bind f = .exc n := rfl
theorem om_ok {α β : Type} (a : α) (f : α → β) : (Out.ok a).map f = .ok (f a) := rfl
theorem om_ex {α β : Type} (n : Str) (f : α → β) : (Out.exc n : Out α).map f = .exc n := rfl
theorem on_ok {α : Type} (a : α) : (Out.ok a).nx = .ok a := rfl
theorem add_ii (i j : Int) : dAddI (.int i) (.int j) = .ok (.int (i + j)) := rfl
theorem sub_ii (i j : Int) : dSub (.int i) (.int j) = .ok (.int (i - j)) := rfl
theorem neg_i (i : Int) : dNeg (.int i) = .ok (.int (-i)) := rfl
theorem lt_ii (i j : Int) : dLt (.int i) (.int j) = .ok (.bl (decide (i < j))) := rfl
theorem le_ii (i j : Int) : dLe (.int i) (.int j) = .ok (.bl (decide (i ≤ j))) := rfl
theorem gt_ii (i j : Int) : dGt (.int i) (.int j) = .ok (.bl (decide (j < i))) := rfl
theorem ge_ii (i j : Int) : dGe (.int i) (.int j) = .ok (.bl (decide (j ≤ i))) := rfl
theorem asB_bl (b : Bool) : asB (.bl b) = .ok b := rfl
theorem er_dat (d : D) : M.er (.dat d) = d := rfl
theorem isn_non : dIsN .non .non = .ok (.bl true) := rfl
theorem isn_tup (ds : List D) : dIsN (.tup ds) .non = .ok (.bl false) := rfl
theorem isn_int (i : Int) : dIsN (.int i) .non = .ok (.bl false) := rfl
theorem nn_non : dNotN .non .non = .ok (.bl false) := rfl
theorem nn_tup (ds : List D) : dNotN (.tup ds) .non = .ok (.bl true) := rfl
theorem nn_int (i : Int) : dNotN (.int i) .non = .ok (.bl true) := rfl
theorem len_lst (ds : List D) : dLen [.lst ds] = .ok (.int ds.length) := rfl
theorem len_tup (ds : List D) : dLen [.tup ds] = .ok (.int ds.length) := rfl
theorem tuple_lst (ds : List D) : dTuple [.lst ds] = .ok (.tup ds) := rfl
theorem tuple_tup (ds : List D) : dTuple [.tup ds] = .ok (.tup ds) := rfl
theorem max_ii (i j : Int) : dMax2 [.int i, .int j] = .ok (.int (if j > i then j else i)) := rfl
theorem min_ii (i j : Int) : dMin2 [.int i, .int j] = .ok (.int (if j < i then j else i)) := rfl
theorem abs_i (i : Int) : dAbs [.int i] = .ok (.int (if i < 0 then -i else i)) := rfl
theorem seq_lst (ds : List D) : seqOf (.lst ds) = .ok ds := rfl
theorem seq_tup (ds : List D) : seqOf (.tup ds) = .ok ds := rfl
theorem zip_tt (ds es : List D) : zip2 [.tup ds, .tup es] = .ok (zipL ds es) := rfl
theorem zip_tl (ds es : List D) : zip2 [.tup ds, .lst es] = .ok (zipL ds es) := rfl
theorem zip_lt (ds es : List D) : zip2 [.lst ds, .tup es] = .ok (zipL ds es) := rfl
theorem zip_ll (ds es : List D) : zip2 [.lst ds, .lst es] = .ok (zipL ds es) := rfl
theorem fin_rt (m : M) (ρ : Rn) : finD (.ok (.rt m, ρ)) = .ok m := rfl
theorem fin_nx (ρ : Rn) : finD (.ok (.nx, ρ)) = .ok (.dat .non) := rfl
theorem fin_ex (n : Str) : finD (.exc n) = .exc n := rfl
theorem eqP_int (i j : Int) : eqP (.int i) (.int j) = some (i == j) := by
  simp [eqP, toP, SeqAt.shaped, PyData.canLay0, PyData.depth, PyData.eqv]
theorem eqP_bl (i j : Bool) : eqP (.bl i) (.bl j) = some (i == j) := by
  simp [eqP, toP, SeqAt.shaped, PyData.canLay0, PyData.depth, PyData.eqv]
theorem dEq_int (i j : Int) : dEq (.int i) (.int j) = .ok (.bl (i == j)) := by simp only [dEq, eqP_int]
theorem dNe_int (i j : Int) : dNe (.int i) (.int j) = .ok (.bl (!(i == j))) := by simp only [dNe, eqP_int]
theorem dEq_bl (i j : Bool) : dEq (.bl i) (.bl j) = .ok (.bl (i == j)) := by simp only [dEq, eqP_bl]
theorem isi_int_int (i : Int) : isiT "int" (.int i) = .ok (.bl true) := rfl
theorem isi_bool_int (i : Int) : isiT "bool" (.int i) = .ok (.bl false) := rfl
theorem isi_bool_bl (i : Bool) : isiT "bool" (.bl i) = .ok (.bl true) := rfl
theorem isi_int_bl (i : Bool) : isiT "int" (.bl i) = .ok (.bl true) := rfl
theorem isi_tuple_tup (ds : List D) : isiT "tuple" (.tup ds) = .ok (.bl true) := rfl
theorem isi_list_lst (ds : List D) : isiT "list" (.lst ds) = .ok (.bl true) := rfl
theorem er_dats (ds : List D) : M.ers (ds.map M.dat) = ds := by
  rw [ers_map, List.map_map]
  exact (List.map_congr_left (g := id) fun _ _ => rfl).trans (List.map_id _)
theorem er_lst (ds : List D) : M.er (.lst (ds.map M.dat)) = .lst ds := by
  show D.lst (M.ers _) = _
  rw [er_dats]
/-- a comprehension whose turns all pass or all are told -/
theorem compD_ok {α : Type} {g : D → Rn → Out Rn} {t : Rn → Out Bool} {f : Rn → Out D} {ρ : Rn} (e h : α → D) (q : α → Bool) : ∀ (ps : List α), (∀ p ∈ ps, ∃ ρ1, g (e p) ρ = .ok ρ1 ∧ t ρ1 = .ok (q p) ∧ (q p = true → f ρ1 = .ok (h p))) →
    compD g t f ρ (ps.map e) = .ok ((ps.filter q).map h)
  | [], _ => rfl
  | p :: ps, H => by
    obtain ⟨ρ1, h1, h2, h3⟩ := H p (by simp)
    have ih := compD_ok e h q ps fun r hr => H r (by simp [hr])
    rw [List.map_cons, compD, h1]
    simp only [Out.nx, Out.bind, h2]
    cases hq : q p with
    | true => simp only [if_true, h3 hq, Out.nx, Out.bind, ih, Out.map, List.filter_cons, hq, List.map_cons]
    | false => simp only [Bool.false_eq_true, if_false, ih, List.filter_cons, hq]
theorem lcD_ok {α : Type} {fi : Rn → Out (List D)} {vs : List Nat} {g : D → Rn → Out Rn} {t : Rn → Out Bool} {f : Rn → Out D} {ρ : Rn} (e h : α → D) (q : α → Bool) (ps : List α) (hi : fi ρ = .ok (ps.map e))
    (H : ∀ p ∈ ps, ∃ ρ1, g (e p) (wipeR vs ρ) = .ok ρ1 ∧ t ρ1 = .ok (q p) ∧ (q p = true → f ρ1 = .ok (h p))) : lcD fi vs g t f ρ = .ok (.lst (((ps.filter q).map h).map .dat)) := by
  unfold lcD
  rw [hi]
  simp only [Out.bind, compD_ok e h q ps H, Out.nx]
/-- without a test -/
theorem lcD_map {α : Type} {fi : Rn → Out (List D)} {vs : List Nat} {g : D → Rn → Out Rn} {f : Rn → Out D} {ρ : Rn} (e h : α → D) (ps : List α) (hi : fi ρ = .ok (ps.map e))
    (H : ∀ p ∈ ps, ∃ ρ1, g (e p) (wipeR vs ρ) = .ok ρ1 ∧ f ρ1 = .ok (h p)) : lcD fi vs g tYesB f ρ = .ok (.lst ((ps.map h).map .dat)) := by
  have := lcD_ok (vs := vs) (t := tYesB) e h (fun _ => true) ps hi fun p hp => by
    obtain ⟨ρ1, h1, h2⟩ := H p hp
    exact ⟨ρ1, h1, rfl, fun _ => h2⟩
  rw [this, List.filter_eq_self.mpr (fun _ _ => rfl)]
/-- ints as data -/
abbrev IL (xs : List Int) : List D := xs.map D.int
abbrev IP (p : Int × Int) : D := .tup [.int p.1, .int p.2]
theorem zipL_ints : ∀ xs ys : List Int, zipL (IL xs) (IL ys) = (xs.zip ys).map IP
  | [], _ => rfl
  | _ :: _, [] => rfl
  | x :: xs, y :: ys => by
    have := zipL_ints xs ys
    simp only [zipL, List.map_cons, List.zipWith_cons_cons, List.zip_cons_cons] at this ⊢
    rw [this]
theorem intsOf_ints : ∀ xs : List Int, intsOf (IL xs) = some xs
  | [] => rfl
  | x :: xs => by
    have := intsOf_ints xs
    simp only [List.map_cons, intsOf, this, Option.map_some]
theorem rangeL_map (hi : Int) : rangeL 0 hi = (List.range hi.toNat).map fun (k : Nat) => D.int (k : Int) := by
  unfold rangeL
  simp only [Int.sub_zero, Int.zero_add]
/-- a for loop, by an invariant of what is left -/
theorem forD_ind {g : D → Rn → Out Rn} {b : Rn → SOut} (I : List D → Rn → Prop) (R : SOut → Prop) (hn : ∀ ρ, I [] ρ → R (.ok (.nx, ρ)))
    (hc : ∀ d ds ρ, I (d :: ds) ρ → ∃ ρ1, g d ρ = .ok ρ1 ∧ ((∃ ρ2, b ρ1 = .ok (.nx, ρ2) ∧ I ds ρ2) ∨ (∃ ρ2, b ρ1 = .ok (.ct, ρ2) ∧ I ds ρ2) ∨ (∃ m ρ2, b ρ1 = .ok (.rt m, ρ2) ∧ R (.ok (.rt m, ρ2))) ∨ (∃ ρ2, b ρ1 = .ok (.bk, ρ2) ∧ R (.ok (.nx, ρ2))))) :
    ∀ ds ρ, I ds ρ → R (forD g b ds ρ)
  | [], ρ, i => hn ρ i
  | d :: ds, ρ, i => by
    obtain ⟨ρ1, h1, h2⟩ := hc d ds ρ i
    rw [forD, h1]
    simp only [Out.nx, Out.bind]
    rcases h2 with ⟨ρ2, e, i2⟩ | ⟨ρ2, e, i2⟩ | ⟨m, ρ2, e, r⟩ | ⟨ρ2, e, r⟩
    · rw [e]; exact forD_ind I R hn hc ds ρ2 i2
    · rw [e]; exact forD_ind I R hn hc ds ρ2 i2
    · rw [e]; exact r
    · rw [e]; exact r
theorem fmod_pos {a b : Int} (h : 0 < b) : 0 ≤ a.fmod b ∧ a.fmod b < b := by
  rw [Int.fmod_eq_emod_of_nonneg a (Int.le_of_lt h)]
  exact ⟨Int.emod_nonneg _ (by omega), Int.emod_lt_of_pos _ h⟩
theorem dMod_ok {i j : Int} (h : j ≠ 0) : dMod (.int i) (.int j) = .ok (.int (i.fmod j)) := if_pos h
theorem dDiv_ok {i j : Int} (h : DivC i j) : dDiv (.int i) (.int j) = .ok (.int (i.fdiv j)) := if_pos h
theorem dMul_ok {i j : Int} (h : MulC i j) : dMul (.int i) (.int j) = .ok (.int (i * j)) := if_pos h
theorem dPow_ok {i j : Int} (h : PowC i j) : dPow (.int i) (.int j) = .ok (.int (i ^ j.toNat)) := if_pos h
theorem bits_le {i : Int} {n : Nat} (h : i.natAbs < 2 ^ n) : bits i ≤ n := by
  unfold bits Builtin.Int.intBits
  split
  · exact Nat.zero_le _
  · rename_i z
    have z' : i.natAbs ≠ 0 := fun e => z (by simpa using e)
    exact Nat.succ_le_of_lt ((Nat.log2_lt z').mpr h)
theorem mulC_right {i j : Int} (h : j.natAbs < 2 ^ 64) : MulC i j := .inr (.inl (bits_le h))
theorem mulC_left {i j : Int} (h : i.natAbs < 2 ^ 64) : MulC i j := .inl (bits_le h)
theorem mulC_big {i j : Int} {m n : Nat} (h : i.natAbs < 2 ^ m) (h2 : j.natAbs < 2 ^ n) (k : m + n ≤ 134217728) : MulC i j := .inr (.inr (Nat.le_trans (Nat.add_le_add (bits_le h) (bits_le h2)) k))
theorem divC_of {i j : Int} (h : j ≠ 0) (h2 : j.natAbs < 2 ^ 9000) : DivC i j := ⟨h, by
  have z' : j.natAbs ≠ 0 := by omega
  exact (Nat.log2_lt z').mpr h2⟩
theorem atI_nat {α : Type} {xs : List α} {k : Nat} (h : k < xs.length) : atI xs (k : Int) = some xs[k] := by
  unfold atI ixN
  rw [if_pos (by omega), if_pos (by omega)]
  simp
theorem dIx_lst {ds : List D} {k : Nat} (h : k < ds.length) : dIx (.lst ds) (.int (k : Int)) = .ok ds[k] := by
  simp only [dIx, atI_nat h]
theorem dIx_tup {ds : List D} {k : Nat} (h : k < ds.length) : dIx (.tup ds) (.int (k : Int)) = .ok ds[k] := by
  simp only [dIx, atI_nat h]
theorem le_size {n : Nat} (h : n ≤ 1000) : n ≤ sizeLine := Nat.le_trans h (by decide +kernel)
theorem fits_of {i : Int} (h : 0 ≤ i) (h2 : i ≤ 1000000) : fits62 i := ⟨Int.le_trans (by decide +kernel) h, Int.lt_of_le_of_lt h2 (by decide +kernel)⟩
theorem rangeL_cons {a b : Int} (h : a < b) : rangeL a b = .int a :: rangeL (a + 1) b := by
  unfold rangeL
  have e : (b - a).toNat = (b - (a + 1)).toNat + 1 := by omega
  rw [e, List.range_succ_eq_map, List.map_cons, List.map_map]
  refine List.cons_eq_cons.mpr ⟨by simp, List.map_congr_left fun k _ => ?_⟩
  show D.int (a + ((k + 1 : Nat) : Int)) = D.int (a + 1 + (k : Int))
  rw [Int.natCast_add]
  congr 1
  simp only [Int.natCast_one]
  omega
theorem rangeL_nil {a b : Int} (h : b ≤ a) : rangeL a b = [] := by
  unfold rangeL
  have e : (b - a).toNat = 0 := by omega
  rw [e]
  rfl
/-- a while loop, by an invariant and a measure -/
theorem whD_ind {S : Type} {c : Rn → Out Bool} {b : Rn → SOut} (st : S → Rn) (I : S → Prop) (μ : S → Nat) (R : SOut → Prop)
    (h : ∀ z, I z → (c (st z) = .ok false ∧ R (.ok (.nx, st z))) ∨ (c (st z) = .ok true ∧ ((∃ z', (b (st z) = .ok (.nx, st z') ∨ b (st z) = .ok (.ct, st z')) ∧ I z' ∧ μ z' < μ z) ∨ (∃ m ρ', b (st z) = .ok (.rt m, ρ') ∧ R (.ok (.rt m, ρ'))) ∨ ∃ ρ', b (st z) = .ok (.bk, ρ') ∧ R (.ok (.nx, ρ'))))) :
    ∀ z, I z → R (whD c b (st z)) := by
  have H : ∀ (n : Nat) (z : S), μ z < n → I z → R (whD c b (st z)) := by
    intro n
    induction n with
    | zero => intro z hz; omega
    | succ n ih =>
      intro z hz i
      rw [whD_eq]
      rcases h z i with ⟨e, r⟩ | ⟨e, ⟨z', e2, i2, l⟩ | ⟨m, ρ', e2, r⟩ | ⟨ρ', e2, r⟩⟩
      · rw [e]; exact r
      · rcases e2 with e2 | e2 <;> (rw [e]; simp only [ob_ok, if_true, e2, loopK]; exact ih z' (by omega) i2)
      · rw [e]; simp only [ob_ok, if_true, e2, loopK]; exact r
      · rw [e]; simp only [ob_ok, if_true, e2, loopK]; exact r
  exact fun z i => H _ z (Nat.lt_succ_self _) i
theorem iset_ok {n : Str} {f g : Rn → Out D} {r : Addr → Ac → Rn → Out Ac} {x : Addr} {acc acc' : Ac} {ρ : Rn} {d : D} (hf : f ρ = .ok d) (hg : g ρ = .ok (.loc x)) (h1 : List.contains (acc.map (·.1)) n = false) (h2 : acc.length < 500) (h3 : r x ((n, d) :: acc) ρ = .ok acc') : iSet n f g r x acc ρ = .ok acc' := by
  unfold iSet
  rw [hf, hg]
  simp only [on_ok, ob_ok, h1, h2, h3, and_self, if_true]
theorem ibase_ok {g : Addr → List D → Out Ac} {a : Rn → Out (List D)} {r : Addr → Ac → Rn → Out Ac} {x : Addr} {acc acc' : Ac} {ρ : Rn} {ds : List D} (ha : a ρ = .ok (.loc x :: ds)) (hg : g x ds = .ok acc) (h3 : r x acc ρ = .ok acc') : iBase g a r x [] ρ = .ok acc' := by
  unfold iBase
  rw [ha]
  simp only [on_ok, ob_ok, if_true, hg, h3]
theorem fld_ok {cs : List Str} {f C : Str} {fs : List Str} {ds : List D} {d : D} (h : List.contains cs C = true) (h2 : fldOf f fs ds = some d) : dFld cs f (.obj C fs ds) = .ok d := by
  unfold dFld
  simp only [h, h2, if_true]
theorem isn_obj (C : Str) (fs : List Str) (ds : List D) : dIsN (.obj C fs ds) .non = .ok (.bl false) := rfl
theorem nn_obj (C : Str) (fs : List Str) (ds : List D) : dNotN (.obj C fs ds) .non = .ok (.bl true) := rfl
theorem toM_dat (f : Rn → Out D) (ρ : Rn) (d : D) (h : f ρ = .ok d) : toM f ρ = .ok (.dat d) := by unfold toM; rw [h]; rfl
theorem sz2 : 2 ≤ sizeLine := by decide
theorem sz3 : 3 ≤ sizeLine := by decide
theorem ix2_0 (x y : D) : dIx (.tup [x, y]) (.int 0) = .ok x := rfl
theorem ix2_1 (x y : D) : dIx (.tup [x, y]) (.int 1) = .ok y := rfl
theorem eqP_t2 (a b c d : Int) : eqP (.tup [.int a, .int b]) (.tup [.int c, .int d]) = some (a == c && b == d) := by
  simp [eqP, toP, toPs, SeqAt.shaped, PyData.canLay0, PyData.canLayAll0, PyData.depth, PyData.eqv, PyData.eqvAll, PyData.depthAll]
theorem dEq_t2 (a b c d : Int) : dEq (.tup [.int a, .int b]) (.tup [.int c, .int d]) = .ok (.bl (a == c && b == d)) := by simp only [dEq, eqP_t2]
theorem dNe_t2 (a b c d : Int) : dNe (.tup [.int a, .int b]) (.tup [.int c, .int d]) = .ok (.bl (!(a == c && b == d))) := by simp only [dNe, eqP_t2]
theorem abs_nat (i : Int) : (if i < 0 then -i else i) = (i.natAbs : Int) := by split <;> omega
theorem fmod_nat (m n : Nat) : (m : Int).fmod (n : Int) = ((m % n : Nat) : Int) := by
  rw [Int.fmod_eq_emod_of_nonneg _ (Int.natCast_nonneg n)]
  exact (Int.natCast_emod m n).symm
theorem mtR_ok {m C : Str} {tab : List (Str × (List D → Out M))} {fs : List Str} {ds : List D} {f : List D → Out M} (h : fs.contains m = false) (h2 : tab.lookup C = some f) : mtR m tab (.obj C fs ds) = .ok f := by
  unfold mtR
  simp only [h, h2, Bool.false_eq_true, if_false]
theorem abs_n (i : Int) : dAbs [.int i] = .ok (.int (i.natAbs : Int)) := by rw [abs_i, abs_nat]
theorem c2 : ((2 : Nat) : Int) = 2 := rfl
theorem c3 : ((3 : Nat) : Int) = 3 := rfl
theorem c1 : ((1 : Nat) : Int) = 1 := rfl
theorem c0 : ((0 : Nat) : Int) = 0 := rfl
theorem lk_hd {α : Type} {C : Str} {f : α} {r : List (Str × α)} : List.lookup C ((C, f) :: r) = some f := by simp [List.lookup]
theorem lk_tl {α : Type} {C C' : Str} {f : α} {r : List (Str × α)} (h : (C == C') = false) : List.lookup C ((C', f) :: r) = List.lookup C r := by simp [List.lookup, h]
theorem lk_R {α : Type} {f g : α} : List.lookup ("Rests" : Str) [("Fractions", f), ("Rests", g)] = some g := (lk_tl (by decide +kernel)).trans lk_hd
theorem ad_ii (i j : Int) : dAdd (.int i) (.int j) = .ok (.int (i + j)) := rfl
theorem ad_tt {xs ys : List D} (h : xs.length + ys.length ≤ 1000) : dAdd (.tup xs) (.tup ys) = .ok (.tup (xs ++ ys)) := if_pos (le_size h)
theorem gx_ii (i j : Int) : dGtA (.int i) (.int j) = .ok (.bl (decide (j < i))) := rfl
theorem gx_tt (xs ys : List Int) : dGtA (.tup (IL xs)) (.tup (IL ys)) = .ok (.bl (HT.lexLt ys xs)) := by
  simp only [dGtA, intsOf_ints]
theorem lof_l (ds : List D) : dListOf [.lst ds] = .ok (.lst ds) := rfl
theorem lof_t (ds : List D) : dListOf [.tup ds] = .ok (.lst ds) := rfl
theorem toPs_ints : ∀ xs : List Int, toPs (IL xs) = some (xs.map PyData.int)
  | [] => rfl
  | x :: xs => by
    have := toPs_ints xs
    simp only [List.map_cons, toPs, toP, this, Option.bind_some, Option.map_some]
theorem lay_ints : ∀ xs : List Int, PyData.canLayAll0 (xs.map PyData.int) = true
  | [] => rfl
  | x :: xs => by
    have := lay_ints xs
    simp only [List.map_cons, PyData.canLayAll0, PyData.canLay0, this, Bool.and_self]
theorem eqv_ints : ∀ xs ys : List Int, PyData.eqvAll (xs.map PyData.int) (ys.map PyData.int) = decide (xs = ys)
  | [], [] => by simp [PyData.eqvAll]
  | [], _ :: _ => by simp [PyData.eqvAll]
  | _ :: _, [] => by simp [PyData.eqvAll]
  | x :: xs, y :: ys => by
    have := eqv_ints xs ys
    simp only [List.map_cons, PyData.eqvAll, PyData.eqv, this]
    rw [Bool.eq_iff_iff]
    simp
theorem eqP_ts (xs ys : List Int) : eqP (.tup (IL xs)) (.tup (IL ys)) = some (decide (xs = ys)) := by
  have h : ∀ zs : List Int, SeqAt.shaped (PyData.tuple (zs.map PyData.int)) = true := fun zs => by
    simp only [SeqAt.shaped, PyData.canLay0, lay_ints, PyData.depth, PyProof.Rows.depthAll_ints]
    decide
  simp only [eqP, toP, toPs_ints, Option.map_some, h, Bool.and_self, if_true, PyData.eqv, eqv_ints]
theorem dEq_ts (xs ys : List Int) : dEq (.tup (IL xs)) (.tup (IL ys)) = .ok (.bl (decide (xs = ys))) := by simp only [dEq, eqP_ts]
theorem dNe_ts (xs ys : List Int) : dNe (.tup (IL xs)) (.tup (IL ys)) = .ok (.bl (!decide (xs = ys))) := by simp only [dNe, eqP_ts]
theorem maxD_t (xs : List Int) (d : D) : dMaxD (.tup (IL xs)) d = match xs with | [] => .ok d | n :: ms => .ok (.int (ms.foldl max n)) := by
  simp only [dMaxD, seq_tup, intsOf_ints]
  cases xs <;> rfl
theorem sz1 : 1 ≤ sizeLine := by decide
theorem cutL_map {α β : Type} (f : α → β) (xs : List α) (lo hi : Option Int) : cutL (xs.map f) lo hi = (cutL xs lo hi).map f := by
  unfold cutL
  rw [List.length_map, List.map_take, List.map_drop]
theorem cutL_len {α : Type} (xs : List α) (lo hi : Option Int) : (cutL xs lo hi).length ≤ xs.length := by
  unfold cutL
  rw [List.length_take, List.length_drop]
  omega
theorem cutL_from {α : Type} {xs : List α} {k : Nat} (h : k ≤ xs.length) : cutL xs (some (k : Int)) none = xs.drop k := by
  unfold cutL
  rw [HT.sIx_nat, HT.sIx_none, Nat.min_eq_left h]
  exact List.take_of_length_le (by rw [List.length_drop]; exact Nat.le_refl _)
theorem cutL_to {α : Type} {xs : List α} {k : Nat} (h : k ≤ xs.length) : cutL xs none (some (k : Int)) = xs.take k := by
  unfold cutL
  rw [HT.sIx_nat, HT.sIx_none, Nat.min_eq_left h, List.drop_zero, Nat.sub_zero]
theorem sl_t (ds : List D) (lo hi : Option Int) : dSl (.tup ds) lo hi = .ok (.tup (cutL ds lo hi)) := rfl
theorem sl_l (ds : List D) (lo hi : Option Int) : dSl (.lst ds) lo hi = .ok (.lst (cutL ds lo hi)) := rfl
theorem atI_prev {α : Type} {xs : List α} {j : Nat} (h : j < xs.length) : ∃ x ∈ xs, atI xs ((j : Int) - 1) = some x := by
  unfold atI ixN
  cases j with
  | zero =>
    rw [if_neg (by omega), if_pos (by omega)]
    have l : (((0 : Nat) : Int) - 1 + (xs.length : Int)).toNat < xs.length := by omega
    exact ⟨_, List.getElem_mem l, by simp only [Option.bind_some, List.getElem?_eq_getElem l]⟩
  | succ j =>
    rw [if_pos (by omega), if_pos (by omega)]
    have l : (((j + 1 : Nat) : Int) - 1).toNat < xs.length := by omega
    exact ⟨_, List.getElem_mem l, by simp only [Option.bind_some, List.getElem?_eq_getElem l]⟩
end DA
set_option maxHeartbeats 4000000
/-! TA: from worths over slots to plain typed functions -/
namespace DA
open PySem PySem.Spec PyProof.Rows L2

/-- what t tells, o tells (in the other coin) -/
def Ag2 {α β : Type} (e : α → β) (t : Out α) (o : Out β) : Prop := match t with
  | .stuck => True
  | .exc n => o = .exc n
  | .ok a => o = .ok (e a)
theorem ag2_ok {α β : Type} {e : α → β} {a : α} {o : Out β} (h : o = .ok (e a)) : Ag2 e (.ok a) o := h
theorem Ag2.bind {α β γ δ : Type} {e : α → β} {e' : γ → δ} {t : Out α} {o : Out β} {k : α → Out γ} {k' : β → Out δ} (h : Ag2 e t o) (hk : ∀ a, Ag2 e' (k a) (k' (e a))) : Ag2 e' (t.bind k) (o.bind k') := by
  cases t with
  | stuck => exact trivial
  | exc n => rw [show o = .exc n from h]; exact rfl
  | ok a => rw [show o = .ok (e a) from h]; exact hk a
theorem Ag2.nx {α β : Type} {e : α → β} {t : Out α} {o : Out β} (h : Ag2 e t o) : Ag2 e t.nx o.nx := by
  cases t with
  | stuck => exact trivial
  | exc n => exact trivial
  | ok a => rw [show o = .ok (e a) from h]; exact rfl
theorem Ag2.map {α β γ δ : Type} {e : α → β} {e' : γ → δ} {t : Out α} {o : Out β} {k : α → γ} {k' : β → δ} (h : Ag2 e t o) (hk : ∀ a, k' (e a) = e' (k a)) : Ag2 e' (t.map k) (o.map k') := by
  cases t with
  | stuck => exact trivial
  | exc n => rw [show o = .exc n from h]; exact rfl
  | ok a => rw [show o = .ok (e a) from h]; exact congrArg Out.ok (hk a)
theorem Ag2.eq {α β : Type} {e : α → β} {t : Out α} {a : α} {o : Out β} (h : Ag2 e t o) (ht : t = .ok a) : o = .ok (e a) := by rw [ht] at h; exact h
theorem Ag2.eqx {α β : Type} {e : α → β} {t : Out α} {n : Str} {o : Out β} (h : Ag2 e t o) (ht : t = .exc n) : o = .exc n := by rw [ht] at h; exact h

/-! ### the slots, known -/
abbrev Gm := Nat → Option M
def up (Γ : Gm) (i : Nat) (m : M) : Gm := fun j => bif Nat.beq j i then some m else Γ j
def g0 : Gm := fun _ => none
def memN (vs : List Nat) (j : Nat) : Bool := match vs with
  | [] => false
  | v :: r => bif Nat.beq j v then true else memN r j
def dr (vs : List Nat) (Γ : Gm) : Gm := fun j => bif memN vs j then none else Γ j
def datO : Option M → Option M
  | some (.dat d) => some (.dat d)
  | _ => none
def wi (vs : List Nat) (Γ : Gm) : Gm := fun j => bif memN vs j then none else datO (Γ j)
def erO : Option M → Option M
  | some m => some (.dat m.er)
  | none => none
def erG (Γ : Gm) : Gm := fun j => erO (Γ j)
structure Ag (n : Nat) (Γ : Gm) (ρ : Rn) : Prop where
  len : ρ.length = n
  kn : ∀ i m, Γ i = some m → ρ[i]? = some (some m)
theorem nbeq {i j : Nat} : Nat.beq i j = decide (i = j) := by
  rw [Bool.eq_iff_iff, decide_eq_true_iff]
  exact ⟨Nat.eq_of_beq_eq_true, fun e => by subst e; exact Nat.beq_refl i⟩
theorem memN_iff {vs : List Nat} {j : Nat} : memN vs j = true ↔ j ∈ vs := by
  induction vs with
  | nil => simp [memN]
  | cons v r ih =>
    unfold memN
    rw [nbeq]
    by_cases e : j = v
    · simp [e]
    · simp [e, ih]
variable {n : Nat} {Γ Γ' : Gm} {ρ : Rn}
theorem Ag.set (h : Ag n Γ ρ) {i : Nat} (hi : i < n) (m : M) : Ag n (up Γ i m) (ρ.set i (some m)) := ⟨by rw [List.length_set]; exact h.len, fun j m' e => by
  unfold up at e
  rw [nbeq] at e
  by_cases z : j = i
  · subst z
    simp only [decide_true, cond_true] at e
    cases e
    rw [List.getElem?_set_self (by rw [h.len]; exact hi)]
  · simp only [z, decide_false, cond_false] at e
    rw [List.getElem?_set_ne (fun q => z q.symm)]
    exact h.kn j m' e⟩
def Sub (Γ' Γ : Gm) : Prop := ∀ i m, Γ' i = some m → Γ i = some m
theorem Ag.sub (h : Ag n Γ ρ) (s : Sub Γ' Γ) : Ag n Γ' ρ := ⟨h.len, fun i m e => h.kn i m (s i m e)⟩
theorem Ag.er (h : Ag n Γ ρ) : Ag n (erG Γ) (erR ρ) := ⟨by rw [erR_len]; exact h.len, fun i m e => by
  unfold erG erO at e
  unfold erR
  rw [List.getElem?_map]
  cases q : Γ i with
  | none => rw [q] at e; cases e
  | some m' =>
    rw [q] at e
    cases e
    rw [h.kn i m' q]
    rfl⟩
theorem Ag.wipe (h : Ag n Γ ρ) (vs : List Nat) : Ag n (wi vs Γ) (wipeR vs ρ) := ⟨by rw [wipeR_len]; exact h.len, fun i m e => by
  unfold wi at e
  cases q : memN vs i with
  | true => rw [q] at e; cases e
  | false =>
    rw [q] at e
    simp only [cond_false] at e
    cases q2 : Γ i with
    | none => rw [q2] at e; cases e
    | some m' =>
      rw [q2] at e
      cases m' with
      | dat d =>
        cases e
        have k := h.kn i _ q2
        have hi : i < ρ.length := by
          rcases Nat.lt_or_ge i ρ.length with z | z
          · exact z
          · rw [List.getElem?_eq_none z] at k; cases k
        unfold wipeR
        rw [List.getElem?_map, List.getElem?_range hi]
        have nv : i ∉ vs := fun z => by rw [memN_iff.mpr z] at q; cases q
        simp only [Option.map_some, if_neg nv, k]
      | _ => cases e⟩
/-- the slots but vs stay; the state's slots come on top -/
def ups (Γ : Gm) : List (Nat × M) → Gm
  | [] => Γ
  | (i, m) :: r => up (ups Γ r) i m
theorem sub_drop {vs : List Nat} : Sub (dr vs Γ) Γ := fun i m e => by
  unfold dr at e
  cases q : memN vs i with
  | true => rw [q] at e; cases e
  | false => rw [q] at e; exact e
theorem sub_up {i : Nat} {m : M} (s : Sub Γ' Γ) (h : Γ i = some m) : Sub (up Γ' i m) Γ := fun j m' e => by
  unfold up at e
  rw [nbeq] at e
  by_cases z : j = i
  · subst z
    simp only [decide_true, cond_true] at e
    cases e
    exact h
  · simp only [z, decide_false, cond_false] at e
    exact s j m' e
/-- behind a store to a slot of vs, what is told of the others stands -/
theorem sub_drop_up {vs : List Nat} {i : Nat} {m : M} (s : Sub (dr vs Γ') Γ) (h : memN vs i = true) : Sub (dr vs Γ') (up Γ i m) := fun j m' e => by
  unfold up
  rw [nbeq]
  by_cases z : j = i
  · subst z
    unfold dr at e
    rw [h] at e
    cases e
  · simp only [z, decide_false, cond_false]
    exact s j m' e
theorem sub_refl : Sub Γ Γ := fun _ _ e => e
theorem Sub.trans {Γ1 Γ2 Γ3 : Gm} (a : Sub Γ1 Γ2) (b : Sub Γ2 Γ3) : Sub Γ1 Γ3 := fun i m e => b i m (a i m e)

/-! ### coins -/
abbrev cT (xs : List Int) : D := .tup (xs.map .int)
abbrev cL {α : Type} (c : α → D) (xs : List α) : D := .lst (xs.map c)
abbrev cU {α : Type} (c : α → D) (xs : List α) : D := .tup (xs.map c)
abbrev cA2 {α β : Type} (a : α → D) (b : β → D) (p : α × β) : D := .tup [a p.1, b p.2]
abbrev cA3 {α β γ : Type} (a : α → D) (b : β → D) (c : γ → D) (p : α × β × γ) : D := .tup [a p.1, b p.2.1, c p.2.2]
abbrev cN (_ : Unit) : D := .non
def cO {α : Type} (c : α → D) : Option α → D
  | none => .non
  | some x => c x
def kT (t : List Int) : List Key := t.map .inl
abbrev cDT {α : Type} (c : α → D) (f : List (List Int × α)) : D := .dic (f.map fun p => kT p.1) (f.map fun p => c p.2)
abbrev mL {α : Type} (c : α → D) (xs : List α) : M := .lst (xs.map fun x => .dat (c x))
abbrev mDT {α : Type} (c : α → D) (f : List (List Int × α)) : M := .dic (f.map fun p => kT p.1) (f.map fun p => .dat (c p.2))
abbrev mD {α : Type} (c : α → D) (x : α) : M := .dat (c x)
theorem er_mL {α : Type} {c : α → D} {xs : List α} : M.er (mL c xs) = cL c xs := by
  rw [M.er, ers_map, List.map_map]
  exact congrArg D.lst (List.map_congr_left fun x _ => by rw [Function.comp, M.er])
theorem er_mDT {α : Type} {c : α → D} {f : List (List Int × α)} : M.er (mDT c f) = cDT c f := by
  rw [M.er, ers_map, List.map_map]
  exact congrArg (D.dic _) (List.map_congr_left fun x _ => by rw [Function.comp, M.er])

/-! ### worths -/
def TP {α β : Type} (n : Nat) (Γ : Gm) (e : α → β) (f : Rn → Out β) (v : α) : Prop := ∀ ρ, Ag n Γ ρ → f ρ = .ok (e v)
def TX {α β : Type} (n : Nat) (Γ : Gm) (e : α → β) (f : Rn → Out β) (t : Out α) : Prop := ∀ ρ, Ag n Γ ρ → Ag2 e t (f ρ)
section
variable {α β γ δ : Type} {e e1 : α → D} {e2 : β → D} {e3 : γ → D} {f g h : Rn → Out D} {a : α} {b : β} {s : Out α} {t : Out β}
theorem TP.x {ε : Type} {e : α → ε} {f : Rn → Out ε} (p : TP n Γ e f a) : TX n Γ e f (.ok a) := fun ρ A => p ρ A
theorem tp_rd (i : Nat) {a : α} {e : α → D} (h : Γ i = some (.dat (e a)) := by rfl) : TP n Γ e (rd i) a := fun ρ A => by unfold rd; rw [A.kn i _ h]
theorem tp_rdE (i : Nat) {m : M} {a : α} {e : α → D} (h : Γ i = some (.dat (M.er m))) (he : M.er m = e a) : TP n Γ e (rd i) a := fun ρ A => by unfold rd; rw [A.kn i _ h, he]
theorem tp_cst {d : D} {a : α} {e : α → D} (h : d = e a := by rfl) : TP n Γ e (cst d) a := fun ρ A => by rw [h]; rfl
/-- in another coin -/
theorem TP.to {ε : Type} {e : α → ε} {e' : β → ε} {f : Rn → Out ε} (p : TP n Γ e f a) (h : e a = e' b := by rfl) : TP n Γ e' f b := fun ρ A => by rw [p ρ A, h]
theorem TX.to {ε : Type} {e : α → ε} {e' : β → ε} {f : Rn → Out ε} {k : α → Out β} (p : TX n Γ e f s) (h : ∀ a, Ag2 e' (k a) (.ok (e a))) : TX n Γ e' f (s.bind k) := fun ρ A => by
  have q := p ρ A
  cases s with
  | stuck => exact trivial
  | exc x => exact q
  | ok a =>
    have q : f ρ = .ok (e a) := q
    have r := h a
    show Ag2 e' (k a) (f ρ)
    rw [q]; exact r
theorem TP.tox {ε : Type} {e : α → ε} {e' : β → ε} {f : Rn → Out ε} {t : Out β} (p : TP n Γ e f a) (h : Ag2 e' t (.ok (e a))) : TX n Γ e' f t := fun ρ A => by rw [p ρ A]; exact h
theorem TP.eq {ε : Type} {e : α → ε} {f : Rn → Out ε} {a' : α} (p : TP n Γ e f a) (h : a = a') : TP n Γ e f a' := by rw [← h]; exact p
/-- an operator that always tells -/
def OpP (h : D → D → Out D) (e1 : α → D) (e2 : β → D) (e3 : γ → D) (r : α → β → γ) : Prop := ∀ a b, h (e1 a) (e2 b) = .ok (e3 (r a b))
def OpX (h : D → D → Out D) (e1 : α → D) (e2 : β → D) (e3 : γ → D) (r : α → β → Out γ) : Prop := ∀ a b, Ag2 e3 (r a b) ((h (e1 a) (e2 b)).nx)
theorem OpP.x {h : D → D → Out D} {r : α → β → γ} (p : OpP h e1 e2 e3 r) : OpX h e1 e2 e3 (fun a b => .ok (r a b)) := fun a b => by rw [p a b]; exact rfl
theorem tp_bin {h : D → D → Out D} {r : α → β → γ} {x : γ} (o : OpP h e1 e2 e3 r) (p : TP n Γ e1 f a) (q : TP n Γ e2 g b) (hx : r a b = x := by rfl) : TP n Γ e3 (bin h f g) x := fun ρ A => by
  unfold DA.bin; rw [p ρ A, bind_ok, q ρ A, bind_ok, o a b, hx]; rfl
theorem tx_bin {h : D → D → Out D} {r : α → β → Out γ} {x : Out γ} (o : OpX h e1 e2 e3 r) (p : TP n Γ e1 f a) (q : TP n Γ e2 g b) (hx : r a b = x := by rfl) : TX n Γ e3 (bin h f g) x := fun ρ A => by
  unfold DA.bin; rw [p ρ A, bind_ok, q ρ A, bind_ok, ← hx]; exact o a b
theorem tx_bin1 {h : D → D → Out D} {r : α → β → Out γ} {k : α → Out γ} (o : OpX h e1 e2 e3 r) (p : TX n Γ e1 f s) (q : TP n Γ e2 g b) (hx : (fun a => r a b) = k := by rfl) : TX n Γ e3 (bin h f g) (s.bind k) := fun ρ A => by
  unfold DA.bin; rw [← hx]; exact (p ρ A).bind fun a => by rw [q ρ A, bind_ok]; exact o a b
theorem tx_bin2 {h : D → D → Out D} {r : α → β → Out γ} {k : β → Out γ} (o : OpX h e1 e2 e3 r) (p : TP n Γ e1 f a) (q : TX n Γ e2 g t) (hx : (fun b => r a b) = k := by rfl) : TX n Γ e3 (bin h f g) (t.bind k) := fun ρ A => by
  unfold DA.bin; rw [p ρ A, bind_ok, ← hx]; exact (q ρ A).bind fun b => o a b
theorem tx_bin3 {h : D → D → Out D} {r : α → β → Out γ} {k : α → Out γ} (o : OpX h e1 e2 e3 r) (p : TX n Γ e1 f s) (q : TX n Γ e2 g t) (hx : (fun a => t.bind fun b => r a b) = k := by rfl) : TX n Γ e3 (bin h f g) (s.bind k) := fun ρ A => by
  unfold DA.bin; rw [← hx]; exact (p ρ A).bind fun a => (q ρ A).bind fun b => o a b
/-! tests -/
def OpB (h : D → D → Out D) (e1 : α → D) (e2 : β → D) (r : α → β → Bool) : Prop := OpP h e1 e2 D.bl r
theorem bin_tst {h : D → D → Out D} : tst h f g = isB (bin h f g) := by
  funext ρ
  unfold tst isB DA.bin
  cases f ρ with
  | stuck => rfl
  | exc n => rfl
  | ok x =>
    rw [bind_ok, bind_ok]
    cases g ρ with
    | stuck => rfl
    | exc n => rfl
    | ok y => rfl
theorem tp_isB {b : Bool} (p : TP n Γ D.bl f b) : TP n Γ id (isB f) b := fun ρ A => by unfold isB; rw [p ρ A]; rfl
theorem tx_isB {t : Out Bool} (p : TX n Γ D.bl f t) : TX n Γ id (isB f) t := fun ρ A => by
  unfold isB
  have q := (p ρ A).bind (e' := id) (k := fun b => .ok b) (k' := asB) fun b => rfl
  have r : t.bind (fun b => .ok b) = t := by cases t <;> rfl
  rw [r] at q
  exact q
theorem tp_tst {h : D → D → Out D} {b : Bool} (p : TP n Γ D.bl (bin h f g) b) : TP n Γ id (tst h f g) b := by rw [bin_tst]; exact tp_isB p
theorem tx_tst {h : D → D → Out D} {t : Out Bool} (p : TX n Γ D.bl (bin h f g) t) : TX n Γ id (tst h f g) t := by rw [bin_tst]; exact tx_isB p
section
variable {p q : Rn → Out Bool} {a b : Bool} {s t : Out Bool}
theorem tp_not (h : TP n Γ id p a) : TP n Γ id (notB p) (!a) := fun ρ A => by unfold notB; rw [h ρ A]; rfl
theorem tx_not (h : TX n Γ id p s) : TX n Γ id (notB p) (s.map (!·)) := fun ρ A => (h ρ A).map fun _ => rfl
theorem tp_and (h : TP n Γ id p a) (k : TP n Γ id q b) : TP n Γ id (andB p q) (a && b) := fun ρ A => by
  unfold andB; rw [h ρ A]
  show (if id a = true then q ρ else .ok false) = _
  cases a with
  | false => rfl
  | true => exact k ρ A
theorem tx_and (h : TP n Γ id p a) (k : TX n Γ id q t) : TX n Γ id (andB p q) (if a then t else .ok false) := fun ρ A => by
  unfold andB; rw [h ρ A]
  show Ag2 id _ (if id a = true then q ρ else .ok false)
  cases a with
  | false => exact rfl
  | true => exact k ρ A
theorem tx_and1 (h : TX n Γ id p s) (k : TX n Γ id q t) : TX n Γ id (andB p q) (s.bind fun a => if a then t else .ok false) := fun ρ A => by
  unfold andB
  refine (h ρ A).bind fun a => ?_
  cases a with
  | false => exact rfl
  | true => exact k ρ A
theorem tp_or (h : TP n Γ id p a) (k : TP n Γ id q b) : TP n Γ id (orB p q) (a || b) := fun ρ A => by
  unfold orB; rw [h ρ A]
  show (if id a = true then .ok true else q ρ) = _
  cases a with
  | true => rfl
  | false => exact k ρ A
theorem tx_or (h : TP n Γ id p a) (k : TX n Γ id q t) : TX n Γ id (orB p q) (if a then .ok true else t) := fun ρ A => by
  unfold orB; rw [h ρ A]
  show Ag2 id _ (if id a = true then .ok true else q ρ)
  cases a with
  | true => exact rfl
  | false => exact k ρ A
theorem tx_or1 (h : TX n Γ id p s) (k : TX n Γ id q t) : TX n Γ id (orB p q) (s.bind fun a => if a then .ok true else t) := fun ρ A => by
  unfold orB
  refine (h ρ A).bind fun a => ?_
  cases a with
  | true => exact rfl
  | false => exact k ρ A
theorem tp_andD (h : TP n Γ D.bl f a) (k : TP n Γ D.bl g b) : TP n Γ D.bl (andD f g) (a && b) := fun ρ A => by
  unfold andD; rw [h ρ A]
  show (if a = true then g ρ else .ok (.bl false)) = _
  cases a with
  | false => rfl
  | true => exact k ρ A
theorem tx_andD (h : TX n Γ D.bl f s) (k : TX n Γ D.bl g t) : TX n Γ D.bl (andD f g) (s.bind fun a => if a then t else .ok false) := fun ρ A => by
  unfold andD
  have q := (h ρ A).bind (e' := id) (k := fun b => .ok b) (k' := asB) fun b => rfl
  have r : s.bind (fun b => .ok b) = s := by cases s <;> rfl
  rw [r] at q
  refine q.bind fun a => ?_
  cases a with
  | false => exact rfl
  | true => exact k ρ A
theorem tp_orD (h : TP n Γ D.bl f a) (k : TP n Γ D.bl g b) : TP n Γ D.bl (orD f g) (a || b) := fun ρ A => by
  unfold orD; rw [h ρ A]
  show (if a = true then .ok (.bl true) else g ρ) = _
  cases a with
  | true => rfl
  | false => exact k ρ A
theorem tx_orD (h : TX n Γ D.bl f s) (k : TX n Γ D.bl g t) : TX n Γ D.bl (orD f g) (s.bind fun a => if a then .ok true else t) := fun ρ A => by
  unfold orD
  have q := (h ρ A).bind (e' := id) (k := fun b => .ok b) (k' := asB) fun b => rfl
  have r : s.bind (fun b => .ok b) = s := by cases s <;> rfl
  rw [r] at q
  refine q.bind fun a => ?_
  cases a with
  | true => exact rfl
  | false => exact k ρ A
theorem tp_notD (h : TP n Γ D.bl f a) : TP n Γ D.bl (notD f) (!a) := fun ρ A => by unfold notD; rw [h ρ A]; rfl
theorem tx_notD (h : TX n Γ D.bl f s) : TX n Γ D.bl (notD f) (s.map (!·)) := fun ρ A => by
  unfold notD
  have q := (h ρ A).bind (e' := id) (k := fun b => .ok b) (k' := asB) fun b => rfl
  have r : s.bind (fun b => .ok b) = s := by cases s <;> rfl
  rw [r] at q
  exact q.map fun _ => rfl
end
theorem tp_ifD {c : Rn → Out Bool} {k : Bool} {a b : α} {e : α → D} (hc : TP n Γ id c k) (p : TP n Γ e f a) (q : TP n Γ e g b) : TP n Γ e (ifD c f g) (if k then a else b) := fun ρ A => by
  unfold ifD; rw [hc ρ A]
  show (if k = true then f ρ else g ρ) = _
  cases k with
  | true => exact p ρ A
  | false => exact q ρ A
theorem tx_ifD {c : Rn → Out Bool} {k : Bool} {s t : Out α} {e : α → D} (hc : TP n Γ id c k) (p : TX n Γ e f s) (q : TX n Γ e g t) : TX n Γ e (ifD c f g) (if k then s else t) := fun ρ A => by
  unfold ifD; rw [hc ρ A]
  show Ag2 e _ (if k = true then f ρ else g ρ)
  cases k with
  | true => exact p ρ A
  | false => exact q ρ A
theorem tx_ifD1 {c : Rn → Out Bool} {k : Out Bool} {s t : Out α} {e : α → D} (hc : TX n Γ id c k) (p : TX n Γ e f s) (q : TX n Γ e g t) : TX n Γ e (ifD c f g) (k.bind fun k => if k then s else t) := fun ρ A => by
  unfold ifD
  refine (hc ρ A).bind fun k => ?_
  cases k with
  | true => exact p ρ A
  | false => exact q ρ A
/-! one operand -/
theorem tp_una {h : D → Out D} {r : α → β} {x : β} (o : ∀ a, h (e1 a) = .ok (e2 (r a))) (p : TP n Γ e1 f a) (hx : r a = x := by rfl) : TP n Γ e2 (una h f) x := fun ρ A => by unfold una; rw [p ρ A, bind_ok, o a, hx]; rfl
theorem tx_una {h : D → Out D} {r : α → Out β} {x : Out β} (o : ∀ a, Ag2 e2 (r a) ((h (e1 a)).nx)) (p : TP n Γ e1 f a) (hx : r a = x := by rfl) : TX n Γ e2 (una h f) x := fun ρ A => by unfold una; rw [p ρ A, bind_ok, ← hx]; exact o a
theorem tx_una1 {h : D → Out D} {r : α → Out β} (o : ∀ a, Ag2 e2 (r a) ((h (e1 a)).nx)) (p : TX n Γ e1 f s) : TX n Γ e2 (una h f) (s.bind r) := fun ρ A => by unfold una; exact (p ρ A).bind o
/-! argument lists, by what is done with them -/
def TK {ε : Type} (n : Nat) (Γ : Gm) (e : α → ε) (g : Rn → Out (List D)) (d : List D → Out ε) (t : Out α) : Prop := ∀ ρ, Ag n Γ ρ → Ag2 e t ((g ρ).bind d)
theorem tk_nil {ε : Type} {e : α → ε} {d : List D → Out ε} (h : Ag2 e s (d [])) : TK n Γ e aNil d s := fun ρ A => h
theorem tk_p {ε : Type} {e : α → ε} {c : β → D} {b : β} {g : Rn → Out (List D)} {d : List D → Out ε} (p : TP n Γ c f b) (r : TK n Γ e g (fun ds => d (c b :: ds)) s) : TK n Γ e (aCons f g) d s := fun ρ A => by
  have q := r ρ A
  unfold aCons
  rw [p ρ A, bind_ok]
  cases z : g ρ with
  | stuck => rw [z] at q; exact q
  | exc x => rw [z] at q; exact q
  | ok ds => rw [z] at q; exact q
theorem tk_x {ε : Type} {e : α → ε} {c : β → D} {g : Rn → Out (List D)} {d : List D → Out ε} {k : β → Out α} (p : TX n Γ c f t) (r : ∀ b, TK n Γ e g (fun ds => d (c b :: ds)) (k b)) : TK n Γ e (aCons f g) d (t.bind k) := fun ρ A => by
  have e1 : (aCons f g ρ).bind d = (f ρ).bind fun x => (g ρ).bind fun ds => d (x :: ds) := by
    unfold aCons
    cases f ρ with
    | stuck => rfl
    | exc x => rfl
    | ok x =>
      rw [bind_ok, bind_ok]
      cases g ρ with
      | stuck => rfl
      | exc x => rfl
      | ok ds => rfl
  rw [e1]
  exact (p ρ A).bind fun b => r b ρ A
theorem tx_call {e : α → M} {d : List D → Out M} {g : Rn → Out (List D)} (r : TK n Γ e g d s) : TX n Γ e (callM d g) s := r
theorem tx_cal {d : List D → Out D} {g : Rn → Out (List D)} (r : TK n Γ e g (fun ds => (d ds).nx) s) : TX n Γ e (calD d g) s := r
theorem tx_tup {g : Rn → Out (List D)} (r : TK n Γ e g (fun xs => if xs.length ≤ sizeLine then .ok (.tup xs) else .stuck) s) : TX n Γ e (tupD g) s := r
theorem tx_lst {e : α → M} {g : Rn → Out (List D)} (r : TK n Γ e g (fun xs => if xs.length ≤ sizeLine then .ok (.lst (xs.map .dat)) else .stuck) s) : TX n Γ e (lstM g) s := r
theorem end_tup {xs : List D} (h : D.tup xs = e a := by rfl) (hl : xs.length ≤ 1000 := by exact Nat.le_of_ble_eq_true rfl) : Ag2 e (.ok a) (if xs.length ≤ sizeLine then .ok (.tup xs) else .stuck) := by
  rw [if_pos (le_size hl)]; exact congrArg Out.ok h
theorem end_lst {e : α → M} {xs : List D} (h : M.lst (xs.map .dat) = e a := by rfl) (hl : xs.length ≤ 1000 := by exact Nat.le_of_ble_eq_true rfl) : Ag2 e (.ok a) (if xs.length ≤ sizeLine then .ok (.lst (xs.map .dat)) else .stuck) := by
  rw [if_pos (le_size hl)]; exact congrArg Out.ok h
def TPA (n : Nat) (Γ : Gm) (g : Rn → Out (List D)) (ds : List D) : Prop := ∀ ρ, Ag n Γ ρ → g ρ = .ok ds
theorem tpa_nil : TPA n Γ aNil [] := fun ρ A => rfl
theorem tpa_cons {g : Rn → Out (List D)} {ds : List D} (p : TP n Γ e f a) (r : TPA n Γ g ds) : TPA n Γ (aCons f g) (e a :: ds) := fun ρ A => by unfold aCons; rw [p ρ A, bind_ok, r ρ A]; rfl
theorem tp_cal {d : List D → Out D} {g : Rn → Out (List D)} {ds : List D} (r : TPA n Γ g ds) (h : d ds = .ok (e a)) : TP n Γ e (calD d g) a := fun ρ A => by unfold calD; rw [r ρ A, bind_ok, h]; rfl
theorem tx_calP {d : List D → Out D} {g : Rn → Out (List D)} {ds : List D} (r : TPA n Γ g ds) (h : Ag2 e s ((d ds).nx)) : TX n Γ e (calD d g) s := fun ρ A => by unfold calD; rw [r ρ A, bind_ok]; exact h
theorem tp_tup {g : Rn → Out (List D)} {ds : List D} (r : TPA n Γ g ds) (h : D.tup ds = e a := by rfl) (hl : ds.length ≤ 1000 := by exact Nat.le_of_ble_eq_true rfl) : TP n Γ e (tupD g) a := fun ρ A => by
  unfold tupD; rw [r ρ A, bind_ok, if_pos (le_size hl), h]
theorem tp_lst {e : α → M} {g : Rn → Out (List D)} {ds : List D} (r : TPA n Γ g ds) (h : M.lst (ds.map .dat) = e a := by rfl) (hl : ds.length ≤ 1000 := by exact Nat.le_of_ble_eq_true rfl) : TP n Γ e (lstM g) a := fun ρ A => by
  unfold lstM; rw [r ρ A, bind_ok, if_pos (le_size hl), h]
theorem tx_callP {e : α → M} {d : List D → Out M} {g : Rn → Out (List D)} {ds : List D} (r : TPA n Γ g ds) (h : Ag2 e s (d ds)) : TX n Γ e (callM d g) s := fun ρ A => by unfold callM; rw [r ρ A, bind_ok]; exact h
/-! data and trees -/
theorem tp_toM (p : TP n Γ e f a) : TP n Γ (mD e) (toM f) a := fun ρ A => by unfold toM; rw [p ρ A]; rfl
theorem tx_toM (p : TX n Γ e f s) : TX n Γ (mD e) (toM f) s := fun ρ A => by
  have q := (p ρ A).map (e' := mD e) (k := id) (k' := M.dat) fun _ => rfl
  have r : s.map id = s := by cases s <;> rfl
  rw [r] at q
  exact q
/-- a tree's coin and its data's -/
def Er (m : α → M) (e : α → D) : Prop := ∀ a, (m a).er = e a
theorem er_d : Er (mD e) e := fun _ => rfl
theorem er_l : Er (mL e) (cL e) := fun _ => er_mL
theorem er_dt : Er (mDT e) (cDT e) := fun _ => er_mDT
theorem tp_toD {m : α → M} {f : Rn → Out M} (w : Er m e) (p : TP n Γ m f a) : TP n Γ e (toD f) a := fun ρ A => by unfold toD; rw [p ρ A, map_ok, w a]
theorem tx_toD {m : α → M} {f : Rn → Out M} (w : Er m e) (p : TX n Γ m f s) : TX n Γ e (toD f) s := fun ρ A => by
  have q := (p ρ A).map (e' := e) (k := id) (k' := M.er) w
  have r : s.map id = s := by cases s <;> rfl
  rw [r] at q
  exact q
/-! borrowed -/
theorem tp_borD (p : TP n (erG Γ) e f a) (h : immD (e a) = true) : TP n Γ e (borD f) a := fun ρ A => by
  unfold borD; rw [p _ A.er, bind_ok, h]; rfl
theorem tx_borD (p : TX n (erG Γ) e f s) (h : ∀ a, immD (e a) = true) : TX n Γ e (borD f) s := fun ρ A => by
  unfold borD
  have q := (p _ A.er).bind (e' := e) (k := fun a => .ok a) (k' := fun d => if immD d then .ok d else .stuck) fun a => by rw [h a]; exact rfl
  have r : s.bind (fun a => .ok a) = s := by cases s <;> rfl
  rw [r] at q
  exact q
theorem tx_borM {m : α → M} {f : Rn → Out M} (p : TX n (erG Γ) m f s) (h : ∀ a, immM (m a) = true) : TX n Γ m (borM f) s := fun ρ A => by
  unfold borM
  have q := (p _ A.er).bind (e' := m) (k := fun a => .ok a) (k' := fun d => if immM d then .ok d else .stuck) fun a => by rw [h a]; exact rfl
  have r : s.bind (fun a => .ok a) = s := by cases s <;> rfl
  rw [r] at q
  exact q
theorem tp_borM {m : α → M} {f : Rn → Out M} (p : TP n (erG Γ) m f a) (h : immM (m a) = true) : TP n Γ m (borM f) a := fun ρ A => by
  unfold borM; rw [p _ A.er, bind_ok, h]; rfl
theorem tp_borB {p : Rn → Out Bool} {b : Bool} (h : TP n (erG Γ) id p b) : TP n Γ id (borB p) b := fun ρ A => h _ A.er
theorem tx_borB {p : Rn → Out Bool} {t : Out Bool} (h : TX n (erG Γ) id p t) : TX n Γ id (borB p) t := fun ρ A => h _ A.er
end

/-! ### what is walked -/
structure Sq {α : Type} (e : List α → D) (c : α → D) : Prop where
  so : ∀ xs, seqOf (e xs) = .ok (xs.map c)
  sb : ∀ xs, ∃ t, seqB (e xs) = some (t, xs.map c)
  ln : ∀ xs, dLen [e xs] = .ok (.int (xs.length : Int))
  ix : ∀ xs (i : Int), dIx (e xs) (.int i) = match atI (xs.map c) i with | some d => .ok d | none => .stuck
theorem sqL {α : Type} {c : α → D} : Sq (cL c) c := ⟨fun _ => rfl, fun _ => ⟨_, rfl⟩, fun xs => by show Out.ok (D.int ((xs.map c).length : Int)) = _; rw [List.length_map], fun _ _ => rfl⟩
theorem sqU {α : Type} {c : α → D} : Sq (cU c) c := ⟨fun _ => rfl, fun _ => ⟨_, rfl⟩, fun xs => by show Out.ok (D.int ((xs.map c).length : Int)) = _; rw [List.length_map], fun _ _ => rfl⟩
theorem sqT : Sq cT D.int := sqU
section
variable {α β γ : Type} {e : List α → D} {c : α → D} {e2 : List β → D} {d : β → D} {f g : Rn → Out D} {xs : List α} {ys : List β} {i : Int}
theorem tp_itSeq (w : Sq e c) (p : TP n Γ e f xs) : TP n Γ (List.map c) (itSeq f) xs := fun ρ A => by unfold itSeq; rw [p ρ A, bind_ok, w.so]
theorem tx_itSeq {s : Out (List α)} (w : Sq e c) (p : TX n Γ e f s) : TX n Γ (List.map c) (itSeq f) s := fun ρ A => by
  unfold itSeq
  have q := (p ρ A).bind (e' := List.map c) (k := fun a => .ok a) (k' := seqOf) fun a => by rw [w.so]; exact rfl
  have r : s.bind (fun a => .ok a) = s := by cases s <;> rfl
  rw [r] at q
  exact q
theorem tp_itRev (w : Sq e c) (p : TP n Γ e f xs) : TP n Γ (List.map c) (itRev f) xs.reverse := fun ρ A => by unfold itRev; rw [p ρ A, bind_ok, w.so, map_ok, List.map_reverse]
theorem zipL_map : ∀ (xs : List α) (ys : List β), zipL (xs.map c) (ys.map d) = (xs.zip ys).map (cA2 c d)
  | [], _ => rfl
  | _ :: _, [] => rfl
  | x :: xs, y :: ys => by
    have := zipL_map xs ys
    simp only [zipL, List.map_cons, List.zipWith_cons_cons, List.zip_cons_cons] at this ⊢
    rw [this]
theorem tp_itZip {h : Rn → Out (List D)} {ds : List D} (w : Sq e c) (w2 : Sq e2 d) (p : TPA n Γ h ds) (hd : ds = [e xs, e2 ys]) : TP n Γ (List.map (cA2 c d)) (itZip h) (xs.zip ys) := fun ρ A => by
  unfold itZip
  rw [p ρ A, bind_ok, hd]
  obtain ⟨t1, h1⟩ := w.sb xs
  obtain ⟨t2, h2⟩ := w2.sb ys
  show (match seqB (e xs), seqB (e2 ys) with
    | some (_, ds), some (_, es) => Out.ok (zipL ds es)
    | _, _ => .stuck) = _
  rw [h1, h2]
  exact congrArg Out.ok (zipL_map xs ys)
def rgI (i j : Int) : List Int := (List.range (j - i).toNat).map fun (k : Nat) => i + (k : Int)
theorem rangeL_rg (i j : Int) : rangeL i j = (rgI i j).map D.int := by unfold rangeL rgI; rw [List.map_map]; rfl
def RgC (i j : Int) : Prop := -16777216 ≤ i ∧ i ≤ 16777216 ∧ -16777216 ≤ j ∧ j ≤ 16777216 ∧ j - i ≤ 16777216
instance (i j : Int) : Decidable (RgC i j) := by unfold RgC; infer_instance
def rgO (i j : Int) : Out (List Int) := if RgC i j then .ok (rgI i j) else .stuck
theorem rg_fits {i j : Int} (h : RgC i j) : (fits62 i ∧ fits62 j) ∧ (j - i).toNat ≤ sizeLine := by
  obtain ⟨h1, h2, h3, h4, h5⟩ := h
  have k : sizeLine = 16777216 := by decide
  refine ⟨⟨⟨Int.le_trans (by decide) h1, Int.lt_of_le_of_lt h2 (by decide)⟩, ⟨Int.le_trans (by decide) h3, Int.lt_of_le_of_lt h4 (by decide)⟩⟩, ?_⟩
  rw [k]
  omega
theorem tx_range1 {h : Rn → Out (List D)} {j : Int} (p : TPA n Γ h [.int j]) : TX n Γ (List.map D.int) (itRange1 h) (rgO 0 j) := fun ρ A => by
  unfold itRange1
  rw [p ρ A, bind_ok]
  unfold rgO
  split
  · rename_i z
    obtain ⟨⟨_, z2⟩, z3⟩ := rg_fits z
    show range1 [.int j] = _
    unfold range1
    rw [Int.sub_zero] at z3
    simp only [z2, z3, and_self, if_true, rangeL_rg]
  · exact trivial
theorem tx_range2 {h : Rn → Out (List D)} {i j : Int} (p : TPA n Γ h [.int i, .int j]) : TX n Γ (List.map D.int) (itRange2 h) (rgO i j) := fun ρ A => by
  unfold itRange2
  rw [p ρ A, bind_ok]
  unfold rgO
  split
  · rename_i z
    have z2 := rg_fits z
    show range2 [.int i, .int j] = _
    unfold range2
    simp only [z2, and_self, if_true, rangeL_rg]
  · exact trivial
theorem tp_range1 {h : Rn → Out (List D)} {j : Int} (p : TPA n Γ h [.int j]) (hj : RgC 0 j := by decide) : TP n Γ (List.map D.int) (itRange1 h) (rgI 0 j) := fun ρ A => by
  have q := tx_range1 p ρ A
  unfold rgO at q
  rw [if_pos hj] at q
  exact q
theorem tp_range2 {h : Rn → Out (List D)} {i j : Int} (p : TPA n Γ h [.int i, .int j]) (hj : RgC i j := by decide) : TP n Γ (List.map D.int) (itRange2 h) (rgI i j) := fun ρ A => by
  have q := tx_range2 p ρ A
  unfold rgO at q
  rw [if_pos hj] at q
  exact q
def rgS (i j c : Int) : List Int := (List.range (Builtin.Range.rangeSize i j c).toNat).map fun (k : Nat) => i + (k : Int) * c
open Classical in
noncomputable def rgO3 (i j c : Int) : Out (List Int) := if Rg3 i j c ∧ (Builtin.Range.rangeSize i j c).toNat ≤ sizeLine then .ok (rgS i j c) else .stuck
theorem tx_range3 {h : Rn → Out (List D)} {i j c : Int} (p : TPA n Γ h [.int i, .int j, .int c]) : TX n Γ (List.map D.int) (itRange3 h) (rgO3 i j c) := fun ρ A => by
  unfold itRange3
  rw [p ρ A, bind_ok]
  unfold rgO3
  split
  · rename_i z
    show range3 [.int i, .int j, .int c] = _
    unfold range3
    simp only [z, and_self, if_true]
    unfold stepL rgS
    rw [List.map_map]
    rfl
  · exact trivial
/-! x[i], len, slices -/
def ixL (xs : List α) (i : Int) : Out α := match atI xs i with
  | some x => .ok x
  | none => .stuck
theorem atI_map {δ : Type} (h : α → δ) (xs : List α) (i : Int) : atI (xs.map h) i = (atI xs i).map h := by
  unfold atI
  rw [List.length_map]
  cases ixN xs.length i with
  | none => rfl
  | some k => rw [Option.bind_some, Option.bind_some, List.getElem?_map]
theorem ox_ix (w : Sq e c) : OpX dIx e D.int c ixL := fun xs i => by
  rw [w.ix, atI_map]
  unfold ixL
  cases atI xs i with
  | none => exact trivial
  | some x => exact rfl
theorem tp_ix2_1 {α β : Type} {c : α → D} {d : β → D} {p : α × β} (h : TP n Γ (cA2 c d) f p) : TP n Γ c (bin dIx f (cst (.int 0))) p.1 := fun ρ A => by unfold DA.bin; rw [h ρ A]; rfl
theorem tp_ix2_2 {α β : Type} {c : α → D} {d : β → D} {p : α × β} (h : TP n Γ (cA2 c d) f p) : TP n Γ d (bin dIx f (cst (.int 1))) p.2 := fun ρ A => by unfold DA.bin; rw [h ρ A]; rfl
theorem tp_ix3_1 {α β γ : Type} {c : α → D} {d : β → D} {e : γ → D} {p : α × β × γ} (h : TP n Γ (cA3 c d e) f p) : TP n Γ c (bin dIx f (cst (.int 0))) p.1 := fun ρ A => by unfold DA.bin; rw [h ρ A]; rfl
theorem tp_ix3_2 {α β γ : Type} {c : α → D} {d : β → D} {e : γ → D} {p : α × β × γ} (h : TP n Γ (cA3 c d e) f p) : TP n Γ d (bin dIx f (cst (.int 1))) p.2.1 := fun ρ A => by unfold DA.bin; rw [h ρ A]; rfl
theorem tp_ix3_3 {α β γ : Type} {c : α → D} {d : β → D} {e : γ → D} {p : α × β × γ} (h : TP n Γ (cA3 c d e) f p) : TP n Γ e (bin dIx f (cst (.int 2))) p.2.2 := fun ρ A => by unfold DA.bin; rw [h ρ A]; rfl
theorem tp_len (w : Sq e c) (p : TP n Γ e f xs) : TP n Γ D.int (calD dLen (aCons f aNil)) (xs.length : Int) := tp_cal (tpa_cons p tpa_nil) (w.ln xs)
theorem tp_tupleL {c : α → D} {xs : List α} (p : TP n Γ (cL c) f xs) : TP n Γ (cU c) (calD dTuple (aCons f aNil)) xs := tp_cal (tpa_cons p tpa_nil) rfl
theorem tp_tupleU {c : α → D} {xs : List α} (p : TP n Γ (cU c) f xs) : TP n Γ (cU c) (calD dTuple (aCons f aNil)) xs := tp_cal (tpa_cons p tpa_nil) rfl
theorem tx_tupleL {c : α → D} {s : Out (List α)} (p : TX n Γ (cL c) f s) : TX n Γ (cU c) (calD dTuple (aCons f aNil)) s := fun ρ A => by
  have q := tx_cal (d := dTuple) (tk_x (k := fun a => .ok a) p fun xs => tk_nil (e := cU c) (d := fun ds => (dTuple (cL c xs :: ds)).nx) rfl) ρ A
  have r : s.bind (fun a => .ok a) = s := by cases s <;> rfl
  rw [r] at q
  exact q
theorem tp_listL {c : α → D} {xs : List α} (p : TP n Γ (cL c) f xs) : TP n Γ (cL c) (calD dListOf (aCons f aNil)) xs := tp_cal (tpa_cons p tpa_nil) rfl
theorem tp_listU {c : α → D} {xs : List α} (p : TP n Γ (cU c) f xs) : TP n Γ (cL c) (calD dListOf (aCons f aNil)) xs := tp_cal (tpa_cons p tpa_nil) rfl
theorem tp_oN : TP n Γ id oNone none := fun ρ A => rfl
theorem tp_oS {i : Int} (p : TP n Γ D.int f i) : TP n Γ id (oSome f) (some i) := fun ρ A => by unfold oSome; rw [p ρ A]; rfl
theorem tp_slL {c : α → D} {xs : List α} {l h : Rn → Out (Option Int)} {lo hi : Option Int} (p : TP n Γ (cL c) f xs) (q : TP n Γ id l lo) (r : TP n Γ id h hi) : TP n Γ (cL c) (slD f l h) (cutL xs lo hi) := fun ρ A => by
  unfold slD
  rw [p ρ A, bind_ok, q ρ A, bind_ok, r ρ A, bind_ok]
  show (dSl (.lst (xs.map c)) lo hi).nx = _
  rw [sl_l, cutL_map]
  rfl
theorem tp_slU {c : α → D} {xs : List α} {l h : Rn → Out (Option Int)} {lo hi : Option Int} (p : TP n Γ (cU c) f xs) (q : TP n Γ id l lo) (r : TP n Γ id h hi) : TP n Γ (cU c) (slD f l h) (cutL xs lo hi) := fun ρ A => by
  unfold slD
  rw [p ρ A, bind_ok, q ρ A, bind_ok, r ρ A, bind_ok]
  show (dSl (.tup (xs.map c)) lo hi).nx = _
  rw [sl_t, cutL_map]
  rfl
end

/-! ### comprehensions -/
section
variable {α β : Type} {c : α → D} {e : β → D}
/-- a target binds -/
def TG (n : Nat) (g : D → Rn → Out Rn) (c : α → D) (bnd : α → Gm → Gm) : Prop := ∀ x Γ ρ, Ag n Γ ρ → ∃ ρ1, g (c x) ρ = .ok ρ1 ∧ Ag n (bnd x Γ) ρ1
theorem tg_1 (i : Nat) (hi : i < n := by decide) : TG n (gSet i) c (fun x Γ => up Γ i (.dat (c x))) := fun x Γ ρ A => ⟨_, by unfold gSet; rw [if_pos (by rw [A.len]; exact hi)], A.set hi _⟩
theorem tg_2 {γ : Type} {d : γ → D} {g g' : D → Rn → Out Rn} {b : α → Gm → Gm} {b' : γ → Gm → Gm} (h : TG n g c b) (h' : TG n g' d b') : TG n (gTupD 2 (gsCons g (gsCons g' gsNil))) (cA2 c d) (fun p Γ => b' p.2 (b p.1 Γ)) := fun p Γ ρ A => by
  obtain ⟨ρ1, e1, A1⟩ := h p.1 Γ ρ A
  obtain ⟨ρ2, e2, A2⟩ := h' p.2 _ ρ1 A1
  exact ⟨ρ2, by simp only [gTupD, List.length_cons, List.length_nil, gsCons, e1, bind_ok, e2, gsNil, if_true], A2⟩
theorem tg_3 {γ δ : Type} {d : γ → D} {d' : δ → D} {g g' g2 : D → Rn → Out Rn} {b : α → Gm → Gm} {b' : γ → Gm → Gm} {b2 : δ → Gm → Gm} (h : TG n g c b) (h' : TG n g' d b') (h2 : TG n g2 d' b2) : TG n (gTupD 3 (gsCons g (gsCons g' (gsCons g2 gsNil)))) (cA3 c d d') (fun p Γ => b2 p.2.2 (b' p.2.1 (b p.1 Γ))) := fun p Γ ρ A => by
  obtain ⟨ρ1, e1, A1⟩ := h p.1 Γ ρ A
  obtain ⟨ρ2, e2, A2⟩ := h' p.2.1 _ ρ1 A1
  obtain ⟨ρ3, e3, A3⟩ := h2 p.2.2 _ ρ2 A2
  exact ⟨ρ3, by simp only [gTupD, List.length_cons, List.length_nil, gsCons, e1, bind_ok, e2, e3, gsNil, if_true], A3⟩
def mapO (f : α → Out β) : List α → Out (List β)
  | [] => .ok []
  | x :: xs => (f x).bind fun y => (mapO f xs).map (y :: ·)
def filO (q : α → Out Bool) (f : α → Out β) : List α → Out (List β)
  | [] => .ok []
  | x :: xs => (q x).bind fun b => if b then (f x).bind fun y => (filO q f xs).map (y :: ·) else filO q f xs
variable {fi : Rn → Out (List D)} {vs : List Nat} {g : D → Rn → Out Rn} {t : Rn → Out Bool} {f : Rn → Out D} {bnd : α → Gm → Gm}
theorem tp_lc {xs : List α} {h : α → β} (hi : TP n Γ (List.map c) fi xs) (hg : TG n g c bnd) (hf : ∀ x, TP n (bnd x (wi vs Γ)) e f (h x)) : TP n Γ (mL e) (lcD fi vs g tYesB f) (xs.map h) := fun ρ A => by
  have q := lcD_map (fi := fi) (vs := vs) (g := g) (f := f) (ρ := ρ) c (fun x => e (h x)) xs (hi ρ A) fun x _ => by
    obtain ⟨ρ1, e1, A1⟩ := hg x _ _ (A.wipe vs)
    exact ⟨ρ1, e1, hf x ρ1 A1⟩
  rw [q]
  exact congrArg Out.ok (congrArg M.lst (by rw [List.map_map, List.map_map]; rfl))
theorem tp_lcf {xs : List α} {h : α → β} {q : α → Bool} (hi : TP n Γ (List.map c) fi xs) (hg : TG n g c bnd) (ht : ∀ x, TP n (bnd x (wi vs Γ)) id t (q x)) (hf : ∀ x, TP n (bnd x (wi vs Γ)) e f (h x)) : TP n Γ (mL e) (lcD fi vs g t f) ((xs.filter q).map h) := fun ρ A => by
  have q := lcD_ok (fi := fi) (vs := vs) (g := g) (t := t) (f := f) (ρ := ρ) c (fun x => e (h x)) q xs (hi ρ A) fun x _ => by
    obtain ⟨ρ1, e1, A1⟩ := hg x _ _ (A.wipe vs)
    exact ⟨ρ1, e1, ht x ρ1 A1, fun _ => hf x ρ1 A1⟩
  rw [q]
  exact congrArg Out.ok (congrArg M.lst (by rw [List.map_map, List.map_map]; rfl))
theorem ag2_comp {h : α → Out β} {q : α → Out Bool} (hg : TG n g c bnd) (ht : ∀ x, TX n (bnd x (wi vs Γ)) id t (q x)) (hf : ∀ x, TX n (bnd x (wi vs Γ)) e f (h x)) (A : Ag n Γ ρ) : ∀ xs : List α, Ag2 (List.map e) (filO (fun x => (q x).nx) (fun x => (h x).nx) xs) (compD g t f (wipeR vs ρ) (xs.map c))
  | [] => rfl
  | x :: xs => by
    have ih := ag2_comp hg ht hf A xs
    obtain ⟨ρ1, e1, A1⟩ := hg x _ _ (A.wipe vs)
    rw [List.map_cons, compD, e1]
    show Ag2 _ _ ((t ρ1).nx.bind _)
    unfold filO
    refine (ht x ρ1 A1).nx.bind fun b => ?_
    cases b with
    | false => exact ih
    | true =>
      show Ag2 _ _ ((f ρ1).nx.bind _)
      exact (hf x ρ1 A1).nx.bind fun y => ih.map fun _ => rfl
theorem filO_map {h : α → Out β} : ∀ xs : List α, filO (fun _ => (.ok true : Out Bool).nx) h xs = mapO h xs
  | [] => rfl
  | x :: xs => by
    have := filO_map (h := h) xs
    unfold filO mapO
    rw [this]
    rfl
theorem tx_lc {s : Out (List α)} {h : α → Out β} (hi : TX n Γ (List.map c) fi s) (hg : TG n g c bnd) (hf : ∀ x, TX n (bnd x (wi vs Γ)) e f (h x)) : TX n Γ (mL e) (lcD fi vs g tYesB f) (s.bind fun xs => (mapO (fun x => (h x).nx) xs).nx) := fun ρ A => by
  unfold lcD
  refine (hi ρ A).bind fun xs => ?_
  have q := ag2_comp (q := fun _ => .ok true) (t := tYesB) hg (fun x ρ _ => rfl) hf A xs
  rw [filO_map] at q
  have r := q.nx.bind (e' := mL e) (k := fun ys => .ok ys) (k' := fun ys => .ok (.lst (ys.map .dat))) fun ys => by
    show _ = _
    rw [List.map_map]
    rfl
  have z : (mapO (fun x => (h x).nx) xs).nx.bind (fun ys => .ok ys) = (mapO (fun x => (h x).nx) xs).nx := by cases (mapO (fun x => (h x).nx) xs).nx <;> rfl
  rw [z] at r
  exact r
theorem tx_lcf {s : Out (List α)} {h : α → Out β} {q : α → Out Bool} (hi : TX n Γ (List.map c) fi s) (hg : TG n g c bnd) (ht : ∀ x, TX n (bnd x (wi vs Γ)) id t (q x)) (hf : ∀ x, TX n (bnd x (wi vs Γ)) e f (h x)) : TX n Γ (mL e) (lcD fi vs g t f) (s.bind fun xs => (filO (fun x => (q x).nx) (fun x => (h x).nx) xs).nx) := fun ρ A => by
  unfold lcD
  refine (hi ρ A).bind fun xs => ?_
  have q' := ag2_comp hg ht hf A xs
  have r := q'.nx.bind (e' := mL e) (k := fun ys => .ok ys) (k' := fun ys => .ok (.lst (ys.map .dat))) fun ys => by
    show _ = _
    rw [List.map_map]
    rfl
  have z : (filO (fun x => (q x).nx) (fun x => (h x).nx) xs).nx.bind (fun ys => .ok ys) = (filO (fun x => (q x).nx) (fun x => (h x).nx) xs).nx := by cases (filO (fun x => (q x).nx) (fun x => (h x).nx) xs).nx <;> rfl
  rw [z] at r
  exact r
end

/-! ### statements -/
def lt {α β : Type} (v : α) (k : α → β) : β := k v
/-- how a typed block ends -/
inductive Ct (R σ : Type) where
  | nx (s : σ) | bk (s : σ) | ct (s : σ) | rt (r : R)
def OS {σ : Type} (P : σ → Fl × Rn → Prop) (t : Out σ) (o : SOut) : Prop := match t with
  | .stuck => True
  | .exc x => o = .exc x
  | .ok z => ∃ p, o = .ok p ∧ P z p
def TS {σ : Type} (n : Nat) (Γ : Gm) (s : Rn → SOut) (t : Out σ) (P : σ → Fl × Rn → Prop) : Prop := ∀ ρ, Ag n Γ ρ → OS P t (s ρ)
/-- falls through, to slots G -/
def PN {σ : Type} (n : Nat) (G : σ → Gm) (z : σ) (p : Fl × Rn) : Prop := p.1 = .nx ∧ Ag n (G z) p.2
def PR {R : Type} (e : R → M) (r : R) (p : Fl × Rn) : Prop := p.1 = .rt (e r)
def PC {R σ : Type} (n : Nat) (G : σ → Gm) (e : R → M) (c : Ct R σ) (p : Fl × Rn) : Prop := match c with
  | .nx z => p.1 = .nx ∧ Ag n (G z) p.2
  | .bk z => p.1 = .bk ∧ Ag n (G z) p.2
  | .ct z => p.1 = .ct ∧ Ag n (G z) p.2
  | .rt r => p.1 = .rt (e r)
/-- not falling through -/
def PX {σ : Type} (P : σ → Fl × Rn → Prop) (z : σ) (p : Fl × Rn) : Prop := P z p ∧ p.1 ≠ .nx
section
variable {α β σ τ R : Type} {P : τ → Fl × Rn → Prop} {s s1 s2 : Rn → SOut} {f : Rn → Out M} {m : α → M} {a : α} {i : Nat}
theorem ts_sub {t : Out τ} (h : TS n Γ' s t P) (w : Sub Γ' Γ) : TS n Γ s t P := fun ρ A => h ρ (A.sub w)
theorem ts_seq {G : σ → Gm} {t1 : Out σ} {k : σ → Out τ} (h1 : TS n Γ s1 t1 (PN n G)) (h2 : ∀ z, TS n (G z) s2 (k z) P) : TS n Γ (sSeq s1 s2) (t1.bind k) P := fun ρ A => by
  have q := h1 ρ A
  unfold sSeq
  cases t1 with
  | stuck => exact trivial
  | exc x =>
    show (s1 ρ).bind _ = _
    rw [show s1 ρ = .exc x from q]; rfl
  | ok z =>
    obtain ⟨p, e, pn, A2⟩ := q
    obtain ⟨fl, ρ2⟩ := p
    cases pn
    show OS _ (k z) ((s1 ρ).bind _)
    rw [e]
    exact h2 z ρ2 A2
theorem ts_end {G : σ → Gm} {z : σ} (w : Sub (G z) Γ) : TS n Γ sNil (.ok z) (PN n G) := fun ρ A => ⟨_, rfl, rfl, A.sub w⟩
theorem ts_endC {G : σ → Gm} {e : R → M} {z : σ} (w : Sub (G z) Γ) : TS n Γ sNil (.ok (.nx z)) (PC n G e) := fun ρ A => ⟨_, rfl, rfl, A.sub w⟩
/-- a block that falls through, where others may end otherwise -/
theorem ts_nC {G : σ → Gm} {e : R → M} {t : Out σ} (h : TS n Γ s t (PN n G)) : TS n Γ s (t.map Ct.nx) (PC n G e) := fun ρ A => by
  have q := h ρ A
  cases t with
  | stuck => exact trivial
  | exc x => exact q
  | ok z => exact q
theorem ts_rC {G : σ → Gm} {e : R → M} {t : Out R} (h : TS n Γ s t (PR e)) : TS n Γ s (t.map Ct.rt) (PC n G e) := fun ρ A => by
  have q := h ρ A
  cases t with
  | stuck => exact trivial
  | exc x => exact q
  | ok z => exact q
theorem ts_set {t : Out τ} (hi : i < n) (p : TP n Γ m f a) (r : TS n (up Γ i (m a)) s t P) : TS n Γ (sSeq (sSet i f) s) t P := fun ρ A => by
  have q := r _ (A.set hi (m a))
  have e : sSeq (sSet i f) s ρ = s (ρ.set i (some (m a))) := by
    unfold sSeq sSet
    rw [p ρ A, bind_ok, if_pos (by rw [A.len]; exact hi)]
    rfl
  rw [e]
  exact q
theorem ts_setL {k : α → Out τ} (hi : i < n) (p : TP n Γ m f a) (r : ∀ x, TS n (up Γ i (m x)) s (k x) P) : TS n Γ (sSeq (sSet i f) s) (lt a k) P := ts_set hi p (r a)
theorem ts_setX {t : Out α} {k : α → Out τ} (hi : i < n) (p : TX n Γ m f t) (r : ∀ x, TS n (up Γ i (m x)) s (k x) P) : TS n Γ (sSeq (sSet i f) s) (t.bind k) P := fun ρ A => by
  have q := p ρ A
  cases t with
  | stuck => exact trivial
  | exc x =>
    show sSeq (sSet i f) s ρ = _
    unfold sSeq sSet
    rw [show f ρ = .exc x from q]; rfl
  | ok x =>
    have z := r x _ (A.set hi (m x))
    have e : sSeq (sSet i f) s ρ = s (ρ.set i (some (m x))) := by
      unfold sSeq sSet
      rw [show f ρ = .ok (m x) from q, bind_ok, if_pos (by rw [A.len]; exact hi)]
      rfl
    show OS _ (k x) (sSeq (sSet i f) s ρ)
    rw [e]
    exact z
theorem ts_retG {z : τ} (p : TP n Γ m f a) (h : ∀ ρ, P z (.rt (m a), ρ)) : TS n Γ (sSeq (sRet f) s) (.ok z) P := fun ρ A => ⟨(.rt (m a), ρ), by unfold sSeq sRet; rw [p ρ A]; rfl, h ρ⟩
theorem ts_retGX {t : Out α} {z : α → τ} (p : TX n Γ m f t) (h : ∀ a ρ, P (z a) (.rt (m a), ρ)) : TS n Γ (sSeq (sRet f) s) (t.map z) P := fun ρ A => by
  have q := p ρ A
  cases t with
  | stuck => exact trivial
  | exc x =>
    show sSeq (sRet f) s ρ = _
    unfold sSeq sRet; rw [show f ρ = .exc x from q]; rfl
  | ok a => exact ⟨(.rt (m a), ρ), by unfold sSeq sRet; rw [show f ρ = .ok (m a) from q]; rfl, h a ρ⟩
theorem ts_ret (p : TP n Γ m f a) : TS n Γ (sSeq (sRet f) s) (.ok a) (PR m) := ts_retG p fun _ => rfl
theorem map_self {t : Out α} : t.map (fun a => a) = t := by cases t <;> rfl
theorem ts_retX {t : Out α} (p : TX n Γ m f t) : TS n Γ (sSeq (sRet f) s) t (PR m) := by
  have q := ts_retGX (P := PR m) (z := fun a => a) (s := s) p fun _ _ => rfl
  rw [map_self] at q
  exact q
theorem ts_retC {G : σ → Gm} (p : TP n Γ m f a) : TS n Γ (sSeq (sRet f) s) (.ok (.rt a)) (PC n G m) := ts_retG p fun _ => rfl
theorem ts_retCX {G : σ → Gm} {t : Out α} (p : TX n Γ m f t) : TS n Γ (sSeq (sRet f) s) (t.map Ct.rt) (PC n G m) := ts_retGX p fun _ _ => rfl
theorem ts_bk {G : σ → Gm} {e : R → M} {z : σ} (w : Sub (G z) Γ) : TS n Γ (sSeq sBrk s) (.ok (.bk z)) (PC n G e) := fun ρ A => ⟨_, rfl, rfl, A.sub w⟩
theorem ts_ct {G : σ → Gm} {e : R → M} {z : σ} (w : Sub (G z) Γ) : TS n Γ (sSeq sCont s) (.ok (.ct z)) (PC n G e) := fun ρ A => ⟨_, rfl, rfl, A.sub w⟩
theorem ts_exc {x : Str} : TS n Γ (sSeq (sExc x) s) (.exc x : Out τ) P := fun ρ A => rfl
/-- no value told: None -/
theorem ts_endR : TS n Γ sNil (.ok ()) (fun _ p => p.1 = .nx) := fun ρ A => ⟨_, rfl, rfl⟩
/-- behind a block that never falls through -/
theorem px_r {e : R → M} {t : Out R} (h : TS n Γ s t (PR e)) : TS n Γ s t (PX (PR e)) := fun ρ A => by
  have q := h ρ A
  cases t with
  | stuck => exact trivial
  | exc x => exact q
  | ok z =>
    obtain ⟨p, e1, e2⟩ := q
    exact ⟨p, e1, e2, fun z => by rw [show p.1 = _ from e2] at z; cases z⟩
theorem px_rC {G : σ → Gm} {e : R → M} {t : Out R} (h : TS n Γ s t (PR e)) : TS n Γ s (t.map Ct.rt) (PX (PC n G e)) := fun ρ A => by
  have q := h ρ A
  cases t with
  | stuck => exact trivial
  | exc x => exact q
  | ok z =>
    obtain ⟨p, e1, e2⟩ := q
    exact ⟨p, e1, e2, fun z => by rw [show p.1 = _ from e2] at z; cases z⟩
theorem px_bk {G : σ → Gm} {e : R → M} {z : σ} (w : Sub (G z) Γ) : TS n Γ (sSeq sBrk s) (.ok (.bk z)) (PX (PC n G e)) := fun ρ A => ⟨_, rfl, ⟨rfl, A.sub w⟩, fun z => by cases z⟩
theorem px_ct {G : σ → Gm} {e : R → M} {z : σ} (w : Sub (G z) Γ) : TS n Γ (sSeq sCont s) (.ok (.ct z)) (PX (PC n G e)) := fun ρ A => ⟨_, rfl, ⟨rfl, A.sub w⟩, fun z => by cases z⟩
/-- if c: .. (never falling through), then the rest -/
theorem ts_guard {c : Rn → Out Bool} {b : Bool} {t1 t2 : Out τ} (hc : TP n Γ id c b) (h1 : TS n Γ s1 t1 (PX P)) (h2 : TS n Γ s t2 P) : TS n Γ (sSeq (sIf c s1 sNil) s) (if b then t1 else t2) P := fun ρ A => by
  have ec := hc ρ A
  cases b with
  | true =>
    have q := h1 ρ A
    have e : sIf c s1 sNil ρ = s1 ρ := by unfold sIf; rw [ec]; rfl
    simp only [if_true]
    unfold sSeq
    rw [e]
    cases t1 with
    | stuck => exact trivial
    | exc x =>
      show (s1 ρ).bind _ = _
      rw [show s1 ρ = .exc x from q]; rfl
    | ok z =>
      obtain ⟨⟨fl, ρ2⟩, e1, p, nn⟩ := q
      refine ⟨(fl, ρ2), ?_, p⟩
      rw [e1]
      cases fl with
      | nx => exact absurd rfl nn
      | _ => rfl
  | false =>
    have q := h2 ρ A
    have e : sSeq (sIf c s1 sNil) s ρ = s ρ := by unfold sSeq sIf; rw [ec]; rfl
    simp only [Bool.false_eq_true, if_false]
    rw [e]
    exact q
theorem ts_testX {c : Rn → Out Bool} {t : Out Bool} {k : Bool → Out τ} {s1 s2 : Rn → SOut} (hc : TX n Γ id c t) (h : ∀ b, (c' : Rn → Out Bool) → TP n Γ id c' b → TS n Γ (sSeq (sIf c' s1 s2) s) (k b) P) : TS n Γ (sSeq (sIf c s1 s2) s) (t.bind k) P := fun ρ A => by
  have q := hc ρ A
  cases t with
  | stuck => exact trivial
  | exc x =>
    show sSeq (sIf c s1 s2) s ρ = _
    unfold sSeq sIf
    rw [show c ρ = .exc x from q]
    rfl
  | ok b =>
    have z := h b (fun _ => .ok b) (fun _ _ => rfl) ρ A
    have e : sSeq (sIf c s1 s2) s ρ = sSeq (sIf (fun _ => .ok b) s1 s2) s ρ := by
      unfold sSeq sIf
      rw [show c ρ = .ok b from q]
    show OS _ (k b) (sSeq (sIf c s1 s2) s ρ)
    rw [e]
    exact z
theorem seq_nil {s : Rn → SOut} : sSeq s sNil = s := by
  funext ρ
  unfold sSeq
  cases s ρ with
  | stuck => rfl
  | exc x => rfl
  | ok p =>
    obtain ⟨fl, ρ2⟩ := p
    cases fl <;> rfl
/-- the last statement: if c: .. else: .. -/
theorem ts_ifLast {c : Rn → Out Bool} {b : Bool} {t1 t2 : Out τ} (hc : TP n Γ id c b) (h1 : TS n Γ s1 t1 P) (h2 : TS n Γ s2 t2 P) : TS n Γ (sSeq (sIf c s1 s2) sNil) (if b then t1 else t2) P := fun ρ A => by
  rw [seq_nil]
  have ec := hc ρ A
  cases b with
  | true =>
    have e : sIf c s1 s2 ρ = s1 ρ := by unfold sIf; rw [ec]; rfl
    simp only [if_true]
    rw [e]
    exact h1 ρ A
  | false =>
    have e : sIf c s1 s2 ρ = s2 ρ := by unfold sIf; rw [ec]; rfl
    simp only [Bool.false_eq_true, if_false]
    rw [e]
    exact h2 ρ A
/-- both ways fall through -/
theorem ts_if {c : Rn → Out Bool} {b : Bool} {G : σ → Gm} {t1 t2 : Out σ} {k : σ → Out τ} (hc : TP n Γ id c b) (h1 : TS n Γ s1 t1 (PN n G)) (h2 : TS n Γ s2 t2 (PN n G)) (h : ∀ z, TS n (G z) s (k z) P) : TS n Γ (sSeq (sIf c s1 s2) s) ((if b then t1 else t2).bind k) P := by
  refine ts_seq ?_ h
  have := ts_ifLast hc h1 h2
  rw [seq_nil] at this
  exact this
theorem ts_ifP {c : Rn → Out Bool} {b : Bool} {G : σ → Gm} {z1 z2 : σ} {k : σ → Out τ} (hc : TP n Γ id c b) (h1 : TS n Γ s1 (.ok z1) (PN n G)) (h2 : TS n Γ s2 (.ok z2) (PN n G)) (h : ∀ z, TS n (G z) s (k z) P) : TS n Γ (sSeq (sIf c s1 s2) s) (lt (if b then z1 else z2) k) P := by
  have q := ts_if hc h1 h2 h
  cases b <;> exact q
theorem ts_expr {f : Rn → Out M} {t : Out α} {k : Out τ} (p : TX n Γ m f t) (r : TS n Γ s k P) : TS n Γ (sSeq (sDrop f) s) (t.bind fun _ => k) P := fun ρ A => by
  have q := p ρ A
  cases t with
  | stuck => exact trivial
  | exc x =>
    show sSeq (sDrop f) s ρ = _
    unfold sSeq sDrop
    rw [show f ρ = .exc x from q]; rfl
  | ok x =>
    have e : sSeq (sDrop f) s ρ = s ρ := by
      unfold sSeq sDrop
      rw [show f ρ = .ok (m x) from q]; rfl
    show OS _ (k) (sSeq (sDrop f) s ρ)
    rw [e]
    exact r ρ A
/-! loops -/
def foldO (b : σ → α → Out σ) : List α → σ → Out σ
  | [], z => .ok z
  | x :: xs, z => (b z x).bind (foldO b xs)
def forC (b : σ → α → Out (Ct R σ)) : List α → σ → Out (Ct R σ)
  | [], z => .ok (.nx z)
  | x :: xs, z => (b z x).bind fun c => match c with
    | .nx z => forC b xs z
    | .ct z => forC b xs z
    | .bk z => .ok (.nx z)
    | .rt r => .ok (.rt r)
/-- behind a loop that may return -/
def thenC (c : Ct R σ) (k : σ → Out R) : Out R := match c with
  | .nx z => k z
  | .bk z => k z
  | .ct z => k z
  | .rt r => .ok r
def thenCC {σ' : Type} (c : Ct R σ) (k : σ → Out (Ct R σ')) : Out (Ct R σ') := match c with
  | .nx z => k z
  | .bk z => k z
  | .ct z => k z
  | .rt r => .ok (.rt r)
variable {c : α → D} {g : D → Rn → Out Rn} {bnd : α → Gm → Gm} {fi : Rn → Out (List D)} {b : Rn → SOut}
theorem fold_den {G : σ → Gm} {tb : σ → α → Out σ} (hg : TG n g c bnd) (hb : ∀ z x, TS n (bnd x (G z)) b (tb z x) (PN n G)) : ∀ (xs : List α) (z : σ), TS n (G z) (forD g b (xs.map c)) (foldO tb xs z) (PN n G)
  | [], z => fun ρ A => ⟨_, rfl, rfl, A⟩
  | x :: xs, z => fun ρ A => by
    obtain ⟨ρ1, e1, A1⟩ := hg x _ ρ A
    have q := hb z x ρ1 A1
    have e : forD g b ((x :: xs).map c) ρ = (b ρ1).bind (loopK (forD g b (xs.map c))) := by
      rw [List.map_cons, forD, e1]; rfl
    rw [e]
    unfold foldO
    cases ez : tb z x with
    | stuck => exact trivial
    | exc y =>
      rw [ez] at q
      show (b ρ1).bind _ = _
      rw [show b ρ1 = .exc y from q]; rfl
    | ok z2 =>
      rw [ez] at q
      obtain ⟨⟨fl, ρ2⟩, e2, pn, A2⟩ := q
      cases pn
      have ih := fold_den hg hb xs z2 ρ2 A2
      rw [e2]
      exact ih
theorem forC_den {G : σ → Gm} {e : R → M} {tb : σ → α → Out (Ct R σ)} (hg : TG n g c bnd) (hb : ∀ z x, TS n (bnd x (G z)) b (tb z x) (PC n G e)) : ∀ (xs : List α) (z : σ), TS n (G z) (forD g b (xs.map c)) (forC tb xs z) (PC n G e)
  | [], z => fun ρ A => ⟨_, rfl, rfl, A⟩
  | x :: xs, z => fun ρ A => by
    obtain ⟨ρ1, e1, A1⟩ := hg x _ ρ A
    have q := hb z x ρ1 A1
    have e : forD g b ((x :: xs).map c) ρ = (b ρ1).bind (loopK (forD g b (xs.map c))) := by
      rw [List.map_cons, forD, e1]; rfl
    rw [e]
    unfold forC
    cases ez : tb z x with
    | stuck => exact trivial
    | exc y =>
      rw [ez] at q
      show (b ρ1).bind _ = _
      rw [show b ρ1 = .exc y from q]; rfl
    | ok z2 =>
      rw [ez] at q
      obtain ⟨⟨fl, ρ2⟩, e2, pn⟩ := q
      rw [e2]
      cases z2 with
      | nx z2 =>
        obtain ⟨pn, A2⟩ := pn
        cases pn
        exact forC_den hg hb xs z2 ρ2 A2
      | ct z2 =>
        obtain ⟨pn, A2⟩ := pn
        cases pn
        exact forC_den hg hb xs z2 ρ2 A2
      | bk z2 =>
        obtain ⟨pn, A2⟩ := pn
        cases pn
        exact ⟨_, rfl, rfl, A2⟩
      | rt r =>
        have pn : fl = _ := pn
        subst pn
        exact ⟨_, rfl, rfl⟩
theorem forC_nx {tb : σ → α → Out (Ct R σ)} : ∀ (xs : List α) (z : σ) (c : Ct R σ), forC tb xs z = .ok c → (∃ z2, c = .nx z2) ∨ ∃ r, c = .rt r
  | [], z, c, h => by
    cases h
    exact .inl ⟨_, rfl⟩
  | x :: xs, z, c, h => by
    unfold forC at h
    cases e : tb z x with
    | stuck => rw [e] at h; cases h
    | exc y => rw [e] at h; cases h
    | ok w =>
      rw [e] at h
      cases w with
      | nx z2 => exact forC_nx xs z2 c h
      | ct z2 => exact forC_nx xs z2 c h
      | bk z2 => cases h; exact .inl ⟨_, rfl⟩
      | rt r => cases h; exact .inr ⟨_, rfl⟩
/-- for, its body falling through -/
theorem ts_for {G : σ → Gm} {tb : σ → α → Out σ} {xs : List α} {z : σ} {k : σ → Out τ} (hi : TP n Γ (List.map c) fi xs) (w : Sub (G z) Γ) (hg : TG n g c bnd) (hb : ∀ z x, TS n (bnd x (G z)) b (tb z x) (PN n G)) (h : ∀ z, TS n (G z) s (k z) P) :
    TS n Γ (sSeq (sFor fi g b) s) ((foldO tb xs z).bind k) P := by
  refine ts_seq (fun ρ A => ?_) h
  have q := fold_den hg hb xs z ρ (A.sub w)
  unfold sFor
  rw [hi ρ A]
  exact q
theorem ts_forX {G : σ → Gm} {tb : σ → α → Out σ} {t : Out (List α)} {z : σ} {k : σ → Out τ} (hi : TX n Γ (List.map c) fi t) (w : Sub (G z) Γ) (hg : TG n g c bnd) (hb : ∀ z x, TS n (bnd x (G z)) b (tb z x) (PN n G)) (h : ∀ z, TS n (G z) s (k z) P) :
    TS n Γ (sSeq (sFor fi g b) s) (t.bind fun xs => (foldO tb xs z).bind k) P := fun ρ A => by
  have q := hi ρ A
  cases t with
  | stuck => exact trivial
  | exc x =>
    show sSeq (sFor fi g b) s ρ = _
    unfold sSeq sFor
    rw [show fi ρ = .exc x from q]; rfl
  | ok xs =>
    have r := ts_for (Γ := Γ) (fi := fun _ => .ok (xs.map c)) (xs := xs) (fun _ _ => rfl) w hg hb h ρ A
    have e : sSeq (sFor fi g b) s ρ = sSeq (sFor (fun _ => .ok (xs.map c)) g b) s ρ := by
      unfold sSeq sFor
      rw [show fi ρ = .ok (xs.map c) from q]
    rw [e]
    exact r
theorem ts_cC {t1 : Out (Ct R σ)} {G : σ → Gm} {e : R → M} {k : σ → Out R} (h1 : TS n Γ s1 t1 (PC n G e)) (hn : ∀ c, t1 = .ok c → (∃ z, c = .nx z) ∨ ∃ r, c = .rt r) (h2 : ∀ z, TS n (G z) s2 (k z) (PR e)) : TS n Γ (sSeq s1 s2) (t1.bind fun c => thenC c k) (PR e) := fun ρ A => by
  have q := h1 ρ A
  unfold sSeq
  cases t1 with
  | stuck => exact trivial
  | exc x =>
    show (s1 ρ).bind _ = _
    rw [show s1 ρ = .exc x from q]; rfl
  | ok c =>
    obtain ⟨⟨fl, ρ2⟩, e', pn⟩ := q
    rcases hn c rfl with ⟨z, rfl⟩ | ⟨r, rfl⟩
    · obtain ⟨pn, A2⟩ := pn
      cases pn
      show OS _ (k z) ((s1 ρ).bind _)
      rw [e']
      exact h2 z ρ2 A2
    · have pn : fl = _ := pn
      subst pn
      refine ⟨(.rt (e r), ρ2), ?_, rfl⟩
      rw [e']; rfl
theorem ts_cCC {σ' : Type} {t1 : Out (Ct R σ)} {G : σ → Gm} {G' : σ' → Gm} {e : R → M} {k : σ → Out (Ct R σ')} (h1 : TS n Γ s1 t1 (PC n G e)) (hn : ∀ c, t1 = .ok c → (∃ z, c = .nx z) ∨ ∃ r, c = .rt r) (h2 : ∀ z, TS n (G z) s2 (k z) (PC n G' e)) : TS n Γ (sSeq s1 s2) (t1.bind fun c => thenCC c k) (PC n G' e) := fun ρ A => by
  have q := h1 ρ A
  unfold sSeq
  cases t1 with
  | stuck => exact trivial
  | exc x =>
    show (s1 ρ).bind _ = _
    rw [show s1 ρ = .exc x from q]; rfl
  | ok c =>
    obtain ⟨⟨fl, ρ2⟩, e', pn⟩ := q
    rcases hn c rfl with ⟨z, rfl⟩ | ⟨r, rfl⟩
    · obtain ⟨pn, A2⟩ := pn
      cases pn
      show OS _ (k z) ((s1 ρ).bind _)
      rw [e']
      exact h2 z ρ2 A2
    · have pn : fl = _ := pn
      subst pn
      refine ⟨(.rt (e r), ρ2), ?_, rfl⟩
      rw [e']; rfl
theorem ts_forC0 {G : σ → Gm} {e : R → M} {tb : σ → α → Out (Ct R σ)} {xs : List α} {z : σ} (hi : TP n Γ (List.map c) fi xs) (w : Sub (G z) Γ) (hg : TG n g c bnd) (hb : ∀ z x, TS n (bnd x (G z)) b (tb z x) (PC n G e)) : TS n Γ (sFor fi g b) (forC tb xs z) (PC n G e) := fun ρ A => by
  have q := forC_den hg hb xs z ρ (A.sub w)
  unfold sFor
  rw [hi ρ A]
  exact q
/-- for, its body ending anyhow; the block returns -/
theorem ts_forC {G : σ → Gm} {e : R → M} {tb : σ → α → Out (Ct R σ)} {xs : List α} {z : σ} {k : σ → Out R} (hi : TP n Γ (List.map c) fi xs) (w : Sub (G z) Γ) (hg : TG n g c bnd) (hb : ∀ z x, TS n (bnd x (G z)) b (tb z x) (PC n G e)) (h : ∀ z, TS n (G z) s (k z) (PR e)) :
    TS n Γ (sSeq (sFor fi g b) s) ((forC tb xs z).bind fun c => thenC c k) (PR e) := ts_cC (ts_forC0 hi w hg hb) (forC_nx xs z) h
theorem ts_forCC {σ' : Type} {G : σ → Gm} {G' : σ' → Gm} {e : R → M} {tb : σ → α → Out (Ct R σ)} {xs : List α} {z : σ} {k : σ → Out (Ct R σ')} (hi : TP n Γ (List.map c) fi xs) (w : Sub (G z) Γ) (hg : TG n g c bnd) (hb : ∀ z x, TS n (bnd x (G z)) b (tb z x) (PC n G e)) (h : ∀ z, TS n (G z) s (k z) (PC n G' e)) :
    TS n Γ (sSeq (sFor fi g b) s) ((forC tb xs z).bind fun c => thenCC c k) (PC n G' e) := ts_cCC (ts_forC0 hi w hg hb) (forC_nx xs z) h
theorem ts_iterX {t : Out (List α)} {k : List α → Out τ} (hi : TX n Γ (List.map c) fi t) (h : ∀ xs (fi' : Rn → Out (List D)), TP n Γ (List.map c) fi' xs → TS n Γ (sSeq (sFor fi' g b) s) (k xs) P) : TS n Γ (sSeq (sFor fi g b) s) (t.bind k) P := fun ρ A => by
  have q := hi ρ A
  cases t with
  | stuck => exact trivial
  | exc x =>
    show sSeq (sFor fi g b) s ρ = _
    unfold sSeq sFor
    rw [show fi ρ = .exc x from q]; rfl
  | ok xs =>
    have r := h xs (fun _ => .ok (xs.map c)) (fun _ _ => rfl) ρ A
    have e : sSeq (sFor fi g b) s ρ = sSeq (sFor (fun _ => .ok (xs.map c)) g b) s ρ := by
      unfold sSeq sFor
      rw [show fi ρ = .ok (xs.map c) from q]
    show OS _ (k xs) (sSeq (sFor fi g b) s ρ)
    rw [e]
    exact r
end
end DA
set_option maxHeartbeats 4000000
/-! TB: coins of the program's values, operators, the states of loops -/
namespace DA
open PySem PySem.Spec PyProof.Rows L2
variable {n : Nat} {Γ Γ' : Gm} {ρ : Rn}
inductive Num where
  | fr (t b : Int) | re (r : Int)
deriving DecidableEq
inductive Fd where
  | fr | re (p : Int)
deriving DecidableEq
inductive Od where
  | lex | deg | tail | wei (w : List Int)
deriving DecidableEq
structure Rng where
  many : Int
  field : Fd
  order : Od
abbrev cFr (_ : Unit) : D := .obj "Fractions" ["prime"] [.int 0]
abbrev cRe (p : Int) : D := .obj "Rests" ["prime"] [.int p]
abbrev cDeg (_ : Unit) : D := .obj "Degrees" [] []
abbrev cTail (_ : Unit) : D := .obj "Tails" [] []
abbrev cWei (w : List Int) : D := .obj "Weights" ["weights"] [cT w]
def cNum : Num → D
  | .fr t b => .tup [.int t, .int b]
  | .re r => .int r
def cFld : Fd → D
  | .fr => cFr ()
  | .re p => cRe p
def cOrd : Od → D
  | .lex => .obj "Order" [] []
  | .deg => cDeg ()
  | .tail => cTail ()
  | .wei w => cWei w
def cRing (R : Rng) : D := .obj "Ring" ["many", "field", "order"] [.int R.many, cFld R.field, cOrd R.order]
def Num.int : Num → Out Int
  | .re r => .ok r
  | _ => .stuck
def Num.pair : Num → Out (Int × Int)
  | .fr t b => .ok (t, b)
  | _ => .stuck
def Num.isFr : Num → Bool
  | .fr _ _ => true
  | _ => false
def Fd.prime : Fd → Int
  | .fr => 0
  | .re p => p
def Od.weights : Od → Out (List Int)
  | .wei w => .ok w
  | _ => .stuck
def getO {α : Type} : Option α → Out α
  | some x => .ok x
  | none => .stuck
theorem num_int (a : Num) : Ag2 D.int (Num.int a) (.ok (cNum a)) := by cases a <;> first | exact trivial | exact rfl
theorem num_pair (a : Num) : Ag2 (cA2 D.int D.int) (Num.pair a) (.ok (cNum a)) := by cases a <;> first | exact trivial | exact rfl
theorem get_o {α : Type} {c : α → D} (a : Option α) : Ag2 c (getO a) (.ok (cO c a)) := by cases a <;> first | exact trivial | exact rfl
theorem fld_RING_many (R : Rng) : dFld ["Ring"] "many" (cRing R) = .ok (.int R.many) := rfl
theorem fld_RING_field (R : Rng) : dFld ["Ring"] "field" (cRing R) = .ok (cFld R.field) := by
  unfold dFld cRing
  simp only [show List.contains (["Ring"] : List Str) ("Ring" : Str) = true from by decide +kernel, if_true]
  rfl
theorem fld_RING_order (R : Rng) : dFld ["Ring"] "order" (cRing R) = .ok (cOrd R.order) := by
  unfold dFld cRing
  simp only [show List.contains (["Ring"] : List Str) ("Ring" : Str) = true from by decide +kernel, if_true]
  rfl
theorem fld_FLD_prime (F : Fd) : dFld ["Fractions", "Rests"] "prime" (cFld F) = .ok (.int F.prime) := by cases F <;> rfl
theorem fld_RES_prime (p : Int) : dFld ["Fractions", "Rests"] "prime" (cRe p) = .ok (.int p) := rfl
theorem fld_WEI_weights (w : List Int) : dFld ["Weights"] "weights" (cWei w) = .ok (cT w) := rfl
theorem fld_ORD_weights (o : Od) : Ag2 cT (Od.weights o) ((dFld ["Weights"] "weights" (cOrd o)).nx) := by cases o <;> first | exact trivial | exact rfl

/-! ### operators -/
theorem op_addI : OpP dAdd D.int D.int D.int (fun a b => a + b) := fun _ _ => rfl
theorem op_subI : OpP dSub D.int D.int D.int (fun a b => a - b) := fun _ _ => rfl
theorem op_neg (a : Int) : dNeg (.int a) = .ok (.int (-a)) := rfl
theorem op_ltI : OpP dLt D.int D.int D.bl (fun a b => decide (a < b)) := fun _ _ => rfl
theorem op_leI : OpP dLe D.int D.int D.bl (fun a b => decide (a ≤ b)) := fun _ _ => rfl
theorem op_gtI : OpP dGt D.int D.int D.bl (fun a b => decide (b < a)) := fun _ _ => rfl
theorem op_geI : OpP dGe D.int D.int D.bl (fun a b => decide (b ≤ a)) := fun _ _ => rfl
theorem op_gtTT : OpP dGtA cT cT D.bl (fun a b => HT.lexLt b a) := fun a b => gx_tt a b
open Classical in
noncomputable def mulO (a b : Int) : Out Int := if MulC a b then .ok (a * b) else .stuck
open Classical in
noncomputable def modO (a b : Int) : Out Int := if b = 0 then .stuck else .ok (a.fmod b)
open Classical in
noncomputable def divO (a b : Int) : Out Int := if DivC a b then .ok (a.fdiv b) else .stuck
open Classical in
noncomputable def powO (a b : Int) : Out Int := if PowC a b then .ok (a ^ b.toNat) else .stuck
theorem ox_mul : OpX dMul D.int D.int D.int mulO := fun a b => by
  unfold mulO
  by_cases h : MulC a b
  · rw [if_pos h, dMul_ok h]; exact rfl
  · rw [if_neg h]; exact trivial
theorem ox_mod : OpX dMod D.int D.int D.int modO := fun a b => by
  unfold modO
  by_cases h : b = 0
  · rw [if_pos h]; exact trivial
  · rw [if_neg h, dMod_ok h]; exact rfl
theorem ox_div : OpX dDiv D.int D.int D.int divO := fun a b => by
  unfold divO
  by_cases h : DivC a b
  · rw [if_pos h, dDiv_ok h]; exact rfl
  · rw [if_neg h]; exact trivial
theorem ox_pow : OpX dPow D.int D.int D.int powO := fun a b => by
  unfold powO
  by_cases h : PowC a b
  · rw [if_pos h, dPow_ok h]; exact rfl
  · rw [if_neg h]; exact trivial
section
variable {f g : Rn → Out D} {i j : Int} {s : Out Int}
theorem tp_mulC (p : TP n Γ D.int f i) (q : TP n Γ D.int g j) (h : decide (i.natAbs < 2 ^ 64 ∨ j.natAbs < 2 ^ 64) = true) : TP n Γ D.int (bin dMul f g) (i * j) := fun ρ A => by
  have h := of_decide_eq_true h
  unfold DA.bin
  rw [p ρ A, bind_ok, q ρ A, bind_ok, dMul_ok (h.elim mulC_left mulC_right)]; rfl
theorem tp_mulL (p : TP n Γ D.int f i) (h : decide (i.natAbs < 2 ^ 64) = true) (q : TP n Γ D.int g j) : TP n Γ D.int (bin dMul f g) (i * j) := fun ρ A => by
  unfold DA.bin
  rw [p ρ A, bind_ok, q ρ A, bind_ok, dMul_ok (mulC_left (of_decide_eq_true h))]; rfl
theorem tx_mulL (p : TP n Γ D.int f i) (h : decide (i.natAbs < 2 ^ 64) = true) (q : TX n Γ D.int g s) : TX n Γ D.int (bin dMul f g) (s.bind fun v => .ok (i * v)) := fun ρ A => by
  unfold DA.bin
  rw [p ρ A, bind_ok]
  exact (q ρ A).bind fun b => by rw [dMul_ok (mulC_left (of_decide_eq_true h))]; exact rfl
theorem tp_mulR (q : TP n Γ D.int g j) (h : decide (j.natAbs < 2 ^ 64) = true) (p : TP n Γ D.int f i) : TP n Γ D.int (bin dMul f g) (i * j) := fun ρ A => by
  unfold DA.bin
  rw [p ρ A, bind_ok, q ρ A, bind_ok, dMul_ok (mulC_right (of_decide_eq_true h))]; rfl
theorem tx_mulR (q : TP n Γ D.int g j) (h : decide (j.natAbs < 2 ^ 64) = true) (p : TX n Γ D.int f s) : TX n Γ D.int (bin dMul f g) (s.bind fun v => .ok (v * j)) := fun ρ A => by
  unfold DA.bin
  exact (p ρ A).bind fun a => by rw [q ρ A, bind_ok, dMul_ok (mulC_right (of_decide_eq_true h))]; exact rfl
theorem tp_powC (p : TP n Γ D.int f i) (q : TP n Γ D.int g j) (h : decide (0 ≤ j ∧ j ≤ 1000000 ∧ i.natAbs < 2 ^ 64) = true) : TP n Γ D.int (bin dPow f g) (i ^ j.toNat) := fun ρ A => by
  unfold DA.bin
  have h := of_decide_eq_true h
  rw [p ρ A, bind_ok, q ρ A, bind_ok, dPow_ok (show PowC i j from h)]; rfl
theorem fmod_emod {a b : Int} (h : 0 < b) : a.fmod b = a % b := Int.fmod_eq_emod_of_nonneg a (Int.le_of_lt h)
theorem fdiv_ediv {a b : Int} (h : 0 < b) : a.fdiv b = a / b := Int.fdiv_eq_ediv_of_nonneg a (Int.le_of_lt h)
theorem tp_modR (q : TP n Γ D.int g j) (h : decide (0 < j) = true) (p : TP n Γ D.int f i) : TP n Γ D.int (bin dMod f g) (i % j) := fun ρ A => by
  have h := of_decide_eq_true h
  unfold DA.bin
  rw [p ρ A, bind_ok, q ρ A, bind_ok, dMod_ok (by omega), fmod_emod h]; rfl
theorem tx_modR (q : TP n Γ D.int g j) (h : decide (0 < j) = true) (p : TX n Γ D.int f s) : TX n Γ D.int (bin dMod f g) (s.bind fun v => .ok (v % j)) := fun ρ A => by
  have h := of_decide_eq_true h
  unfold DA.bin
  exact (p ρ A).bind fun a => by rw [q ρ A, bind_ok, dMod_ok (by omega), fmod_emod h]; exact rfl
theorem tp_divR (q : TP n Γ D.int g j) (h : decide (0 < j) = true) (h2 : decide (j.natAbs.log2 < 9000) = true) (p : TP n Γ D.int f i) : TP n Γ D.int (bin dDiv f g) (i / j) := fun ρ A => by
  have h := of_decide_eq_true h
  unfold DA.bin
  rw [p ρ A, bind_ok, q ρ A, bind_ok, dDiv_ok ⟨by omega, of_decide_eq_true h2⟩, fdiv_ediv h]; rfl
theorem tx_divR (q : TP n Γ D.int g j) (h : decide (0 < j) = true) (h2 : decide (j.natAbs.log2 < 9000) = true) (p : TX n Γ D.int f s) : TX n Γ D.int (bin dDiv f g) (s.bind fun v => .ok (v / j)) := fun ρ A => by
  have h := of_decide_eq_true h
  unfold DA.bin
  exact (p ρ A).bind fun a => by rw [q ρ A, bind_ok, dDiv_ok ⟨by omega, of_decide_eq_true h2⟩, fdiv_ediv h]; exact rfl
end
/-- lists laid together -/
def catO {α : Type} (xs ys : List α) : Out (List α) := if xs.length + ys.length ≤ 1000000 then .ok (xs ++ ys) else .stuck
theorem ox_catT : OpX dAdd cT cT cT catO := fun a b => by
  unfold catO
  split
  · rename_i h
    have k : (a.map D.int).length + (b.map D.int).length ≤ sizeLine := by
      rw [List.length_map, List.length_map]
      exact Nat.le_trans h (by decide)
    show ((if _ then _ else _ : Out D)).nx = _
    rw [if_pos k, cT, List.map_append]
    rfl
  · exact trivial
theorem ag2_nx {α : Type} {e : α → D} {a : α} {o : Out D} (h : o = .ok (e a)) : Ag2 e (.ok a) o.nx := by rw [h]; exact rfl
theorem ag2_map {α β γ : Type} {e : α → γ} {e' : β → γ} {k : α → β} {t : Out α} {o : Out γ} (h : Ag2 e t o) (hk : ∀ a, e' (k a) = e a) : Ag2 e' (t.map k) o := by
  cases t with
  | stuck => exact trivial
  | exc x => exact h
  | ok a =>
    show o = .ok (e' (k a))
    rw [hk a]; exact h
theorem max2_i (i j : Int) : dMax2 [.int i, .int j] = .ok (.int (max i j)) := by
  rw [max_ii]
  congr 2
  split <;> omega
theorem min2_i (i j : Int) : dMin2 [.int i, .int j] = .ok (.int (min i j)) := by
  rw [min_ii]
  congr 2
  split <;> omega
theorem len_P2 {α β : Type} {a : α → D} {b : β → D} (p : α × β) : dLen [cA2 a b p] = .ok (.int 2) := rfl
theorem len_P3 {α β γ : Type} {a : α → D} {b : β → D} {c : γ → D} (p : α × β × γ) : dLen [cA3 a b c p] = .ok (.int 3) := rfl
theorem tupU {α : Type} {c : α → D} (xs : List α) : dTuple [cU c xs] = .ok (cU c xs) := rfl
theorem tupL {α : Type} {c : α → D} (xs : List α) : dTuple [cL c xs] = .ok (cU c xs) := rfl
theorem lofU {α : Type} {c : α → D} (xs : List α) : dListOf [cU c xs] = .ok (cL c xs) := rfl
theorem lofL {α : Type} {c : α → D} (xs : List α) : dListOf [cL c xs] = .ok (cL c xs) := rfl
theorem sum_L (xs : List Int) : dSum [cL D.int xs] = .ok (.int xs.sum) := by
  show (match intsOf (xs.map D.int) with | some ns => Out.ok (D.int ns.sum) | none => .stuck) = _
  rw [intsOf_map]
theorem sum_T (xs : List Int) : dSum [cT xs] = .ok (.int xs.sum) := by
  show (match intsOf (xs.map D.int) with | some ns => Out.ok (D.int ns.sum) | none => .stuck) = _
  rw [intsOf_map]
theorem blsOf_map : ∀ xs : List Bool, blsOf (xs.map D.bl) = some xs
  | [] => rfl
  | b :: xs => by rw [List.map_cons, blsOf, blsOf_map xs]; rfl
theorem any_L (xs : List Bool) : dAny [cL D.bl xs] = .ok (.bl (xs.any id)) := by
  show (match blsOf (xs.map D.bl) with | some bs => Out.ok (D.bl (bs.any id)) | none => .stuck) = _
  rw [blsOf_map]
theorem all_L (xs : List Bool) : dAll [cL D.bl xs] = .ok (.bl (xs.all id)) := by
  show (match blsOf (xs.map D.bl) with | some bs => Out.ok (D.bl (bs.all id)) | none => .stuck) = _
  rw [blsOf_map]
def bint (b : Bool) : Int := if b then 1 else 0
theorem int1_B (b : Bool) : dInt1 [.bl b] = .ok (.int (bint b)) := by cases b <;> rfl
theorem int1_I (i : Int) : dInt1 [.int i] = .ok (.int i) := rfl
/-- the greatest, or what is told for none -/
def maxD (xs : List Int) (d : Int) : Int := match xs with
  | [] => d
  | x :: r => r.foldl max x
theorem tp_maxD {e : List Int → D} {f g : Rn → Out D} {xs : List Int} {d : Int} (w : Sq e D.int) (p : TP n Γ e f xs) (q : TP n Γ D.int g d) : TP n Γ D.int (maxDf f g) (maxD xs d) := fun ρ A => by
  unfold maxDf
  rw [p ρ A, bind_ok, q ρ A, bind_ok]
  unfold dMaxD
  rw [w.so]
  dsimp only
  rw [intsOf_map]
  cases xs <;> rfl
theorem tp_chain {h h' : D → D → Out D} {f g t : Rn → Out D} {a b c : Int} {r r' : Int → Int → Bool} (o : OpP h D.int D.int D.bl r) (o' : OpP h' D.int D.int D.bl r') (p : TP n Γ D.int f a) (q : TP n Γ D.int g b) (s : TP n Γ D.int t c) {x : Bool} (hx : (r a b && r' b c) = x := by rfl) : TP n Γ D.bl (chD h h' f g t) x := fun ρ A => by
  unfold chD
  rw [← hx]
  rw [p ρ A, bind_ok, q ρ A, bind_ok, o a b]
  show (if r a b = true then (t ρ).bind fun z => (h' (.int b) z).nx else .ok (.bl false)) = _
  cases r a b with
  | false => rfl
  | true =>
    simp only [if_true]
    rw [s ρ A, bind_ok, o' b c]
    rfl
section
variable {α β γ : Type} {c : α → D} {d : β → D} {e : γ → D} {f : Rn → Out D}
theorem tx_ix2_1 {s : Out (α × β)} (h : TX n Γ (cA2 c d) f s) : TX n Γ c (bin dIx f (cst (.int 0))) (s.bind fun a => .ok a.1) := fun ρ A => by
  unfold DA.bin
  exact (h ρ A).bind fun a => rfl
theorem tx_ix2_2 {s : Out (α × β)} (h : TX n Γ (cA2 c d) f s) : TX n Γ d (bin dIx f (cst (.int 1))) (s.bind fun a => .ok a.2) := fun ρ A => by
  unfold DA.bin
  exact (h ρ A).bind fun a => rfl
end
/-! ### equality -/
structure Pd {α : Type} [DecidableEq α] (c : α → D) (p : α → PyData) (k : Nat) : Prop where
  to : ∀ a, toP (c a) = some (p a)
  lay : ∀ a, (p a).canLay0 = true
  dep : ∀ a, (p a).depth ≤ k
  ev : ∀ a b, PyData.eqv (p a) (p b) = decide (a = b)
theorem eq_pd {α : Type} [DecidableEq α] {c : α → D} {p : α → PyData} {k : Nat} (w : Pd c p k) (hk : k ≤ 64 := by decide) : OpP dEq c c D.bl (fun a b => decide (a = b)) := fun a b => by
  have h : ∀ a, SeqAt.shaped (p a) = true := fun a => by
    unfold SeqAt.shaped
    rw [w.lay a, decide_eq_true (Nat.le_trans (w.dep a) hk)]; rfl
  unfold dEq eqP
  rw [w.to a, w.to b]
  simp only [h, Bool.and_self, if_true, w.ev]
theorem ne_pd {α : Type} [DecidableEq α] {c : α → D} {p : α → PyData} {k : Nat} (w : Pd c p k) (hk : k ≤ 64 := by decide) : OpP dNe c c D.bl (fun a b => !decide (a = b)) := fun a b => by
  have h : ∀ a, SeqAt.shaped (p a) = true := fun a => by
    unfold SeqAt.shaped
    rw [w.lay a, decide_eq_true (Nat.le_trans (w.dep a) hk)]; rfl
  unfold dNe eqP
  rw [w.to a, w.to b]
  simp only [h, Bool.and_self, if_true, w.ev]
theorem pd_I : Pd D.int PyData.int 0 := ⟨fun _ => rfl, fun _ => rfl, fun _ => Nat.le_refl _, fun a b => by rw [PyData.eqv, Bool.eq_iff_iff]; simp⟩
theorem pd_B : Pd D.bl PyData.bool 0 := ⟨fun _ => rfl, fun _ => rfl, fun _ => Nat.le_refl _, fun a b => by rw [PyData.eqv, Bool.eq_iff_iff]; simp⟩
section
variable {α β γ : Type} [DecidableEq α] [DecidableEq β] [DecidableEq γ] {c : α → D} {d : β → D} {e : γ → D} {p : α → PyData} {q : β → PyData} {r : γ → PyData} {k l m : Nat}
theorem pds_to (w : Pd c p k) : ∀ xs : List α, toPs (xs.map c) = some (xs.map p)
  | [] => rfl
  | x :: xs => by rw [List.map_cons, toPs, w.to x, pds_to w xs]; rfl
theorem pds_lay (w : Pd c p k) : ∀ xs : List α, PyData.canLayAll0 (xs.map p) = true
  | [] => rfl
  | x :: xs => by rw [List.map_cons, PyData.canLayAll0, w.lay x, pds_lay w xs]; rfl
theorem pds_dep (w : Pd c p k) : ∀ xs : List α, PyData.depthAll (xs.map p) ≤ k
  | [] => Nat.zero_le _
  | x :: xs => by rw [List.map_cons, PyData.depthAll]; exact Nat.max_le.mpr ⟨w.dep x, pds_dep w xs⟩
theorem pds_ev (w : Pd c p k) : ∀ xs ys : List α, PyData.eqvAll (xs.map p) (ys.map p) = decide (xs = ys)
  | [], [] => by simp [PyData.eqvAll]
  | [], _ :: _ => by simp [PyData.eqvAll]
  | _ :: _, [] => by simp [PyData.eqvAll]
  | x :: xs, y :: ys => by
    rw [List.map_cons, List.map_cons, PyData.eqvAll, w.ev, pds_ev w xs ys, Bool.eq_iff_iff]
    simp
theorem pd_U (w : Pd c p k) : Pd (cU c) (fun xs => PyData.tuple (xs.map p)) (k + 1) := ⟨fun xs => by rw [cU, toP, pds_to w]; rfl, fun xs => pds_lay w xs, fun xs => by rw [PyData.depth]; have := pds_dep w xs; omega, fun xs ys => by rw [PyData.eqv]; exact pds_ev w xs ys⟩
theorem pd_L (w : Pd c p k) : Pd (cL c) (fun xs => PyData.list (xs.map p)) (k + 1) := ⟨fun xs => by rw [cL, toP, pds_to w]; rfl, fun xs => pds_lay w xs, fun xs => by rw [PyData.depth]; have := pds_dep w xs; omega, fun xs ys => by rw [PyData.eqv]; exact pds_ev w xs ys⟩
theorem pd_P (w : Pd c p k) (v : Pd d q l) : Pd (cA2 c d) (fun x => PyData.tuple [p x.1, q x.2]) (max k l + 1) := ⟨fun x => by
    rw [cA2, toP, toPs, w.to, toPs, v.to, toPs]; rfl, fun x => by
    rw [PyData.canLay0, PyData.canLayAll0, w.lay, PyData.canLayAll0, v.lay, PyData.canLayAll0]; rfl, fun x => by
    rw [PyData.depth, PyData.depthAll, PyData.depthAll, PyData.depthAll]
    have := w.dep x.1
    have := v.dep x.2
    omega, fun x y => by
    rw [PyData.eqv, PyData.eqvAll, PyData.eqvAll, PyData.eqvAll, w.ev, v.ev, Bool.eq_iff_iff]
    simp [Prod.ext_iff]⟩
theorem pd_P3 (w : Pd c p k) (v : Pd d q l) (u : Pd e r m) : Pd (cA3 c d e) (fun x => PyData.tuple [p x.1, q x.2.1, r x.2.2]) (max k (max l m) + 1) := ⟨fun x => by
    rw [cA3, toP, toPs, w.to, toPs, v.to, toPs, u.to, toPs]; rfl, fun x => by
    rw [PyData.canLay0, PyData.canLayAll0, w.lay, PyData.canLayAll0, v.lay, PyData.canLayAll0, u.lay, PyData.canLayAll0]; rfl, fun x => by
    rw [PyData.depth, PyData.depthAll, PyData.depthAll, PyData.depthAll, PyData.depthAll]
    have := w.dep x.1
    have := v.dep x.2.1
    have := u.dep x.2.2
    omega, fun x y => by
    rw [PyData.eqv, PyData.eqvAll, PyData.eqvAll, PyData.eqvAll, PyData.eqvAll, w.ev, v.ev, u.ev, Bool.eq_iff_iff]
    simp [Prod.ext_iff]⟩
end
theorem pd_T : Pd cT (fun xs => PyData.tuple (xs.map PyData.int)) 1 := pd_U pd_I
def pNum : Num → PyData
  | .fr t b => .tuple [.int t, .int b]
  | .re r => .int r
theorem pd_NUM : Pd cNum pNum 1 := ⟨fun a => by cases a <;> rfl, fun a => by cases a <;> rfl, fun a => by cases a <;> simp [pNum, PyData.depth, PyData.depthAll], fun a b => by
  cases a with
  | fr t b' =>
    cases b with
    | fr u c =>
      show PyData.eqv (.tuple [.int t, .int b']) (.tuple [.int u, .int c]) = _
      rw [PyData.eqv, PyData.eqvAll, PyData.eqvAll, PyData.eqvAll, PyData.eqv, PyData.eqv, Bool.eq_iff_iff]
      simp
    | re r => rfl
  | re r =>
    cases b with
    | fr u c => rfl
    | re s =>
      show PyData.eqv (.int r) (.int s) = _
      rw [PyData.eqv, Bool.eq_iff_iff]
      simp⟩
/-! None -/
theorem isNO {α : Type} {c : α → D} (h : ∀ a, isNon (c a) = false) : OpP dIsN (cO c) cN D.bl (fun a _ => a.isNone) := fun a b => by
  cases a with
  | none => rfl
  | some x =>
    show Out.ok (D.bl (isNon (c x))) = _
    rw [h x]; rfl
theorem notNO {α : Type} {c : α → D} (h : ∀ a, isNon (c a) = false) : OpP dNotN (cO c) cN D.bl (fun a _ => a.isSome) := fun a b => by
  cases a with
  | none => rfl
  | some x =>
    show Out.ok (D.bl (!isNon (c x))) = _
    rw [h x]; rfl
theorem non_D {α : Type} {c : α → D} (h : ∀ a, isNon (c a) = false) : ∀ a, isNon (c a) = false := h
theorem non_NUM : ∀ a, isNon (cNum a) = false := fun a => by cases a <;> rfl
theorem non_FLD : ∀ a, isNon (cFld a) = false := fun a => by cases a <;> rfl
theorem non_ORD : ∀ a, isNon (cOrd a) = false := fun a => by cases a <;> rfl
/-! data without cells -/
theorem imm_I (i : Int) : immD (.int i) = true := rfl
theorem imm_B (i : Bool) : immD (.bl i) = true := rfl
theorem imm_S (i : Str) : immD (.str i) = true := rfl
theorem imm_N (i : Unit) : immD (cN i) = true := rfl
theorem imm_NUM (a : Num) : immD (cNum a) = true := by cases a <;> rfl
theorem immL_map {α : Type} {c : α → D} (h : ∀ a, immD (c a) = true) : ∀ xs : List α, immL (xs.map c) = true
  | [] => rfl
  | x :: xs => by rw [List.map_cons, immL, h x, immL_map h xs]; rfl
theorem imm_U {α : Type} {c : α → D} (h : ∀ a, immD (c a) = true) (xs : List α) : immD (cU c xs) = true := immL_map h xs
theorem imm_T (xs : List Int) : immD (cT xs) = true := imm_U imm_I xs
theorem imm_P {α β : Type} {c : α → D} {d : β → D} (h : ∀ a, immD (c a) = true) (k : ∀ a, immD (d a) = true) (p : α × β) : immD (cA2 c d p) = true := by rw [cA2, immD, immL, h, immL, k, immL]; rfl
theorem imm_P3 {α β γ : Type} {c : α → D} {d : β → D} {e : γ → D} (h : ∀ a, immD (c a) = true) (k : ∀ a, immD (d a) = true) (l : ∀ a, immD (e a) = true) (p : α × β × γ) : immD (cA3 c d e p) = true := by rw [cA3, immD, immL, h, immL, k, immL, l, immL]; rfl
theorem imm_O {α : Type} {c : α → D} (h : ∀ a, immD (c a) = true) (a : Option α) : immD (cO c a) = true := by
  cases a with
  | none => rfl
  | some x => exact h x
theorem immm_d {α : Type} {c : α → D} (h : ∀ a, immD (c a) = true) (a : α) : immM (mD c a) = true := h a
theorem immMs_map {α : Type} {c : α → D} (h : ∀ a, immD (c a) = true) : ∀ xs : List α, immMs (xs.map fun x => .dat (c x)) = true
  | [] => rfl
  | x :: xs => by rw [List.map_cons, immMs, immM, h x, immMs_map h xs]; rfl
theorem immm_L {α : Type} {c : α → D} (h : ∀ a, immD (c a) = true) (a : List α) : immM (mL c a) = true := immMs_map h a
theorem immm_DT {α : Type} {c : α → D} (h : ∀ a, immD (c a) = true) (f : List (List Int × α)) : immM (mDT c f) = true := by
  rw [immM]
  have := immMs_map h (f.map (·.2))
  rwa [List.map_map] at this
/-! isinstance -/
theorem isi_tuple_NUM (a : Num) : isiT "tuple" (cNum a) = .ok (.bl a.isFr) := by cases a <;> rfl
theorem isi_int_NUM (a : Num) : isiT "int" (cNum a) = .ok (.bl (!a.isFr)) := by cases a <;> rfl
theorem isi_bool_NUM (a : Num) : isiT "bool" (cNum a) = .ok (.bl false) := by cases a <;> rfl
theorem isi_int_I (a : Int) : isiT "int" (.int a) = .ok (.bl true) := rfl
theorem isi_bool_I (a : Int) : isiT "bool" (.int a) = .ok (.bl false) := rfl
theorem isi_tuple_I (a : Int) : isiT "tuple" (.int a) = .ok (.bl false) := rfl
theorem isi_bool_B (a : Bool) : isiT "bool" (.bl a) = .ok (.bl true) := rfl
theorem isi_int_B (a : Bool) : isiT "int" (.bl a) = .ok (.bl true) := rfl
theorem isi_tuple_T (a : List Int) : isiT "tuple" (cT a) = .ok (.bl true) := rfl
theorem isi_tuple_P2 {α β : Type} {c : α → D} {d : β → D} (p : α × β) : isiT "tuple" (cA2 c d p) = .ok (.bl true) := rfl
theorem isi_tuple_U {α : Type} {c : α → D} (p : List α) : isiT "tuple" (cU c p) = .ok (.bl true) := rfl
theorem isi_list_L {α : Type} {c : α → D} (a : List α) : isiT "list" (cL c a) = .ok (.bl true) := rfl
theorem isiO_true {α : Type} {c : α → D} {T : String} (h : ∀ a, isiT T (c a) = .ok (.bl true)) (h2 : isiT T .non = .ok (.bl false)) (a : Option α) : isiT T (cO c a) = .ok (.bl a.isSome) := by
  cases a with
  | none => exact h2
  | some x => exact h x
theorem isiO_false {α : Type} {c : α → D} {T : String} (h : ∀ a, isiT T (c a) = .ok (.bl false)) (h2 : isiT T .non = .ok (.bl false)) (a : Option α) : isiT T (cO c a) = .ok (.bl false) := by
  cases a with
  | none => exact h2
  | some x => exact h x
theorem end_zip {α β : Type} {c : α → D} {d : β → D} {e : List α → D} {e2 : List β → D} {xs : List α} {ys : List β} (w : Sq e c) (w2 : Sq e2 d) : Ag2 (List.map (cA2 c d)) (.ok (xs.zip ys)) (zip2 [e xs, e2 ys]) :=
  tp_itZip (n := 0) (Γ := g0) (h := fun _ => .ok [e xs, e2 ys]) w w2 (fun _ _ => rfl) rfl [] ⟨rfl, fun _ _ z => by cases z⟩
theorem tx_itZip {α β : Type} {c : α → D} {d : β → D} {h : Rn → Out (List D)} {t : Out (List (α × β))} (r : TK n Γ (List.map (cA2 c d)) h zip2 t) : TX n Γ (List.map (cA2 c d)) (itZip h) t := r
/-! ### methods, defs -/
theorem ag2_mt {α : Type} {e : α → M} {m : Str} {tab : List (Str × (List D → Out M))} {d : D} {f : List D → Out M} {ds : List D} {t : Out α} (h : mtR m tab d = .ok f) (k : Ag2 e t (f ds)) : Ag2 e t ((mtR m tab d).nx.bind fun f => f ds) := by rw [h]; exact k
theorem tx_mtP {α β : Type} {e : α → M} {c : β → D} {m : Str} {tab : List (Str × (List D → Out M))} {g : Rn → Out D} {ga : Rn → Out (List D)} {b : β} {ds : List D} {t : Out α} (p : TP n Γ c g b) (r : TPA n Γ ga ds) (h : Ag2 e t ((mtR m tab (c b)).nx.bind fun f => f (c b :: ds))) : TX n Γ e (mtC m tab g ga) t := fun ρ A => by
  unfold mtC
  rw [p ρ A, bind_ok]
  cases z : (mtR m tab (c b)).nx with
  | stuck => rw [z] at h; exact h
  | exc x => rw [z] at h; exact h
  | ok f => rw [z] at h; rw [bind_ok, r ρ A]; exact h
theorem tx_mtX {α β : Type} {e : α → M} {c : β → D} {m : Str} {tab : List (Str × (List D → Out M))} {g : Rn → Out D} {ga : Rn → Out (List D)} {b : β} {t : Out α} (hm : ∃ f, mtR m tab (c b) = .ok f) (p : TP n Γ c g b) (r : TK n Γ e ga (fun ds => (mtR m tab (c b)).nx.bind fun f => f (c b :: ds)) t) : TX n Γ e (mtC m tab g ga) t := fun ρ A => by
  obtain ⟨f, hf⟩ := hm
  unfold mtC
  rw [p ρ A, bind_ok, hf]
  have q := r ρ A
  rw [hf] at q
  exact q
theorem tx_newF {α : Type} {e : α → D} {C : Str} {d : Addr → List D → Out Ac} {g : Rn → Out (List D)} {t : Out α} (r : TK n Γ e g (newD C d) t) : TX n Γ e (newF C d g) t := r
def gD : Nat → List D → Gm
  | _, [] => g0
  | i, d :: ds => up (gD (i + 1) ds) i (.dat d)
theorem gD_get : ∀ (ds : List D) (i j : Nat) (m : M), gD i ds j = some m → i ≤ j ∧ ∃ d, ds[j - i]? = some d ∧ m = .dat d
  | [], i, j, m, h => by cases h
  | d :: ds, i, j, m, h => by
    unfold gD up at h
    rw [nbeq] at h
    by_cases z : j = i
    · subst z
      simp only [decide_true, cond_true] at h
      cases h
      exact ⟨Nat.le_refl _, d, by rw [Nat.sub_self]; rfl, rfl⟩
    · simp only [z, decide_false, cond_false] at h
      obtain ⟨h1, d', h2, h3⟩ := gD_get ds (i + 1) j m h
      refine ⟨by omega, d', ?_, h3⟩
      have e : j - i = (j - (i + 1)) + 1 := by omega
      rw [e, List.getElem?_cons_succ]
      exact h2
theorem ag_start {N m k : Nat} {ds : List D} (hl : ds.length = m) (hN : m + k = N) : Ag N (gD 0 ds) ((ds.map fun d => some (.dat d)) ++ List.replicate k none) := ⟨by simp [hl, hN], fun i mm h => by
  obtain ⟨_, d, h2, h3⟩ := gD_get ds 0 i mm h
  rw [Nat.sub_zero] at h2
  have hi : i < ds.length := by
    rcases Nat.lt_or_ge i ds.length with z | z
    · exact z
    · rw [List.getElem?_eq_none z] at h2; cases h2
  rw [List.getElem?_append_left (by rw [List.length_map]; exact hi), List.getElem?_map, h2, h3]
  rfl⟩
theorem td_run {R : Type} {N m k : Nat} {e : R → M} {s : Rn → SOut} {ds : List D} {t : Out R} (hl : ds.length = m) (hN : m + k = N) (h : TS N (gD 0 ds) s t (PR e)) : Ag2 e t (runD m k s ds) := by
  have q := h _ (ag_start (k := k) hl hN)
  unfold runD
  rw [if_pos hl]
  cases t with
  | stuck => exact trivial
  | exc x => rw [show s _ = .exc x from q]; exact rfl
  | ok r =>
    obtain ⟨⟨fl, ρ2⟩, e1, e2⟩ := q
    have e2 : fl = _ := e2
    subst e2
    rw [e1]
    exact rfl
theorem td_runU {N m k : Nat} {s : Rn → SOut} {ds : List D} {t : Out Unit} (hl : ds.length = m) (hN : m + k = N) (h : TS N (gD 0 ds) s t (fun _ p => p.1 = .nx)) : Ag2 (mD cN) t (runD m k s ds) := by
  have q := h _ (ag_start (k := k) hl hN)
  unfold runD
  rw [if_pos hl]
  cases t with
  | stuck => exact trivial
  | exc x => rw [show s _ = .exc x from q]; exact rfl
  | ok r =>
    obtain ⟨⟨fl, ρ2⟩, e1, e2⟩ := q
    have e2 : fl = _ := e2
    subst e2
    rw [e1]
    exact rfl
/-! ### states -/
def HasL : List (Nat × M) → Gm → Prop
  | [], _ => True
  | p :: r, Γ => Γ p.1 = some p.2 ∧ HasL r Γ
theorem hasL_nil : HasL [] Γ := trivial
theorem hasL_cons {i : Nat} {m : M} {r : List (Nat × M)} (h : Γ i = some m) (t : HasL r Γ) : HasL ((i, m) :: r) Γ := ⟨h, t⟩
abbrev GS {σ : Type} (vs : List Nat) (Γ : Gm) (st : σ → List (Nat × M)) : σ → Gm := fun z => ups (dr vs Γ) (st z)
theorem sub_gs {vs : List Nat} {Γ0 : Gm} : ∀ {l : List (Nat × M)}, HasL l Γ → Sub (dr vs Γ0) Γ → Sub (ups (dr vs Γ0) l) Γ
  | [], _, s => s
  | (i, m) :: r, h, s => sub_up (sub_gs h.2 s) h.1
theorem sub_up_o {vs : List Nat} {Γ0 : Gm} {i : Nat} {m : M} (s : Sub (dr vs Γ0) Γ) (h : Γ0 i = none := by rfl) : Sub (dr vs Γ0) (up Γ i m) := fun j m' e => by
  unfold up
  rw [nbeq]
  by_cases z : j = i
  · subst z
    have := sub_drop j m' e
    rw [h] at this
    cases this
  · simp only [z, decide_false, cond_false]
    exact s j m' e
theorem sub_drop_dr {vs ws : List Nat} {Γ0 : Gm} (s : Sub (dr vs Γ0) Γ) (h : (ws.all fun v => memN vs v) = true) : Sub (dr vs Γ0) (dr ws Γ) := fun j m' e => by
  have k : memN vs j = false := by
    unfold dr at e
    cases q : memN vs j with
    | true => rw [q] at e; cases e
    | false => rfl
  have k2 : memN ws j = false := by
    cases q : memN ws j with
    | false => rfl
    | true =>
      rw [memN_iff] at q
      rw [List.all_eq_true] at h
      rw [h j q] at k
      cases k
  unfold dr
  rw [k2]
  exact s j m' e
section
variable {α β σ τ R : Type} {P : τ → Fl × Rn → Prop} {s s1 s2 : Rn → SOut} {f : Rn → Out M} {m : α → M} {a : α} {i : Nat}
variable {c : α → D} {g : D → Rn → Out Rn} {bnd : α → Gm → Gm} {fi : Rn → Out (List D)} {b : Rn → SOut}
variable {st : σ → List (Nat × M)} {vs : List Nat} {z : σ}
theorem ts_forG {tb : σ → α → Out σ} {xs : List α} {k : σ → Out τ} (hi : TP n Γ (List.map c) fi xs) (w : HasL (st z) Γ) (hg : TG n g c bnd) (hb : ∀ z x, TS n (bnd x (GS vs Γ st z)) b (tb z x) (PN n (GS vs Γ st))) (h : ∀ z, TS n (GS vs Γ st z) s (k z) P) :
    TS n Γ (sSeq (sFor fi g b) s) ((foldO tb xs z).bind k) P := ts_for hi (sub_gs w sub_drop) hg hb h
theorem ts_forCG {e : R → M} {tb : σ → α → Out (Ct R σ)} {xs : List α} {k : σ → Out R} (hi : TP n Γ (List.map c) fi xs) (w : HasL (st z) Γ) (hg : TG n g c bnd) (hb : ∀ z x, TS n (bnd x (GS vs Γ st z)) b (tb z x) (PC n (GS vs Γ st) e)) (h : ∀ z, TS n (GS vs Γ st z) s (k z) (PR e)) :
    TS n Γ (sSeq (sFor fi g b) s) ((forC tb xs z).bind fun c => thenC c k) (PR e) := ts_forC hi (sub_gs w sub_drop) hg hb h
theorem ts_forCCG {σ' : Type} {G' : σ' → Gm} {e : R → M} {tb : σ → α → Out (Ct R σ)} {xs : List α} {k : σ → Out (Ct R σ')} (hi : TP n Γ (List.map c) fi xs) (w : HasL (st z) Γ) (hg : TG n g c bnd) (hb : ∀ z x, TS n (bnd x (GS vs Γ st z)) b (tb z x) (PC n (GS vs Γ st) e)) (h : ∀ z, TS n (GS vs Γ st z) s (k z) (PC n G' e)) :
    TS n Γ (sSeq (sFor fi g b) s) ((forC tb xs z).bind fun c => thenCC c k) (PC n G' e) := ts_forCC hi (sub_gs w sub_drop) hg hb h
/-- behind a loop with breaks alone -/
def thenN (c : Ct Unit σ) (k : σ → Out τ) : Out τ := match c with
  | .nx z => k z
  | .bk z => k z
  | .ct z => k z
  | .rt _ => .stuck
theorem ts_cN {t1 : Out (Ct Unit σ)} {G : σ → Gm} {e : Unit → M} {k : σ → Out τ} (h1 : TS n Γ s1 t1 (PC n G e)) (hn : ∀ c, t1 = .ok c → (∃ z, c = .nx z) ∨ ∃ r, c = .rt r) (h2 : ∀ z, TS n (G z) s2 (k z) P) : TS n Γ (sSeq s1 s2) (t1.bind fun c => thenN c k) P := fun ρ A => by
  have q := h1 ρ A
  unfold sSeq
  cases t1 with
  | stuck => exact trivial
  | exc x =>
    show (s1 ρ).bind _ = _
    rw [show s1 ρ = .exc x from q]; rfl
  | ok c =>
    obtain ⟨⟨fl, ρ2⟩, e', pn⟩ := q
    rcases hn c rfl with ⟨z, rfl⟩ | ⟨r, rfl⟩
    · obtain ⟨pn, A2⟩ := pn
      cases pn
      show OS _ (k z) ((s1 ρ).bind _)
      rw [e']
      exact h2 z ρ2 A2
    · exact trivial
theorem ts_forNG {tb : σ → α → Out (Ct Unit σ)} {xs : List α} {k : σ → Out τ} (hi : TP n Γ (List.map c) fi xs) (w : HasL (st z) Γ) (hg : TG n g c bnd) (hb : ∀ z x, TS n (bnd x (GS vs Γ st z)) b (tb z x) (PC n (GS vs Γ st) (mD cN))) (h : ∀ z, TS n (GS vs Γ st z) s (k z) P) :
    TS n Γ (sSeq (sFor fi g b) s) ((forC tb xs z).bind fun c => thenN c k) P := ts_cN (ts_forC0 hi (sub_gs w sub_drop) hg hb) (forC_nx xs z) h
/-! ifs -/
theorem ts_guardN {c : Rn → Out Bool} {b : Bool} {t1 : Out τ} {t2 : Out σ} {k : σ → Out τ} (hc : TP n Γ id c b) (h1 : TS n Γ s1 t1 (PX P)) (h2 : TS n Γ s2 t2 (PN n (GS vs Γ st))) (h : ∀ z, TS n (GS vs Γ st z) s (k z) P) : TS n Γ (sSeq (sIf c s1 s2) s) (if b then t1 else t2.bind k) P := fun ρ A => by
  have ec := hc ρ A
  cases b with
  | true =>
    have q := h1 ρ A
    have e : sIf c s1 s2 ρ = s1 ρ := by unfold sIf; rw [ec]; rfl
    simp only [if_true]
    unfold sSeq
    rw [e]
    cases t1 with
    | stuck => exact trivial
    | exc x =>
      show (s1 ρ).bind _ = _
      rw [show s1 ρ = .exc x from q]; rfl
    | ok z =>
      obtain ⟨⟨fl, ρ2⟩, e1, p, nn⟩ := q
      refine ⟨(fl, ρ2), ?_, p⟩
      rw [e1]
      cases fl with
      | nx => exact absurd rfl nn
      | _ => rfl
  | false =>
    have q := ts_seq h2 h ρ A
    have e : sSeq (sIf c s1 s2) s ρ = sSeq s2 s ρ := by unfold sSeq sIf; rw [ec]; rfl
    simp only [Bool.false_eq_true, if_false]
    rw [e]
    exact q
theorem ts_guardM {c : Rn → Out Bool} {b : Bool} {t1 : Out τ} {t2 : Out σ} {k : σ → Out τ} (hc : TP n Γ id c b) (h1 : TS n Γ s1 t1 (PX P)) (h2 : TS n Γ s2 t2 (PN n (GS vs Γ st))) (h : ∀ z, TS n (GS vs Γ st z) s (k z) P) : TS n Γ (sSeq (sIf c s2 s1) s) (if b then t2.bind k else t1) P := fun ρ A => by
  have ec := hc ρ A
  cases b with
  | false =>
    have q := h1 ρ A
    have e : sIf c s2 s1 ρ = s1 ρ := by unfold sIf; rw [ec]; rfl
    simp only [Bool.false_eq_true, if_false]
    unfold sSeq
    rw [e]
    cases t1 with
    | stuck => exact trivial
    | exc x =>
      show (s1 ρ).bind _ = _
      rw [show s1 ρ = .exc x from q]; rfl
    | ok z =>
      obtain ⟨⟨fl, ρ2⟩, e1, p, nn⟩ := q
      refine ⟨(fl, ρ2), ?_, p⟩
      rw [e1]
      cases fl with
      | nx => exact absurd rfl nn
      | _ => rfl
  | true =>
    have q := ts_seq h2 h ρ A
    have e : sSeq (sIf c s2 s1) s ρ = sSeq s2 s ρ := by unfold sSeq sIf; rw [ec]; rfl
    simp only [if_true]
    rw [e]
    exact q
/-- as PC, but neither broken off nor gone on -/
def thenI {σ : Type} (c : Ct R σ) (k : σ → Out R) : Out R := match c with
  | .nx z => k z
  | .rt r => .ok r
  | _ => .stuck
def thenIC {σ σ' : Type} (c : Ct R σ) (k : σ → Out (Ct R σ')) : Out (Ct R σ') := match c with
  | .nx z => k z
  | .rt r => .ok (.rt r)
  | _ => .stuck
theorem ts_ifC {c : Rn → Out Bool} {b : Bool} {e : R → M} {t1 t2 : Out (Ct R σ)} {k : σ → Out R} (hc : TP n Γ id c b) (h1 : TS n Γ s1 t1 (PC n (GS vs Γ st) e)) (h2 : TS n Γ s2 t2 (PC n (GS vs Γ st) e)) (h : ∀ z, TS n (GS vs Γ st z) s (k z) (PR e)) : TS n Γ (sSeq (sIf c s1 s2) s) (((if b then t1 else t2)).bind fun c => thenI c k) (PR e) := fun ρ A => by
  have q0 := ts_ifLast hc h1 h2
  rw [seq_nil] at q0
  have q := q0 ρ A
  generalize (if b = true then t1 else t2) = t at q ⊢
  unfold sSeq
  cases t with
  | stuck => exact trivial
  | exc x =>
    show (sIf c s1 s2 ρ).bind _ = _
    rw [show sIf c s1 s2 ρ = .exc x from q]; rfl
  | ok c' =>
    obtain ⟨⟨fl, ρ2⟩, e', pn⟩ := q
    cases c' with
    | nx z =>
      obtain ⟨pn, A2⟩ := pn
      cases pn
      show OS _ (k z) ((sIf c s1 s2 ρ).bind _)
      rw [e']
      exact h z ρ2 A2
    | rt r =>
      have pn : fl = _ := pn
      subst pn
      exact ⟨(.rt (e r), ρ2), by rw [e']; rfl, rfl⟩
    | bk z => exact trivial
    | ct z => exact trivial
theorem ts_ifCC {σ' : Type} {G' : σ' → Gm} {c : Rn → Out Bool} {b : Bool} {e : R → M} {t1 t2 : Out (Ct R σ)} {k : σ → Out (Ct R σ')} (hc : TP n Γ id c b) (h1 : TS n Γ s1 t1 (PC n (GS vs Γ st) e)) (h2 : TS n Γ s2 t2 (PC n (GS vs Γ st) e)) (h : ∀ z, TS n (GS vs Γ st z) s (k z) (PC n G' e)) : TS n Γ (sSeq (sIf c s1 s2) s) (((if b then t1 else t2)).bind fun c => thenIC c k) (PC n G' e) := fun ρ A => by
  have q0 := ts_ifLast hc h1 h2
  rw [seq_nil] at q0
  have q := q0 ρ A
  generalize (if b = true then t1 else t2) = t at q ⊢
  unfold sSeq
  cases t with
  | stuck => exact trivial
  | exc x =>
    show (sIf c s1 s2 ρ).bind _ = _
    rw [show sIf c s1 s2 ρ = .exc x from q]; rfl
  | ok c' =>
    obtain ⟨⟨fl, ρ2⟩, e', pn⟩ := q
    cases c' with
    | nx z =>
      obtain ⟨pn, A2⟩ := pn
      cases pn
      show OS _ (k z) ((sIf c s1 s2 ρ).bind _)
      rw [e']
      exact h z ρ2 A2
    | rt r =>
      have pn : fl = _ := pn
      subst pn
      exact ⟨(.rt (e r), ρ2), by rw [e']; rfl, rfl⟩
    | bk z => exact trivial
    | ct z => exact trivial
theorem ts_retCp {G : σ → Gm} (p : TP n Γ m f a) : TS n Γ (sSeq (sRet f) s) (.ok (.rt a)) (PX (PC n G m)) := ts_retG p fun _ => ⟨rfl, fun z => by cases z⟩
theorem ts_retCpX {G : σ → Gm} {t : Out α} (p : TX n Γ m f t) : TS n Γ (sSeq (sRet f) s) (t.map Ct.rt) (PX (PC n G m)) := ts_retGX p fun _ _ => ⟨rfl, fun z => by cases z⟩
theorem ts_pass {t : Out τ} (h : TS n Γ s t P) : TS n Γ (sSeq sNil s) t P := h
/-! owned names -/
theorem frz_at {ρ : Rn} {mm : M} (A : Ag n Γ ρ) (h : Γ i = some mm) (hi : i < n) : Ag n (up Γ i (.dat mm.er)) (frzR i ρ) := by
  unfold frzR
  rw [A.kn i mm h]
  exact A.set hi _
theorem lt_of_kn {ρ : Rn} {mm : M} (A : Ag n Γ ρ) (h : Γ i = some mm) : i < n := by
  have k := A.kn i mm h
  rcases Nat.lt_or_ge i ρ.length with z | z
  · rw [← A.len]; exact z
  · rw [List.getElem?_eq_none z] at k; cases k
theorem ts_frz (i : Nat) {e : α → D} {t : Out τ} (h : Γ i = some (m a)) (he : (m a).er = e a) (r : TS n (up Γ i (.dat (e a))) (sSeq s1 s) t P) : TS n Γ (sSeq (sFrz i s1) s) t P := fun ρ A => by
  have q := frz_at A h (lt_of_kn A h)
  rw [he] at q
  exact r _ q
theorem retV_ok {ρ : Rn} {mm : M} (A : Ag n Γ ρ) (h : Γ i = some mm) : sSeq (sRetV i) s ρ = .ok (.rt mm, ρ) := by
  unfold sSeq sRetV
  rw [A.kn i mm h]
  rfl
theorem ts_retV (h : Γ i = some (m a)) : TS n Γ (sSeq (sRetV i) s) (.ok a) (PR m) := fun ρ A => ⟨(.rt (m a), ρ), retV_ok A h, rfl⟩
theorem ts_retVC {G : σ → Gm} (h : Γ i = some (m a)) : TS n Γ (sSeq (sRetV i) s) (.ok (.rt a)) (PC n G m) := fun ρ A => ⟨(.rt (m a), ρ), retV_ok A h, rfl⟩
theorem ts_retVCp {G : σ → Gm} (h : Γ i = some (m a)) : TS n Γ (sSeq (sRetV i) s) (.ok (.rt a)) (PX (PC n G m)) := fun ρ A => ⟨(.rt (m a), ρ), retV_ok A h, rfl, fun z => by cases z⟩
/-- one more behind -/
def apO (xs : List α) (x : α) : Out (List α) := if xs.length < 1000000 then .ok (xs ++ [x]) else .stuck
theorem ts_app {xs : List α} {v : α} {f : Rn → Out D} {k : List α → Out τ} (hi : i < n) (h : Γ i = some (mL c xs)) (p : TP n Γ c f v) (r : ∀ ys, TS n (up Γ i (mL c ys)) s (k ys) P) : TS n Γ (sSeq (sAppend i f) s) ((apO xs v).bind k) P := fun ρ A => by
  unfold apO
  split
  · rename_i z
    have q := r (xs ++ [v]) _ (A.set hi _)
    have e : sSeq (sAppend i f) s ρ = s (ρ.set i (some (mL c (xs ++ [v])))) := by
      unfold sSeq sAppend
      rw [A.kn i _ h]
      dsimp only
      rw [p ρ A, bind_ok]
      have zz : (xs.map fun x => M.dat (c x)).length < sizeLine := by rw [List.length_map]; exact Nat.lt_of_lt_of_le z (by decide)
      rw [if_pos zz]
      simp [mL]
      rfl
    rw [e]
    exact q
  · exact trivial
theorem ts_appX {xs : List α} {t : Out α} {f : Rn → Out D} {k : List α → Out τ} (hi : i < n) (h : Γ i = some (mL c xs)) (p : TX n Γ c f t) (r : ∀ ys, TS n (up Γ i (mL c ys)) s (k ys) P) : TS n Γ (sSeq (sAppend i f) s) (t.bind fun v => (apO xs v).bind k) P := fun ρ A => by
  have q := p ρ A
  cases t with
  | stuck => exact trivial
  | exc x =>
    show sSeq (sAppend i f) s ρ = _
    unfold sSeq sAppend
    rw [A.kn i _ h]
    dsimp only
    rw [show f ρ = .exc x from q]; rfl
  | ok v =>
    have z := ts_app (f := fun _ => .ok (c v)) hi h (fun _ _ => rfl) r ρ A
    have e : sSeq (sAppend i f) s ρ = sSeq (sAppend i fun _ => .ok (c v)) s ρ := by
      unfold sSeq sAppend
      rw [show f ρ = .ok (c v) from q]
    rw [e]
    exact z
end
end DA
set_option maxHeartbeats 4000000
/-! TC: while; dicts as lists of pairs; try -/
namespace DA
open PySem PySem.Spec PyProof.Rows L2
variable {n : Nat} {Γ Γ' : Gm} {ρ : Rn}
section
variable {α β σ τ R : Type} {P : τ → Fl × Rn → Prop} {s s1 s2 : Rn → SOut} {f : Rn → Out M} {m : α → M} {a : α} {i : Nat}
variable {st : σ → List (Nat × M)} {vs : List Nat} {z : σ}
def whON (c : σ → Out Bool) (b : σ → Out σ) : Nat → σ → Out σ
  | 0, _ => .stuck
  | k + 1, z => (c z).bind fun t => if t then (b z).bind (whON c b k) else .ok z
def whCN (c : σ → Out Bool) (b : σ → Out (Ct R σ)) : Nat → σ → Out (Ct R σ)
  | 0, _ => .stuck
  | k + 1, z => (c z).bind fun t => if t then (b z).bind fun w => match w with
      | .nx z => whCN c b k z
      | .ct z => whCN c b k z
      | .bk z => .ok (.nx z)
      | .rt r => .ok (.rt r) else .ok (.nx z)
theorem bind_ne {α β : Type} {o : Out α} {f g : α → Out β} (h : ∀ a, o = .ok a → f a ≠ .stuck → g a = f a) (hn : o.bind f ≠ .stuck) : o.bind g = o.bind f := by
  cases o with
  | stuck => rfl
  | exc x => rfl
  | ok a => exact h a rfl hn
theorem whON_up (c : σ → Out Bool) (b : σ → Out σ) : ∀ (k : Nat) (z : σ), whON c b k z ≠ .stuck → whON c b (k + 1) z = whON c b k z
  | 0, z, h => absurd rfl h
  | k + 1, z, h => by
    rw [whON] at h
    rw [whON, whON]
    refine bind_ne (fun t _ h => ?_) h
    cases t with
    | false => rfl
    | true => exact bind_ne (fun w _ h => whON_up c b k w h) h
theorem whON_le {c : σ → Out Bool} {b : σ → Out σ} {k : Nat} {z : σ} (h : whON c b k z ≠ .stuck) : ∀ j, whON c b (k + j) z = whON c b k z
  | 0 => rfl
  | j + 1 => by
    have ih := whON_le h j
    rw [← ih, ← Nat.add_assoc]
    exact whON_up c b (k + j) z (by rw [ih]; exact h)
theorem whCN_up (c : σ → Out Bool) (b : σ → Out (Ct R σ)) : ∀ (k : Nat) (z : σ), whCN c b k z ≠ .stuck → whCN c b (k + 1) z = whCN c b k z
  | 0, z, h => absurd rfl h
  | k + 1, z, h => by
    rw [whCN] at h
    rw [whCN, whCN]
    refine bind_ne (fun t _ h => ?_) h
    cases t with
    | false => rfl
    | true =>
      refine bind_ne (fun w _ h => ?_) h
      cases w with
      | nx w => exact whCN_up c b k w h
      | ct w => exact whCN_up c b k w h
      | bk w => rfl
      | rt r => rfl
theorem whCN_le {c : σ → Out Bool} {b : σ → Out (Ct R σ)} {k : Nat} {z : σ} (h : whCN c b k z ≠ .stuck) : ∀ j, whCN c b (k + j) z = whCN c b k z
  | 0 => rfl
  | j + 1 => by
    have ih := whCN_le h j
    rw [← ih, ← Nat.add_assoc]
    exact whCN_up c b (k + j) z (by rw [ih]; exact h)
open Classical in
noncomputable def whO (c : σ → Out Bool) (b : σ → Out σ) (z : σ) : Out σ := if h : ∃ k, whON c b k z ≠ .stuck then whON c b (Classical.choose h) z else .stuck
open Classical in
noncomputable def whC (c : σ → Out Bool) (b : σ → Out (Ct R σ)) (z : σ) : Out (Ct R σ) := if h : ∃ k, whCN c b k z ≠ .stuck then whCN c b (Classical.choose h) z else .stuck
theorem whO_of {c : σ → Out Bool} {b : σ → Out σ} {k : Nat} (h : whON c b k z ≠ .stuck) : whO c b z = whON c b k z := by
  have hx : ∃ k, whON c b k z ≠ .stuck := ⟨k, h⟩
  unfold whO
  rw [dif_pos hx]
  have h2 := Classical.choose_spec hx
  generalize Classical.choose hx = j at h2
  rcases Nat.le_total k j with l | l
  · obtain ⟨i, rfl⟩ := Nat.exists_eq_add_of_le l
    exact whON_le h i
  · obtain ⟨i, rfl⟩ := Nat.exists_eq_add_of_le l
    exact (whON_le h2 i).symm
theorem whC_of {c : σ → Out Bool} {b : σ → Out (Ct R σ)} {k : Nat} (h : whCN c b k z ≠ .stuck) : whC c b z = whCN c b k z := by
  have hx : ∃ k, whCN c b k z ≠ .stuck := ⟨k, h⟩
  unfold whC
  rw [dif_pos hx]
  have h2 := Classical.choose_spec hx
  generalize Classical.choose hx = j at h2
  rcases Nat.le_total k j with l | l
  · obtain ⟨i, rfl⟩ := Nat.exists_eq_add_of_le l
    exact whCN_le h i
  · obtain ⟨i, rfl⟩ := Nat.exists_eq_add_of_le l
    exact (whCN_le h2 i).symm
/-- a while loop whose turns all tell a next state that is less -/
theorem whO_ok {c : σ → Out Bool} {b : σ → Out σ} (I : σ → Prop) (μ : σ → Nat) (Q : σ → Prop)
    (h : ∀ z, I z → (c z = .ok false ∧ Q z) ∨ (c z = .ok true ∧ ∃ z', b z = .ok z' ∧ I z' ∧ μ z' < μ z)) : ∀ z, I z → ∃ z', whO c b z = .ok z' ∧ Q z' := by
  have H : ∀ (k : Nat) (z : σ), μ z < k → I z → ∃ j z', whON c b j z = .ok z' ∧ Q z' := by
    intro k
    induction k with
    | zero => intro z hz; omega
    | succ k ih =>
      intro z hz i
      rcases h z i with ⟨e, q⟩ | ⟨e, z', e2, i2, l⟩
      · exact ⟨1, z, by rw [whON, e]; rfl, q⟩
      · obtain ⟨j, z2, e3, q⟩ := ih z' (by omega) i2
        refine ⟨j + 1, z2, ?_, q⟩
        rw [whON, e]
        show (b z).bind _ = _
        rw [e2]
        exact e3
  intro z i
  obtain ⟨j, z', e, q⟩ := H _ z (Nat.lt_succ_self _) i
  exact ⟨z', by rw [whO_of (k := j) (by rw [e]; simp), e], q⟩
/-- a while loop whose turns tell a next state that is less, or return -/
theorem whC_ok {c : σ → Out Bool} {b : σ → Out (Ct R σ)} (I : σ → Prop) (μ : σ → Nat) (Q : Ct R σ → Prop)
    (h : ∀ z, I z → (c z = .ok false ∧ Q (.nx z)) ∨ (c z = .ok true ∧ ((∃ z', (b z = .ok (.nx z') ∨ b z = .ok (.ct z')) ∧ I z' ∧ μ z' < μ z) ∨ (∃ z', b z = .ok (.bk z') ∧ Q (.nx z')) ∨ ∃ r, b z = .ok (.rt r) ∧ Q (.rt r)))) : ∀ z, I z → ∃ w, whC c b z = .ok w ∧ Q w := by
  have H : ∀ (k : Nat) (z : σ), μ z < k → I z → ∃ j w, whCN c b j z = .ok w ∧ Q w := by
    intro k
    induction k with
    | zero => intro z hz; omega
    | succ k ih =>
      intro z hz i
      rcases h z i with ⟨e, q⟩ | ⟨e, ⟨z', e2, i2, l⟩ | ⟨z', e2, q⟩ | ⟨r, e2, q⟩⟩
      · exact ⟨1, .nx z, by rw [whCN, e]; rfl, q⟩
      · obtain ⟨j, z2, e3, q⟩ := ih z' (by omega) i2
        refine ⟨j + 1, z2, ?_, q⟩
        rw [whCN, e]
        show (b z).bind _ = _
        rcases e2 with e2 | e2 <;> (rw [e2]; exact e3)
      · exact ⟨1, .nx z', by rw [whCN, e]; show (b z).bind _ = _; rw [e2]; rfl, q⟩
      · exact ⟨1, .rt r, by rw [whCN, e]; show (b z).bind _ = _; rw [e2]; rfl, q⟩
  intro z i
  obtain ⟨j, z', e, q⟩ := H _ z (Nat.lt_succ_self _) i
  exact ⟨z', by rw [whC_of (k := j) (by rw [e]; simp), e], q⟩
theorem OS.ne {P : τ → Fl × Rn → Prop} {t : Out τ} {o : SOut} (h : OS P t o) (hn : t ≠ .stuck) : o ≠ .stuck := by
  cases t with
  | stuck => exact absurd rfl hn
  | exc x => rw [show o = .exc x from h]; simp
  | ok a => obtain ⟨p, e, _⟩ := h; rw [e]; simp
theorem whON_den {G : σ → Gm} {c : σ → Out Bool} {b : σ → Out σ} {c' : Rn → Out Bool} {b' : Rn → SOut} (hc : ∀ z, TX n (G z) id c' (c z)) (hb : ∀ z, TS n (G z) b' (b z) (PN n G)) : ∀ (k : Nat) (z : σ) (ρ : Rn), Ag n (G z) ρ → OS (PN n G) (whON c b k z) (whN c' b' k ρ)
  | 0, _, _, _ => trivial
  | k + 1, z, ρ, A => by
    have q := hc z ρ A
    rw [whON, whN]
    cases ec : c z with
    | stuck => exact trivial
    | exc x =>
      rw [ec] at q
      show (c' ρ).bind _ = _
      rw [show c' ρ = .exc x from q]; rfl
    | ok t =>
      rw [ec] at q
      rw [show c' ρ = .ok t from q]
      cases t with
      | false => exact ⟨_, rfl, rfl, A⟩
      | true =>
        have r := hb z ρ A
        show OS _ ((b z).bind _) ((b' ρ).bind _)
        cases eb : b z with
        | stuck => exact trivial
        | exc x =>
          rw [eb] at r
          show (b' ρ).bind _ = _
          rw [show b' ρ = .exc x from r]; rfl
        | ok w =>
          rw [eb] at r
          obtain ⟨⟨fl, ρ2⟩, e, pn, A2⟩ := r
          cases pn
          rw [e]
          exact whON_den hc hb k w ρ2 A2
theorem whCN_den {G : σ → Gm} {e : R → M} {c : σ → Out Bool} {b : σ → Out (Ct R σ)} {c' : Rn → Out Bool} {b' : Rn → SOut} (hc : ∀ z, TX n (G z) id c' (c z)) (hb : ∀ z, TS n (G z) b' (b z) (PC n G e)) : ∀ (k : Nat) (z : σ) (ρ : Rn), Ag n (G z) ρ → OS (PC n G e) (whCN c b k z) (whN c' b' k ρ)
  | 0, _, _, _ => trivial
  | k + 1, z, ρ, A => by
    have q := hc z ρ A
    rw [whCN, whN]
    cases ec : c z with
    | stuck => exact trivial
    | exc x =>
      rw [ec] at q
      show (c' ρ).bind _ = _
      rw [show c' ρ = .exc x from q]; rfl
    | ok t =>
      rw [ec] at q
      rw [show c' ρ = .ok t from q]
      cases t with
      | false => exact ⟨_, rfl, rfl, A⟩
      | true =>
        have r := hb z ρ A
        show OS _ ((b z).bind _) ((b' ρ).bind _)
        cases eb : b z with
        | stuck => exact trivial
        | exc x =>
          rw [eb] at r
          show (b' ρ).bind _ = _
          rw [show b' ρ = .exc x from r]; rfl
        | ok w =>
          rw [eb] at r
          obtain ⟨⟨fl, ρ2⟩, e1, pn⟩ := r
          rw [e1]
          cases w with
          | nx w =>
            obtain ⟨pn, A2⟩ := pn
            cases pn
            exact whCN_den hc hb k w ρ2 A2
          | ct w =>
            obtain ⟨pn, A2⟩ := pn
            cases pn
            exact whCN_den hc hb k w ρ2 A2
          | bk w =>
            obtain ⟨pn, A2⟩ := pn
            cases pn
            exact ⟨_, rfl, rfl, A2⟩
          | rt r =>
            have pn : fl = _ := pn
            subst pn
            exact ⟨_, rfl, rfl⟩
theorem whO_den {G : σ → Gm} {c : σ → Out Bool} {b : σ → Out σ} {c' : Rn → Out Bool} {b' : Rn → SOut} (hc : ∀ z, TX n (G z) id c' (c z)) (hb : ∀ z, TS n (G z) b' (b z) (PN n G)) : TS n (G z) (whD c' b') (whO c b z) (PN n G) := fun ρ A => by
  by_cases h : ∃ k, whON c b k z ≠ .stuck
  · obtain ⟨k, h⟩ := h
    have q := whON_den hc hb k z ρ A
    rw [whO_of h, whD_of (q.ne h)]
    exact q
  · have e : whO c b z = .stuck := by unfold whO; rw [dif_neg h]
    rw [e]; exact trivial
theorem whC_den {G : σ → Gm} {e : R → M} {c : σ → Out Bool} {b : σ → Out (Ct R σ)} {c' : Rn → Out Bool} {b' : Rn → SOut} (hc : ∀ z, TX n (G z) id c' (c z)) (hb : ∀ z, TS n (G z) b' (b z) (PC n G e)) : TS n (G z) (whD c' b') (whC c b z) (PC n G e) := fun ρ A => by
  by_cases h : ∃ k, whCN c b k z ≠ .stuck
  · obtain ⟨k, h⟩ := h
    have q := whCN_den hc hb k z ρ A
    rw [whC_of h, whD_of (q.ne h)]
    exact q
  · have e : whC c b z = .stuck := by unfold whC; rw [dif_neg h]
    rw [e]; exact trivial
theorem whCN_nx {c : σ → Out Bool} {b : σ → Out (Ct R σ)} : ∀ (k : Nat) (z : σ) (w : Ct R σ), whCN c b k z = .ok w → (∃ z2, w = .nx z2) ∨ ∃ r, w = .rt r
  | 0, _, _, h => by cases h
  | k + 1, z, w, h => by
    rw [whCN] at h
    cases ec : c z with
    | stuck => rw [ec] at h; cases h
    | exc x => rw [ec] at h; cases h
    | ok t =>
      rw [ec] at h
      cases t with
      | false => cases h; exact .inl ⟨_, rfl⟩
      | true =>
        have h : (b z).bind _ = Out.ok w := h
        cases eb : b z with
        | stuck => rw [eb] at h; cases h
        | exc x => rw [eb] at h; cases h
        | ok y =>
          rw [eb] at h
          cases y with
          | nx y => exact whCN_nx k y w h
          | ct y => exact whCN_nx k y w h
          | bk y => cases h; exact .inl ⟨_, rfl⟩
          | rt r => cases h; exact .inr ⟨_, rfl⟩
theorem whC_nx {c : σ → Out Bool} {b : σ → Out (Ct R σ)} (w : Ct R σ) (h : whC c b z = .ok w) : (∃ z2, w = .nx z2) ∨ ∃ r, w = .rt r := by
  unfold whC at h
  split at h
  · exact whCN_nx _ _ _ h
  · cases h
theorem ts_whileG {c : σ → Out Bool} {b : σ → Out σ} {c' : Rn → Out Bool} {b' : Rn → SOut} {k : σ → Out τ} (w : HasL (st z) Γ) (hc : ∀ z, TX n (GS vs Γ st z) id c' (c z)) (hb : ∀ z, TS n (GS vs Γ st z) b' (b z) (PN n (GS vs Γ st))) (h : ∀ z, TS n (GS vs Γ st z) s (k z) P) :
    TS n Γ (sSeq (whD c' b') s) ((whO c b z).bind k) P := ts_sub (ts_seq (whO_den (G := GS vs Γ st) hc hb) h) (sub_gs w sub_drop)
theorem ts_whileCG {e : R → M} {c : σ → Out Bool} {b : σ → Out (Ct R σ)} {c' : Rn → Out Bool} {b' : Rn → SOut} {k : σ → Out R} (w : HasL (st z) Γ) (hc : ∀ z, TX n (GS vs Γ st z) id c' (c z)) (hb : ∀ z, TS n (GS vs Γ st z) b' (b z) (PC n (GS vs Γ st) e)) (h : ∀ z, TS n (GS vs Γ st z) s (k z) (PR e)) :
    TS n Γ (sSeq (whD c' b') s) ((whC c b z).bind fun c => thenC c k) (PR e) := ts_sub (ts_cC (whC_den (G := GS vs Γ st) hc hb) whC_nx h) (sub_gs w sub_drop)
theorem ts_whileCCG {σ' : Type} {G' : σ' → Gm} {e : R → M} {c : σ → Out Bool} {b : σ → Out (Ct R σ)} {c' : Rn → Out Bool} {b' : Rn → SOut} {k : σ → Out (Ct R σ')} (w : HasL (st z) Γ) (hc : ∀ z, TX n (GS vs Γ st z) id c' (c z)) (hb : ∀ z, TS n (GS vs Γ st z) b' (b z) (PC n (GS vs Γ st) e)) (h : ∀ z, TS n (GS vs Γ st z) s (k z) (PC n G' e)) :
    TS n Γ (sSeq (whD c' b') s) ((whC c b z).bind fun c => thenCC c k) (PC n G' e) := ts_sub (ts_cCC (whC_den (G := GS vs Γ st) hc hb) whC_nx h) (sub_gs w sub_drop)
/-! try: x = e; except C: .. -/
def tryT (nm : Str) (t : Out α) (k : α → σ) (h : Out σ) : Out σ := match t with
  | .ok a => .ok (k a)
  | .stuck => .stuck
  | .exc n' => if List.contains exNames n' then (if subE n' nm then h.nx else .exc n') else .stuck
theorem ts_try {nm : Str} {te : Out α} {k : α → σ} {h : Out σ} {r : σ → Out τ} (hi : i < n) (p : TX n Γ m f te) (hk : ∀ v, HasL (st (k v)) (up Γ i (m v))) (hv : memN vs i = true) (hh : TS n Γ s1 h (PN n (GS vs Γ st))) (hr : ∀ z, TS n (GS vs Γ st z) s (r z) P) :
    TS n Γ (sSeq (sTry nm s1 f i) s) ((tryT nm te k h).bind r) P := by
  refine ts_seq (G := GS vs Γ st) (fun ρ A => ?_) hr
  have q := p ρ A
  unfold sTry tryT
  cases te with
  | stuck => exact trivial
  | exc x =>
    rw [show f ρ = .exc x from q]
    dsimp only
    cases List.contains exNames x with
    | false => exact trivial
    | true =>
      simp only [if_true]
      cases subE x nm with
      | false => exact rfl
      | true =>
        simp only [if_true]
        have z := hh ρ A
        cases h with
        | stuck => exact trivial
        | exc y => exact trivial
        | ok w =>
          obtain ⟨pp, e, pn⟩ := z
          refine ⟨pp, ?_, pn⟩
          rw [e]; rfl
  | ok v =>
    rw [show f ρ = .ok (m v) from q]
    dsimp only
    rw [if_pos (by rw [A.len]; exact hi)]
    exact ⟨_, rfl, rfl, (A.set hi (m v)).sub (sub_gs (hk v) (sub_drop_up sub_drop hv))⟩
end
/-! ### dicts as lists of pairs -/
section
variable {α : Type} {c : α → D}
def lookT (f : List (List Int × α)) (k : List Int) : Option α := match f with
  | [] => none
  | p :: r => if p.1 = k then some p.2 else lookT r k
def hasT (f : List (List Int × α)) (k : List Int) : Bool := (lookT f k).isSome
def getT (f : List (List Int × α)) (k : List Int) (d : α) : α := (lookT f k).getD d
def dgO (f : List (List Int × α)) (k : List Int) : Out α := match lookT f k with
  | some x => .ok x
  | none => .stuck
theorem kT_inj {a b : List Int} (h : kT a = kT b) : a = b := by
  unfold kT at h
  induction a generalizing b with
  | nil => cases b with
    | nil => rfl
    | cons y b => cases h
  | cons x a ih => cases b with
    | nil => cases h
    | cons y b =>
      rw [List.map_cons, List.map_cons] at h
      injection h with h1 h2
      injection h1 with h1
      rw [h1, ih h2]
theorem keysOf_ints : ∀ xs : List Int, keysOf (xs.map D.int) = some (kT xs)
  | [] => rfl
  | x :: xs => by rw [List.map_cons, keysOf, keysOf_ints xs]; rfl
theorem tkOf_T (xs : List Int) : tkOf (cT xs) = some (kT xs) := keysOf_ints xs
theorem lookD_T : ∀ (f : List (List Int × α)) (k : List Int), lookD (f.map fun p => kT p.1) (f.map fun p => c p.2) (kT k) = (lookT f k).map c
  | [], k => rfl
  | p :: r, k => by
    rw [List.map_cons, List.map_cons, lookD, lookT, lookD_T r k]
    by_cases h : p.1 = k
    · rw [if_pos (by rw [h]), if_pos h]; rfl
    · rw [if_neg (fun e => h (kT_inj e)), if_neg h]
theorem dGetO_T (f : List (List Int × α)) (k : List Int) : dGetO (cDT c f) (cT k) = .ok ((lookT f k).map c) := by
  show (match tkOf (cT k) with | some k => Out.ok (lookD _ _ k) | none => .stuck) = _
  rw [tkOf_T]
  dsimp only
  rw [lookD_T]
variable {f g t : Rn → Out D} {F : List (List Int × α)} {k : List Int} {d : α} {sk : Out (List Int)} {sd : Out α}
theorem tx_getF (p : TP n Γ (cDT c) f F) (q : TX n Γ cT g sk) (r : TX n Γ c t sd) : TX n Γ c (gtF f g t) (sk.bind fun k => sd.bind fun d => .ok (getT F k d)) := fun ρ A => by
  unfold gtF
  rw [p ρ A]
  show Ag2 _ _ (gtD f g t ρ)
  unfold gtD
  rw [p ρ A, bind_ok]
  refine (q ρ A).bind fun k => (r ρ A).bind fun d => ?_
  rw [dGetO_T]
  show Out.ok (((lookT F k).map c).getD (c d)) = .ok (c (getT F k d))
  unfold getT
  cases lookT F k <;> rfl
theorem tp_getF (p : TP n Γ (cDT c) f F) (q : TP n Γ cT g k) (r : TP n Γ c t d) : TP n Γ c (gtF f g t) (getT F k d) := fun ρ A => tx_getF p q.x r.x ρ A
theorem tx_dg (p : TP n Γ (cDT c) f F) (q : TP n Γ cT g k) : TX n Γ c (dgD f g) (dgO F k) := fun ρ A => by
  unfold dgD dgO
  rw [p ρ A, bind_ok, q ρ A, bind_ok, dGetO_T]
  cases lookT F k with
  | none => exact trivial
  | some x => exact rfl
theorem op_inD : OpP (dIn false) cT (cDT c) D.bl (fun k f => hasT f k) := fun k f => by
  show ((dGetO (cDT c f) (cT k)).map _) = _
  rw [dGetO_T, map_ok]
  simp only [Bool.false_eq_true, if_false, Option.isSome_map, hasT]
theorem op_inDN : OpP (dIn true) cT (cDT c) D.bl (fun k f => !hasT f k) := fun k f => by
  show ((dGetO (cDT c f) (cT k)).map _) = _
  rw [dGetO_T, map_ok]
  simp only [if_true, Option.isSome_map, hasT]
/-- the dict with d at k -/
def putT (f : List (List Int × α)) (k : List Int) (d : α) : List (List Int × α) := match f with
  | [] => [(k, d)]
  | p :: r => if p.1 = k then (k, d) :: putR r k d else p :: putT r k d
where putR (f : List (List Int × α)) (k : List Int) (d : α) : List (List Int × α) := f.map fun p => if p.1 = k then (k, d) else p
def putO (f : List (List Int × α)) (k : List Int) (d : α) : Out (List (List Int × α)) := if f.length < 1000000 then .ok (putT f k d) else .stuck
theorem putR_ks (f : List (List Int × α)) (k : List Int) (d : α) : (putT.putR f k d).map (fun p => kT p.1) = f.map fun p => kT p.1 := by
  unfold putT.putR
  rw [List.map_map]
  refine List.map_congr_left fun p _ => ?_
  show kT (if p.1 = k then (k, d) else p).1 = _
  split
  · rename_i h; rw [h]
  · rfl
theorem putR_vs : ∀ (f : List (List Int × α)) (k : List Int) (d : α), (putT.putR f k d).map (fun p => c p.2) = ((f.map fun p => kT p.1).zip (f.map fun p => c p.2)).map fun p => if p.1 = kT k then c d else p.2
  | [], k, d => rfl
  | p :: r, k, d => by
    have ih := putR_vs r k d
    unfold putT.putR at ih ⊢
    rw [List.map_cons, List.map_cons, List.map_cons, List.map_cons, List.zip_cons_cons, List.map_cons, ih]
    congr 1
    by_cases h : p.1 = k
    · rw [if_pos h, if_pos (by rw [h])]
    · rw [if_neg h, if_neg (fun e => h (kT_inj e))]
theorem any_T (f : List (List Int × α)) (k : List Int) : ((f.map fun p => kT p.1).any fun k' => decide (k' = kT k)) = f.any fun p => decide (p.1 = k) := by
  rw [List.any_map]
  congr 1
  funext p
  show decide (kT p.1 = kT k) = _
  by_cases h : p.1 = k
  · rw [decide_eq_true h, decide_eq_true (by rw [h])]
  · rw [decide_eq_false h, decide_eq_false (fun e => h (kT_inj e))]
theorem putT_any : ∀ (f : List (List Int × α)) (k : List Int) (d : α), putT f k d = if (f.any fun p => decide (p.1 = k)) = true then putT.putR f k d else f ++ [(k, d)]
  | [], k, d => rfl
  | p :: r, k, d => by
    rw [putT, putT_any r k d, List.any_cons]
    by_cases h : p.1 = k
    · rw [if_pos h, decide_eq_true h, Bool.true_or, if_pos rfl]
      unfold putT.putR
      rw [List.map_cons, if_pos h]
    · rw [if_neg h, decide_eq_false h, Bool.false_or]
      split
      · unfold putT.putR
        rw [List.map_cons, if_neg h]
      · rfl
theorem putDs_T (f : List (List Int × α)) (k : List Int) (d : α) : putDs (f.map fun p => kT p.1) (f.map fun p => c p.2) (kT k) (c d) = ((putT f k d).map fun p => kT p.1, (putT f k d).map fun p => c p.2) := by
  unfold putDs
  rw [any_T, putT_any]
  split
  · rw [putR_ks, putR_vs]
  · rw [List.map_append, List.map_append]; rfl
theorem datsOf_T : ∀ (f : List (List Int × α)), datsOf (f.map fun p => M.dat (c p.2)) = some (f.map fun p => c p.2)
  | [] => rfl
  | p :: r => by rw [List.map_cons, datsOf, datsOf_T r]; rfl
variable {τ : Type} {P : τ → Fl × Rn → Prop} {s : Rn → SOut} {i : Nat} {v : α}
theorem ts_putTX {kk : List (List Int × α) → Out τ} (hi : i < n) (h : Γ i = some (mDT c F)) (q : TX n Γ cT f sk) (p : TX n Γ c g sd) (r : ∀ ys, TS n (up Γ i (mDT c ys)) s (kk ys) P) : TS n Γ (sSeq (sPut i f g) s) (sd.bind fun v => sk.bind fun k => (putO F k v).bind kk) P := fun ρ A => by
  have qp := p ρ A
  have qq := q ρ A
  have e0 : sPut i f g ρ = (g ρ).bind fun d => (f ρ).bind fun y => match tkOf y with
      | some k => if (F.map fun p => kT p.1).length < sizeLine then .ok (.nx, ρ.set i (some (.dic (putDs (F.map fun p => kT p.1) (F.map fun p => c p.2) k d).1 ((putDs (F.map fun p => kT p.1) (F.map fun p => c p.2) k d).2.map .dat)))) else .stuck
      | none => .stuck := by
    unfold sPut
    rw [A.kn i _ h]
    dsimp only
    rw [datsOf_T]
    all_goals rfl
  cases sd with
  | stuck => exact trivial
  | exc x =>
    show sSeq (sPut i f g) s ρ = _
    unfold sSeq
    rw [e0, show g ρ = .exc x from qp]; rfl
  | ok v =>
    cases sk with
    | stuck => exact trivial
    | exc x =>
      show sSeq (sPut i f g) s ρ = _
      unfold sSeq
      rw [e0, show g ρ = .ok (c v) from qp, bind_ok, show f ρ = .exc x from qq]; rfl
    | ok k =>
      show OS _ ((putO F k v).bind kk) _
      unfold putO
      split
      · rename_i z
        have zz : (F.map fun p => kT p.1).length < sizeLine := by rw [List.length_map]; exact Nat.lt_of_lt_of_le z (by decide)
        have e1 : sSeq (sPut i f g) s ρ = s (ρ.set i (some (mDT c (putT F k v)))) := by
          unfold sSeq
          rw [e0, show g ρ = .ok (c v) from qp, bind_ok, show f ρ = .ok (cT k) from qq, bind_ok, tkOf_T]
          dsimp only
          rw [if_pos zz, putDs_T]
          dsimp only
          rw [List.map_map]
          rfl
        rw [e1]
        exact r (putT F k v) _ (A.set hi _)
      · exact trivial
theorem ts_putT {kk : List (List Int × α) → Out τ} (hi : i < n) (h : Γ i = some (mDT c F)) (q : TP n Γ cT f k) (p : TP n Γ c g v) (r : ∀ ys, TS n (up Γ i (mDT c ys)) s (kk ys) P) : TS n Γ (sSeq (sPut i f g) s) ((putO F k v).bind kk) P := ts_putTX hi h q.x p.x r
/-- the dict without k -/
def dropT (f : List (List Int × α)) (k : List Int) : List (List Int × α) := match f with
  | [] => []
  | p :: r => if p.1 = k then dropT r k else p :: dropT r k
def popO (f : List (List Int × α)) (k : List Int) : Out (List (List Int × α)) := if hasT f k = true then .ok (dropT f k) else .stuck
theorem dropDs_T : ∀ (f : List (List Int × α)) (k : List Int), dropDs (f.map fun p => kT p.1) (f.map fun p => c p.2) (kT k) = ((dropT f k).map fun p => kT p.1, (dropT f k).map fun p => c p.2)
  | [], k => rfl
  | p :: r, k => by
    rw [List.map_cons, List.map_cons, dropDs, dropT, dropDs_T r k]
    by_cases h : p.1 = k
    · rw [if_pos (by rw [h]), if_pos h]
    · rw [if_neg (fun e => h (kT_inj e)), if_neg h]; rfl
theorem ts_pop {kk : List (List Int × α) → Out τ} (hi : i < n) (h : Γ i = some (mDT c F)) (q : TP n Γ cT f k) (r : ∀ ys, TS n (up Γ i (mDT c ys)) s (kk ys) P) : TS n Γ (sSeq (sPop i f) s) ((popO F k).bind kk) P := fun ρ A => by
  unfold popO
  split
  · rename_i z
    have e1 : sSeq (sPop i f) s ρ = s (ρ.set i (some (mDT c (dropT F k)))) := by
      unfold sSeq sPop
      rw [A.kn i _ h]
      dsimp only
      rw [datsOf_T]
      dsimp only
      rw [q ρ A, bind_ok, tkOf_T]
      dsimp only
      rw [lookD_T, if_pos (by rw [Option.isSome_map]; exact z), dropDs_T]
      dsimp only
      rw [List.map_map]
      rfl
    show OS _ (kk (dropT F k)) _
    rw [e1]
    exact r _ _ (A.set hi _)
  · exact trivial
theorem tp_dic0 {c : α → D} : TP n Γ (mDT c) dicT0 [] := fun ρ A => rfl
theorem tx_disp {f g : Rn → Out D} (p : TX n Γ cT f sk) (q : TX n Γ c g sd) : TX n Γ (mDT c) (dispM f g) (sk.bind fun k => sd.bind fun v => .ok [(k, v)]) := fun ρ A => by
  unfold dispM
  refine (p ρ A).bind fun k => (q ρ A).bind fun v => ?_
  rw [tkOf_T]
  exact rfl
theorem tp_disp {f g : Rn → Out D} (p : TP n Γ cT f k) (q : TP n Γ c g v) : TP n Γ (mDT c) (dispM f g) [(k, v)] := fun ρ A => tx_disp p.x q.x ρ A
end
end DA
set_option maxHeartbeats 4000000
/-! TD: keyed sorted and max, stores into lists, count, isinstance of own classes, try of an expression: typed -/
namespace DA
open PySem PySem.Spec PyProof.Rows L2
section
variable {α β γ τ σ : Type} {n i : Nat} {Γ : Gm}
/-! ### sorted, max by a key -/
def leT {α : Type} (b : Bool) (p q : α × List Int) : Bool := cond b (!HT.lexLt p.2 q.2) (!HT.lexLt q.2 p.2)
def sortT {α : Type} (b : Bool) (xs : List α) (ks : List (List Int)) : List α := ((xs.zip ks).mergeSort (leT b)).map (·.1)
theorem sortD_T {c : α → D} (b : Bool) (xs : List α) (ks : List (List Int)) : sortD b (xs.map c) ks = (sortT b xs ks).map c := by
  unfold sortD sortT
  have e : (xs.map c).zip ks = (xs.zip ks).map fun p => (c p.1, p.2) := by
    rw [List.zip_map_left]
    rfl
  rw [e, ← List.map_mergeSort (r := leT b) (f := fun p : α × List Int => (c p.1, p.2)) (fun a _ b' _ => rfl), List.map_map, List.map_map]
  rfl
/-- the keys of xs, none of them empty -/
def keysT {α : Type} (f : α → Out (List Int)) : List α → Out (List (List Int))
  | [] => .ok []
  | x :: xs => (f x).nx.bind fun k => match k with
    | [] => .stuck
    | a :: r => (keysT f xs).bind fun ks => .ok ((a :: r) :: ks)
theorem keysT_nx (f : α → Out (List Int)) : ∀ (xs : List α) (z : Str), keysT f xs ≠ .exc z
  | [], z => fun h => nomatch h
  | x :: xs, z => by
    unfold keysT
    cases f x with
    | stuck => exact fun h => nomatch h
    | exc y => exact fun h => nomatch h
    | ok k =>
      cases k with
      | nil => exact fun h => nomatch h
      | cons a r =>
        have ih := keysT_nx f xs
        show ((keysT f xs).bind _) ≠ _
        cases e : keysT f xs with
        | stuck => exact fun h => nomatch h
        | exc y => exact absurd e (ih y)
        | ok ks => exact fun h => nomatch h
theorem keysT_O {c : α → D} {f : α → Out (List Int)} {g : D → Out M} (h : ∀ x, Ag2 (mD cT) (f x) (g (c x))) : ∀ (xs : List α) (ks : List (List Int)), keysT f xs = .ok ks → keysO g (xs.map c) = some ks
  | [], ks, e => by
    cases e
    rfl
  | x :: xs, ks, e => by
    unfold keysT at e
    have hx := h x
    cases ef : f x with
    | stuck => rw [ef] at e; cases e
    | exc y => rw [ef] at e; cases e
    | ok k =>
      rw [ef] at e hx
      have hx : g (c x) = .ok (.dat (cT k)) := hx
      cases k with
      | nil => cases e
      | cons a r =>
        have e : (keysT f xs).bind (fun ks => Out.ok ((a :: r) :: ks)) = .ok ks := e
        cases e2 : keysT f xs with
        | stuck => rw [e2] at e; cases e
        | exc y => rw [e2] at e; cases e
        | ok ks2 =>
          rw [e2] at e
          cases e
          have q := keysT_O h xs ks2 e2
          have k1 : keyO g (c x) = some (a :: r) := by
            unfold keyO
            rw [hx]
            show (match intsOf (List.map D.int (a :: r)) with
              | some (n :: ns) => some (n :: ns)
              | _ => none) = _
            rw [intsOf_map]
          show ((keyO g (c x)).bind fun k => (keysO g (xs.map c)).map (k :: ·)) = _
          rw [k1, q]
          rfl
theorem tx_sortKD {c : α → D} {co : β → D} {m : Str} {tab : List (Str × (List D → Out M))} {b : Bool} {g go : Rn → Out D} {xs : List α} {o : β} {f : α → Out (List Int)} (hm : ∃ f', mtR m tab (co o) = .ok f') (p : TP n Γ (cL c) g xs) (po : TP n Γ co go o) (hf : ∀ x, Ag2 (mD cT) (f x) ((mtR m tab (co o)).nx.bind fun f' => f' [co o, c x])) :
    TX n Γ (cL c) (sortKD b m tab g go) ((keysT f xs).bind fun ks => .ok (sortT b xs ks)) := fun ρ A => by
  obtain ⟨f', hf'⟩ := hm
  have hf : ∀ x, Ag2 (mD cT) (f x) (f' [co o, c x]) := fun x => by
    have := hf x
    rw [hf'] at this
    exact this
  unfold sortKD
  rw [p ρ A, bind_ok]
  show Ag2 _ _ ((Out.ok (xs.map c)).bind _)
  rw [bind_ok, po ρ A, bind_ok, hf']
  show Ag2 _ _ ((optO (keysO (fun x => f' [co o, x]) (xs.map c))).bind _)
  cases e : keysT f xs with
  | stuck => exact trivial
  | exc z => exact absurd e (keysT_nx f xs z)
  | ok ks =>
    rw [keysT_O (g := fun x => f' [co o, x]) hf xs ks e]
    show Out.ok (D.lst (sortD b (xs.map c) ks)) = Out.ok (D.lst ((sortT b xs ks).map c))
    rw [sortD_T]
def bestT {α : Type} (xs : List α) (ks : List (List Int)) : Out α := match xs[argBest (bestI ks) (xs.length - 1)]? with
  | some d => .ok d
  | none => .stuck
theorem tx_maxKD {c : α → D} {co : β → D} {m : Str} {tab : List (Str × (List D → Out M))} {g go : Rn → Out D} {xs : List α} {o : β} {f : α → Out (List Int)} (hm : ∃ f', mtR m tab (co o) = .ok f') (p : TP n Γ (cL c) g xs) (po : TP n Γ co go o) (hf : ∀ x, Ag2 (mD cT) (f x) ((mtR m tab (co o)).nx.bind fun f' => f' [co o, c x])) :
    TX n Γ c (maxKD m tab g go) ((keysT f xs).bind fun ks => bestT xs ks) := fun ρ A => by
  obtain ⟨f', hf'⟩ := hm
  have hf : ∀ x, Ag2 (mD cT) (f x) (f' [co o, c x]) := fun x => by
    have := hf x
    rw [hf'] at this
    exact this
  unfold maxKD
  rw [p ρ A, bind_ok]
  show Ag2 _ _ ((Out.ok (xs.map c)).bind _)
  rw [bind_ok, po ρ A, bind_ok, hf']
  show Ag2 _ _ ((optO (keysO (fun x => f' [co o, x]) (xs.map c))).bind _)
  cases e : keysT f xs with
  | stuck => exact trivial
  | exc z => exact absurd e (keysT_nx f xs z)
  | ok ks =>
    rw [keysT_O (g := fun x => f' [co o, x]) hf xs ks e]
    show Ag2 c (bestT xs ks) (bestD (xs.map c) ks)
    unfold bestT bestD
    rw [List.length_map, List.getElem?_map]
    cases xs[argBest (bestI ks) (xs.length - 1)]? with
    | none => exact trivial
    | some x => exact rfl
/-! ### sorted, > of lists of ints -/
theorem flatKs_L : ∀ xs : List (List Int), flatKs false (xs.map (cL D.int)) = some xs
  | [] => rfl
  | x :: xs => by
    show ((flatK false (cL D.int x)).bind fun k => (flatKs false (xs.map (cL D.int))).map (k :: ·)) = _
    rw [flatKs_L xs]
    show ((intsOf (x.map D.int)).bind _) = _
    rw [intsOf_map]
    rfl
theorem sortFA_L (b : Bool) (xs : List (List Int)) : sortFA false b (cL (cL D.int) xs) = .ok (cL (cL D.int) (sortT b xs xs)) := by
  show (match flatKs false (xs.map (cL D.int)) with
    | some ks => Out.ok (D.lst (sortD b (xs.map (cL D.int)) ks))
    | none => .stuck) = _
  rw [flatKs_L]
  show Out.ok (D.lst (sortD b (xs.map (cL D.int)) xs)) = _
  rw [sortD_T]
  first | done | rfl
theorem op_gtLL : OpP (dGtF false) (cL D.int) (cL D.int) D.bl (fun a b => HT.lexLt b a) := fun a b => by
  show (match intsOf (a.map D.int), intsOf (b.map D.int) with
    | some k, some l => Out.ok (D.bl (HT.lexLt l k))
    | _, _ => .stuck) = _
  rw [intsOf_map, intsOf_map]
/-! ### count -/
def countT {α : Type} [DecidableEq α] (xs : List α) (x : α) : Int := ((xs.countP fun z => decide (z = x) : Nat) : Int)
theorem tp_count {α : Type} [DecidableEq α] {c : α → D} {pp : α → PyData} {k : Nat} {f g : Rn → Out D} {xs : List α} {x : α} (w : Pd c pp k) (p : TP n Γ (cL c) f xs) (q : TP n Γ c g x) (hk : k ≤ 30 := by decide) : TP n Γ D.int (countD f g) (countT xs x) := fun ρ A => by
  unfold countD
  rw [p ρ A, bind_ok]
  show ((Out.ok (xs.map c)).bind _) = _
  rw [bind_ok, q ρ A, bind_ok]
  have e1 : toP (cL c xs) = some (.list (xs.map pp)) := by
    rw [cL, toP, pds_to w]
    rfl
  have e2 : PyData.plainAll (xs.map pp) = true := by
    have := PyData.plain_of_canLay0 (.list (xs.map pp)) (pds_lay w xs)
    exact this
  have e3 : (pp x).plain = true := PyData.plain_of_canLay0 _ (w.lay x)
  have e4 : PyData.depthAll (xs.map pp) ≤ 30 := Nat.le_trans (pds_dep w xs) hk
  show (dCount (cL c xs) (c x)).nx = _
  unfold dCount
  rw [e1, w.to x]
  dsimp only
  rw [if_pos (by rw [e2, e3, decide_eq_true e4]; rfl), List.countP_map]
  unfold countT
  have e5 : ((fun z => PyData.eqv z (pp x)) ∘ pp) = fun z => decide (z = x) := funext fun z => w.ev z x
  rw [e5]
  rfl
/-! ### xs[i] = v -/
def setO {α : Type} (xs : List α) (k : Int) (v : α) : Out (List α) := match ixN xs.length k with
  | some j => .ok (xs.set j v)
  | none => .stuck
theorem datsOf_map : ∀ ds : List D, datsOf (ds.map M.dat) = some ds
  | [] => rfl
  | d :: ds => by
    show (datsOf (ds.map M.dat)).map (d :: ·) = _
    rw [datsOf_map ds]
    rfl
variable {s : Rn → SOut} {f g : Rn → Out D} {P : τ → Fl × Rn → Prop} {c : α → D} {sk : Out Int} {sd : Out α} {F : List α}
theorem ts_putLX {kk : List α → Out τ} (hi : i < n) (h : Γ i = some (mL c F)) (q : TX n Γ D.int f sk) (p : TX n Γ c g sd) (r : ∀ ys, TS n (up Γ i (mL c ys)) s (kk ys) P) : TS n Γ (sSeq (sPutL i f g) s) (sd.bind fun v => sk.bind fun k => (setO F k v).bind kk) P := fun ρ A => by
  have qp := p ρ A
  have qq := q ρ A
  have e0 : sPutL i f g ρ = (g ρ).bind fun d => (f ρ).bind fun y => match y with
      | .int n => (match ixN (F.map c).length n with
        | some j => .ok (.nx, ρ.set i (some (.lst (((F.map c).set j d).map .dat))))
        | none => .stuck)
      | _ => .stuck := by
    unfold sPutL
    rw [A.kn i _ h]
    show (match datsOf (List.map (fun x => M.dat (c x)) F) with
      | some ds => _
      | none => _) = _
    rw [show List.map (fun x => M.dat (c x)) F = (F.map c).map M.dat from by rw [List.map_map]; rfl, datsOf_map]
    all_goals rfl
  cases sd with
  | stuck => exact trivial
  | exc x =>
    show sSeq (sPutL i f g) s ρ = _
    unfold sSeq
    rw [e0, show g ρ = .exc x from qp]; rfl
  | ok v =>
    cases sk with
    | stuck => exact trivial
    | exc x =>
      show sSeq (sPutL i f g) s ρ = _
      unfold sSeq
      rw [e0, show g ρ = .ok (c v) from qp, bind_ok, show f ρ = .exc x from qq]; rfl
    | ok k =>
      show OS _ ((setO F k v).bind kk) _
      unfold setO
      cases ej : ixN F.length k with
      | none => exact trivial
      | some j =>
        have e1 : sSeq (sPutL i f g) s ρ = s (ρ.set i (some (mL c (F.set j v)))) := by
          unfold sSeq
          rw [e0, show g ρ = .ok (c v) from qp, bind_ok, show f ρ = .ok (.int k) from qq, bind_ok]
          dsimp only
          rw [List.length_map, ej]
          dsimp only
          rw [← List.map_set, List.map_map]
          rfl
        rw [e1]
        exact r (F.set j v) _ (A.set hi _)
theorem ts_putL {kk : List α → Out τ} {k : Int} {v : α} (hi : i < n) (h : Γ i = some (mL c F)) (q : TP n Γ D.int f k) (p : TP n Γ c g v) (r : ∀ ys, TS n (up Γ i (mL c ys)) s (kk ys) P) : TS n Γ (sSeq (sPutL i f g) s) ((setO F k v).bind kk) P := ts_putLX hi h q.x p.x r
/-! ### try: f(..); except C: .. -/
theorem ts_tryE {nm : Str} {te : Out α} {h : Out σ} {z : σ} {r : σ → Out τ} {m : α → M} {fm : Rn → Out M} {s1 : Rn → SOut} {vs : List Nat} {st : σ → List (Nat × M)} (p : TX n Γ m fm te) (hk : HasL (st z) Γ) (hh : TS n Γ s1 h (PN n (GS vs Γ st))) (hr : ∀ z, TS n (GS vs Γ st z) s (r z) P) :
    TS n Γ (sSeq (sTryE nm s1 fm) s) ((tryT nm te (fun _ => z) h).bind r) P := by
  refine ts_seq (G := GS vs Γ st) (fun ρ A => ?_) hr
  have q := p ρ A
  unfold sTryE tryT
  cases te with
  | stuck => exact trivial
  | exc x =>
    rw [show fm ρ = .exc x from q]
    dsimp only
    cases List.contains exNames x with
    | false => exact trivial
    | true =>
      simp only [if_true]
      cases subE x nm with
      | false => exact rfl
      | true =>
        simp only [if_true]
        have z := hh ρ A
        cases h with
        | stuck => exact trivial
        | exc y => exact trivial
        | ok w =>
          obtain ⟨pp, e, pn⟩ := z
          refine ⟨pp, ?_, pn⟩
          rw [e]; rfl
  | ok v =>
    rw [show fm ρ = .ok (m v) from q]
    exact ⟨_, rfl, rfl, A.sub (sub_gs hk sub_drop)⟩
theorem tp_lofM {c : α → D} {g : Rn → Out (List D)} {xs : List α} (p : TP n Γ (cL c) (calD dListOf g) xs) : TP n Γ (mL c) (lofM g) xs := fun ρ A => by
  rw [lofM_eq, p ρ A, bind_ok]
  show Out.ok (M.lst ((xs.map c).map .dat)) = Out.ok (M.lst (xs.map fun x => .dat (c x)))
  rw [List.map_map]
  rfl
theorem tx_lofM {c : α → D} {g : Rn → Out (List D)} {t : Out (List α)} (p : TX n Γ (cL c) (calD dListOf g) t) : TX n Γ (mL c) (lofM g) t := fun ρ A => by
  have q := p ρ A
  rw [lofM_eq]
  cases t with
  | stuck => exact trivial
  | exc z => rw [show calD dListOf g ρ = .exc z from q]; exact rfl
  | ok xs =>
    rw [show calD dListOf g ρ = .ok (cL c xs) from q, bind_ok]
    show Out.ok (M.lst ((xs.map c).map .dat)) = Out.ok (M.lst (xs.map fun x => .dat (c x)))
    rw [List.map_map]
    rfl
theorem tx_count {α : Type} [DecidableEq α] {c : α → D} {pp : α → PyData} {k : Nat} {f g : Rn → Out D} {xs : List α} {t : Out α} (w : Pd c pp k) (p : TP n Γ (cL c) f xs) (q : TX n Γ c g t) (hk : k ≤ 30 := by decide) : TX n Γ D.int (countD f g) (t.bind fun x => .ok (countT xs x)) := fun ρ A => by
  have qq := q ρ A
  cases t with
  | stuck => exact trivial
  | exc z =>
    unfold countD
    rw [p ρ A, bind_ok]
    show ((Out.ok (xs.map c)).bind _) = _
    rw [bind_ok, show g ρ = .exc z from qq]
    rfl
  | ok x =>
    have := tp_count (Γ := Γ) (n := n) (g := fun _ => .ok (c x)) w p (fun _ _ => rfl) hk ρ A
    unfold countD at this ⊢
    rw [p ρ A, bind_ok] at this ⊢
    rw [show g ρ = .ok (c x) from qq]
    exact this
/-! ### C(..) of a borrowed list -/
theorem er_objM : ∀ d : D, M.er (objM d) = d
  | .obj C fs ds => by
    show M.er (.obj C fs (ds.map .dat)) = _
    rw [M.er, ers_dats]
  | .non => rfl
  | .bl _ => rfl
  | .int _ => rfl
  | .str _ => rfl
  | .tup _ => rfl
  | .lst _ => rfl
  | .dic _ _ => rfl
  | .dik _ _ => rfl
  | .loc _ => rfl
def mO {α : Type} (e : α → D) (a : α) : M := objM (e a)
theorem er_o {α : Type} {e : α → D} : Er (mO e) e := fun a => er_objM (e a)
theorem tx_newM {α : Type} {e : α → D} {C : Str} {d : Addr → List D → Out Ac} {g : Rn → Out (List D)} {t : Out α} (p : TX n Γ e (newF C d g) t) : TX n Γ (mO e) (newM C d g) t := fun ρ A => by
  have q := p ρ A
  have e0 : newM C d g ρ = (newF C d g ρ).map objM := by
    unfold newM newF
    cases g ρ <;> rfl
  rw [e0]
  cases t with
  | stuck => exact trivial
  | exc z => rw [show newF C d g ρ = .exc z from q]; exact rfl
  | ok a => rw [show newF C d g ρ = .ok (e a) from q]; exact rfl
theorem tp_newO {α : Type} {e : α → D} {a : α} {C : Str} (h : e a = .obj C [] [] := by rfl) : TP n Γ (mO e) (newO C) a := fun ρ A => by
  unfold newO mO
  rw [h]
  rfl
theorem immo_ORD (o : Od) : immM (mO cOrd o) = true := by
  cases o with
  | lex => rfl
  | deg => rfl
  | tail => rfl
  | wei w =>
    show immMs [.dat (cT w)] = true
    rw [immMs, immM, imm_T]
    rfl
def pO {α : Type} (p : α → PyData) : Option α → PyData
  | none => .none
  | some a => p a
theorem pd_O {α : Type} [DecidableEq α] {c : α → D} {p : α → PyData} {k : Nat} (w : Pd c p k) (h : ∀ a, PyData.eqv .none (p a) = false ∧ PyData.eqv (p a) .none = false) : Pd (cO c) (pO p) k :=
  ⟨fun o => by cases o <;> first | rfl | exact w.to _, fun o => by cases o <;> first | rfl | exact w.lay _, fun o => by cases o <;> first | exact Nat.zero_le _ | exact w.dep _, fun a b => by
    cases a with
    | none => cases b with
      | none => rfl
      | some b => exact (h b).1
    | some a => cases b with
      | none => exact (h a).2
      | some b => show PyData.eqv (p a) (p b) = _; rw [w.ev]; simp⟩
theorem pd_OT : Pd (cO cT) (pO fun xs => PyData.tuple (xs.map PyData.int)) 1 := pd_O pd_T fun _ => ⟨rfl, rfl⟩
theorem ox_catL {α : Type} {c : α → D} : OpX dCatL (cL c) (cL c) (cL c) catO := fun a b => by
  unfold catO
  split
  · rename_i h
    have k : (a.map c).length + (b.map c).length ≤ sizeLine := by
      rw [List.length_map, List.length_map]
      exact Nat.le_trans h (by decide)
    show ((if _ then _ else _ : Out D)).nx = _
    rw [if_pos k, cL, List.map_append]
    rfl
  · exact trivial
end
end DA
set_option maxHeartbeats 4000000
/-! TE: dicts typed: ==, len, list, isinstance, dict(d), clear -/
namespace DA
open PySem PySem.Spec PyProof.Rows L2
section
variable {α τ : Type} {n i : Nat} {Γ : Gm} {c : α → D} {p : α → PyData} {kk : Nat}
/-- the same keys with the same values -/
def eqTd {α : Type} [DecidableEq α] (f g : List (List Int × α)) : Bool := decide (f.length = g.length) && f.all fun q => decide (lookT g q.1 = some q.2)
theorem eqv1_pd [DecidableEq α] (w : Pd c p kk) (hk : kk ≤ 30) (a b : α) : eqv1 (c a) (c b) = some (decide (a = b)) := by
  unfold eqv1
  rw [w.to a, w.to b]
  dsimp only
  rw [if_pos (by rw [PyData.plain_of_canLay0 _ (w.lay a), PyData.plain_of_canLay0 _ (w.lay b), decide_eq_true (Nat.le_trans (w.dep a) hk)]; rfl), w.ev]
theorem eqDs_T [DecidableEq α] (w : Pd c p kk) (hk : kk ≤ 30) (g : List (List Int × α)) : ∀ f : List (List Int × α), eqDs (g.map fun q => kT q.1) (g.map fun q => c q.2) (f.map fun q => kT q.1) (f.map fun q => c q.2) = some (f.all fun q => decide (lookT g q.1 = some q.2))
  | [] => rfl
  | q :: f => by
    rw [List.map_cons, List.map_cons, eqDs, lookD_T, List.all_cons]
    cases h : lookT g q.1 with
    | none => simp
    | some x =>
      rw [Option.map_some]
      dsimp only
      rw [eqv1_pd w hk, eqDs_T w hk g f]
      simp [eq_comm]
theorem eqDic_T [DecidableEq α] (w : Pd c p kk) (hk : kk ≤ 30) (f g : List (List Int × α)) : eqDic (cDT c f) (cDT c g) = some (eqTd f g) := by
  show (if (f.map fun q => kT q.1).length = (g.map fun q => kT q.1).length then _ else _) = _
  rw [List.length_map, List.length_map]
  unfold eqTd
  by_cases h : f.length = g.length
  · rw [if_pos h, decide_eq_true h, Bool.true_and]
    exact eqDs_T w hk g f
  · rw [if_neg h, decide_eq_false h, Bool.false_and]
theorem op_eqT' [DecidableEq α] (w : Pd c p kk) (hk : kk ≤ 30 := by decide) : OpP dEqT (cDT c) (cDT c) D.bl eqTd := fun f g => by
  unfold dEqT
  rw [eqDic_T w hk]
theorem op_neT' [DecidableEq α] (w : Pd c p kk) (hk : kk ≤ 30 := by decide) : OpP dNeT (cDT c) (cDT c) D.bl (fun f g => !eqTd f g) := fun f g => by
  unfold dNeT
  rw [eqDic_T w hk]
theorem len_DT (f : List (List Int × α)) : dLenT [cDT c f] = .ok (.int f.length) := by
  show Out.ok (D.int ((f.map fun q => kT q.1).length : Nat)) = _
  rw [List.length_map]
theorem keyD_T (t : List Int) : keyD (kT t) = cT t := by
  show D.tup ((t.map Sum.inl).map kD) = D.tup (t.map D.int)
  rw [List.map_map]
  rfl
theorem list_DT (f : List (List Int × α)) : dListT [cDT c f] = .ok (cL cT (f.map (·.1))) := by
  show Out.ok (D.lst ((f.map fun q => kT q.1).map keyD)) = Out.ok (D.lst ((f.map (·.1)).map cT))
  rw [List.map_map, List.map_map]
  congr 2
  refine List.map_congr_left fun q _ => ?_
  exact keyD_T q.1
theorem isi_dict_DT (f : List (List Int × α)) : isiTd "dict" (cDT c f) = .ok (.bl true) := by
  show (match kitB "dict" "dict" with
    | some b => Out.ok (D.bl b)
    | none => .stuck) = _
  rw [show kitB "dict" "dict" = some true from by decide +kernel]
theorem isi_tuple_DT (f : List (List Int × α)) : isiTd "tuple" (cDT c f) = .ok (.bl false) := by
  show (match kitB "dict" "tuple" with
    | some b => Out.ok (D.bl b)
    | none => .stuck) = _
  rw [show kitB "dict" "tuple" = some false from by decide +kernel]
/-! ### dict(f) -/
def hashT (t : List Int) : Int := hashI (kT t)
theorem allI_T (t : List Int) : allI (kT t) = true := by
  unfold allI kT
  rw [List.all_map, List.all_eq_true]
  exact fun _ _ => rfl
/-- a copy: only where no two keys hash alike -/
def dicO {α : Type} (f : List (List Int × α)) : Out (List (List Int × α)) := if (f.map fun q => hashT q.1).Nodup then .ok f else .stuck
theorem dicM_T (f : List (List Int × α)) : Ag2 (mDT c) (dicO f) (dicM (cDT c f)) := by
  unfold dicO
  split
  · rename_i h
    show (if (f.map fun q => kT q.1).all allI = true ∧ ((f.map fun q => kT q.1).map hashI).Nodup then Out.ok (M.dic (f.map fun q => kT q.1) ((f.map fun q => c q.2).map .dat)) else .stuck) = _
    rw [if_pos ⟨by rw [List.all_map, List.all_eq_true]; exact fun q _ => allI_T q.1, by rw [List.map_map]; exact h⟩, List.map_map]
    rfl
  · exact trivial
variable {s : Rn → SOut} {f g : Rn → Out D} {P : τ → Fl × Rn → Prop} {F : List (List Int × α)} {sF : Out (List (List Int × α))}
theorem tx_dictM (q : TP n Γ (cDT c) f F) : TX n Γ (mDT c) (dictM f) (dicO F) := fun ρ A => by
  unfold dictM
  rw [q ρ A, bind_ok]
  exact dicM_T F
theorem tx_dictX (q : TX n Γ (cDT c) f sF) : TX n Γ (mDT c) (dictM f) (sF.bind dicO) := fun ρ A => (q ρ A).bind fun a => dicM_T a
/-! ### d.clear() -/
theorem ts_clear {k : Out τ} (hi : i < n) (h : Γ i = some (mDT c F)) (r : TS n (up Γ i (mDT c [])) s k P) : TS n Γ (sSeq (sClear i) s) k P := fun ρ A => by
  have e1 : sSeq (sClear i) s ρ = s (ρ.set i (some (mDT c []))) := by
    unfold sSeq sClear
    rw [A.kn i _ h]
    dsimp only [mDT]
    rw [datsOf_T]
    all_goals rfl
  rw [e1]
  exact r _ (A.set hi _)
/-- == of texts, where the model tells it -/
def eqS (a b : Str) : Out Bool := if (PyData.str a).canLay0 && (PyData.str b).canLay0 then .ok (decide (a = b)) else .stuck
theorem sh_S {a : Str} (h : (PyData.str a).canLay0 = true) : SeqAt.shaped (.str a) = true := by
  unfold SeqAt.shaped
  rw [h]
  rfl
theorem ox_eqS : OpX dEq D.str D.str D.bl eqS := fun a b => by
  unfold eqS
  split
  · rename_i h
    obtain ⟨h1, h2⟩ := Bool.and_eq_true_iff.mp h
    have e : dEq (.str a) (.str b) = .ok (.bl (decide (a = b))) := by
      unfold dEq eqP
      simp only [toP, sh_S h1, sh_S h2, Bool.and_self, if_true, PyData.eqv]
      first
        | done
        | (congr 2; rw [Bool.eq_iff_iff]; simp; done)
        | (congr 2; done)
    rw [e]
    exact rfl
  · exact trivial
theorem ox_neS : OpX dNe D.str D.str D.bl (fun a b => (eqS a b).map (!·)) := fun a b => by
  unfold eqS
  show Ag2 _ (Out.map (fun x => !x) (if ((PyData.str a).canLay0 && (PyData.str b).canLay0) = true then Out.ok (decide (a = b)) else Out.stuck)) _
  split
  · rename_i h
    obtain ⟨h1, h2⟩ := Bool.and_eq_true_iff.mp h
    have e : dNe (.str a) (.str b) = .ok (.bl (!decide (a = b))) := by
      unfold dNe eqP
      simp only [toP, sh_S h1, sh_S h2, Bool.and_self, if_true, PyData.eqv]
      first
        | done
        | (congr 3; rw [Bool.eq_iff_iff]; simp; done)
        | (congr 3; done)
    rw [e]
    exact rfl
  · exact trivial
/-! ### a field, a method of what may fail -/
theorem tx_unaP {β γ : Type} {e1 : β → D} {e2 : γ → D} {h' : D → Out D} {r : β → γ} {f : Rn → Out D} {t : Out β} (o : ∀ a, h' (e1 a) = .ok (e2 (r a))) (q : TX n Γ e1 f t) : TX n Γ e2 (una h' f) (t.bind fun v => .ok (r v)) := fun ρ A => by
  have z := q ρ A
  unfold una
  cases t with
  | stuck => exact trivial
  | exc x => rw [show f ρ = .exc x from z]; exact rfl
  | ok a =>
    rw [show f ρ = .ok (e1 a) from z]
    show Ag2 e2 (Out.ok (r a)) ((h' (e1 a)).nx)
    rw [o a]
    exact rfl
theorem tx_mtR {β γ : Type} {e : γ → M} {c : β → D} {m : Str} {tab : List (Str × (List D → Out M))} {g : Rn → Out D} {ga : Rn → Out (List D)} {sb : Out β} {ds : List D} {k : β → Out γ} (p : TX n Γ c g sb) (r : TPA n Γ ga ds) (h : ∀ b, Ag2 e (k b) ((mtR m tab (c b)).nx.bind fun f => f (c b :: ds))) : TX n Γ e (mtC m tab g ga) (sb.bind k) := fun ρ A => by
  have z := p ρ A
  cases sb with
  | stuck => exact trivial
  | exc x =>
    unfold mtC
    rw [show g ρ = .exc x from z]
    exact rfl
  | ok b =>
    have q := tx_mtP (n := n) (Γ := Γ) (g := fun _ => .ok (c b)) (ga := ga) (b := b) (fun _ _ => rfl) r (h b) ρ A
    unfold mtC at q ⊢
    rw [show g ρ = .ok (c b) from z]
    exact q
/-! ### loops over dicts -/
theorem tp_itKeys {f : Rn → Out D} {F : List (List Int × α)} (q : TP n Γ (cDT c) f F) : TP n Γ (List.map cT) (itKeys f) (F.map (·.1)) := fun ρ A => by
  unfold itKeys
  rw [q ρ A, bind_ok]
  show Out.ok ((F.map fun q => kT q.1).map keyD) = Out.ok ((F.map (·.1)).map cT)
  rw [List.map_map, List.map_map]
  congr 1
  exact List.map_congr_left fun q _ => keyD_T q.1
theorem tp_itItems {f : Rn → Out D} {F : List (List Int × α)} (q : TP n Γ (cDT c) f F) : TP n Γ (List.map (cA2 cT c)) (itItems f) F := fun ρ A => by
  unfold itItems
  rw [q ρ A, bind_ok]
  show Out.ok (List.zipWith (fun k d => D.tup [keyD k, d]) (F.map fun q => kT q.1) (F.map fun q => c q.2)) = Out.ok (F.map (cA2 cT c))
  congr 1
  rw [List.zipWith_map, List.zipWith_self]
  all_goals first
    | done
    | (refine List.map_congr_left fun q _ => ?_; rw [keyD_T]; rfl)
    | (refine List.map_congr_left fun q _ => ?_; rw [keyD_T])
theorem ts_noX {σ : Type} {s : Rn → SOut} {t : Out σ} {P : σ → Fl × Rn → Prop} (h : TS n Γ s t P) : TS n Γ (fun ρ => noX (s ρ)) t.nx P := fun ρ A => by
  have q := h ρ A
  cases t with
  | stuck => exact trivial
  | exc x => exact trivial
  | ok z =>
    obtain ⟨pp, e, pn⟩ := q
    exact ⟨pp, by show noX (s ρ) = _; rw [e]; rfl, pn⟩
theorem nx_eq {α : Type} {t : Out α} {z : α} (h : t.nx = .ok z) : t = .ok z := by
  cases t with
  | stuck => cases h
  | exc x => cases h
  | ok a => exact h
section
variable {β R σ τ' : Type} {e1 : β → D} {fi : Rn → Out (List D)} {g : D → Rn → Out Rn} {bnd : β → Gm → Gm} {b s : Rn → SOut} {st : σ → List (Nat × M)} {vs : List Nat} {z : σ}
theorem ts_forCDG {e : R → M} {tb : σ → β → Out (Ct R σ)} {xs : List β} {k : σ → Out R} (hi : TP n Γ (List.map e1) fi xs) (w : HasL (st z) Γ) (hg : TG n g e1 bnd) (hb : ∀ z x, TS n (bnd x (GS vs Γ st z)) b (tb z x) (PC n (GS vs Γ st) e)) (h : ∀ z, TS n (GS vs Γ st z) s (k z) (PR e)) :
    TS n Γ (sSeq (sForD fi g b) s) ((forC tb xs z).nx.bind fun c => thenC c k) (PR e) := ts_cC (ts_noX (ts_forC0 (G := GS vs Γ st) hi (sub_gs w sub_drop) hg hb)) (fun c hc => forC_nx xs z c (nx_eq hc)) h
theorem ts_forCCDG {σ' : Type} {G' : σ' → Gm} {e : R → M} {tb : σ → β → Out (Ct R σ)} {xs : List β} {k : σ → Out (Ct R σ')} (hi : TP n Γ (List.map e1) fi xs) (w : HasL (st z) Γ) (hg : TG n g e1 bnd) (hb : ∀ z x, TS n (bnd x (GS vs Γ st z)) b (tb z x) (PC n (GS vs Γ st) e)) (h : ∀ z, TS n (GS vs Γ st z) s (k z) (PC n G' e)) :
    TS n Γ (sSeq (sForD fi g b) s) ((forC tb xs z).nx.bind fun c => thenCC c k) (PC n G' e) := ts_cCC (ts_noX (ts_forC0 (G := GS vs Γ st) hi (sub_gs w sub_drop) hg hb)) (fun c hc => forC_nx xs z c (nx_eq hc)) h
end
theorem tx_tupRg2 {f g : Rn → Out D} {i j : Int} (h : TP n Γ D.int f i) (q : TP n Γ D.int g j) : TX n Γ cT (rg2 .tup f g) (rgO i j) := fun ρ A => by
  unfold rg2
  rw [h ρ A, bind_ok, q ρ A, bind_ok]
  unfold rgO
  split
  · rename_i z
    have ok : RgOk i j := by
      obtain ⟨h1, h2, h3, h4, h5⟩ := z
      unfold RgOk
      omega
    show (if RgOk i j then Out.ok (D.tup (rangeL i j)) else .stuck) = _
    rw [if_pos ok, rangeL_rg]
    all_goals rfl
  · exact trivial
def slSO (x : Str) (lo hi : Option Int) : Out Str := if x.length ≤ sizeLine then .ok (cutS x lo hi) else .stuck
theorem tx_slS {f : Rn → Out D} {x : Str} {l h : Rn → Out (Option Int)} {lo hi : Option Int} (q0 : TP n Γ D.str f x) (q : TP n Γ id l lo) (r : TP n Γ id h hi) : TX n Γ D.str (slSD f l h) (slSO x lo hi) := fun ρ A => by
  unfold slSD
  rw [q0 ρ A, bind_ok, q ρ A, bind_ok, r ρ A, bind_ok]
  unfold slSO
  show Ag2 _ _ ((if x.length ≤ sizeLine then Out.ok (D.str (cutS x lo hi)) else .stuck).nx)
  split
  · exact rfl
  · exact trivial
end
end DA
set_option maxHeartbeats 4000000
/-! TM: plain laws of the typed forms -/
namespace DA
open PySem PySem.Spec PyProof.Rows L2
section
variable {α β γ R σ : Type}
theorem mapO_ok {f : α → Out β} {g : α → β} : ∀ {xs : List α}, (∀ x ∈ xs, f x = .ok (g x)) → mapO f xs = .ok (xs.map g)
  | [], _ => rfl
  | x :: xs, h => by
    unfold mapO
    rw [h x (List.mem_cons_self ..), bind_ok, mapO_ok (xs := xs) fun y hy => h y (List.mem_cons_of_mem _ hy)]
    rfl
theorem nx_ok {a : α} : (Out.ok a).nx = .ok a := rfl
theorem mapN_ok {f : α → Out β} {g : α → β} {xs : List α} (h : ∀ x ∈ xs, f x = .ok (g x)) : (mapO (fun x => (f x).nx) xs).nx = .ok (xs.map g) := by
  rw [mapO_ok (g := g) fun x hx => by rw [h x hx]; rfl]
  rfl
/-- as mapN_ok, the values told one by one -/
theorem mapN_ex {f : α → Out β} {P : α → β → Prop} : ∀ {xs : List α}, (∀ x ∈ xs, ∃ y, f x = .ok y ∧ P x y) → ∃ ys, (mapO (fun x => (f x).nx) xs).nx = .ok ys ∧ ys.length = xs.length ∧ (∀ y ∈ ys, ∃ x ∈ xs, f x = .ok y ∧ P x y)
  | [], _ => ⟨[], rfl, rfl, fun y hy => by cases hy⟩
  | x :: xs, h => by
    obtain ⟨y, e, p⟩ := h x (List.mem_cons_self ..)
    obtain ⟨ys, e2, l, q⟩ := mapN_ex (xs := xs) fun z hz => h z (List.mem_cons_of_mem _ hz)
    refine ⟨y :: ys, ?_, by simp [l], fun z hz => ?_⟩
    · unfold mapO
      rw [e]
      cases em : mapO (fun x => (f x).nx) xs with
      | stuck => rw [em] at e2; cases e2
      | exc n => rw [em] at e2; cases e2
      | ok ws =>
        rw [em] at e2
        have : ws = ys := by
          have e2 : Out.ok ws = .ok ys := e2
          injection e2
        subst this
        rfl
    · rcases List.mem_cons.mp hz with rfl | hz
      · exact ⟨x, List.mem_cons_self .., e, p⟩
      · obtain ⟨x', hx', r⟩ := q z hz
        exact ⟨x', List.mem_cons_of_mem _ hx', r⟩
/-- a loop without a state whose every turn falls through -/
theorem forC_ok {b : σ → α → Out (Ct R σ)} {z : σ} : ∀ {xs : List α}, (∀ x ∈ xs, b z x = .ok (.nx z)) → forC b xs z = .ok (.nx z)
  | [], _ => rfl
  | x :: xs, h => by
    unfold forC
    rw [h x (List.mem_cons_self ..), bind_ok]
    exact forC_ok fun y hy => h y (List.mem_cons_of_mem _ hy)
theorem mulO_ok {a b : Int} (h : MulC a b) : mulO a b = .ok (a * b) := if_pos h
theorem mulO_r {a b : Int} (h : b.natAbs < 2 ^ 64) : mulO a b = .ok (a * b) := if_pos (mulC_right h)
theorem mulO_l {a b : Int} (h : a.natAbs < 2 ^ 64) : mulO a b = .ok (a * b) := if_pos (mulC_left h)
theorem modO_pos {a b : Int} (h : 0 < b) : modO a b = .ok (a % b) := by
  unfold modO
  rw [if_neg (by omega), Int.fmod_eq_emod_of_nonneg a (Int.le_of_lt h)]
theorem divO_pos {a b : Int} (h : 0 < b) (h2 : b.natAbs < 2 ^ 9000) : divO a b = .ok (a / b) := by
  unfold divO
  rw [if_pos (divC_of (by omega) h2), Int.fdiv_eq_ediv_of_nonneg a (Int.le_of_lt h)]
theorem catO_ok {xs ys : List α} (h : xs.length + ys.length ≤ 1000000) : catO xs ys = .ok (xs ++ ys) := if_pos h
theorem rgO_nat (n : Nat) (h : n ≤ 10000000) : rgO 0 (n : Int) = .ok ((List.range n).map fun (k : Nat) => (k : Int)) := by
  unfold rgO
  rw [if_pos ⟨by decide, by decide, by omega, by omega, by omega⟩]
  congr 1
  unfold rgI
  rw [show ((n : Int) - 0).toNat = n by omega]
  refine List.map_congr_left fun k _ => ?_
  omega
theorem rgO_to {i : Int} {n : Nat} (e : i = n) (h : n ≤ 10000000) : rgO 0 i = .ok ((List.range n).map fun (k : Nat) => (k : Int)) := by rw [e]; exact rgO_nat n h
theorem ixN_nat {n k : Nat} (h : k < n) : ixN n (k : Int) = some k := by
  unfold ixN
  rw [if_pos (by omega), if_pos (by omega)]
  congr 1
theorem ixL_nat {xs : List α} {k : Nat} {x : α} (h : xs[k]? = some x) : ixL xs (k : Int) = .ok x := by
  have hk : k < xs.length := (List.getElem?_eq_some_iff.mp h).1
  unfold ixL atI
  rw [ixN_nat hk]
  show (match xs[k]? with | some x => Out.ok x | none => .stuck) = _
  rw [h]
/-- xs[k - 1], also where k is 0 -/
theorem ixL_pred {xs : List α} {k : Nat} (h : k < xs.length) : ∃ j x, j < xs.length ∧ xs[j]? = some x ∧ ∀ {ys : List β} {y : β}, ys.length = xs.length → ys[j]? = some y → ixL xs ((k : Int) - 1) = .ok x ∧ ixL ys ((k : Int) - 1) = .ok y := by
  have h0 : 0 < xs.length := by omega
  have key : ∃ j, j < xs.length ∧ ixN xs.length ((k : Int) - 1) = some j := by
    by_cases z : k = 0
    · subst z
      refine ⟨xs.length - 1, by omega, ?_⟩
      unfold ixN
      rw [if_neg (by omega), if_pos (by omega)]
      congr 1
      omega
    · refine ⟨k - 1, by omega, ?_⟩
      have e : ((k : Int) - 1) = ((k - 1 : Nat) : Int) := by omega
      rw [e]
      exact ixN_nat (by omega)
  obtain ⟨j, hj, e⟩ := key
  refine ⟨j, xs[j], hj, List.getElem?_eq_getElem hj, fun {ys y} hl hy => ⟨?_, ?_⟩⟩
  · unfold ixL atI
    rw [e]
    show (match xs[j]? with | some x => Out.ok x | none => .stuck) = _
    rw [List.getElem?_eq_getElem hj]
  · unfold ixL atI
    rw [hl, e]
    show (match ys[j]? with | some x => Out.ok x | none => .stuck) = _
    rw [hy]
theorem setO_nat {xs : List α} {k : Nat} {v : α} (h : k < xs.length) : setO xs (k : Int) v = .ok (xs.set k v) := by
  unfold setO
  rw [ixN_nat h]
/-- data back from its typed form -/
theorem law_of {d : List D → Out M} {t : Out Bool} {ds : List D} (h : Ag2 (mD D.bl) t (d ds)) (e : t = .ok true) : d ds = .ok (.dat (.bl true)) := by
  rw [e] at h
  exact h
/-! ### lists of ints, in their order -/
theorem lx_irr (a : List Int) : HT.lexLt a a = false := by rw [← kt_lt]; exact PyProof.Rows.lex_irrefl _
theorem lx_neg {a b c : List Int} (h : HT.lexLt a c = true) : HT.lexLt a b = true ∨ HT.lexLt b c = true := by
  rw [← kt_lt] at h
  rw [← kt_lt, ← kt_lt]
  exact PyProof.Rows.lex_negTrans _ _ _ h
theorem lx_trans {a b c : List Int} (h : HT.lexLt a b = true) (g : HT.lexLt b c = true) : HT.lexLt a c = true := by
  rw [← kt_lt] at h g
  rw [← kt_lt]
  exact PyProof.Rows.lex_trans _ _ _ h g
theorem lx_eq : ∀ {a b : List Int}, HT.lexLt a b = false → HT.lexLt b a = false → a = b
  | [], [], _, _ => rfl
  | [], _ :: _, h, _ => by cases h
  | _ :: _, [], _, h => by cases h
  | x :: a, y :: b, h, g => by
    rw [HT.lexLt_cons] at h g
    by_cases z : x = y
    · subst z
      rw [if_pos rfl] at h g
      rw [lx_eq h g]
    · rw [if_neg z] at h
      rw [if_neg (fun e => z e.symm)] at g
      have h := of_decide_eq_false h
      have g := of_decide_eq_false g
      omega
/-- the best one: none is behind it -/
theorem best_max (ks : List (List Int)) : ∀ n j, j ≤ n → HT.lexLt (ks.getD (argBest (bestI ks) n) []) (ks.getD j []) = false
  | 0, j, h => by
    have : j = 0 := by omega
    subst this
    exact lx_irr _
  | n + 1, j, h => by
    unfold argBest
    have ih := best_max ks n
    cases z : bestI ks (n + 1) (argBest (bestI ks) n) with
    | true =>
      simp only [if_true]
      by_cases e : j = n + 1
      · subst e; exact lx_irr _
      · have hj := ih j (by omega)
        cases q : HT.lexLt (ks.getD (n + 1) []) (ks.getD j []) with
        | false => rfl
        | true =>
          have := lx_trans (show HT.lexLt (ks.getD (argBest (bestI ks) n) []) (ks.getD (n + 1) []) = true from z) q
          rw [hj] at this; cases this
    | false =>
      simp only [Bool.false_eq_true, if_false]
      by_cases e : j = n + 1
      · subst e; exact z
      · exact ih j (by omega)
theorem best_le (bt : Nat → Nat → Bool) : ∀ n, argBest bt n ≤ n
  | 0 => Nat.le_refl _
  | n + 1 => by
    unfold argBest
    split
    · exact Nat.le_refl _
    · exact Nat.le_succ_of_le (best_le bt n)
theorem leT_trans (b : Bool) (p q r : α × List Int) (h : leT b p q = true) (g : leT b q r = true) : leT b p r = true := by
  cases b with
  | false =>
    have h : (!HT.lexLt q.2 p.2) = true := h
    have g : (!HT.lexLt r.2 q.2) = true := g
    show (!HT.lexLt r.2 p.2) = true
    cases z : HT.lexLt r.2 p.2 with
    | false => rfl
    | true =>
      rcases lx_neg (b := q.2) z with z | z
      · rw [z] at g; cases g
      · rw [z] at h; cases h
  | true =>
    have h : (!HT.lexLt p.2 q.2) = true := h
    have g : (!HT.lexLt q.2 r.2) = true := g
    show (!HT.lexLt p.2 r.2) = true
    cases z : HT.lexLt p.2 r.2 with
    | false => rfl
    | true =>
      rcases lx_neg (b := q.2) z with z | z
      · rw [z] at h; cases h
      · rw [z] at g; cases g
theorem leT_total (b : Bool) (p q : α × List Int) : (leT b p q || leT b q p) = true := by
  have as : ∀ x y : List Int, (!HT.lexLt x y || !HT.lexLt y x) = true := fun x y => by
    cases z : HT.lexLt x y with
    | false => rfl
    | true =>
      cases z2 : HT.lexLt y x with
      | false => rfl
      | true =>
        have := lx_trans z z2
        rw [lx_irr] at this; cases this
  cases b with
  | false => exact as _ _
  | true => exact as _ _
/-- sorted by the keys f x: each as often as it was there, as many, and falling (rising) -/
theorem sortT_map {f : α → List Int} (b : Bool) (xs : List α) : sortT b xs (xs.map f) = xs.mergeSort (fun x y => leT b (x, f x) (y, f y)) := by
  unfold sortT
  have e : xs.zip (xs.map f) = xs.map fun x => (x, f x) := by
    induction xs with
    | nil => rfl
    | cons x xs ih => simp [ih]
  rw [e, ← List.map_mergeSort (r := fun x y => leT b (x, f x) (y, f y)) (f := fun x => (x, f x)) (fun a _ b _ => rfl), List.map_map]
  exact List.map_id _
theorem sortT_perm {f : α → List Int} (b : Bool) (xs : List α) : (sortT b xs (xs.map f)).Perm xs := by
  rw [sortT_map]
  exact List.mergeSort_perm _ _
/-- the keys of what is sorted are the keys, sorted -/
theorem sortT_keys {f : α → List Int} (b : Bool) (xs : List α) : (sortT b xs (xs.map f)).map f = sortT b (xs.map f) (xs.map f) := by
  have e := sortT_map (f := fun k : List Int => k) b (xs.map f)
  rw [List.map_id'] at e
  rw [e, sortT_map]
  exact List.map_mergeSort (r := fun x y => leT b (x, f x) (y, f y)) (s := fun k l => leT b (k, k) (l, l)) (f := f) fun a _ c _ => by cases b <;> rfl
theorem sortT_fall {f : α → List Int} (xs : List α) : (sortT true xs (xs.map f)).Pairwise fun x y => HT.lexLt (f x) (f y) = false := by
  rw [sortT_map]
  refine (List.pairwise_mergeSort (le := fun x y => leT true (x, f x) (y, f y)) (fun a b c h g => leT_trans true (a, f a) (b, f b) (c, f c) h g) (fun a b => leT_total true (a, f a) (b, f b)) xs).imp fun h => ?_
  have h : (!HT.lexLt _ _) = true := h
  simpa using h
theorem keysT_ok {f : α → Out (List Int)} {g : α → List Int} : ∀ {xs : List α}, (∀ x ∈ xs, f x = .ok (g x) ∧ g x ≠ []) → keysT f xs = .ok (xs.map g)
  | [], _ => rfl
  | x :: xs, h => by
    obtain ⟨e, n⟩ := h x (List.mem_cons_self ..)
    unfold keysT
    rw [e, nx_ok, bind_ok]
    cases q : g x with
    | nil => exact absurd q n
    | cons a r =>
      dsimp only
      rw [keysT_ok (xs := xs) fun y hy => h y (List.mem_cons_of_mem _ hy), bind_ok, List.map_cons, q]
theorem countT_perm [DecidableEq α] {xs ys : List α} (h : xs.Perm ys) (x : α) : countT xs x = countT ys x := by
  unfold countT
  rw [h.countP_eq]
end
end DA
set_option maxHeartbeats 4000000
namespace DA
open PySem PySem.Spec PyProof.Rows L2

noncomputable def sd_k07_law_many : Rn → SOut := (sSeq (sIf (tst dEq (bin dMod (rd 0) (cst (.int 9))) (cst (.int 5))) (sSeq (sRet (toM (bin dSub (bin dMod (rd 0) (bin dMul (cst (.int 2)) (bin dPow (cst (.int 10)) (cst (.int 40))))) (bin dPow (cst (.int 10)) (cst (.int 40)))))) sNil) sNil) (sSeq (sRet (toM (bin dSub (bin dMod (bin dDiv (rd 0) (cst (.int 9))) (cst (.int 12))) (cst (.int 3))))) sNil))
noncomputable def d_k07_law_many : List D → Out M := runD 1 0 sd_k07_law_many

noncomputable def sd_k07_law_weights : Rn → SOut := (sSeq (sSet 2 (toM (calD dMax2 (aCons (cst (.int 0)) (aCons (calD dMin2 (aCons (rd 1) (aCons (cst (.int 8)) aNil))) aNil))))) (sSeq (sIf (tst dEq (bin dMod (bin dDiv (rd 0) (cst (.int 3))) (cst (.int 3))) (cst (.int 2))) (sSeq (sSet 2 (toM (calD dMax2 (aCons (cst (.int 0)) (aCons (bin dSub (bin dAdd (rd 2) (bin dMod (bin dDiv (rd 0) (cst (.int 9))) (cst (.int 5)))) (cst (.int 2))) aNil))))) sNil) sNil) (sSeq (sRet (lcD (itRange1 (aCons (rd 2) aNil)) [3] (gSet 3) tYesB (bin dAdd (bin dMod (bin dDiv (rd 0) (cst (.int 5))) (cst (.int 7))) (rd 3)))) sNil)))
noncomputable def d_k07_law_weights : List D → Out M := runD 2 2 sd_k07_law_weights

noncomputable def sd_k07_law_cell : Rn → SOut := (sSeq (sIf (tst dLt (rd 1) (calD dLen (aCons (rd 0) aNil))) (sSeq (sRet (toM (bin dIx (rd 0) (rd 1)))) sNil) sNil) (sSeq (sRet (toM (cst (.int 0)))) sNil))
noncomputable def d_k07_law_cell : List D → Out M := runD 2 0 sd_k07_law_cell

noncomputable def sl_Weights_init_1 : Rn → SOut := (sSeq (sIf (tst dLt (rd 2) (cst (.int 0))) (sSeq (sExc "NoOrder") sNil) sNil) sNil)
noncomputable def si_Weights : Addr → Ac → Rn → Out Ac := (iPre (sFor (itSeq (rd 1)) (gSet 2) sl_Weights_init_1) (iSet "weights" (calD dTuple (aCons (rd 1) aNil)) (rd 0) iNil))
noncomputable def i_Weights : Addr → List D → Out Ac := runI 1 1 si_Weights

noncomputable def sd_k07_law_order : Rn → SOut := (sSeq (sIf (tst dEq (rd 0) (cst (.int 0))) (sSeq (sRet (newO "Order")) sNil) sNil) (sSeq (sIf (tst dEq (rd 0) (cst (.int 1))) (sSeq (sRet (newO "Degrees")) sNil) sNil) (sSeq (sIf (tst dEq (rd 0) (cst (.int 2))) (sSeq (sRet (newO "Tails")) sNil) sNil) (sSeq (sRet (newM "Weights" i_Weights (aCons (rd 1) aNil))) sNil))))
noncomputable def d_k07_law_order : List D → Out M := runD 2 0 sd_k07_law_order

noncomputable def si_Field : Addr → Ac → Rn → Out Ac := (iSet "prime" (rd 1) (rd 0) iNil)
noncomputable def i_Field : Addr → List D → Out Ac := runI 1 0 si_Field

noncomputable def si_Fractions : Addr → Ac → Rn → Out Ac := (iBase i_Field (aCons (rd 0) (aCons (cst (.int 0)) aNil)) iNil)
noncomputable def i_Fractions : Addr → List D → Out Ac := runI 0 0 si_Fractions

noncomputable def sl_is_prime_1 : Rn → SOut := (sSeq (sIf (tst dGt (bin dMul (rd 1) (rd 1)) (rd 0)) (sSeq (sRet (toM (cst (.bl true)))) sNil) sNil) (sSeq (sIf (tst dEq (bin dMod (rd 0) (rd 1)) (cst (.int 0))) (sSeq (sRet (toM (cst (.bl false)))) sNil) sNil) sNil))
noncomputable def sd_is_prime : Rn → SOut := (sSeq (sIf (orB (tst dLt (rd 0) (cst (.int 2))) (tst dGt (rd 0) (cst (.int 9973)))) (sSeq (sRet (toM (cst (.bl false)))) sNil) sNil) (sSeq (sFor (itRange2 (aCons (cst (.int 2)) (aCons (rd 0) aNil))) (gSet 1) sl_is_prime_1) (sSeq (sRet (toM (cst (.bl true)))) sNil)))
noncomputable def d_is_prime : List D → Out M := runD 1 1 sd_is_prime

noncomputable def si_Rests : Addr → Ac → Rn → Out Ac := (iPre (sIf (notB (isB (toD (callM d_is_prime (aCons (rd 1) aNil))))) (sSeq (sExc "NoPrime") sNil) sNil) (iBase i_Field (aCons (rd 0) (aCons (rd 1) aNil)) iNil))
noncomputable def i_Rests : Addr → List D → Out Ac := runI 1 0 si_Rests

noncomputable def sd_Order_rank : Rn → SOut := (sSeq (sRet (toM (rd 1))) sNil)
noncomputable def d_Order_rank : List D → Out M := runD 2 0 sd_Order_rank

noncomputable def sd_degree : Rn → SOut := (sSeq (sRet (toM (calD dSum (aCons (rd 0) aNil)))) sNil)
noncomputable def d_degree : List D → Out M := runD 1 0 sd_degree

noncomputable def sd_Degrees_rank : Rn → SOut := (sSeq (sRet (toM (bin dAdd (tupD (aCons (toD (callM d_degree (aCons (rd 1) aNil))) aNil)) (rd 1)))) sNil)
noncomputable def d_Degrees_rank : List D → Out M := runD 2 0 sd_Degrees_rank

noncomputable def sd_Tails_rank : Rn → SOut := (sSeq (sRet (toM (bin dAdd (tupD (aCons (toD (callM d_degree (aCons (rd 1) aNil))) aNil)) (calD dTuple (aCons (toD (lcD (itRev (rd 1)) [2] (gSet 2) tYesB (una dNeg (rd 2)))) aNil))))) sNil)
noncomputable def d_Tails_rank : List D → Out M := runD 2 1 sd_Tails_rank

noncomputable def sd_Weights_rank : Rn → SOut := (sSeq (sRet (toM (bin dAdd (tupD (aCons (calD dSum (aCons (toD (lcD (itZip (aCons (rd 1) (aCons (una (dFld ["Weights"] "weights") (rd 0)) aNil))) [2, 3] (gTupD 2 (gsCons (gSet 2) (gsCons (gSet 3) gsNil))) tYesB (bin dMul (rd 2) (rd 3)))) aNil)) aNil)) (rd 1)))) sNil)
noncomputable def d_Weights_rank : List D → Out M := runD 2 2 sd_Weights_rank

noncomputable def t_rank : List (Str × (List D → Out M)) := [("Order", d_Order_rank), ("Degrees", d_Degrees_rank), ("Tails", d_Tails_rank), ("Weights", d_Weights_rank)]

noncomputable def sd_Order_fits : Rn → SOut := (sSeq (sRet (toM (cst (.bl true)))) sNil)
noncomputable def d_Order_fits : List D → Out M := runD 2 0 sd_Order_fits

noncomputable def sd_Weights_fits : Rn → SOut := (sSeq (sRet (toM (bin dEq (calD dLen (aCons (una (dFld ["Weights"] "weights") (rd 0)) aNil)) (rd 1)))) sNil)
noncomputable def d_Weights_fits : List D → Out M := runD 2 0 sd_Weights_fits

noncomputable def t_fits : List (Str × (List D → Out M)) := [("Order", d_Order_fits), ("Degrees", d_Order_fits), ("Tails", d_Order_fits), ("Weights", d_Weights_fits)]

noncomputable def si_Ring : Addr → Ac → Rn → Out Ac := (iPre (sIf (orB (tst dLt (rd 1) (cst (.int 1))) (tst dGt (rd 1) (calD dLen (aCons (cst (.str "xyzt")) aNil)))) (sSeq (sExc "NoRing") sNil) sNil) (iPre (sIf (notB (isB (toD (mtC "fits" t_fits (rd 3) (aCons (rd 1) aNil))))) (sSeq (sExc "NoRing") sNil) sNil) (iSet "many" (rd 1) (rd 0) (iSet "field" (rd 2) (rd 0) (iSet "order" (rd 3) (rd 0) iNil)))))
noncomputable def i_Ring : Addr → List D → Out Ac := runI 3 0 si_Ring

noncomputable def sd_k07_law_ring : Rn → SOut := (sSeq (sSet 3 (toM (cst .non))) (sSeq (sTry "NoRing" (sSeq (sSet 3 (toM (cst .non))) sNil) (toM (newF "Ring" i_Ring (aCons (rd 0) (aCons (rd 1) (aCons (rd 2) aNil))))) 3) (sSeq (sRet (toM (rd 3))) sNil)))
noncomputable def d_k07_law_ring : List D → Out M := runD 3 1 sd_k07_law_ring

noncomputable def sd_Ring_letters : Rn → SOut := (sSeq (sRet (toM (slSD (cst (.str "xyzt")) oNone (oSome (una (dFld ["Ring"] "many") (rd 0)))))) sNil)
noncomputable def d_Ring_letters : List D → Out M := runD 1 0 sd_Ring_letters

noncomputable def t_letters : List (Str × (List D → Out M)) := [("Ring", d_Ring_letters)]

noncomputable def sl_common_1 : Rn → SOut := (sSeq (sSet 2 (toM (bin dMod (rd 0) (rd 1)))) (sSeq (sSet 0 (toM (rd 1))) (sSeq (sSet 1 (toM (rd 2))) sNil)))
noncomputable def sd_common : Rn → SOut := (sSeq (whD (tst dNe (rd 1) (cst (.int 0))) sl_common_1) (sSeq (sRet (toM (rd 0))) sNil))
noncomputable def d_common : List D → Out M := runD 2 1 sd_common

noncomputable def sd_Fractions_made : Rn → SOut := (sSeq (sIf (tst dEq (rd 2) (cst (.int 0))) (sSeq (sExc "NoOver") sNil) sNil) (sSeq (sSet 3 (toM (toD (callM d_common (aCons (calD dAbs (aCons (rd 1) aNil)) (aCons (calD dAbs (aCons (rd 2) aNil)) aNil)))))) (sSeq (sIf (tst dLt (rd 2) (cst (.int 0))) (sSeq (sSet 3 (toM (una dNeg (rd 3)))) sNil) sNil) (sSeq (sRet (toM (tupD (aCons (bin dDiv (rd 1) (rd 3)) (aCons (bin dDiv (rd 2) (rd 3)) aNil))))) sNil))))
noncomputable def d_Fractions_made : List D → Out M := runD 3 1 sd_Fractions_made
noncomputable def d_Fractions_made_d1 : List D → Out M := fun xs => d_Fractions_made (xs ++ [.int 1])

noncomputable def sd_Rests_times : Rn → SOut := (sSeq (sRet (toM (bin dMod (bin dMul (rd 1) (rd 2)) (una (dFld ["Fractions", "Rests"] "prime") (rd 0))))) sNil)
noncomputable def d_Rests_times : List D → Out M := runD 3 0 sd_Rests_times

noncomputable def t_times_in_Rests : List (Str × (List D → Out M)) := [("Rests", d_Rests_times)]

noncomputable def sl_turned_rest_1 : Rn → SOut := (sSeq (sSet 6 (toM (bin dDiv (rd 2) (rd 3)))) (sSeq (sSet 7 (toM (bin dSub (rd 2) (bin dMul (rd 6) (rd 3))))) (sSeq (sSet 2 (toM (rd 3))) (sSeq (sSet 3 (toM (rd 7))) (sSeq (sSet 8 (toM (bin dSub (rd 4) (bin dMul (rd 6) (rd 5))))) (sSeq (sSet 4 (toM (rd 5))) (sSeq (sSet 5 (toM (rd 8))) sNil)))))))
noncomputable def sd_turned_rest : Rn → SOut := (sSeq (sSet 2 (toM (rd 1))) (sSeq (sSet 3 (toM (rd 0))) (sSeq (sSet 4 (toM (cst (.int 0)))) (sSeq (sSet 5 (toM (cst (.int 1)))) (sSeq (whD (tst dNe (rd 3) (cst (.int 0))) sl_turned_rest_1) (sSeq (sRet (toM (bin dMod (rd 4) (rd 1)))) sNil))))))
noncomputable def d_turned_rest : List D → Out M := runD 2 7 sd_turned_rest

noncomputable def sd_Rests_turned : Rn → SOut := (sSeq (sSet 2 (toM (bin dMod (rd 1) (una (dFld ["Fractions", "Rests"] "prime") (rd 0))))) (sSeq (sIf (tst dEq (rd 2) (cst (.int 0))) (sSeq (sExc "NoOver") sNil) sNil) (sSeq (sRet (toM (toD (callM d_turned_rest (aCons (rd 2) (aCons (una (dFld ["Fractions", "Rests"] "prime") (rd 0)) aNil)))))) sNil)))
noncomputable def d_Rests_turned : List D → Out M := runD 2 1 sd_Rests_turned

noncomputable def t_turned_in_Rests : List (Str × (List D → Out M)) := [("Rests", d_Rests_turned)]

noncomputable def sd_Rests_made : Rn → SOut := (sSeq (sRet (toM (toD (mtC "times" t_times_in_Rests (rd 0) (aCons (bin dMod (rd 1) (una (dFld ["Fractions", "Rests"] "prime") (rd 0))) (aCons (toD (mtC "turned" t_turned_in_Rests (rd 0) (aCons (rd 2) aNil))) aNil)))))) sNil)
noncomputable def d_Rests_made : List D → Out M := runD 3 0 sd_Rests_made
noncomputable def d_Rests_made_d1 : List D → Out M := fun xs => d_Rests_made (xs ++ [.int 1])

noncomputable def t_made_d1 : List (Str × (List D → Out M)) := [("Fractions", d_Fractions_made_d1), ("Rests", d_Rests_made_d1)]

noncomputable def sd_Field_one : Rn → SOut := (sSeq (sRet (toM (toD (mtC "made" t_made_d1 (rd 0) (aCons (cst (.int 1)) aNil))))) sNil)
noncomputable def d_Field_one : List D → Out M := runD 1 0 sd_Field_one

noncomputable def t_one : List (Str × (List D → Out M)) := [("Fractions", d_Field_one), ("Rests", d_Field_one)]

noncomputable def sd_Ring_unknown : Rn → SOut := (sSeq (sSet 2 (toM (calD dTuple (aCons (toD (lcD (itRange1 (aCons (una (dFld ["Ring"] "many") (rd 0)) aNil)) [3] (gSet 3) tYesB (ifD (tst dEq (rd 3) (rd 1)) (cst (.int 1)) (cst (.int 0))))) aNil)))) (sSeq (sRet (dispM (rd 2) (toD (mtC "one" t_one (una (dFld ["Ring"] "field") (rd 0)) aNil)))) sNil))
noncomputable def d_Ring_unknown : List D → Out M := runD 2 2 sd_Ring_unknown

noncomputable def t_unknown : List (Str × (List D → Out M)) := [("Ring", d_Ring_unknown)]

noncomputable def sl_k07_law_parts_1 : Rn → SOut := (sSeq (sIf (notB (isB (una (isiT "tuple") (rd 3)))) (sSeq (sRet (toM (cst (.bl false)))) sNil) sNil) sNil)
noncomputable def sd_k07_law_parts : Rn → SOut := (sSeq (sIf (orB (notB (isB (una (isiTd "dict") (rd 0)))) (tst dNeT (rd 0) (toD (dispM (rd 1) (rd 2))))) (sSeq (sRet (toM (cst (.bl false)))) sNil) sNil) (sSeq (sForD (itKeys (rd 0)) (gSet 3) sl_k07_law_parts_1) (sSeq (sRet (toM (cst (.bl true)))) sNil)))
noncomputable def d_k07_law_parts : List D → Out M := runD 3 1 sd_k07_law_parts

noncomputable def sd_Field_nought : Rn → SOut := (sSeq (sRet (toM (toD (mtC "made" t_made_d1 (rd 0) (aCons (cst (.int 0)) aNil))))) sNil)
noncomputable def d_Field_nought : List D → Out M := runD 1 0 sd_Field_nought

noncomputable def t_nought : List (Str × (List D → Out M)) := [("Fractions", d_Field_nought), ("Rests", d_Field_nought)]

noncomputable def sd_Ring_constant : Rn → SOut := (sSeq (sIf (tst dEq (rd 1) (toD (mtC "nought" t_nought (una (dFld ["Ring"] "field") (rd 0)) aNil))) (sSeq (sRet dicT0) sNil) sNil) (sSeq (sRet (dispM (calD dTuple (aCons (toD (lcD (itRange1 (aCons (una (dFld ["Ring"] "many") (rd 0)) aNil)) [2] (gSet 2) tYesB (cst (.int 0)))) aNil)) (rd 1))) sNil))
noncomputable def d_Ring_constant : List D → Out M := runD 2 1 sd_Ring_constant

noncomputable def t_constant : List (Str × (List D → Out M)) := [("Ring", d_Ring_constant)]

noncomputable def sl_k07_law_good_1 : Rn → SOut := (sSeq (sSet 8 (toM (calD dTuple (aCons (toD (lcD (itRange1 (aCons (rd 1) aNil)) [12] (gSet 12) tYesB (calD dInt1 (aCons (bin dEq (rd 12) (rd 7)) aNil)))) aNil)))) (sSeq (sSet 9 (mtC "unknown" t_unknown (rd 0) (aCons (rd 7) aNil))) (sSeq (sIf (borB (notB (isB (toD (callM d_k07_law_parts (aCons (rd 9) (aCons (rd 8) (aCons (toD (mtC "one" t_one (rd 2) aNil)) aNil)))))))) (sSeq (sRet (toM (cst (.bl false)))) sNil) sNil) (sSeq (sClear 9) (sSeq (sIf (notB (isB (toD (callM d_k07_law_parts (aCons (toD (mtC "unknown" t_unknown (rd 0) (aCons (rd 7) aNil))) (aCons (rd 8) (aCons (toD (mtC "one" t_one (rd 2) aNil)) aNil))))))) (sSeq (sRet (toM (cst (.bl false)))) sNil) sNil) sNil)))))
noncomputable def sd_k07_law_good : Rn → SOut := (sSeq (sIf (orB (tst dNe (una (dFld ["Ring"] "many") (rd 0)) (rd 1)) (tst dNe (una (dFld ["Fractions", "Rests"] "prime") (una (dFld ["Ring"] "field") (rd 0))) (una (dFld ["Fractions", "Rests"] "prime") (rd 2)))) (sSeq (sRet (toM (cst (.bl false)))) sNil) sNil) (sSeq (sSet 5 (toM (calD dTuple (aCons (toD (lcD (itRange1 (aCons (rd 1) aNil)) [7] (gSet 7) tYesB (cst (.int 0)))) aNil)))) (sSeq (sSet 6 (toM (calD dTuple (aCons (toD (lcD (itRange1 (aCons (rd 1) aNil)) [7] (gSet 7) tYesB (bin dAdd (bin dMod (bin dDiv (rd 4) (cst (.int 3))) (cst (.int 11))) (rd 7)))) aNil)))) (sSeq (sIf (orB (tst dNe (toD (mtC "rank" t_rank (una (dFld ["Ring"] "order") (rd 0)) (aCons (rd 6) aNil))) (toD (mtC "rank" t_rank (rd 3) (aCons (rd 6) aNil)))) (tst dNe (toD (mtC "letters" t_letters (rd 0) aNil)) (slSD (cst (.str "xyzt")) oNone (oSome (rd 1))))) (sSeq (sRet (toM (cst (.bl false)))) sNil) sNil) (sSeq (sFor (itRange1 (aCons (rd 1) aNil)) (gSet 7) sl_k07_law_good_1) (sSeq (sSet 10 (toM (toD (mtC "made" t_made_d1 (rd 2) (aCons (bin dAdd (cst (.int 1)) (bin dMod (bin dDiv (rd 4) (cst (.int 2))) (bin dPow (cst (.int 10)) (cst (.int 30))))) aNil))))) (sSeq (sIf (tst dEq (rd 10) (toD (mtC "nought" t_nought (rd 2) aNil))) (sSeq (sSet 10 (toM (toD (mtC "one" t_one (rd 2) aNil)))) sNil) sNil) (sSeq (sSet 11 (mtC "constant" t_constant (rd 0) (aCons (toD (mtC "nought" t_nought (rd 2) aNil)) aNil))) (sSeq (sIf (borB (tst dNeT (rd 11) (toD dicT0))) (sSeq (sRet (toM (cst (.bl false)))) sNil) sNil) (sSeq (sPut 11 (rd 5) (rd 10)) (sSeq (sSet 9 (mtC "constant" t_constant (rd 0) (aCons (rd 10) aNil))) (sSeq (sIf (borB (orB (tst dNeT (toD (mtC "constant" t_constant (rd 0) (aCons (toD (mtC "nought" t_nought (rd 2) aNil)) aNil))) (toD dicT0)) (notB (isB (toD (callM d_k07_law_parts (aCons (rd 9) (aCons (rd 5) (aCons (rd 10) aNil))))))))) (sSeq (sRet (toM (cst (.bl false)))) sNil) sNil) (sSeq (sClear 9) (sSeq (sRet (toM (toD (callM d_k07_law_parts (aCons (toD (mtC "constant" t_constant (rd 0) (aCons (rd 10) aNil))) (aCons (rd 5) (aCons (rd 10) aNil))))))) sNil))))))))))))))
noncomputable def d_k07_law_good : List D → Out M := runD 5 8 sd_k07_law_good

noncomputable def sl_k07_law_1 : Rn → SOut := (sSeq (sSet 2 (toM (bin dIx (rd 0) (rd 1)))) (sSeq (sSet 3 (toM (toD (callM d_k07_law_many (aCons (rd 2) aNil))))) (sSeq (sSet 4 (callM d_k07_law_weights (aCons (bin dDiv (rd 2) (cst (.int 108))) (aCons (rd 3) aNil)))) (sSeq (sSet 5 (toM (bin dMod (toD (callM d_k07_law_cell (aCons (rd 0) (aCons (bin dAdd (rd 1) (cst (.int 1))) aNil)))) (cst (.int 4))))) (sSeq (sSet 6 (toM (toD (borM (callM d_k07_law_order (aCons (rd 5) (aCons (rd 4) aNil))))))) (sSeq (sSet 7 (toM (newF "Fractions" i_Fractions aNil))) (sSeq (sIf (tst dEq (bin dMod (bin dDiv (rd 2) (cst (.int 2))) (cst (.int 2))) (cst (.int 1))) (sSeq (sSet 7 (toM (newF "Rests" i_Rests (aCons (bin dIx (toD (lstM (aCons (cst (.int 2)) (aCons (cst (.int 3)) (aCons (cst (.int 5)) (aCons (cst (.int 97)) (aCons (cst (.int 9973)) aNil))))))) (bin dMod (bin dDiv (rd 2) (cst (.int 4))) (cst (.int 5)))) aNil)))) sNil) sNil) (sSeq (sSet 8 (toM (rg2 .tup (cst (.int 1)) (bin dAdd (calD dMax2 (aCons (cst (.int 0)) (aCons (calD dMin2 (aCons (rd 3) (aCons (cst (.int 8)) aNil))) aNil))) (cst (.int 1)))))) (sSeq (sSet 9 (toM (tupD aNil))) (sSeq (sIf (borB (andB (tst dEq (rd 5) (cst (.int 3))) (andB (tst dGt (rd 3) (cst (.int 0))) (tst dEq (calD dLen (aCons (rd 4) aNil)) (rd 3))))) (sSeq (sSet 9 (toM (toD (mtC "rank" t_rank (rd 6) (aCons (rd 8) aNil))))) sNil) sNil) (sSeq (sSet 10 (toM (toD (callM d_k07_law_ring (aCons (rd 3) (aCons (rd 7) (aCons (rd 6) aNil))))))) (sSeq (sSet 11 (toM (borD (andD (chD dLe dLe (cst (.int 1)) (rd 3) (cst (.int 4))) (orD (bin dNe (rd 5) (cst (.int 3))) (bin dEq (calD dLen (aCons (rd 4) aNil)) (rd 3))))))) (sSeq (sIf (tst dNe (rd 11) (bin dNotN (rd 10) (cst .non))) (sSeq (sRet (toM (cst (.bl false)))) sNil) sNil) (sSeq (sIf (andB (isB (rd 11)) (notB (isB (toD (callM d_k07_law_good (aCons (rd 10) (aCons (rd 3) (aCons (rd 7) (aCons (rd 6) (aCons (rd 2) aNil)))))))))) (sSeq (sRet (toM (cst (.bl false)))) sNil) sNil) (sSeq (sIf (andB (isB (rd 11)) (tst dEq (rd 5) (cst (.int 3)))) (sSeq (sPutL 4 (cst (.int 0)) (borD (bin dAdd (bin dIx (rd 4) (cst (.int 0))) (cst (.int 5))))) (sSeq (sIf (tst dNe (toD (mtC "rank" t_rank (una (dFld ["Ring"] "order") (rd 10)) (aCons (rd 8) aNil))) (rd 9)) (sSeq (sRet (toM (cst (.bl false)))) sNil) sNil) sNil)) sNil) sNil)))))))))))))))
noncomputable def sd_k07_law : Rn → SOut := (sSeq (sFor (itRange1 (aCons (calD dLen (aCons (rd 0) aNil)) aNil)) (gSet 1) sl_k07_law_1) (sSeq (sRet (toM (cst (.bl true)))) sNil))
noncomputable def d_k07_law : List D → Out M := runD 1 11 sd_k07_law

end DA
set_option maxHeartbeats 4000000
namespace DA
open PySem PySem.Spec PyProof.Rows L2

noncomputable def n_k07_law_many (cell_here : Int) : Out Int := if decide (cell_here % 9 = 5) then Out.ok (cell_here % 20000000000000000000000000000000000000000 - 10000000000000000000000000000000000000000) else Out.ok ((cell_here / 9) % 12 - 3)
theorem t_k07_law_many (cell_here : Int) : Ag2 (mD D.int) (n_k07_law_many cell_here) (d_k07_law_many [D.int cell_here]) := by
  unfold n_k07_law_many d_k07_law_many sd_k07_law_many
  exact td_run (N := 1) rfl rfl (ts_guard (tp_tst (tp_bin (eq_pd pd_I) (tp_modR (j := 9) (tp_cst (a := 9) (e := D.int)) (by decide) (tp_rd (a := cell_here) (e := D.int) 0)) (tp_cst (a := 5) (e := D.int)))) (px_r (ts_ret (m := (mD D.int)) (a := cell_here % 20000000000000000000000000000000000000000 - 10000000000000000000000000000000000000000) (tp_toM (tp_bin op_subI (tp_modR (j := 20000000000000000000000000000000000000000) (TP.eq (a' := 20000000000000000000000000000000000000000) (tp_mulC (tp_cst (a := 2) (e := D.int)) (TP.eq (a' := 10000000000000000000000000000000000000000) (tp_powC (tp_cst (a := 10) (e := D.int)) (tp_cst (a := 40) (e := D.int)) (by decide)) (by decide)) (by decide)) (by decide)) (by decide) (tp_rd (a := cell_here) (e := D.int) 0)) (TP.eq (a' := 10000000000000000000000000000000000000000) (tp_powC (tp_cst (a := 10) (e := D.int)) (tp_cst (a := 40) (e := D.int)) (by decide)) (by decide)))))) (ts_ret (m := (mD D.int)) (a := (cell_here / 9) % 12 - 3) (tp_toM (tp_bin op_subI (tp_modR (j := 12) (tp_cst (a := 12) (e := D.int)) (by decide) (tp_divR (j := 9) (tp_cst (a := 9) (e := D.int)) (by decide) (by decide) (tp_rd (a := cell_here) (e := D.int) 0))) (tp_cst (a := 3) (e := D.int))))))

noncomputable def n_k07_law_weights (cell_here : Int) (many_here : Int) : Out (List Int) := lt (max 0 (min many_here 8) : Int) fun count => ((if decide ((cell_here / 3) % 3 = 2) then lt (max 0 (count + (cell_here / 9) % 5 - 2) : Int) fun count_1 => Out.ok count_1 else Out.ok count : Out Int)).bind fun count_2 => (rgO 0 count_2).bind fun xs => (mapO (fun at_ => ((Out.ok ((cell_here / 5) % 7 + at_)) : Out Int).nx) xs).nx
theorem t_k07_law_weights (cell_here : Int) (many_here : Int) : Ag2 (mL D.int) (n_k07_law_weights cell_here many_here) (d_k07_law_weights [D.int cell_here, D.int many_here]) := by
  unfold n_k07_law_weights d_k07_law_weights sd_k07_law_weights
  exact td_run (N := 4) rfl rfl (ts_setL (m := (mD D.int)) (by decide) (tp_toM (tp_cal (a := max 0 (min many_here 8)) (e := D.int) (tpa_cons (tp_cst (a := 0) (e := D.int)) (tpa_cons (tp_cal (a := min many_here 8) (e := D.int) (tpa_cons (tp_rd (a := many_here) (e := D.int) 1) (tpa_cons (tp_cst (a := 8) (e := D.int)) tpa_nil)) (min2_i _ _)) tpa_nil)) (max2_i _ _))) fun count => (ts_if (tp_tst (tp_bin (eq_pd pd_I) (tp_modR (j := 3) (tp_cst (a := 3) (e := D.int)) (by decide) (tp_divR (j := 3) (tp_cst (a := 3) (e := D.int)) (by decide) (by decide) (tp_rd (a := cell_here) (e := D.int) 0))) (tp_cst (a := 2) (e := D.int)))) (G := GS [2] _ (fun (z : Int) => [(2, (mD D.int) z)])) (ts_setL (m := (mD D.int)) (by decide) (tp_toM (tp_cal (a := max 0 (count + (cell_here / 9) % 5 - 2)) (e := D.int) (tpa_cons (tp_cst (a := 0) (e := D.int)) (tpa_cons (tp_bin op_subI (tp_bin op_addI (tp_rd (a := count) (e := D.int) 2) (tp_modR (j := 5) (tp_cst (a := 5) (e := D.int)) (by decide) (tp_divR (j := 9) (tp_cst (a := 9) (e := D.int)) (by decide) (by decide) (tp_rd (a := cell_here) (e := D.int) 0)))) (tp_cst (a := 2) (e := D.int))) tpa_nil)) (max2_i _ _))) fun count_1 => (ts_end (sub_gs (hasL_cons rfl hasL_nil) (sub_drop_up sub_drop rfl)))) (ts_end (sub_gs (hasL_cons rfl hasL_nil) sub_drop)) fun count_2 => (ts_retX (m := (mL D.int)) (tx_lc (tx_range1 (tpa_cons (tp_rd (a := count_2) (e := D.int) 2) tpa_nil)) (tg_1 (c := D.int) 3) fun at_ => (TP.x (tp_bin op_addI (tp_modR (j := 7) (tp_cst (a := 7) (e := D.int)) (by decide) (tp_divR (j := 5) (tp_cst (a := 5) (e := D.int)) (by decide) (by decide) (tp_rd (a := cell_here) (e := D.int) 0))) (tp_rd (a := at_) (e := D.int) 3)))))))

noncomputable def n_k07_law_cell (script : List Int) (k : Int) : Out Int := if decide (k < (script.length : Int)) then ixL script k else Out.ok 0
theorem t_k07_law_cell (script : List Int) (k : Int) : Ag2 (mD D.int) (n_k07_law_cell script k) (d_k07_law_cell [(cL D.int) script, D.int k]) := by
  unfold n_k07_law_cell d_k07_law_cell sd_k07_law_cell
  exact td_run (N := 2) rfl rfl (ts_guard (tp_tst (tp_bin op_ltI (tp_rd (a := k) (e := D.int) 1) (tp_cal (a := (script.length : Int)) (e := D.int) (tpa_cons (tp_rd (a := script) (e := (cL D.int)) 0) tpa_nil) (sqL.ln _)))) (px_r (ts_retX (m := (mD D.int)) (tx_toM (tx_bin (ox_ix sqL) (tp_rd (a := script) (e := (cL D.int)) 0) (tp_rd (a := k) (e := D.int) 1))))) (ts_ret (m := (mD D.int)) (a := 0) (tp_toM (tp_cst (a := 0) (e := D.int)))))

/-! Weights(ws) -/
theorem wl_yes (x : Addr) (w0 : D) (y : Option M) (a : Int) (h : decide (a < 0) = false) : sl_Weights_init_1 [some (.dat (.loc x)), some (.dat w0), some (.dat (.int a))] = .ok (.nx, [some (.dat (.loc x)), some (.dat w0), some (.dat (.int a))]) := by
  simp only [sl_Weights_init_1, sSeq, sIf, sRet, sSet, sNil, sFor, sExc, sRetN, sCont, sBrk, toM, toD, DA.bin, una, tst, calD, callM, cst, andD, orD, notD, ifD, isB, notB, andB, orB, aNil, aCons, itSeq, itRange1, itRange2, itZip, rd, ob_ok, ob_ex, ob_st, om_ok, om_ex, on_ok, gSet, gTupD, gsNil, gsCons, tYesB, runD, fin_rt, fin_nx, fin_ex, asB_bl, add_ii, ad_ii, gx_ii, lof_l, lof_t, oNone, oSome, slD, dSl, itRev, maxDf,  sub_ii, neg_i, lt_ii, le_ii, gt_ii, ge_ii, seq_lst, seq_tup, zip_tt, zip_tl, zip_lt, zip_ll, er_dat, er_lst, tuple_lst, tuple_tup, len_lst, len_tup, max_ii, min_ii, abs_n, c0, c1, c2, c3, dEq_int, dNe_int, dEq_bl, isi_int_int, isi_bool_int, isi_bool_bl, isi_int_bl, isi_tuple_tup, isi_list_lst, isn_non, isn_tup, isn_int, nn_non, nn_tup, nn_int, isn_obj, nn_obj, List.getElem?_cons_zero, List.getElem?_cons_succ, List.set_cons_zero, List.set_cons_succ, List.length_cons, List.length_nil, List.length_map, List.map_cons, List.map_nil, List.replicate_succ, List.replicate_zero, List.cons_append, List.nil_append, if_true, if_false, Bool.false_eq_true, ite_self, Bool.not_true, Bool.not_false, Nat.reduceAdd, Nat.reduceLT, Nat.zero_add, h]
theorem wl_no (x : Addr) (w0 : D) (y : Option M) (a : Int) (h : decide (a < 0) = true) : sl_Weights_init_1 [some (.dat (.loc x)), some (.dat w0), some (.dat (.int a))] = .exc "NoOrder" := by
  simp only [sl_Weights_init_1, sSeq, sIf, sRet, sSet, sNil, sFor, sExc, sRetN, sCont, sBrk, toM, toD, DA.bin, una, tst, calD, callM, cst, andD, orD, notD, ifD, isB, notB, andB, orB, aNil, aCons, itSeq, itRange1, itRange2, itZip, rd, ob_ok, ob_ex, ob_st, om_ok, om_ex, on_ok, gSet, gTupD, gsNil, gsCons, tYesB, runD, fin_rt, fin_nx, fin_ex, asB_bl, add_ii, ad_ii, gx_ii, lof_l, lof_t, oNone, oSome, slD, dSl, itRev, maxDf,  sub_ii, neg_i, lt_ii, le_ii, gt_ii, ge_ii, seq_lst, seq_tup, zip_tt, zip_tl, zip_lt, zip_ll, er_dat, er_lst, tuple_lst, tuple_tup, len_lst, len_tup, max_ii, min_ii, abs_n, c0, c1, c2, c3, dEq_int, dNe_int, dEq_bl, isi_int_int, isi_bool_int, isi_bool_bl, isi_int_bl, isi_tuple_tup, isi_list_lst, isn_non, isn_tup, isn_int, nn_non, nn_tup, nn_int, isn_obj, nn_obj, List.getElem?_cons_zero, List.getElem?_cons_succ, List.set_cons_zero, List.set_cons_succ, List.length_cons, List.length_nil, List.length_map, List.map_cons, List.map_nil, List.replicate_succ, List.replicate_zero, List.cons_append, List.nil_append, if_true, if_false, Bool.false_eq_true, ite_self, Bool.not_true, Bool.not_false, Nat.reduceAdd, Nat.reduceLT, Nat.zero_add, h]
theorem wl_for (x : Addr) (w0 : D) : ∀ (ws : List Int) (y : Option M), (ws.all (fun a => decide (0 ≤ a)) = true → ∃ y', forD (gSet 2) sl_Weights_init_1 (ws.map D.int) [some (.dat (.loc x)), some (.dat w0), y] = .ok (.nx, [some (.dat (.loc x)), some (.dat w0), y'])) ∧
    (ws.all (fun a => decide (0 ≤ a)) = false → forD (gSet 2) sl_Weights_init_1 (ws.map D.int) [some (.dat (.loc x)), some (.dat w0), y] = .exc "NoOrder")
  | [], y => ⟨fun _ => ⟨y, rfl⟩, fun h => by simp at h⟩
  | a :: ws, y => by
    have g : gSet 2 (.int a) [some (.dat (.loc x)), some (.dat w0), y] = .ok [some (.dat (.loc x)), some (.dat w0), some (.dat (.int a))] := rfl
    rw [List.map_cons, forD, g]
    simp only [Out.nx, Out.bind, List.all_cons]
    cases h : decide (a < 0) with
    | true =>
      have h0 : decide (0 ≤ a) = false := decide_eq_false (by have := of_decide_eq_true h; omega)
      rw [wl_no x w0 y a h, h0]
      exact ⟨fun z => by simp at z, fun _ => rfl⟩
    | false =>
      have h0 : decide (0 ≤ a) = true := decide_eq_true (by have := of_decide_eq_false h; omega)
      rw [wl_yes x w0 y a h, h0]
      simp only [Bool.true_and]
      exact wl_for x w0 ws (some (.dat (.int a)))
noncomputable def new_Weights (ws : List Int) : Out Od := if ws.all (fun a => decide (0 ≤ a)) then .ok (.wei ws) else .exc "NoOrder"
theorem t_new_Weights (ws : List Int) : Ag2 cOrd (new_Weights ws) (newD "Weights" i_Weights [cL D.int ws]) := by
  unfold new_Weights
  cases h : ws.all (fun a => decide (0 ≤ a)) with
  | true =>
    rw [if_pos rfl]
    refine newD_ok (acc := [("weights", .tup (ws.map D.int))]) fun x => ?_
    obtain ⟨y, e⟩ := (wl_for x (.lst (ws.map D.int)) ws none).1 h
    unfold i_Weights runI si_Weights
    rw [if_pos (show ([cL D.int ws] : List D).length = 1 from rfl)]
    have e2 : sFor (itSeq (rd 1)) (gSet 2) sl_Weights_init_1 (((D.loc x :: [cL D.int ws]).map fun d => some (M.dat d)) ++ List.replicate 1 none) = .ok (.nx, [some (.dat (.loc x)), some (.dat (.lst (ws.map D.int))), y]) := by
      simp only [sSeq, sIf, sRet, sSet, sNil, sFor, sExc, sRetN, sCont, sBrk, toM, toD, DA.bin, una, tst, calD, callM, cst, andD, orD, notD, ifD, isB, notB, andB, orB, aNil, aCons, itSeq, itRange1, itRange2, itZip, rd, ob_ok, ob_ex, ob_st, om_ok, om_ex, on_ok, gSet, gTupD, gsNil, gsCons, tYesB, runD, fin_rt, fin_nx, fin_ex, asB_bl, add_ii, ad_ii, gx_ii, lof_l, lof_t, oNone, oSome, slD, dSl, itRev, maxDf,  sub_ii, neg_i, lt_ii, le_ii, gt_ii, ge_ii, seq_lst, seq_tup, zip_tt, zip_tl, zip_lt, zip_ll, er_dat, er_lst, tuple_lst, tuple_tup, len_lst, len_tup, max_ii, min_ii, abs_n, c0, c1, c2, c3, dEq_int, dNe_int, dEq_bl, isi_int_int, isi_bool_int, isi_bool_bl, isi_int_bl, isi_tuple_tup, isi_list_lst, isn_non, isn_tup, isn_int, nn_non, nn_tup, nn_int, isn_obj, nn_obj, List.getElem?_cons_zero, List.getElem?_cons_succ, List.set_cons_zero, List.set_cons_succ, List.length_cons, List.length_nil, List.length_map, List.map_cons, List.map_nil, List.replicate_succ, List.replicate_zero, List.cons_append, List.nil_append, if_true, if_false, Bool.false_eq_true, ite_self, Bool.not_true, Bool.not_false, Nat.reduceAdd, Nat.reduceLT, Nat.zero_add, cL, e]
    unfold iPre
    rw [e2]
    exact iset_ok (by simp only [sSeq, sIf, sRet, sSet, sNil, sFor, sExc, sRetN, sCont, sBrk, toM, toD, DA.bin, una, tst, calD, callM, cst, andD, orD, notD, ifD, isB, notB, andB, orB, aNil, aCons, itSeq, itRange1, itRange2, itZip, rd, ob_ok, ob_ex, ob_st, om_ok, om_ex, on_ok, gSet, gTupD, gsNil, gsCons, tYesB, runD, fin_rt, fin_nx, fin_ex, asB_bl, add_ii, ad_ii, gx_ii, lof_l, lof_t, oNone, oSome, slD, dSl, itRev, maxDf,  sub_ii, neg_i, lt_ii, le_ii, gt_ii, ge_ii, seq_lst, seq_tup, zip_tt, zip_tl, zip_lt, zip_ll, er_dat, er_lst, tuple_lst, tuple_tup, len_lst, len_tup, max_ii, min_ii, abs_n, c0, c1, c2, c3, dEq_int, dNe_int, dEq_bl, isi_int_int, isi_bool_int, isi_bool_bl, isi_int_bl, isi_tuple_tup, isi_list_lst, isn_non, isn_tup, isn_int, nn_non, nn_tup, nn_int, isn_obj, nn_obj, List.getElem?_cons_zero, List.getElem?_cons_succ, List.set_cons_zero, List.set_cons_succ, List.length_cons, List.length_nil, List.length_map, List.map_cons, List.map_nil, List.replicate_succ, List.replicate_zero, List.cons_append, List.nil_append, if_true, if_false, Bool.false_eq_true, ite_self, Bool.not_true, Bool.not_false, Nat.reduceAdd, Nat.reduceLT, Nat.zero_add]) rfl rfl (by decide) rfl
  | false =>
    rw [if_neg (by simp)]
    refine newD_exc fun x => ?_
    have e := (wl_for x (.lst (ws.map D.int)) ws none).2 h
    unfold i_Weights runI si_Weights
    rw [if_pos (show ([cL D.int ws] : List D).length = 1 from rfl)]
    have e2 : sFor (itSeq (rd 1)) (gSet 2) sl_Weights_init_1 (((D.loc x :: [cL D.int ws]).map fun d => some (M.dat d)) ++ List.replicate 1 none) = .exc "NoOrder" := by
      simp only [sSeq, sIf, sRet, sSet, sNil, sFor, sExc, sRetN, sCont, sBrk, toM, toD, DA.bin, una, tst, calD, callM, cst, andD, orD, notD, ifD, isB, notB, andB, orB, aNil, aCons, itSeq, itRange1, itRange2, itZip, rd, ob_ok, ob_ex, ob_st, om_ok, om_ex, on_ok, gSet, gTupD, gsNil, gsCons, tYesB, runD, fin_rt, fin_nx, fin_ex, asB_bl, add_ii, ad_ii, gx_ii, lof_l, lof_t, oNone, oSome, slD, dSl, itRev, maxDf,  sub_ii, neg_i, lt_ii, le_ii, gt_ii, ge_ii, seq_lst, seq_tup, zip_tt, zip_tl, zip_lt, zip_ll, er_dat, er_lst, tuple_lst, tuple_tup, len_lst, len_tup, max_ii, min_ii, abs_n, c0, c1, c2, c3, dEq_int, dNe_int, dEq_bl, isi_int_int, isi_bool_int, isi_bool_bl, isi_int_bl, isi_tuple_tup, isi_list_lst, isn_non, isn_tup, isn_int, nn_non, nn_tup, nn_int, isn_obj, nn_obj, List.getElem?_cons_zero, List.getElem?_cons_succ, List.set_cons_zero, List.set_cons_succ, List.length_cons, List.length_nil, List.length_map, List.map_cons, List.map_nil, List.replicate_succ, List.replicate_zero, List.cons_append, List.nil_append, if_true, if_false, Bool.false_eq_true, ite_self, Bool.not_true, Bool.not_false, Nat.reduceAdd, Nat.reduceLT, Nat.zero_add, cL, e]
    unfold iPre
    rw [e2]
    rfl

noncomputable def n_k07_law_order (kind : Int) (weights_here : List Int) : Out Od := if decide (kind = 0) then Out.ok Od.lex else if decide (kind = 1) then Out.ok Od.deg else if decide (kind = 2) then Out.ok Od.tail else new_Weights weights_here
theorem t_k07_law_order (kind : Int) (weights_here : List Int) : Ag2 (mO cOrd) (n_k07_law_order kind weights_here) (d_k07_law_order [D.int kind, (cL D.int) weights_here]) := by
  unfold n_k07_law_order d_k07_law_order sd_k07_law_order
  exact td_run (N := 2) rfl rfl (ts_guard (tp_tst (tp_bin (eq_pd pd_I) (tp_rd (a := kind) (e := D.int) 0) (tp_cst (a := 0) (e := D.int)))) (px_r (ts_ret (m := (mO cOrd)) (a := Od.lex) (tp_newO (a := Od.lex) (e := cOrd)))) (ts_guard (tp_tst (tp_bin (eq_pd pd_I) (tp_rd (a := kind) (e := D.int) 0) (tp_cst (a := 1) (e := D.int)))) (px_r (ts_ret (m := (mO cOrd)) (a := Od.deg) (tp_newO (a := Od.deg) (e := cOrd)))) (ts_guard (tp_tst (tp_bin (eq_pd pd_I) (tp_rd (a := kind) (e := D.int) 0) (tp_cst (a := 2) (e := D.int)))) (px_r (ts_ret (m := (mO cOrd)) (a := Od.tail) (tp_newO (a := Od.tail) (e := cOrd)))) (ts_retX (m := (mO cOrd)) (tx_newM (tx_newF (tk_p (tp_rd (a := weights_here) (e := (cL D.int)) 1) (tk_nil (t_new_Weights _)))))))))

theorem field_mk (x : Addr) (d : D) : i_Field x [d] = .ok [("prime", d)] := by
  unfold i_Field runI si_Field
  rw [if_pos (show ([d] : List D).length = 1 from rfl)]
  exact iset_ok rfl rfl rfl (by decide) rfl

/-! Fractions() -/
theorem tp_new_Fractions {n : Nat} {Γ : Gm} : TP n Γ cFld (newF "Fractions" i_Fractions aNil) Fd.fr := fun ρ A => by
  refine newD_ok (acc := [("prime", .int 0)]) fun x => ?_
  unfold i_Fractions runI si_Fractions
  rw [if_pos (show ([] : List D).length = 0 from rfl)]
  exact ibase_ok rfl (field_mk x (.int 0)) rfl

noncomputable def n_is_prime (number : Int) : Out Bool := if (decide (number < 2)) || (decide (9973 < number)) then Out.ok false else (rgO 2 number).bind fun xs => (forC (fun (z : Unit) (divisor : Int) => (((mulO divisor divisor).bind fun a => Out.ok (decide (number < a))).bind fun b => if b then Out.ok (.rt true) else ((modO number divisor).bind fun a_1 => Out.ok (decide (a_1 = 0))).bind fun b_1 => if b_1 then Out.ok (.rt false) else Out.ok (.nx ()) : Out (Ct (Bool) Unit))) xs ()).bind fun c => thenC c fun z_1 => Out.ok true
theorem t_is_prime (number : Int) : Ag2 (mD D.bl) (n_is_prime number) (d_is_prime [D.int number]) := by
  unfold n_is_prime d_is_prime sd_is_prime sl_is_prime_1
  exact td_run (N := 2) rfl rfl (ts_guard (tp_or (tp_tst (tp_bin op_ltI (tp_rd (a := number) (e := D.int) 0) (tp_cst (a := 2) (e := D.int)))) (tp_tst (tp_bin op_gtI (tp_rd (a := number) (e := D.int) 0) (tp_cst (a := 9973) (e := D.int))))) (px_r (ts_ret (m := (mD D.bl)) (a := false) (tp_toM (tp_cst (a := false) (e := D.bl))))) (ts_iterX (tx_range2 (tpa_cons (tp_cst (a := 2) (e := D.int)) (tpa_cons (tp_rd (a := number) (e := D.int) 0) tpa_nil))) fun xs _ hi => (ts_forCG (st := (fun (z : Unit) => [])) (vs := [1]) (z := ()) hi hasL_nil (tg_1 (c := D.int) 1) (fun z divisor => (ts_testX (tx_tst (tx_bin1 (OpP.x op_gtI) (tx_bin ox_mul (tp_rd (a := divisor) (e := D.int) 1) (tp_rd (a := divisor) (e := D.int) 1)) (tp_rd (a := number) (e := D.int) 0))) fun b _ hb => (ts_guard hb (ts_retCp (m := (mD D.bl)) (a := true) (tp_toM (tp_cst (a := true) (e := D.bl)))) (ts_testX (tx_tst (tx_bin1 (OpP.x (eq_pd pd_I)) (tx_bin ox_mod (tp_rd (a := number) (e := D.int) 0) (tp_rd (a := divisor) (e := D.int) 1)) (tp_cst (a := 0) (e := D.int)))) fun b_1 _ hb => (ts_ifLast hb (ts_retC (m := (mD D.bl)) (a := false) (tp_toM (tp_cst (a := false) (e := D.bl)))) (ts_endC (sub_gs hasL_nil (sub_drop_up sub_refl rfl)))))))) fun z_1 => (ts_ret (m := (mD D.bl)) (a := true) (tp_toM (tp_cst (a := true) (e := D.bl)))))))

/-! Rests(p) -/
noncomputable def new_Rests (p : Int) : Out Fd := (n_is_prime p).bind fun b => if b then .ok (.re p) else .exc "NoPrime"
theorem t_new_Rests (p : Int) : Ag2 cFld (new_Rests p) (newD "Rests" i_Rests [.int p]) := by
  have h := t_is_prime p
  unfold new_Rests
  cases e : n_is_prime p with
  | stuck => exact trivial
  | exc z =>
    rw [e] at h
    have h : d_is_prime [.int p] = .exc z := h
    refine newD_exc fun x => ?_
    unfold i_Rests runI si_Rests
    rw [if_pos (show ([.int p] : List D).length = 1 from rfl)]
    simp only [iPre, sSeq, sIf, sRet, sSet, sNil, sFor, sExc, sRetN, sCont, sBrk, toM, toD, DA.bin, una, tst, calD, callM, cst, andD, orD, notD, ifD, isB, notB, andB, orB, aNil, aCons, itSeq, itRange1, itRange2, itZip, rd, ob_ok, ob_ex, ob_st, om_ok, om_ex, on_ok, gSet, gTupD, gsNil, gsCons, tYesB, runD, fin_rt, fin_nx, fin_ex, asB_bl, add_ii, ad_ii, gx_ii, lof_l, lof_t, oNone, oSome, slD, dSl, itRev, maxDf,  sub_ii, neg_i, lt_ii, le_ii, gt_ii, ge_ii, seq_lst, seq_tup, zip_tt, zip_tl, zip_lt, zip_ll, er_dat, er_lst, tuple_lst, tuple_tup, len_lst, len_tup, max_ii, min_ii, abs_n, c0, c1, c2, c3, dEq_int, dNe_int, dEq_bl, isi_int_int, isi_bool_int, isi_bool_bl, isi_int_bl, isi_tuple_tup, isi_list_lst, isn_non, isn_tup, isn_int, nn_non, nn_tup, nn_int, isn_obj, nn_obj, List.getElem?_cons_zero, List.getElem?_cons_succ, List.set_cons_zero, List.set_cons_succ, List.length_cons, List.length_nil, List.length_map, List.map_cons, List.map_nil, List.replicate_succ, List.replicate_zero, List.cons_append, List.nil_append, if_true, if_false, Bool.false_eq_true, ite_self, Bool.not_true, Bool.not_false, Nat.reduceAdd, Nat.reduceLT, Nat.zero_add, h]
    first | done | rfl
  | ok b =>
    rw [e] at h
    have h : d_is_prime [.int p] = .ok (.dat (.bl b)) := h
    cases b with
    | true =>
      refine newD_ok (acc := [("prime", .int p)]) fun x => ?_
      unfold i_Rests runI si_Rests
      rw [if_pos (show ([.int p] : List D).length = 1 from rfl)]
      simp only [iPre, sSeq, sIf, sRet, sSet, sNil, sFor, sExc, sRetN, sCont, sBrk, toM, toD, DA.bin, una, tst, calD, callM, cst, andD, orD, notD, ifD, isB, notB, andB, orB, aNil, aCons, itSeq, itRange1, itRange2, itZip, rd, ob_ok, ob_ex, ob_st, om_ok, om_ex, on_ok, gSet, gTupD, gsNil, gsCons, tYesB, runD, fin_rt, fin_nx, fin_ex, asB_bl, add_ii, ad_ii, gx_ii, lof_l, lof_t, oNone, oSome, slD, dSl, itRev, maxDf,  sub_ii, neg_i, lt_ii, le_ii, gt_ii, ge_ii, seq_lst, seq_tup, zip_tt, zip_tl, zip_lt, zip_ll, er_dat, er_lst, tuple_lst, tuple_tup, len_lst, len_tup, max_ii, min_ii, abs_n, c0, c1, c2, c3, dEq_int, dNe_int, dEq_bl, isi_int_int, isi_bool_int, isi_bool_bl, isi_int_bl, isi_tuple_tup, isi_list_lst, isn_non, isn_tup, isn_int, nn_non, nn_tup, nn_int, isn_obj, nn_obj, List.getElem?_cons_zero, List.getElem?_cons_succ, List.set_cons_zero, List.set_cons_succ, List.length_cons, List.length_nil, List.length_map, List.map_cons, List.map_nil, List.replicate_succ, List.replicate_zero, List.cons_append, List.nil_append, if_true, if_false, Bool.false_eq_true, ite_self, Bool.not_true, Bool.not_false, Nat.reduceAdd, Nat.reduceLT, Nat.zero_add, h, if_true]
      exact ibase_ok rfl (field_mk x (.int p)) rfl
    | false =>
      refine newD_exc fun x => ?_
      unfold i_Rests runI si_Rests
      rw [if_pos (show ([.int p] : List D).length = 1 from rfl)]
      simp only [iPre, sSeq, sIf, sRet, sSet, sNil, sFor, sExc, sRetN, sCont, sBrk, toM, toD, DA.bin, una, tst, calD, callM, cst, andD, orD, notD, ifD, isB, notB, andB, orB, aNil, aCons, itSeq, itRange1, itRange2, itZip, rd, ob_ok, ob_ex, ob_st, om_ok, om_ex, on_ok, gSet, gTupD, gsNil, gsCons, tYesB, runD, fin_rt, fin_nx, fin_ex, asB_bl, add_ii, ad_ii, gx_ii, lof_l, lof_t, oNone, oSome, slD, dSl, itRev, maxDf,  sub_ii, neg_i, lt_ii, le_ii, gt_ii, ge_ii, seq_lst, seq_tup, zip_tt, zip_tl, zip_lt, zip_ll, er_dat, er_lst, tuple_lst, tuple_tup, len_lst, len_tup, max_ii, min_ii, abs_n, c0, c1, c2, c3, dEq_int, dNe_int, dEq_bl, isi_int_int, isi_bool_int, isi_bool_bl, isi_int_bl, isi_tuple_tup, isi_list_lst, isn_non, isn_tup, isn_int, nn_non, nn_tup, nn_int, isn_obj, nn_obj, List.getElem?_cons_zero, List.getElem?_cons_succ, List.set_cons_zero, List.set_cons_succ, List.length_cons, List.length_nil, List.length_map, List.map_cons, List.map_nil, List.replicate_succ, List.replicate_zero, List.cons_append, List.nil_append, if_true, if_false, Bool.false_eq_true, ite_self, Bool.not_true, Bool.not_false, Nat.reduceAdd, Nat.reduceLT, Nat.zero_add, h]

noncomputable def n_Order_rank (self : Od) (term : List Int) : Out (List Int) := Out.ok term
theorem t_Order_rank (self : Od) (term : List Int) : Ag2 (mD cT) (n_Order_rank self term) (d_Order_rank [cOrd self, cT term]) := by
  unfold n_Order_rank d_Order_rank sd_Order_rank
  exact td_run (N := 2) rfl rfl (ts_ret (m := (mD cT)) (a := term) (tp_toM (tp_rd (a := term) (e := cT) 1)))

noncomputable def n_degree (term : List Int) : Out Int := Out.ok term.sum
theorem t_degree (term : List Int) : Ag2 (mD D.int) (n_degree term) (d_degree [cT term]) := by
  unfold n_degree d_degree sd_degree
  exact td_run (N := 1) rfl rfl (ts_ret (m := (mD D.int)) (a := term.sum) (tp_toM (tp_cal (a := term.sum) (e := D.int) (tpa_cons (tp_rd (a := term) (e := cT) 0) tpa_nil) (sum_T _))))

noncomputable def n_Degrees_rank (term : List Int) : Out (List Int) := ((n_degree term).bind fun v => Out.ok [v]).bind fun a => catO a term
theorem t_Degrees_rank (term : List Int) : Ag2 (mD cT) (n_Degrees_rank term) (d_Degrees_rank [cDeg (), cT term]) := by
  unfold n_Degrees_rank d_Degrees_rank sd_Degrees_rank
  exact td_run (N := 2) rfl rfl (ts_retX (m := (mD cT)) (tx_toM (tx_bin1 ox_catT (tx_tup (e := cT) (tk_x (tx_toD er_d (tx_callP (tpa_cons (tp_rd (a := term) (e := cT) 1) tpa_nil) (t_degree _))) fun v => (tk_nil end_tup))) (tp_rd (a := term) (e := cT) 1))))

noncomputable def n_Tails_rank (term : List Int) : Out (List Int) := ((n_degree term).bind fun v => Out.ok [v]).bind fun a => catO a ((term.reverse).map fun power => -power)
theorem t_Tails_rank (term : List Int) : Ag2 (mD cT) (n_Tails_rank term) (d_Tails_rank [cTail (), cT term]) := by
  unfold n_Tails_rank d_Tails_rank sd_Tails_rank
  exact td_run (N := 3) rfl rfl (ts_retX (m := (mD cT)) (tx_toM (tx_bin1 ox_catT (tx_tup (e := cT) (tk_x (tx_toD er_d (tx_callP (tpa_cons (tp_rd (a := term) (e := cT) 1) tpa_nil) (t_degree _))) fun v => (tk_nil end_tup))) (tp_cal (a := (term.reverse).map fun power => -power) (e := cT) (tpa_cons (tp_toD er_l (tp_lc (tp_itRev sqT (tp_rd (a := term) (e := cT) 1)) (tg_1 (c := D.int) 2) fun power => (tp_una op_neg (tp_rd (a := power) (e := D.int) 2)))) tpa_nil) (tupL _)))))

noncomputable def n_Weights_rank (self : List Int) (term : List Int) : Out (List Int) := (((((Out.ok (term.zip self))).bind fun xs => (mapO (fun p => (mulO p.1 p.2 : Out Int).nx) xs).nx).bind fun v => Out.ok v.sum).bind fun v_1 => Out.ok [v_1]).bind fun a => catO a term
theorem t_Weights_rank (self : List Int) (term : List Int) : Ag2 (mD cT) (n_Weights_rank self term) (d_Weights_rank [cWei self, cT term]) := by
  unfold n_Weights_rank d_Weights_rank sd_Weights_rank
  exact td_run (N := 4) rfl rfl (ts_retX (m := (mD cT)) (tx_toM (tx_bin1 ox_catT (tx_tup (e := cT) (tk_x (tx_cal (e := D.int) (tk_x (tx_toD er_l (tx_lc (TP.x (tp_itZip sqT sqT (tpa_cons (tp_rd (a := term) (e := cT) 1) (tpa_cons (tp_una (r := fun v => v) fld_WEI_weights (tp_rd (a := self) (e := cWei) 0)) tpa_nil)) rfl)) (tg_2 (tg_1 (c := D.int) 2) (tg_1 (c := D.int) 3)) fun p => (tx_bin ox_mul (tp_rd (a := p.1) (e := D.int) 2) (tp_rd (a := p.2) (e := D.int) 3)))) fun v => (tk_nil (ag2_nx (sum_L _))))) fun v_1 => (tk_nil end_tup))) (tp_rd (a := term) (e := cT) 1))))

noncomputable def m_rank (o : Od) (a : List Int) : Out (List Int) := match o with
  | .lex => n_Order_rank (Od.lex) a
  | .deg => n_Degrees_rank a
  | .tail => n_Tails_rank a
  | .wei w => n_Weights_rank w a
theorem t_m_rank (o : Od) (a : List Int) : Ag2 (mD cT) (m_rank o a) ((mtR "rank" t_rank (cOrd o)).nx.bind fun f => f [cOrd o, cT a]) := by
  cases o with
  | lex =>
      refine ag2_mt (f := d_Order_rank) (mtR_ok (by decide +kernel) (by first | exact lk_hd | exact (lk_tl (by decide +kernel)).trans lk_hd | exact (lk_tl (by decide +kernel)).trans ((lk_tl (by decide +kernel)).trans lk_hd) | exact (lk_tl (by decide +kernel)).trans ((lk_tl (by decide +kernel)).trans ((lk_tl (by decide +kernel)).trans lk_hd)))) ?_
      (first | exact trivial | exact t_Order_rank (Od.lex) _)
  | deg =>
      refine ag2_mt (f := d_Degrees_rank) (mtR_ok (by decide +kernel) (by first | exact lk_hd | exact (lk_tl (by decide +kernel)).trans lk_hd | exact (lk_tl (by decide +kernel)).trans ((lk_tl (by decide +kernel)).trans lk_hd) | exact (lk_tl (by decide +kernel)).trans ((lk_tl (by decide +kernel)).trans ((lk_tl (by decide +kernel)).trans lk_hd)))) ?_
      (first | exact trivial | exact t_Degrees_rank _)
  | tail =>
      refine ag2_mt (f := d_Tails_rank) (mtR_ok (by decide +kernel) (by first | exact lk_hd | exact (lk_tl (by decide +kernel)).trans lk_hd | exact (lk_tl (by decide +kernel)).trans ((lk_tl (by decide +kernel)).trans lk_hd) | exact (lk_tl (by decide +kernel)).trans ((lk_tl (by decide +kernel)).trans ((lk_tl (by decide +kernel)).trans lk_hd)))) ?_
      (first | exact trivial | exact t_Tails_rank _)
  | wei w =>
      refine ag2_mt (f := d_Weights_rank) (mtR_ok (by decide +kernel) (by first | exact lk_hd | exact (lk_tl (by decide +kernel)).trans lk_hd | exact (lk_tl (by decide +kernel)).trans ((lk_tl (by decide +kernel)).trans lk_hd) | exact (lk_tl (by decide +kernel)).trans ((lk_tl (by decide +kernel)).trans ((lk_tl (by decide +kernel)).trans lk_hd)))) ?_
      (first | exact trivial | exact t_Weights_rank w _)

noncomputable def n_Order_fits (self : Od) (many : Int) : Out Bool := Out.ok true
theorem t_Order_fits (self : Od) (many : Int) : Ag2 (mD D.bl) (n_Order_fits self many) (d_Order_fits [cOrd self, D.int many]) := by
  unfold n_Order_fits d_Order_fits sd_Order_fits
  exact td_run (N := 2) rfl rfl (ts_ret (m := (mD D.bl)) (a := true) (tp_toM (tp_cst (a := true) (e := D.bl))))

noncomputable def n_Weights_fits (self : List Int) (many : Int) : Out Bool := Out.ok (decide ((self.length : Int) = many))
theorem t_Weights_fits (self : List Int) (many : Int) : Ag2 (mD D.bl) (n_Weights_fits self many) (d_Weights_fits [cWei self, D.int many]) := by
  unfold n_Weights_fits d_Weights_fits sd_Weights_fits
  exact td_run (N := 2) rfl rfl (ts_ret (m := (mD D.bl)) (a := decide ((self.length : Int) = many)) (tp_toM (tp_bin (eq_pd pd_I) (tp_cal (a := (self.length : Int)) (e := D.int) (tpa_cons (tp_una (r := fun v => v) fld_WEI_weights (tp_rd (a := self) (e := cWei) 0)) tpa_nil) (sqT.ln _)) (tp_rd (a := many) (e := D.int) 1))))

noncomputable def m_fits (o : Od) (a : Int) : Out Bool := match o with
  | .lex => n_Order_fits (Od.lex) a
  | .deg => n_Order_fits (Od.deg) a
  | .tail => n_Order_fits (Od.tail) a
  | .wei w => n_Weights_fits w a
theorem t_m_fits (o : Od) (a : Int) : Ag2 (mD D.bl) (m_fits o a) ((mtR "fits" t_fits (cOrd o)).nx.bind fun f => f [cOrd o, D.int a]) := by
  cases o with
  | lex =>
      refine ag2_mt (f := d_Order_fits) (mtR_ok (by decide +kernel) (by first | exact lk_hd | exact (lk_tl (by decide +kernel)).trans lk_hd | exact (lk_tl (by decide +kernel)).trans ((lk_tl (by decide +kernel)).trans lk_hd) | exact (lk_tl (by decide +kernel)).trans ((lk_tl (by decide +kernel)).trans ((lk_tl (by decide +kernel)).trans lk_hd)))) ?_
      (first | exact trivial | exact t_Order_fits (Od.lex) _)
  | deg =>
      refine ag2_mt (f := d_Order_fits) (mtR_ok (by decide +kernel) (by first | exact lk_hd | exact (lk_tl (by decide +kernel)).trans lk_hd | exact (lk_tl (by decide +kernel)).trans ((lk_tl (by decide +kernel)).trans lk_hd) | exact (lk_tl (by decide +kernel)).trans ((lk_tl (by decide +kernel)).trans ((lk_tl (by decide +kernel)).trans lk_hd)))) ?_
      (first | exact trivial | exact t_Order_fits (Od.deg) _)
  | tail =>
      refine ag2_mt (f := d_Order_fits) (mtR_ok (by decide +kernel) (by first | exact lk_hd | exact (lk_tl (by decide +kernel)).trans lk_hd | exact (lk_tl (by decide +kernel)).trans ((lk_tl (by decide +kernel)).trans lk_hd) | exact (lk_tl (by decide +kernel)).trans ((lk_tl (by decide +kernel)).trans ((lk_tl (by decide +kernel)).trans lk_hd)))) ?_
      (first | exact trivial | exact t_Order_fits (Od.tail) _)
  | wei w =>
      refine ag2_mt (f := d_Weights_fits) (mtR_ok (by decide +kernel) (by first | exact lk_hd | exact (lk_tl (by decide +kernel)).trans lk_hd | exact (lk_tl (by decide +kernel)).trans ((lk_tl (by decide +kernel)).trans lk_hd) | exact (lk_tl (by decide +kernel)).trans ((lk_tl (by decide +kernel)).trans ((lk_tl (by decide +kernel)).trans lk_hd)))) ?_
      (first | exact trivial | exact t_Weights_fits w _)

/-! Ring(many, field, order) -/
noncomputable def new_Ring (many : Int) (field : Fd) (order : Od) : Out Rng := if decide (many < 1) || decide (4 < many) then .exc "NoRing" else (m_fits order many).bind fun b => if b then .ok ⟨many, field, order⟩ else .exc "NoRing"
theorem len4 : dLen [.str "xyzt"] = .ok (.int 4) := by
  show (if (Str.ofString "xyzt").length ≤ sizeLine then Out.ok (D.int ((Str.ofString "xyzt").length : Nat)) else .stuck) = _
  rw [if_pos (by decide +kernel)]
  rfl
theorem t_new_Ring (many : Int) (field : Fd) (order : Od) : Ag2 cRing (new_Ring many field order) (newD "Ring" i_Ring [.int many, cFld field, cOrd order]) := by
  have h := t_m_fits order many
  have start : ∀ x, i_Ring x [.int many, cFld field, cOrd order] = si_Ring x [] [some (.dat (.loc x)), some (.dat (.int many)), some (.dat (cFld field)), some (.dat (cOrd order))] := fun x => rfl
  unfold new_Ring
  cases h1 : decide (many < 1) with
  | true =>
    refine newD_exc fun x => ?_
    rw [start, si_Ring]
    simp only [iPre, sSeq, sIf, sRet, sSet, sNil, sFor, sExc, sRetN, sCont, sBrk, toM, toD, DA.bin, una, tst, calD, callM, cst, andD, orD, notD, ifD, isB, notB, andB, orB, aNil, aCons, itSeq, itRange1, itRange2, itZip, rd, ob_ok, ob_ex, ob_st, om_ok, om_ex, on_ok, gSet, gTupD, gsNil, gsCons, tYesB, runD, fin_rt, fin_nx, fin_ex, asB_bl, add_ii, ad_ii, gx_ii, lof_l, lof_t, oNone, oSome, slD, dSl, itRev, maxDf,  sub_ii, neg_i, lt_ii, le_ii, gt_ii, ge_ii, seq_lst, seq_tup, zip_tt, zip_tl, zip_lt, zip_ll, er_dat, er_lst, tuple_lst, tuple_tup, len_lst, len_tup, max_ii, min_ii, abs_n, c0, c1, c2, c3, dEq_int, dNe_int, dEq_bl, isi_int_int, isi_bool_int, isi_bool_bl, isi_int_bl, isi_tuple_tup, isi_list_lst, isn_non, isn_tup, isn_int, nn_non, nn_tup, nn_int, isn_obj, nn_obj, List.getElem?_cons_zero, List.getElem?_cons_succ, List.set_cons_zero, List.set_cons_succ, List.length_cons, List.length_nil, List.length_map, List.map_cons, List.map_nil, List.replicate_succ, List.replicate_zero, List.cons_append, List.nil_append, if_true, if_false, Bool.false_eq_true, ite_self, Bool.not_true, Bool.not_false, Nat.reduceAdd, Nat.reduceLT, Nat.zero_add, h1]
    all_goals rfl
  | false =>
    cases h2 : decide (4 < many) with
    | true =>
      refine newD_exc fun x => ?_
      rw [start, si_Ring]
      simp only [iPre, sSeq, sIf, sRet, sSet, sNil, sFor, sExc, sRetN, sCont, sBrk, toM, toD, DA.bin, una, tst, calD, callM, cst, andD, orD, notD, ifD, isB, notB, andB, orB, aNil, aCons, itSeq, itRange1, itRange2, itZip, rd, ob_ok, ob_ex, ob_st, om_ok, om_ex, on_ok, gSet, gTupD, gsNil, gsCons, tYesB, runD, fin_rt, fin_nx, fin_ex, asB_bl, add_ii, ad_ii, gx_ii, lof_l, lof_t, oNone, oSome, slD, dSl, itRev, maxDf,  sub_ii, neg_i, lt_ii, le_ii, gt_ii, ge_ii, seq_lst, seq_tup, zip_tt, zip_tl, zip_lt, zip_ll, er_dat, er_lst, tuple_lst, tuple_tup, len_lst, len_tup, max_ii, min_ii, abs_n, c0, c1, c2, c3, dEq_int, dNe_int, dEq_bl, isi_int_int, isi_bool_int, isi_bool_bl, isi_int_bl, isi_tuple_tup, isi_list_lst, isn_non, isn_tup, isn_int, nn_non, nn_tup, nn_int, isn_obj, nn_obj, List.getElem?_cons_zero, List.getElem?_cons_succ, List.set_cons_zero, List.set_cons_succ, List.length_cons, List.length_nil, List.length_map, List.map_cons, List.map_nil, List.replicate_succ, List.replicate_zero, List.cons_append, List.nil_append, if_true, if_false, Bool.false_eq_true, ite_self, Bool.not_true, Bool.not_false, Nat.reduceAdd, Nat.reduceLT, Nat.zero_add, h1, len4, h2]
      all_goals rfl
    | false =>
      simp only [Bool.or_self, Bool.false_eq_true, if_false]
      cases e : m_fits order many with
      | stuck => exact trivial
      | exc z =>
        rw [e] at h
        refine newD_exc fun x => ?_
        have hm : mtC "fits" t_fits (rd 3) (aCons (rd 1) aNil) [some (.dat (.loc x)), some (.dat (.int many)), some (.dat (cFld field)), some (.dat (cOrd order))] = .exc z := h
        rw [start, si_Ring]
        simp only [iPre, sSeq, sIf, sRet, sSet, sNil, sFor, sExc, sRetN, sCont, sBrk, toM, toD, DA.bin, una, tst, calD, callM, cst, andD, orD, notD, ifD, isB, notB, andB, orB, aNil, aCons, itSeq, itRange1, itRange2, itZip, rd, ob_ok, ob_ex, ob_st, om_ok, om_ex, on_ok, gSet, gTupD, gsNil, gsCons, tYesB, runD, fin_rt, fin_nx, fin_ex, asB_bl, add_ii, ad_ii, gx_ii, lof_l, lof_t, oNone, oSome, slD, dSl, itRev, maxDf,  sub_ii, neg_i, lt_ii, le_ii, gt_ii, ge_ii, seq_lst, seq_tup, zip_tt, zip_tl, zip_lt, zip_ll, er_dat, er_lst, tuple_lst, tuple_tup, len_lst, len_tup, max_ii, min_ii, abs_n, c0, c1, c2, c3, dEq_int, dNe_int, dEq_bl, isi_int_int, isi_bool_int, isi_bool_bl, isi_int_bl, isi_tuple_tup, isi_list_lst, isn_non, isn_tup, isn_int, nn_non, nn_tup, nn_int, isn_obj, nn_obj, List.getElem?_cons_zero, List.getElem?_cons_succ, List.set_cons_zero, List.set_cons_succ, List.length_cons, List.length_nil, List.length_map, List.map_cons, List.map_nil, List.replicate_succ, List.replicate_zero, List.cons_append, List.nil_append, if_true, if_false, Bool.false_eq_true, ite_self, Bool.not_true, Bool.not_false, Nat.reduceAdd, Nat.reduceLT, Nat.zero_add, h1, len4, h2, hm]
        all_goals rfl
      | ok b =>
        rw [e] at h
        cases b with
        | true =>
          refine newD_ok (acc := [("order", cOrd order), ("field", cFld field), ("many", .int many)]) fun x => ?_
          have hm : mtC "fits" t_fits (rd 3) (aCons (rd 1) aNil) [some (.dat (.loc x)), some (.dat (.int many)), some (.dat (cFld field)), some (.dat (cOrd order))] = .ok (.dat (.bl true)) := h
          rw [start, si_Ring]
          simp only [iPre, sSeq, sIf, sRet, sSet, sNil, sFor, sExc, sRetN, sCont, sBrk, toM, toD, DA.bin, una, tst, calD, callM, cst, andD, orD, notD, ifD, isB, notB, andB, orB, aNil, aCons, itSeq, itRange1, itRange2, itZip, rd, ob_ok, ob_ex, ob_st, om_ok, om_ex, on_ok, gSet, gTupD, gsNil, gsCons, tYesB, runD, fin_rt, fin_nx, fin_ex, asB_bl, add_ii, ad_ii, gx_ii, lof_l, lof_t, oNone, oSome, slD, dSl, itRev, maxDf,  sub_ii, neg_i, lt_ii, le_ii, gt_ii, ge_ii, seq_lst, seq_tup, zip_tt, zip_tl, zip_lt, zip_ll, er_dat, er_lst, tuple_lst, tuple_tup, len_lst, len_tup, max_ii, min_ii, abs_n, c0, c1, c2, c3, dEq_int, dNe_int, dEq_bl, isi_int_int, isi_bool_int, isi_bool_bl, isi_int_bl, isi_tuple_tup, isi_list_lst, isn_non, isn_tup, isn_int, nn_non, nn_tup, nn_int, isn_obj, nn_obj, List.getElem?_cons_zero, List.getElem?_cons_succ, List.set_cons_zero, List.set_cons_succ, List.length_cons, List.length_nil, List.length_map, List.map_cons, List.map_nil, List.replicate_succ, List.replicate_zero, List.cons_append, List.nil_append, if_true, if_false, Bool.false_eq_true, ite_self, Bool.not_true, Bool.not_false, Nat.reduceAdd, Nat.reduceLT, Nat.zero_add, h1, len4, h2, hm]
          exact iset_ok rfl rfl rfl (Nat.le_of_ble_eq_true rfl) (iset_ok rfl rfl rfl (Nat.le_of_ble_eq_true rfl) (iset_ok rfl rfl rfl (Nat.le_of_ble_eq_true rfl) rfl))
        | false =>
          refine newD_exc fun x => ?_
          have hm : mtC "fits" t_fits (rd 3) (aCons (rd 1) aNil) [some (.dat (.loc x)), some (.dat (.int many)), some (.dat (cFld field)), some (.dat (cOrd order))] = .ok (.dat (.bl false)) := h
          rw [start, si_Ring]
          simp only [iPre, sSeq, sIf, sRet, sSet, sNil, sFor, sExc, sRetN, sCont, sBrk, toM, toD, DA.bin, una, tst, calD, callM, cst, andD, orD, notD, ifD, isB, notB, andB, orB, aNil, aCons, itSeq, itRange1, itRange2, itZip, rd, ob_ok, ob_ex, ob_st, om_ok, om_ex, on_ok, gSet, gTupD, gsNil, gsCons, tYesB, runD, fin_rt, fin_nx, fin_ex, asB_bl, add_ii, ad_ii, gx_ii, lof_l, lof_t, oNone, oSome, slD, dSl, itRev, maxDf,  sub_ii, neg_i, lt_ii, le_ii, gt_ii, ge_ii, seq_lst, seq_tup, zip_tt, zip_tl, zip_lt, zip_ll, er_dat, er_lst, tuple_lst, tuple_tup, len_lst, len_tup, max_ii, min_ii, abs_n, c0, c1, c2, c3, dEq_int, dNe_int, dEq_bl, isi_int_int, isi_bool_int, isi_bool_bl, isi_int_bl, isi_tuple_tup, isi_list_lst, isn_non, isn_tup, isn_int, nn_non, nn_tup, nn_int, isn_obj, nn_obj, List.getElem?_cons_zero, List.getElem?_cons_succ, List.set_cons_zero, List.set_cons_succ, List.length_cons, List.length_nil, List.length_map, List.map_cons, List.map_nil, List.replicate_succ, List.replicate_zero, List.cons_append, List.nil_append, if_true, if_false, Bool.false_eq_true, ite_self, Bool.not_true, Bool.not_false, Nat.reduceAdd, Nat.reduceLT, Nat.zero_add, h1, len4, h2, hm]
          all_goals rfl

noncomputable def n_k07_law_ring (many_here : Int) (field : Fd) (order_here : Od) : Out (Option Rng) := (tryT "NoRing" ((new_Ring many_here field order_here).bind fun v => Out.ok (some v)) (fun (found : Option Rng) => (found : (Option Rng))) (Out.ok none)).bind fun found_1 => Out.ok found_1
theorem t_k07_law_ring (many_here : Int) (field : Fd) (order_here : Od) : Ag2 (mD (cO cRing)) (n_k07_law_ring many_here field order_here) (d_k07_law_ring [D.int many_here, cFld field, cOrd order_here]) := by
  unfold n_k07_law_ring d_k07_law_ring sd_k07_law_ring
  exact td_run (N := 4) rfl rfl (ts_set (a := none) (m := (mD (cO cRing))) (by decide) (tp_toM (TP.to (b := none) (e' := (cO cRing)) (tp_cst (a := ()) (e := cN)) )) (ts_try (st := (fun (z : (Option Rng)) => [(3, (mD (cO cRing)) z)])) (vs := [3]) (m := (mD (cO cRing))) (by decide) (tx_toM (TX.to (k := fun v => Out.ok (some v)) (e' := (cO cRing)) (tx_newF (tk_p (tp_rd (a := many_here) (e := D.int) 0) (tk_p (tp_rd (a := field) (e := cFld) 1) (tk_p (tp_rd (a := order_here) (e := cOrd) 2) (tk_nil (t_new_Ring _ _ _)))))) fun _ => rfl)) (fun found => (hasL_cons rfl hasL_nil)) rfl (ts_set (a := none) (m := (mD (cO cRing))) (by decide) (tp_toM (TP.to (b := none) (e' := (cO cRing)) (tp_cst (a := ()) (e := cN)) )) (ts_end (sub_gs (hasL_cons rfl hasL_nil) (sub_drop_up sub_drop rfl)))) fun found_1 => (ts_ret (m := (mD (cO cRing))) (a := found_1) (tp_toM (tp_rd (a := found_1) (e := (cO cRing)) 3)))))

noncomputable def n_Ring_letters (self : Rng) : Out Str := slSO ("xyzt" : Str) none (some self.many)
theorem t_Ring_letters (self : Rng) : Ag2 (mD D.str) (n_Ring_letters self) (d_Ring_letters [cRing self]) := by
  unfold n_Ring_letters d_Ring_letters sd_Ring_letters
  exact td_run (N := 1) rfl rfl (ts_retX (m := (mD D.str)) (tx_toM (tx_slS (tp_cst (a := ("xyzt" : Str)) (e := D.str)) tp_oN (tp_oS (tp_una (r := fun v => v.many) fld_RING_many (tp_rd (a := self) (e := cRing) 0))))))

noncomputable def m_letters (R : Rng) : Out Str := n_Ring_letters R
theorem t_m_letters (R : Rng) : Ag2 (mD D.str) (m_letters R) ((mtR "letters" t_letters (cRing R)).nx.bind fun f => f [cRing R]) := by
  refine ag2_mt (f := d_Ring_letters) (mtR_ok (by decide +kernel) (by first | exact lk_hd | exact (lk_tl (by decide +kernel)).trans lk_hd | exact (lk_tl (by decide +kernel)).trans ((lk_tl (by decide +kernel)).trans lk_hd) | exact (lk_tl (by decide +kernel)).trans ((lk_tl (by decide +kernel)).trans ((lk_tl (by decide +kernel)).trans lk_hd)))) ?_
  (first | exact trivial | exact t_Ring_letters R)

noncomputable def n_common (a : Int) (b : Int) : Out Int := (whO (fun (z : Int × Int) => (Out.ok (!decide (z.2 = 0)))) (fun (z : Int × Int) => (modO z.1 z.2).bind fun rest => Out.ok (z.2, rest)) (a, b)).bind fun z_1 => Out.ok z_1.1
theorem t_common (a : Int) (b : Int) : Ag2 (mD D.int) (n_common a b) (d_common [D.int a, D.int b]) := by
  unfold n_common d_common sd_common sl_common_1
  exact td_run (N := 3) rfl rfl (ts_whileG (st := (fun (z : Int × Int) => [(0, (mD D.int) z.1), (1, (mD D.int) z.2)])) (vs := [2, 0, 1]) (z := (a, b)) (hasL_cons rfl (hasL_cons rfl hasL_nil)) (fun z => (TP.x (tp_tst (tp_bin (ne_pd pd_I) (tp_rd (a := z.2) (e := D.int) 1) (tp_cst (a := 0) (e := D.int)))))) (fun z => (ts_setX (m := (mD D.int)) (by decide) (tx_toM (tx_bin ox_mod (tp_rd (a := z.1) (e := D.int) 0) (tp_rd (a := z.2) (e := D.int) 1))) fun rest => (ts_set (a := z.2) (m := (mD D.int)) (by decide) (tp_toM (tp_rd (a := z.2) (e := D.int) 1)) (ts_set (a := rest) (m := (mD D.int)) (by decide) (tp_toM (tp_rd (a := rest) (e := D.int) 2)) (ts_end (sub_gs (hasL_cons rfl (hasL_cons rfl hasL_nil)) (sub_drop_up (sub_drop_up (sub_drop_up (sub_drop_up (sub_drop_up sub_refl rfl) rfl) rfl) rfl) rfl))))))) fun z_1 => (ts_ret (m := (mD D.int)) (a := z_1.1) (tp_toM (tp_rd (a := z_1.1) (e := D.int) 0))))

noncomputable def n_Fractions_made (top : Int) (bottom : Int) : Out (Int × Int) := if decide (bottom = 0) then Out.exc "NoOver" else (n_common (top.natAbs : Int) (bottom.natAbs : Int)).bind fun shared => ((if decide (bottom < 0) then lt (-shared : Int) fun shared_1 => Out.ok shared_1 else Out.ok shared : Out Int)).bind fun shared_2 => (divO top shared_2).bind fun v => (divO bottom shared_2).bind fun v_1 => Out.ok (v, v_1)
theorem t_Fractions_made (top : Int) (bottom : Int) : Ag2 (mD (cA2 D.int D.int)) (n_Fractions_made top bottom) (d_Fractions_made [cFr (), D.int top, D.int bottom]) := by
  unfold n_Fractions_made d_Fractions_made sd_Fractions_made
  exact td_run (N := 4) rfl rfl (ts_guard (tp_tst (tp_bin (eq_pd pd_I) (tp_rd (a := bottom) (e := D.int) 2) (tp_cst (a := 0) (e := D.int)))) ts_exc (ts_setX (m := (mD D.int)) (by decide) (tx_toM (tx_toD er_d (tx_callP (tpa_cons (tp_cal (a := (top.natAbs : Int)) (e := D.int) (tpa_cons (tp_rd (a := top) (e := D.int) 1) tpa_nil) (abs_n _)) (tpa_cons (tp_cal (a := (bottom.natAbs : Int)) (e := D.int) (tpa_cons (tp_rd (a := bottom) (e := D.int) 2) tpa_nil) (abs_n _)) tpa_nil)) (t_common _ _)))) fun shared => (ts_if (tp_tst (tp_bin op_ltI (tp_rd (a := bottom) (e := D.int) 2) (tp_cst (a := 0) (e := D.int)))) (G := GS [3] _ (fun (z : Int) => [(3, (mD D.int) z)])) (ts_setL (m := (mD D.int)) (by decide) (tp_toM (tp_una op_neg (tp_rd (a := shared) (e := D.int) 3))) fun shared_1 => (ts_end (sub_gs (hasL_cons rfl hasL_nil) (sub_drop_up sub_drop rfl)))) (ts_end (sub_gs (hasL_cons rfl hasL_nil) sub_drop)) fun shared_2 => (ts_retX (m := (mD (cA2 D.int D.int))) (tx_toM (tx_tup (e := (cA2 D.int D.int)) (tk_x (tx_bin ox_div (tp_rd (a := top) (e := D.int) 1) (tp_rd (a := shared_2) (e := D.int) 3)) fun v => (tk_x (tx_bin ox_div (tp_rd (a := bottom) (e := D.int) 2) (tp_rd (a := shared_2) (e := D.int) 3)) fun v_1 => (tk_nil end_tup)))))))))
noncomputable def n_Fractions_made_d1 (top : Int) : Out (Int × Int) := n_Fractions_made top 1
theorem t_Fractions_made_d1 (top : Int) : Ag2 (mD (cA2 D.int D.int)) (n_Fractions_made_d1 top) (d_Fractions_made_d1 [cFr (), D.int top]) := t_Fractions_made top 1

noncomputable def n_Rests_times (self : Int) (a : Int) (b : Int) : Out Int := (mulO a b).bind fun a_1 => modO a_1 self
theorem t_Rests_times (self : Int) (a : Int) (b : Int) : Ag2 (mD D.int) (n_Rests_times self a b) (d_Rests_times [cRe self, D.int a, D.int b]) := by
  unfold n_Rests_times d_Rests_times sd_Rests_times
  exact td_run (N := 3) rfl rfl (ts_retX (m := (mD D.int)) (tx_toM (tx_bin1 ox_mod (tx_bin ox_mul (tp_rd (a := a) (e := D.int) 1) (tp_rd (a := b) (e := D.int) 2)) (tp_una (r := fun v => v) fld_RES_prime (tp_rd (a := self) (e := cRe) 0)))))

noncomputable def n_turned_rest (number : Int) (prime : Int) : Out Int := (whO (fun (z : Int × Int × Int × Int) => (Out.ok (!decide (z.2.1 = 0)))) (fun (z : Int × Int × Int × Int) => (divO z.1 z.2.1).bind fun many => ((mulO many z.2.1).bind fun b => Out.ok (z.1 - b)).bind fun rest => ((mulO many z.2.2.2).bind fun b_1 => Out.ok (z.2.2.1 - b_1)).bind fun behind => Out.ok (z.2.1, rest, z.2.2.2, behind)) (prime, number, 0, 1)).bind fun z_1 => modO z_1.2.2.1 prime
theorem t_turned_rest (number : Int) (prime : Int) : Ag2 (mD D.int) (n_turned_rest number prime) (d_turned_rest [D.int number, D.int prime]) := by
  unfold n_turned_rest d_turned_rest sd_turned_rest sl_turned_rest_1
  exact td_run (N := 9) rfl rfl (ts_set (a := prime) (m := (mD D.int)) (by decide) (tp_toM (tp_rd (a := prime) (e := D.int) 1)) (ts_set (a := number) (m := (mD D.int)) (by decide) (tp_toM (tp_rd (a := number) (e := D.int) 0)) (ts_set (a := 0) (m := (mD D.int)) (by decide) (tp_toM (tp_cst (a := 0) (e := D.int))) (ts_set (a := 1) (m := (mD D.int)) (by decide) (tp_toM (tp_cst (a := 1) (e := D.int))) (ts_whileG (st := (fun (z : Int × Int × Int × Int) => [(2, (mD D.int) z.1), (3, (mD D.int) z.2.1), (4, (mD D.int) z.2.2.1), (5, (mD D.int) z.2.2.2)])) (vs := [6, 7, 2, 3, 8, 4, 5]) (z := (prime, number, 0, 1)) (hasL_cons rfl (hasL_cons rfl (hasL_cons rfl (hasL_cons rfl hasL_nil)))) (fun z => (TP.x (tp_tst (tp_bin (ne_pd pd_I) (tp_rd (a := z.2.1) (e := D.int) 3) (tp_cst (a := 0) (e := D.int)))))) (fun z => (ts_setX (m := (mD D.int)) (by decide) (tx_toM (tx_bin ox_div (tp_rd (a := z.1) (e := D.int) 2) (tp_rd (a := z.2.1) (e := D.int) 3))) fun many => (ts_setX (m := (mD D.int)) (by decide) (tx_toM (tx_bin2 (OpP.x op_subI) (tp_rd (a := z.1) (e := D.int) 2) (tx_bin ox_mul (tp_rd (a := many) (e := D.int) 6) (tp_rd (a := z.2.1) (e := D.int) 3)))) fun rest => (ts_set (a := z.2.1) (m := (mD D.int)) (by decide) (tp_toM (tp_rd (a := z.2.1) (e := D.int) 3)) (ts_set (a := rest) (m := (mD D.int)) (by decide) (tp_toM (tp_rd (a := rest) (e := D.int) 7)) (ts_setX (m := (mD D.int)) (by decide) (tx_toM (tx_bin2 (OpP.x op_subI) (tp_rd (a := z.2.2.1) (e := D.int) 4) (tx_bin ox_mul (tp_rd (a := many) (e := D.int) 6) (tp_rd (a := z.2.2.2) (e := D.int) 5)))) fun behind => (ts_set (a := z.2.2.2) (m := (mD D.int)) (by decide) (tp_toM (tp_rd (a := z.2.2.2) (e := D.int) 5)) (ts_set (a := behind) (m := (mD D.int)) (by decide) (tp_toM (tp_rd (a := behind) (e := D.int) 8)) (ts_end (sub_gs (hasL_cons rfl (hasL_cons rfl (hasL_cons rfl (hasL_cons rfl hasL_nil)))) (sub_drop_up (sub_drop_up (sub_drop_up (sub_drop_up (sub_drop_up (sub_drop_up (sub_drop_up (sub_drop_up (sub_drop_up (sub_drop_up (sub_drop_up sub_refl rfl) rfl) rfl) rfl) rfl) rfl) rfl) rfl) rfl) rfl) rfl))))))))))) fun z_1 => (ts_retX (m := (mD D.int)) (tx_toM (tx_bin ox_mod (tp_rd (a := z_1.2.2.1) (e := D.int) 4) (tp_rd (a := prime) (e := D.int) 1)))))))))

noncomputable def n_Rests_turned (self : Int) (a : Int) : Out Int := (modO a self).bind fun rest => if decide (rest = 0) then Out.exc "NoOver" else n_turned_rest rest self
theorem t_Rests_turned (self : Int) (a : Int) : Ag2 (mD D.int) (n_Rests_turned self a) (d_Rests_turned [cRe self, D.int a]) := by
  unfold n_Rests_turned d_Rests_turned sd_Rests_turned
  exact td_run (N := 3) rfl rfl (ts_setX (m := (mD D.int)) (by decide) (tx_toM (tx_bin ox_mod (tp_rd (a := a) (e := D.int) 1) (tp_una (r := fun v => v) fld_RES_prime (tp_rd (a := self) (e := cRe) 0)))) fun rest => (ts_guard (tp_tst (tp_bin (eq_pd pd_I) (tp_rd (a := rest) (e := D.int) 2) (tp_cst (a := 0) (e := D.int)))) ts_exc (ts_retX (m := (mD D.int)) (tx_toM (tx_toD er_d (tx_callP (tpa_cons (tp_rd (a := rest) (e := D.int) 2) (tpa_cons (tp_una (r := fun v => v) fld_RES_prime (tp_rd (a := self) (e := cRe) 0)) tpa_nil)) (t_turned_rest _ _)))))))

noncomputable def n_Rests_made (self : Int) (top : Int) (bottom : Int) : Out Int := (modO top self).bind fun v => (n_Rests_turned self bottom).bind fun v_1 => n_Rests_times self v v_1
theorem t_Rests_made (self : Int) (top : Int) (bottom : Int) : Ag2 (mD D.int) (n_Rests_made self top bottom) (d_Rests_made [cRe self, D.int top, D.int bottom]) := by
  unfold n_Rests_made d_Rests_made sd_Rests_made
  exact td_run (N := 3) rfl rfl (ts_retX (m := (mD D.int)) (tx_toM (tx_toD er_d (tx_mtX ⟨_, mtR_ok (by decide +kernel) (by first | exact lk_hd | exact (lk_tl (by decide +kernel)).trans lk_hd | exact (lk_tl (by decide +kernel)).trans ((lk_tl (by decide +kernel)).trans lk_hd) | exact (lk_tl (by decide +kernel)).trans ((lk_tl (by decide +kernel)).trans ((lk_tl (by decide +kernel)).trans lk_hd)))⟩ (tp_rd (a := self) (e := cRe) 0) (tk_x (tx_bin ox_mod (tp_rd (a := top) (e := D.int) 1) (tp_una (r := fun v => v) fld_RES_prime (tp_rd (a := self) (e := cRe) 0))) fun v => (tk_x (tx_toD er_d (tx_mtP (tp_rd (a := self) (e := cRe) 0) (tpa_cons (tp_rd (a := bottom) (e := D.int) 2) tpa_nil) (ag2_mt (mtR_ok (by decide +kernel) (by first | exact lk_hd | exact (lk_tl (by decide +kernel)).trans lk_hd | exact (lk_tl (by decide +kernel)).trans ((lk_tl (by decide +kernel)).trans lk_hd) | exact (lk_tl (by decide +kernel)).trans ((lk_tl (by decide +kernel)).trans ((lk_tl (by decide +kernel)).trans lk_hd)))) (t_Rests_turned self _)))) fun v_1 => (tk_nil (ag2_mt (mtR_ok (by decide +kernel) (by first | exact lk_hd | exact (lk_tl (by decide +kernel)).trans lk_hd | exact (lk_tl (by decide +kernel)).trans ((lk_tl (by decide +kernel)).trans lk_hd) | exact (lk_tl (by decide +kernel)).trans ((lk_tl (by decide +kernel)).trans ((lk_tl (by decide +kernel)).trans lk_hd)))) (t_Rests_times self _ _)))))))))
noncomputable def n_Rests_made_d1 (self : Int) (top : Int) : Out Int := n_Rests_made self top 1
theorem t_Rests_made_d1 (self : Int) (top : Int) : Ag2 (mD D.int) (n_Rests_made_d1 self top) (d_Rests_made_d1 [cRe self, D.int top]) := t_Rests_made self top 1

noncomputable def m_made_d1 (F : Fd) (a : Int) : Out Num := match F with
  | .fr => (n_Fractions_made_d1 a).map fun v => Num.fr v.1 v.2
  | .re p => (n_Rests_made_d1 p a).map Num.re
theorem t_m_made_d1 (F : Fd) (a : Int) : Ag2 (mD cNum) (m_made_d1 F a) ((mtR "made" t_made_d1 (cFld F)).nx.bind fun f => f [cFld F, D.int a]) := by
  cases F with
  | fr =>
      refine ag2_mt (f := d_Fractions_made_d1) (mtR_ok (by decide +kernel) (by first | exact lk_hd | exact (lk_tl (by decide +kernel)).trans lk_hd | exact (lk_tl (by decide +kernel)).trans ((lk_tl (by decide +kernel)).trans lk_hd) | exact (lk_tl (by decide +kernel)).trans ((lk_tl (by decide +kernel)).trans ((lk_tl (by decide +kernel)).trans lk_hd)))) ?_
      (first | exact trivial | exact ag2_map (t_Fractions_made_d1 _) fun _ => rfl)
  | re p =>
      refine ag2_mt (f := d_Rests_made_d1) (mtR_ok (by decide +kernel) (by first | exact lk_hd | exact (lk_tl (by decide +kernel)).trans lk_hd | exact (lk_tl (by decide +kernel)).trans ((lk_tl (by decide +kernel)).trans lk_hd) | exact (lk_tl (by decide +kernel)).trans ((lk_tl (by decide +kernel)).trans ((lk_tl (by decide +kernel)).trans lk_hd)))) ?_
      (first | exact trivial | exact ag2_map (t_Rests_made_d1 p _) fun _ => rfl)

noncomputable def n_Field_one (self : Fd) : Out Num := m_made_d1 self 1
theorem t_Field_one (self : Fd) : Ag2 (mD cNum) (n_Field_one self) (d_Field_one [cFld self]) := by
  unfold n_Field_one d_Field_one sd_Field_one
  exact td_run (N := 1) rfl rfl (ts_retX (m := (mD cNum)) (tx_toM (tx_toD er_d (tx_mtP (tp_rd (a := self) (e := cFld) 0) (tpa_cons (tp_cst (a := 1) (e := D.int)) tpa_nil) (t_m_made_d1 self _)))))

noncomputable def m_one (F : Fd) : Out Num := match F with
  | .fr => n_Field_one (Fd.fr)
  | .re p => n_Field_one (Fd.re p)
theorem t_m_one (F : Fd) : Ag2 (mD cNum) (m_one F) ((mtR "one" t_one (cFld F)).nx.bind fun f => f [cFld F]) := by
  cases F with
  | fr =>
      refine ag2_mt (f := d_Field_one) (mtR_ok (by decide +kernel) (by first | exact lk_hd | exact (lk_tl (by decide +kernel)).trans lk_hd | exact (lk_tl (by decide +kernel)).trans ((lk_tl (by decide +kernel)).trans lk_hd) | exact (lk_tl (by decide +kernel)).trans ((lk_tl (by decide +kernel)).trans ((lk_tl (by decide +kernel)).trans lk_hd)))) ?_
      (first | exact trivial | exact t_Field_one (Fd.fr))
  | re p =>
      refine ag2_mt (f := d_Field_one) (mtR_ok (by decide +kernel) (by first | exact lk_hd | exact (lk_tl (by decide +kernel)).trans lk_hd | exact (lk_tl (by decide +kernel)).trans ((lk_tl (by decide +kernel)).trans lk_hd) | exact (lk_tl (by decide +kernel)).trans ((lk_tl (by decide +kernel)).trans ((lk_tl (by decide +kernel)).trans lk_hd)))) ?_
      (first | exact trivial | exact t_Field_one (Fd.re p))

noncomputable def n_Ring_unknown (self : Rng) (at_ : Int) : Out (List (List Int × Num)) := (((rgO 0 self.many).bind fun xs => (mapO (fun k => ((Out.ok (if decide (k = at_) then 1 else 0)) : Out Int).nx) xs).nx).bind fun v => Out.ok v).bind fun term => ((Out.ok term)).bind fun k_1 => (m_one self.field).bind fun v_1 => Out.ok [(k_1, v_1)]
theorem t_Ring_unknown (self : Rng) (at_ : Int) : Ag2 (mDT cNum) (n_Ring_unknown self at_) (d_Ring_unknown [cRing self, D.int at_]) := by
  unfold n_Ring_unknown d_Ring_unknown sd_Ring_unknown
  exact td_run (N := 4) rfl rfl (ts_setX (m := (mD cT)) (by decide) (tx_toM (tx_cal (e := cT) (tk_x (tx_toD er_l (tx_lc (tx_range1 (tpa_cons (tp_una (r := fun v => v.many) fld_RING_many (tp_rd (a := self) (e := cRing) 0)) tpa_nil)) (tg_1 (c := D.int) 3) fun k => (TP.x (tp_ifD (tp_tst (tp_bin (eq_pd pd_I) (tp_rd (a := k) (e := D.int) 3) (tp_rd (a := at_) (e := D.int) 1))) (tp_cst (a := 1) (e := D.int)) (tp_cst (a := 0) (e := D.int)))))) fun v => (tk_nil (ag2_nx (tupL _)))))) fun term => (ts_retX (m := (mDT cNum)) (tx_disp (TP.x (tp_rd (a := term) (e := cT) 2)) (tx_toD er_d (tx_mtP (tp_una (r := fun v => v.field) fld_RING_field (tp_rd (a := self) (e := cRing) 0)) tpa_nil (t_m_one self.field))))))

noncomputable def m_unknown (R : Rng) (a : Int) : Out (List (List Int × Num)) := n_Ring_unknown R a
theorem t_m_unknown (R : Rng) (a : Int) : Ag2 (mDT cNum) (m_unknown R a) ((mtR "unknown" t_unknown (cRing R)).nx.bind fun f => f [cRing R, D.int a]) := by
  refine ag2_mt (f := d_Ring_unknown) (mtR_ok (by decide +kernel) (by first | exact lk_hd | exact (lk_tl (by decide +kernel)).trans lk_hd | exact (lk_tl (by decide +kernel)).trans ((lk_tl (by decide +kernel)).trans lk_hd) | exact (lk_tl (by decide +kernel)).trans ((lk_tl (by decide +kernel)).trans ((lk_tl (by decide +kernel)).trans lk_hd)))) ?_
  (first | exact trivial | exact t_Ring_unknown R _)

noncomputable def n_k07_law_parts (found : List (List Int × Num)) (term : List Int) (number : Num) : Out Bool := if (!true) || (!eqTd found ([(term, number)])) then Out.ok false else (forC (fun (z : Unit) (one : List Int) => (if !true then Out.ok (.rt false) else Out.ok (.nx ()) : Out (Ct (Bool) Unit))) (found.map (·.1)) ()).nx.bind fun c => thenC c fun z_1 => Out.ok true
theorem t_k07_law_parts (found : List (List Int × Num)) (term : List Int) (number : Num) : Ag2 (mD D.bl) (n_k07_law_parts found term number) (d_k07_law_parts [(cDT cNum) found, cT term, cNum number]) := by
  unfold n_k07_law_parts d_k07_law_parts sd_k07_law_parts sl_k07_law_parts_1
  exact td_run (N := 4) rfl rfl (ts_guard (tp_or (tp_not (tp_isB (tp_una (r := fun _ => true) (isi_dict_DT) (tp_rd (a := found) (e := (cDT cNum)) 0)))) (tp_tst (tp_bin (op_neT' pd_NUM) (tp_rd (a := found) (e := (cDT cNum)) 0) (tp_toD er_dt (tp_disp (tp_rd (a := term) (e := cT) 1) (tp_rd (a := number) (e := cNum) 2)))))) (px_r (ts_ret (m := (mD D.bl)) (a := false) (tp_toM (tp_cst (a := false) (e := D.bl))))) (ts_forCDG (st := (fun (z : Unit) => [])) (vs := [3]) (z := ()) (tp_itKeys (tp_rd (a := found) (e := (cDT cNum)) 0)) hasL_nil (tg_1 (c := cT) 3) (fun z one => (ts_ifLast (tp_not (tp_isB (tp_una (r := fun v => true) (isi_tuple_T) (tp_rd (a := one) (e := cT) 3)))) (ts_retC (m := (mD D.bl)) (a := false) (tp_toM (tp_cst (a := false) (e := D.bl)))) (ts_endC (sub_gs hasL_nil (sub_drop_up sub_refl rfl))))) fun z_1 => (ts_ret (m := (mD D.bl)) (a := true) (tp_toM (tp_cst (a := true) (e := D.bl))))))

noncomputable def n_Field_nought (self : Fd) : Out Num := m_made_d1 self 0
theorem t_Field_nought (self : Fd) : Ag2 (mD cNum) (n_Field_nought self) (d_Field_nought [cFld self]) := by
  unfold n_Field_nought d_Field_nought sd_Field_nought
  exact td_run (N := 1) rfl rfl (ts_retX (m := (mD cNum)) (tx_toM (tx_toD er_d (tx_mtP (tp_rd (a := self) (e := cFld) 0) (tpa_cons (tp_cst (a := 0) (e := D.int)) tpa_nil) (t_m_made_d1 self _)))))

noncomputable def m_nought (F : Fd) : Out Num := match F with
  | .fr => n_Field_nought (Fd.fr)
  | .re p => n_Field_nought (Fd.re p)
theorem t_m_nought (F : Fd) : Ag2 (mD cNum) (m_nought F) ((mtR "nought" t_nought (cFld F)).nx.bind fun f => f [cFld F]) := by
  cases F with
  | fr =>
      refine ag2_mt (f := d_Field_nought) (mtR_ok (by decide +kernel) (by first | exact lk_hd | exact (lk_tl (by decide +kernel)).trans lk_hd | exact (lk_tl (by decide +kernel)).trans ((lk_tl (by decide +kernel)).trans lk_hd) | exact (lk_tl (by decide +kernel)).trans ((lk_tl (by decide +kernel)).trans ((lk_tl (by decide +kernel)).trans lk_hd)))) ?_
      (first | exact trivial | exact t_Field_nought (Fd.fr))
  | re p =>
      refine ag2_mt (f := d_Field_nought) (mtR_ok (by decide +kernel) (by first | exact lk_hd | exact (lk_tl (by decide +kernel)).trans lk_hd | exact (lk_tl (by decide +kernel)).trans ((lk_tl (by decide +kernel)).trans lk_hd) | exact (lk_tl (by decide +kernel)).trans ((lk_tl (by decide +kernel)).trans ((lk_tl (by decide +kernel)).trans lk_hd)))) ?_
      (first | exact trivial | exact t_Field_nought (Fd.re p))

noncomputable def n_Ring_constant (self : Rng) (number : Num) : Out (List (List Int × Num)) := ((m_nought self.field).bind fun b => Out.ok (decide (number = b))).bind fun b_1 => if b_1 then Out.ok ([]) else (((rgO 0 self.many).bind fun xs => (mapO (fun k => ((Out.ok (0 : Int)) : Out Int).nx) xs).nx).bind fun v => Out.ok v).bind fun k_1 => ((Out.ok number)).bind fun v_1 => Out.ok [(k_1, v_1)]
theorem t_Ring_constant (self : Rng) (number : Num) : Ag2 (mDT cNum) (n_Ring_constant self number) (d_Ring_constant [cRing self, cNum number]) := by
  unfold n_Ring_constant d_Ring_constant sd_Ring_constant
  exact td_run (N := 3) rfl rfl (ts_testX (tx_tst (tx_bin2 (OpP.x (eq_pd pd_NUM)) (tp_rd (a := number) (e := cNum) 1) (tx_toD er_d (tx_mtP (tp_una (r := fun v => v.field) fld_RING_field (tp_rd (a := self) (e := cRing) 0)) tpa_nil (t_m_nought self.field))))) fun b_1 _ hb => (ts_guard hb (px_r (ts_ret (m := (mDT cNum)) (a := []) (tp_dic0 (c := cNum)))) (ts_retX (m := (mDT cNum)) (tx_disp (tx_cal (e := cT) (tk_x (tx_toD er_l (tx_lc (tx_range1 (tpa_cons (tp_una (r := fun v => v.many) fld_RING_many (tp_rd (a := self) (e := cRing) 0)) tpa_nil)) (tg_1 (c := D.int) 2) fun k => (TP.x (tp_cst (a := 0) (e := D.int))))) fun v => (tk_nil (ag2_nx (tupL _))))) (TP.x (tp_rd (a := number) (e := cNum) 1))))))

noncomputable def m_constant (R : Rng) (a : Num) : Out (List (List Int × Num)) := n_Ring_constant R a
theorem t_m_constant (R : Rng) (a : Num) : Ag2 (mDT cNum) (m_constant R a) ((mtR "constant" t_constant (cRing R)).nx.bind fun f => f [cRing R, cNum a]) := by
  refine ag2_mt (f := d_Ring_constant) (mtR_ok (by decide +kernel) (by first | exact lk_hd | exact (lk_tl (by decide +kernel)).trans lk_hd | exact (lk_tl (by decide +kernel)).trans ((lk_tl (by decide +kernel)).trans lk_hd) | exact (lk_tl (by decide +kernel)).trans ((lk_tl (by decide +kernel)).trans ((lk_tl (by decide +kernel)).trans lk_hd)))) ?_
  (first | exact trivial | exact t_Ring_constant R _)

noncomputable def n_k07_law_good (ring_here : Rng) (many_here : Int) (field : Fd) (order_here : Od) (cell_here : Int) : Out Bool := if (!decide (ring_here.many = many_here)) || (!decide (ring_here.field.prime = field.prime)) then Out.ok false else (((rgO 0 many_here).bind fun xs => (mapO (fun at_ => ((Out.ok (0 : Int)) : Out Int).nx) xs).nx).bind fun v => Out.ok v).bind fun still => (((rgO 0 many_here).bind fun xs_1 => (mapO (fun at__1 => ((Out.ok ((cell_here / 3) % 11 + at__1)) : Out Int).nx) xs_1).nx).bind fun v_1 => Out.ok v_1).bind fun mark => (((m_rank ring_here.order mark).bind fun a => (m_rank order_here mark).bind fun b => Out.ok (!decide (a = b))).bind fun b_2 => if b_2 then Out.ok true else (m_letters ring_here).bind fun a_1 => (slSO ("xyzt" : Str) none (some many_here)).bind fun b_1 => (eqS a_1 b_1).map (!·)).bind fun b_3 => if b_3 then Out.ok false else (rgO 0 many_here).bind fun xs_3 => (forC (fun (z : Unit) (at__2 : Int) => ((((rgO 0 many_here).bind fun xs_2 => (mapO (fun k => ((Out.ok (bint (decide (k = at__2)))) : Out Int).nx) xs_2).nx).bind fun v_2 => Out.ok v_2).bind fun term => (m_unknown ring_here at__2).bind fun told => (((m_one field).bind fun v_3 => n_k07_law_parts told term v_3).map (!·)).bind fun b_4 => if b_4 then Out.ok (.rt false) else (((m_unknown ring_here at__2).bind fun v_4 => (m_one field).bind fun v_5 => n_k07_law_parts v_4 term v_5).map (!·)).bind fun b_5 => if b_5 then Out.ok (.rt false) else Out.ok (.nx ()) : Out (Ct (Bool) Unit))) xs_3 ()).bind fun c => thenC c fun z_1 => (m_made_d1 field (1 + (cell_here / 2) % 1000000000000000000000000000000)).bind fun number => ((m_nought field).bind fun b_6 => Out.ok (decide (number = b_6))).bind fun b_7 => ((if b_7 then (m_one field).bind fun number_1 => Out.ok number_1 else Out.ok number : Out Num)).bind fun number_2 => ((m_nought field).bind fun v_6 => m_constant ring_here v_6).bind fun nought => if !eqTd nought ([]) then Out.ok false else (putO nought still number_2).bind fun nought_1 => (m_constant ring_here number_2).bind fun told_1 => ((((m_nought field).bind fun v_7 => m_constant ring_here v_7).bind fun a_2 => Out.ok (!eqTd a_2 ([]))).bind fun b_8 => if b_8 then Out.ok true else (n_k07_law_parts told_1 still number_2).map (!·)).bind fun b_9 => if b_9 then Out.ok false else (m_constant ring_here number_2).bind fun v_8 => n_k07_law_parts v_8 still number_2
theorem t_k07_law_good (ring_here : Rng) (many_here : Int) (field : Fd) (order_here : Od) (cell_here : Int) : Ag2 (mD D.bl) (n_k07_law_good ring_here many_here field order_here cell_here) (d_k07_law_good [cRing ring_here, D.int many_here, cFld field, cOrd order_here, D.int cell_here]) := by
  unfold n_k07_law_good d_k07_law_good sd_k07_law_good sl_k07_law_good_1
  exact td_run (N := 13) rfl rfl (ts_guard (tp_or (tp_tst (tp_bin (ne_pd pd_I) (tp_una (r := fun v => v.many) fld_RING_many (tp_rd (a := ring_here) (e := cRing) 0)) (tp_rd (a := many_here) (e := D.int) 1))) (tp_tst (tp_bin (ne_pd pd_I) (tp_una (r := fun v => v.prime) fld_FLD_prime (tp_una (r := fun v => v.field) fld_RING_field (tp_rd (a := ring_here) (e := cRing) 0))) (tp_una (r := fun v => v.prime) fld_FLD_prime (tp_rd (a := field) (e := cFld) 2))))) (px_r (ts_ret (m := (mD D.bl)) (a := false) (tp_toM (tp_cst (a := false) (e := D.bl))))) (ts_setX (m := (mD cT)) (by decide) (tx_toM (tx_cal (e := cT) (tk_x (tx_toD er_l (tx_lc (tx_range1 (tpa_cons (tp_rd (a := many_here) (e := D.int) 1) tpa_nil)) (tg_1 (c := D.int) 7) fun at_ => (TP.x (tp_cst (a := 0) (e := D.int))))) fun v => (tk_nil (ag2_nx (tupL _)))))) fun still => (ts_setX (m := (mD cT)) (by decide) (tx_toM (tx_cal (e := cT) (tk_x (tx_toD er_l (tx_lc (tx_range1 (tpa_cons (tp_rd (a := many_here) (e := D.int) 1) tpa_nil)) (tg_1 (c := D.int) 7) fun at__1 => (TP.x (tp_bin op_addI (tp_modR (j := 11) (tp_cst (a := 11) (e := D.int)) (by decide) (tp_divR (j := 3) (tp_cst (a := 3) (e := D.int)) (by decide) (by decide) (tp_rd (a := cell_here) (e := D.int) 4))) (tp_rd (a := at__1) (e := D.int) 7))))) fun v_1 => (tk_nil (ag2_nx (tupL _)))))) fun mark => (ts_testX (tx_or1 (tx_tst (tx_bin3 (OpP.x (ne_pd pd_T)) (tx_toD er_d (tx_mtP (tp_una (r := fun v => v.order) fld_RING_order (tp_rd (a := ring_here) (e := cRing) 0)) (tpa_cons (tp_rd (a := mark) (e := cT) 6) tpa_nil) (t_m_rank ring_here.order _))) (tx_toD er_d (tx_mtP (tp_rd (a := order_here) (e := cOrd) 3) (tpa_cons (tp_rd (a := mark) (e := cT) 6) tpa_nil) (t_m_rank order_here _))))) (tx_tst (tx_bin3 ox_neS (tx_toD er_d (tx_mtP (tp_rd (a := ring_here) (e := cRing) 0) tpa_nil (t_m_letters ring_here))) (tx_slS (tp_cst (a := ("xyzt" : Str)) (e := D.str)) tp_oN (tp_oS (tp_rd (a := many_here) (e := D.int) 1)))))) fun b_3 _ hb => (ts_guard hb (px_r (ts_ret (m := (mD D.bl)) (a := false) (tp_toM (tp_cst (a := false) (e := D.bl))))) (ts_iterX (tx_range1 (tpa_cons (tp_rd (a := many_here) (e := D.int) 1) tpa_nil)) fun xs_3 _ hi => (ts_forCG (st := (fun (z : Unit) => [])) (vs := [8, 9, 7]) (z := ()) hi hasL_nil (tg_1 (c := D.int) 7) (fun z at__2 => (ts_setX (m := (mD cT)) (by decide) (tx_toM (tx_cal (e := cT) (tk_x (tx_toD er_l (tx_lc (tx_range1 (tpa_cons (tp_rd (a := many_here) (e := D.int) 1) tpa_nil)) (tg_1 (c := D.int) 12) fun k => (TP.x (tp_cal (a := bint (decide (k = at__2))) (e := D.int) (tpa_cons (tp_bin (eq_pd pd_I) (tp_rd (a := k) (e := D.int) 12) (tp_rd (a := at__2) (e := D.int) 7)) tpa_nil) (int1_B _))))) fun v_2 => (tk_nil (ag2_nx (tupL _)))))) fun term => (ts_setX (m := (mDT cNum)) (by decide) (tx_mtP (tp_rd (a := ring_here) (e := cRing) 0) (tpa_cons (tp_rd (a := at__2) (e := D.int) 7) tpa_nil) (t_m_unknown ring_here _)) fun told => (ts_testX (tx_borB (tx_not (tx_isB (tx_toD er_d (tx_call (tk_p (tp_rdE (a := told) (e := (cDT cNum)) (m := (mDT cNum) told) 9 rfl (er_dt _)) (tk_p (tp_rd (a := term) (e := cT) 8) (tk_x (tx_toD er_d (tx_mtP (tp_rd (a := field) (e := cFld) 2) tpa_nil (t_m_one field))) fun v_3 => (tk_nil (t_k07_law_parts _ _ _)))))))))) fun b_4 _ hb => (ts_guard hb (ts_retCp (m := (mD D.bl)) (a := false) (tp_toM (tp_cst (a := false) (e := D.bl)))) (ts_clear (c := cNum) (F := told) (by decide) rfl (ts_testX (tx_not (tx_isB (tx_toD er_d (tx_call (tk_x (tx_toD er_dt (tx_mtP (tp_rd (a := ring_here) (e := cRing) 0) (tpa_cons (tp_rd (a := at__2) (e := D.int) 7) tpa_nil) (t_m_unknown ring_here _))) fun v_4 => (tk_p (tp_rd (a := term) (e := cT) 8) (tk_x (tx_toD er_d (tx_mtP (tp_rd (a := field) (e := cFld) 2) tpa_nil (t_m_one field))) fun v_5 => (tk_nil (t_k07_law_parts _ _ _))))))))) fun b_5 _ hb => (ts_ifLast hb (ts_retC (m := (mD D.bl)) (a := false) (tp_toM (tp_cst (a := false) (e := D.bl)))) (ts_endC (sub_gs hasL_nil (sub_drop_up (sub_drop_up (sub_drop_up (sub_drop_up sub_refl rfl) rfl) rfl) rfl))))))))))) fun z_1 => (ts_setX (m := (mD cNum)) (by decide) (tx_toM (tx_toD er_d (tx_mtP (tp_rd (a := field) (e := cFld) 2) (tpa_cons (tp_bin op_addI (tp_cst (a := 1) (e := D.int)) (tp_modR (j := 1000000000000000000000000000000) (TP.eq (a' := 1000000000000000000000000000000) (tp_powC (tp_cst (a := 10) (e := D.int)) (tp_cst (a := 30) (e := D.int)) (by decide)) (by decide)) (by decide) (tp_divR (j := 2) (tp_cst (a := 2) (e := D.int)) (by decide) (by decide) (tp_rd (a := cell_here) (e := D.int) 4)))) tpa_nil) (t_m_made_d1 field _)))) fun number => (ts_testX (tx_tst (tx_bin2 (OpP.x (eq_pd pd_NUM)) (tp_rd (a := number) (e := cNum) 10) (tx_toD er_d (tx_mtP (tp_rd (a := field) (e := cFld) 2) tpa_nil (t_m_nought field))))) fun b_7 _ hb => (ts_if hb (G := GS [10] _ (fun (z : Num) => [(10, (mD cNum) z)])) (ts_setX (m := (mD cNum)) (by decide) (tx_toM (tx_toD er_d (tx_mtP (tp_rd (a := field) (e := cFld) 2) tpa_nil (t_m_one field)))) fun number_1 => (ts_end (sub_gs (hasL_cons rfl hasL_nil) (sub_drop_up sub_drop rfl)))) (ts_end (sub_gs (hasL_cons rfl hasL_nil) sub_drop)) fun number_2 => (ts_setX (m := (mDT cNum)) (by decide) (tx_mtX ⟨_, mtR_ok (by decide +kernel) (by first | exact lk_hd | exact (lk_tl (by decide +kernel)).trans lk_hd | exact (lk_tl (by decide +kernel)).trans ((lk_tl (by decide +kernel)).trans lk_hd) | exact (lk_tl (by decide +kernel)).trans ((lk_tl (by decide +kernel)).trans ((lk_tl (by decide +kernel)).trans lk_hd)))⟩ (tp_rd (a := ring_here) (e := cRing) 0) (tk_x (tx_toD er_d (tx_mtP (tp_rd (a := field) (e := cFld) 2) tpa_nil (t_m_nought field))) fun v_6 => (tk_nil (t_m_constant ring_here _)))) fun nought => (ts_guard (tp_borB (tp_tst (tp_bin (op_neT' pd_NUM) (tp_rdE (a := nought) (e := (cDT cNum)) (m := (mDT cNum) nought) 11 rfl (er_dt _)) (tp_toD er_dt (tp_dic0 (c := cNum)))))) (px_r (ts_ret (m := (mD D.bl)) (a := false) (tp_toM (tp_cst (a := false) (e := D.bl))))) (ts_putT (c := cNum) (F := nought) (by decide) rfl (tp_rd (a := still) (e := cT) 5) (tp_rd (a := number_2) (e := cNum) 10) fun nought_1 => (ts_setX (m := (mDT cNum)) (by decide) (tx_mtP (tp_rd (a := ring_here) (e := cRing) 0) (tpa_cons (tp_rd (a := number_2) (e := cNum) 10) tpa_nil) (t_m_constant ring_here _)) fun told_1 => (ts_testX (tx_borB (tx_or1 (tx_tst (tx_bin1 (OpP.x (op_neT' pd_NUM)) (tx_toD er_dt (tx_mtX ⟨_, mtR_ok (by decide +kernel) (by first | exact lk_hd | exact (lk_tl (by decide +kernel)).trans lk_hd | exact (lk_tl (by decide +kernel)).trans ((lk_tl (by decide +kernel)).trans lk_hd) | exact (lk_tl (by decide +kernel)).trans ((lk_tl (by decide +kernel)).trans ((lk_tl (by decide +kernel)).trans lk_hd)))⟩ (tp_rd (a := ring_here) (e := cRing) 0) (tk_x (tx_toD er_d (tx_mtP (tp_rd (a := field) (e := cFld) 2) tpa_nil (t_m_nought field))) fun v_7 => (tk_nil (t_m_constant ring_here _))))) (tp_toD er_dt (tp_dic0 (c := cNum))))) (tx_not (tx_isB (tx_toD er_d (tx_callP (tpa_cons (tp_rdE (a := told_1) (e := (cDT cNum)) (m := (mDT cNum) told_1) 9 rfl (er_dt _)) (tpa_cons (tp_rd (a := still) (e := cT) 5) (tpa_cons (tp_rd (a := number_2) (e := cNum) 10) tpa_nil))) (t_k07_law_parts _ _ _))))))) fun b_9 _ hb => (ts_guard hb (px_r (ts_ret (m := (mD D.bl)) (a := false) (tp_toM (tp_cst (a := false) (e := D.bl))))) (ts_clear (c := cNum) (F := told_1) (by decide) rfl (ts_retX (m := (mD D.bl)) (tx_toM (tx_toD er_d (tx_call (tk_x (tx_toD er_dt (tx_mtP (tp_rd (a := ring_here) (e := cRing) 0) (tpa_cons (tp_rd (a := number_2) (e := cNum) 10) tpa_nil) (t_m_constant ring_here _))) fun v_8 => (tk_p (tp_rd (a := still) (e := cT) 5) (tk_p (tp_rd (a := number_2) (e := cNum) 10) (tk_nil (t_k07_law_parts _ _ _))))))))))))))))))))))))))

noncomputable def n_k07_law (script : List Int) : Out Bool := (rgO 0 (script.length : Int)).bind fun xs => (forC (fun (z : Unit) (k : Int) => ((ixL script k).bind fun cell_here => (n_k07_law_many cell_here).bind fun many_here => (n_k07_law_weights (cell_here / 108) many_here).bind fun weights_here => ((n_k07_law_cell script (k + 1)).bind fun a => Out.ok (a % 4)).bind fun kind => (n_k07_law_order kind weights_here).bind fun order_here => ((if decide ((cell_here / 2) % 2 = 1) then ((ixL ([2, 3, 5, 97, 9973]) ((cell_here / 4) % 5)).bind fun v => new_Rests v).bind fun field => Out.ok field else Out.ok Fd.fr : Out Fd)).bind fun field_1 => (rgO 1 (max 0 (min many_here 8) + 1)).bind fun mark => lt ([] : List Int) fun before => ((if (decide (kind = 3)) && ((decide (0 < many_here)) && (decide ((weights_here.length : Int) = many_here))) then (m_rank order_here mark).bind fun before_1 => Out.ok before_1 else Out.ok before : Out (List Int))).bind fun before_2 => (n_k07_law_ring many_here field_1 order_here).bind fun ring_here => lt ((decide (1 ≤ many_here) && decide (many_here ≤ 4)) && ((!decide (kind = 3)) || (decide ((weights_here.length : Int) = many_here))) : Bool) fun right => if !decide (right = ring_here.isSome) then Out.ok (.rt false) else (if right then ((getO ring_here).bind fun v_1 => n_k07_law_good v_1 many_here field_1 order_here cell_here).map (!·) else Out.ok false).bind fun b => if b then Out.ok (.rt false) else if right && (decide (kind = 3)) then ((ixL weights_here 0).bind fun a_1 => Out.ok (a_1 + 5)).bind fun v_2 => ((Out.ok 0)).bind fun k_1 => (setO weights_here k_1 v_2).bind fun weights_here_1 => ((((getO ring_here).bind fun v => Out.ok v.order).bind fun o => m_rank o mark).bind fun a_2 => Out.ok (!decide (a_2 = before_2))).bind fun b_1 => if b_1 then Out.ok (.rt false) else Out.ok (.nx ()) else Out.ok (.nx ()) : Out (Ct (Bool) Unit))) xs ()).bind fun c => thenC c fun z_1 => Out.ok true
theorem t_k07_law (script : List Int) : Ag2 (mD D.bl) (n_k07_law script) (d_k07_law [(cL D.int) script]) := by
  unfold n_k07_law d_k07_law sd_k07_law sl_k07_law_1
  exact td_run (N := 12) rfl rfl (ts_iterX (tx_range1 (tpa_cons (tp_cal (a := (script.length : Int)) (e := D.int) (tpa_cons (tp_rd (a := script) (e := (cL D.int)) 0) tpa_nil) (sqL.ln _)) tpa_nil)) fun xs _ hi => (ts_forCG (st := (fun (z : Unit) => [])) (vs := [2, 3, 4, 5, 6, 7, 8, 9, 10, 11, 1]) (z := ()) hi hasL_nil (tg_1 (c := D.int) 1) (fun z k => (ts_setX (m := (mD D.int)) (by decide) (tx_toM (tx_bin (ox_ix sqL) (tp_rd (a := script) (e := (cL D.int)) 0) (tp_rd (a := k) (e := D.int) 1))) fun cell_here => (ts_setX (m := (mD D.int)) (by decide) (tx_toM (tx_toD er_d (tx_callP (tpa_cons (tp_rd (a := cell_here) (e := D.int) 2) tpa_nil) (t_k07_law_many _)))) fun many_here => (ts_setX (m := (mL D.int)) (by decide) (tx_callP (tpa_cons (tp_divR (j := 108) (tp_cst (a := 108) (e := D.int)) (by decide) (by decide) (tp_rd (a := cell_here) (e := D.int) 2)) (tpa_cons (tp_rd (a := many_here) (e := D.int) 3) tpa_nil)) (t_k07_law_weights _ _)) fun weights_here => (ts_setX (m := (mD D.int)) (by decide) (tx_toM (tx_modR (j := 4) (tp_cst (a := 4) (e := D.int)) (by decide) (tx_toD er_d (tx_callP (tpa_cons (tp_rd (a := script) (e := (cL D.int)) 0) (tpa_cons (tp_bin op_addI (tp_rd (a := k) (e := D.int) 1) (tp_cst (a := 1) (e := D.int))) tpa_nil)) (t_k07_law_cell _ _))))) fun kind => (ts_setX (m := (mD cOrd)) (by decide) (tx_toM (tx_toD er_o (tx_borM (tx_callP (tpa_cons (tp_rd (a := kind) (e := D.int) 5) (tpa_cons (tp_rdE (a := weights_here) (e := (cL D.int)) (m := (mL D.int) weights_here) 4 rfl (er_l _)) tpa_nil)) (t_k07_law_order _ _)) fun _ => immo_ORD _))) fun order_here => (ts_set (a := Fd.fr) (m := (mD cFld)) (by decide) (tp_toM tp_new_Fractions) (ts_if (tp_tst (tp_bin (eq_pd pd_I) (tp_modR (j := 2) (tp_cst (a := 2) (e := D.int)) (by decide) (tp_divR (j := 2) (tp_cst (a := 2) (e := D.int)) (by decide) (by decide) (tp_rd (a := cell_here) (e := D.int) 2))) (tp_cst (a := 1) (e := D.int)))) (G := GS [7] _ (fun (z : Fd) => [(7, (mD cFld) z)])) (ts_setX (m := (mD cFld)) (by decide) (tx_toM (tx_newF (tk_x (tx_bin (ox_ix sqL) (tp_toD er_l (tp_lst (a := [2, 3, 5, 97, 9973]) (e := (mL D.int)) (tpa_cons (tp_cst (a := 2) (e := D.int)) (tpa_cons (tp_cst (a := 3) (e := D.int)) (tpa_cons (tp_cst (a := 5) (e := D.int)) (tpa_cons (tp_cst (a := 97) (e := D.int)) (tpa_cons (tp_cst (a := 9973) (e := D.int)) tpa_nil))))))) (tp_modR (j := 5) (tp_cst (a := 5) (e := D.int)) (by decide) (tp_divR (j := 4) (tp_cst (a := 4) (e := D.int)) (by decide) (by decide) (tp_rd (a := cell_here) (e := D.int) 2)))) fun v => (tk_nil (t_new_Rests _))))) fun field => (ts_end (sub_gs (hasL_cons rfl hasL_nil) (sub_drop_up sub_drop rfl)))) (ts_end (sub_gs (hasL_cons rfl hasL_nil) sub_drop)) fun field_1 => (ts_setX (m := (mD cT)) (by decide) (tx_toM (tx_tupRg2 (tp_cst (a := 1) (e := D.int)) (tp_bin op_addI (tp_cal (a := max 0 (min many_here 8)) (e := D.int) (tpa_cons (tp_cst (a := 0) (e := D.int)) (tpa_cons (tp_cal (a := min many_here 8) (e := D.int) (tpa_cons (tp_rd (a := many_here) (e := D.int) 3) (tpa_cons (tp_cst (a := 8) (e := D.int)) tpa_nil)) (min2_i _ _)) tpa_nil)) (max2_i _ _)) (tp_cst (a := 1) (e := D.int))))) fun mark => (ts_setL (m := (mD cT)) (by decide) (tp_toM (tp_tup (a := []) (e := cT) tpa_nil)) fun before => (ts_if (tp_borB (tp_and (tp_tst (tp_bin (eq_pd pd_I) (tp_rd (a := kind) (e := D.int) 5) (tp_cst (a := 3) (e := D.int)))) (tp_and (tp_tst (tp_bin op_gtI (tp_rd (a := many_here) (e := D.int) 3) (tp_cst (a := 0) (e := D.int)))) (tp_tst (tp_bin (eq_pd pd_I) (tp_cal (a := (weights_here.length : Int)) (e := D.int) (tpa_cons (tp_rdE (a := weights_here) (e := (cL D.int)) (m := (mL D.int) weights_here) 4 rfl (er_l _)) tpa_nil) (sqL.ln _)) (tp_rd (a := many_here) (e := D.int) 3)))))) (G := GS [9] _ (fun (z : (List Int)) => [(9, (mD cT) z)])) (ts_setX (m := (mD cT)) (by decide) (tx_toM (tx_toD er_d (tx_mtP (tp_rd (a := order_here) (e := cOrd) 6) (tpa_cons (tp_rd (a := mark) (e := cT) 8) tpa_nil) (t_m_rank order_here _)))) fun before_1 => (ts_end (sub_gs (hasL_cons rfl hasL_nil) (sub_drop_up sub_drop rfl)))) (ts_end (sub_gs (hasL_cons rfl hasL_nil) sub_drop)) fun before_2 => (ts_setX (m := (mD (cO cRing))) (by decide) (tx_toM (tx_toD er_d (tx_callP (tpa_cons (tp_rd (a := many_here) (e := D.int) 3) (tpa_cons (tp_rd (a := field_1) (e := cFld) 7) (tpa_cons (tp_rd (a := order_here) (e := cOrd) 6) tpa_nil))) (t_k07_law_ring _ _ _)))) fun ring_here => (ts_setL (m := (mD D.bl)) (by decide) (tp_toM (tp_borD (tp_andD (tp_chain op_leI op_leI (tp_cst (a := 1) (e := D.int)) (tp_rd (a := many_here) (e := D.int) 3) (tp_cst (a := 4) (e := D.int))) (tp_orD (tp_bin (ne_pd pd_I) (tp_rd (a := kind) (e := D.int) 5) (tp_cst (a := 3) (e := D.int))) (tp_bin (eq_pd pd_I) (tp_cal (a := (weights_here.length : Int)) (e := D.int) (tpa_cons (tp_rdE (a := weights_here) (e := (cL D.int)) (m := (mL D.int) weights_here) 4 rfl (er_l _)) tpa_nil) (sqL.ln _)) (tp_rd (a := many_here) (e := D.int) 3)))) (imm_B _))) fun right => (ts_guard (tp_tst (tp_bin (ne_pd pd_B) (tp_rd (a := right) (e := D.bl) 11) (tp_bin (notNO (fun _ => rfl)) (tp_rd (a := ring_here) (e := (cO cRing)) 10) (tp_cst (a := ()) (e := cN))))) (ts_retCp (m := (mD D.bl)) (a := false) (tp_toM (tp_cst (a := false) (e := D.bl)))) (ts_testX (tx_and (tp_isB (tp_rd (a := right) (e := D.bl) 11)) (tx_not (tx_isB (tx_toD er_d (tx_call (tk_x (TP.tox (e' := cRing) (tp_rd (a := ring_here) (e := (cO cRing)) 10) (get_o _)) fun v_1 => (tk_p (tp_rd (a := many_here) (e := D.int) 3) (tk_p (tp_rd (a := field_1) (e := cFld) 7) (tk_p (tp_rd (a := order_here) (e := cOrd) 6) (tk_p (tp_rd (a := cell_here) (e := D.int) 2) (tk_nil (t_k07_law_good _ _ _ _ _)))))))))))) fun b _ hb => (ts_guard hb (ts_retCp (m := (mD D.bl)) (a := false) (tp_toM (tp_cst (a := false) (e := D.bl)))) (ts_ifLast (tp_and (tp_isB (tp_rd (a := right) (e := D.bl) 11)) (tp_tst (tp_bin (eq_pd pd_I) (tp_rd (a := kind) (e := D.int) 5) (tp_cst (a := 3) (e := D.int))))) (ts_putLX (c := D.int) (F := weights_here) (by decide) rfl (TP.x (tp_cst (a := 0) (e := D.int))) (tx_borD (tx_bin1 (OpP.x op_addI) (tx_bin (ox_ix sqL) (tp_rdE (a := weights_here) (e := (cL D.int)) (m := (mL D.int) weights_here) 4 rfl (er_l _)) (tp_cst (a := 0) (e := D.int))) (tp_cst (a := 5) (e := D.int))) fun _ => imm_I _) fun weights_here_1 => (ts_testX (tx_tst (tx_bin1 (OpP.x (ne_pd pd_T)) (tx_toD er_d (tx_mtR (tx_unaP (r := fun v => v.order) fld_RING_order (TP.tox (e' := cRing) (tp_rd (a := ring_here) (e := (cO cRing)) 10) (get_o _))) (tpa_cons (tp_rd (a := mark) (e := cT) 8) tpa_nil) fun o => t_m_rank o _)) (tp_rd (a := before_2) (e := cT) 9))) fun b_1 _ hb => (ts_ifLast hb (ts_retC (m := (mD D.bl)) (a := false) (tp_toM (tp_cst (a := false) (e := D.bl)))) (ts_endC (sub_gs hasL_nil (sub_drop_up (sub_drop_up (sub_drop_up (sub_drop_up (sub_drop_dr (sub_drop_up (sub_drop_up (sub_drop_up (sub_drop_dr (sub_drop_up (sub_drop_up (sub_drop_up (sub_drop_up (sub_drop_up (sub_drop_up (sub_drop_up sub_refl rfl) rfl) rfl) rfl) rfl) rfl) rfl) (by decide)) rfl) rfl) rfl) (by decide)) rfl) rfl) rfl) rfl)))))) (ts_endC (sub_gs hasL_nil (sub_drop_up (sub_drop_up (sub_drop_up (sub_drop_dr (sub_drop_up (sub_drop_up (sub_drop_up (sub_drop_dr (sub_drop_up (sub_drop_up (sub_drop_up (sub_drop_up (sub_drop_up (sub_drop_up (sub_drop_up sub_refl rfl) rfl) rfl) rfl) rfl) rfl) rfl) (by decide)) rfl) rfl) rfl) (by decide)) rfl) rfl) rfl)))))))))))))))))))) fun z_1 => (ts_ret (m := (mD D.bl)) (a := true) (tp_toM (tp_cst (a := true) (e := D.bl))))))

end DA
set_option maxHeartbeats 4000000
/-! MA: whole numbers: lowest terms, rests, primes; numbers of a field -/
namespace Ma
open DA PySem PySem.Spec PyProof.Rows L2
structure Low (top bot t b : Int) : Prop where
  pos : 0 < b
  eq : t * bot = top * b
  cop : Nat.gcd t.natAbs b.natAbs = 1
  tl : t.natAbs ≤ top.natAbs
  bl : b.natAbs ≤ bot.natAbs
theorem split (top bot : Int) (h : bot ≠ 0) : ∃ k1 k2 : Int, top = (Nat.gcd top.natAbs bot.natAbs : Nat) * k1 ∧ bot = (Nat.gcd top.natAbs bot.natAbs : Nat) * k2 ∧ Nat.gcd k1.natAbs k2.natAbs = 1 ∧ 0 < Nat.gcd top.natAbs bot.natAbs := by
  have g0 : 0 < Nat.gcd top.natAbs bot.natAbs := Nat.gcd_pos_of_pos_right _ (by omega)
  obtain ⟨k1, e1⟩ := Int.ofNat_dvd_left.mpr (Nat.gcd_dvd_left top.natAbs bot.natAbs)
  obtain ⟨k2, e2⟩ := Int.ofNat_dvd_left.mpr (Nat.gcd_dvd_right top.natAbs bot.natAbs)
  refine ⟨k1, k2, e1, e2, ?_, g0⟩
  generalize hg : Nat.gcd top.natAbs bot.natAbs = g at *
  have a1 : top.natAbs = g * k1.natAbs := by rw [e1, Int.natAbs_mul]; simp
  have a2 : bot.natAbs = g * k2.natAbs := by rw [e2, Int.natAbs_mul]; simp
  rw [a1, a2, Nat.gcd_mul_left] at hg
  exact Nat.eq_of_mul_eq_mul_left g0 (by rw [hg, Nat.mul_one])
theorem le_mul' {g k : Nat} (h : 0 < g) : k ≤ g * k := Nat.le_mul_of_pos_left k h
theorem bm {x y : Int} {m n : Nat} (h : x.natAbs < 2 ^ m) (g : y.natAbs < 2 ^ n) : (x * y).natAbs < 2 ^ (m + n) := by
  rw [Int.natAbs_mul, Nat.pow_add]
  exact Nat.mul_lt_mul'' h g
theorem ba {x y : Int} {m : Nat} (h : x.natAbs < 2 ^ m) (g : y.natAbs < 2 ^ m) : (x + y).natAbs < 2 ^ (m + 1) := by
  rw [Nat.pow_succ]
  have := Int.natAbs_add_le x y
  omega
theorem up {x : Int} {m n : Nat} (h : x.natAbs < 2 ^ m) (l : m ≤ n) : x.natAbs < 2 ^ n := Nat.lt_of_lt_of_le h (Nat.pow_le_pow_right (by decide) l)
/-! congruence -/
def Eq (p x y : Int) : Prop := p ∣ x - y
theorem Eq.rfl' {p x : Int} : Eq p x x := by unfold Eq; rw [Int.sub_self]; exact Int.dvd_zero p
theorem Eq.of {p x y : Int} (h : x = y) : Eq p x y := by rw [h]; exact Eq.rfl'
theorem Eq.sym {p x y : Int} (h : Eq p x y) : Eq p y x := by
  obtain ⟨k, e⟩ := h
  exact ⟨-k, by rw [Int.mul_neg]; omega⟩
theorem Eq.tr {p x y z : Int} (h : Eq p x y) (g : Eq p y z) : Eq p x z := by
  obtain ⟨k, e⟩ := h
  obtain ⟨l, f⟩ := g
  exact ⟨k + l, by rw [Int.mul_add]; omega⟩
theorem Eq.add {p x y z w : Int} (h : Eq p x y) (g : Eq p z w) : Eq p (x + z) (y + w) := by
  obtain ⟨k, e⟩ := h
  obtain ⟨l, f⟩ := g
  exact ⟨k + l, by rw [Int.mul_add]; omega⟩
theorem Eq.neg {p x y : Int} (h : Eq p x y) : Eq p (-x) (-y) := by
  obtain ⟨k, e⟩ := h
  exact ⟨-k, by rw [Int.mul_neg]; omega⟩
theorem Eq.mul {p x y z w : Int} (h : Eq p x y) (g : Eq p z w) : Eq p (x * z) (y * w) := by
  obtain ⟨k, e⟩ := h
  obtain ⟨l, f⟩ := g
  refine ⟨k * z + y * l, ?_⟩
  have e1 : x * z - y * z = (p * k) * z := by rw [← e, Int.sub_mul]
  have e2 : y * z - y * w = y * (p * l) := by rw [← f, Int.mul_sub]
  have e3 : p * (k * z + y * l) = (p * k) * z + y * (p * l) := by rw [Int.mul_add]; congr 1 <;> ac_rfl
  rw [e3]
  omega
theorem Eq.emod {p x : Int} : Eq p (x % p) x := by
  refine ⟨-(x / p), ?_⟩
  have := Int.emod_add_mul_ediv x p
  rw [Int.mul_neg]
  omega
theorem Eq.of0 {p x : Int} (h : x % p = 0) : Eq p x 0 := by
  have := @Eq.emod p x
  rw [h] at this
  exact this.sym
theorem Eq.to0 {p x : Int} (h : Eq p x 0) : x % p = 0 := by
  unfold Eq at h
  rw [Int.sub_zero] at h
  exact Int.emod_eq_zero_of_dvd h
theorem Eq.emodE {p x y : Int} (h : Eq p x y) : x % p = y % p := Int.emod_eq_emod_iff_emod_sub_eq_zero.mpr (Int.emod_eq_zero_of_dvd h)
theorem Eq.ofE {p x y : Int} (h : x % p = y % p) : Eq p x y := Int.dvd_of_emod_eq_zero (Int.emod_eq_emod_iff_emod_sub_eq_zero.mp h)
theorem Eq.uniq {p x y : Int} (h : Eq p x y) (hx : 0 ≤ x ∧ x < p) (hy : 0 ≤ y ∧ y < p) : x = y := by
  have := h.emodE
  rwa [Int.emod_eq_of_lt hx.1 hx.2, Int.emod_eq_of_lt hy.1 hy.2] at this
/-! primes -/
/-- no divisor from 2 on whose square is at most n -/
def Pq (n : Int) : Prop := ∀ e : Int, 2 ≤ e → e * e ≤ n → n % e ≠ 0
def Up (n d : Int) : Prop := ∀ e : Int, 2 ≤ e → e < d → n % e ≠ 0
theorem up_step {n d : Int} (h : Up n d) (h2 : n % d ≠ 0) : Up n (d + 1) := fun e h1 h3 => by
  by_cases z : e = d
  · rw [z]; exact h2
  · exact h e h1 (by omega)
theorem sq_mono {d e : Int} (h : 0 ≤ d) (h2 : d ≤ e) : d * d ≤ e * e := Int.mul_le_mul h2 h2 h (Int.le_trans h h2)
theorem pq_of {n d : Int} (hd : 2 ≤ d) (h : Up n d) (h2 : n < d * d) : Pq n := fun e h1 h3 => by
  by_cases z : e < d
  · exact h e h1 z
  · exact absurd (sq_mono (d := d) (e := e) (by omega) (by omega)) (by omega)
theorem pq_end {n : Int} (h : Up n n) : Pq n := fun e h1 h3 => by
  refine h e h1 ?_
  have : 2 * e ≤ e * e := Int.mul_le_mul_of_nonneg_right h1 (by omega)
  omega
structure Pm (p : Int) : Prop where
  lo : 2 ≤ p
  hi : p ≤ 9973
  pr : Pq p
theorem pq_dec {p : Nat} (r : Nat) (h : p < r * r) (h2 : ∀ e : Nat, e < r → 2 ≤ e → p % e ≠ 0) : Pq p := by
  intro e h1 h3
  obtain ⟨n, rfl⟩ : ∃ n : Nat, e = (n : Int) := ⟨e.toNat, by omega⟩
  have l : n < r := by
    by_cases z : n < r
    · exact z
    · have : r * r ≤ n * n := Nat.mul_le_mul (by omega) (by omega)
      rw [← Int.natCast_mul] at h3
      omega
  have q := h2 n l (by omega)
  intro z
  rw [← Int.natCast_emod] at z
  omega
theorem pm_2 : Pm 2 := ⟨by decide, by decide, pq_dec (p := 2) 2 (by decide) (by decide +kernel)⟩
theorem pm_3 : Pm 3 := ⟨by decide, by decide, pq_dec (p := 3) 2 (by decide) (by decide +kernel)⟩
theorem pm_5 : Pm 5 := ⟨by decide, by decide, pq_dec (p := 5) 3 (by decide) (by decide +kernel)⟩
theorem pm_97 : Pm 97 := ⟨by decide, by decide, pq_dec (p := 97) 10 (by decide) (by decide +kernel)⟩
theorem pm_9973 : Pm 9973 := ⟨by decide, by decide, pq_dec (p := 9973) 100 (by decide) (by decide +kernel)⟩
/-- p a prime: what lies between 0 and p is coprime to it -/
theorem coprime {p r : Nat} (hp : Pq p) (h1 : 2 ≤ p) (h : 0 < r) (h2 : r < p) : Nat.gcd p r = 1 := by
  have g0 : 0 < Nat.gcd p r := Nat.gcd_pos_of_pos_right _ h
  obtain ⟨k, e⟩ := Nat.gcd_dvd_left p r
  have gr : Nat.gcd p r ≤ r := Nat.gcd_le_right _ h
  generalize Nat.gcd p r = g at *
  have kn : k ≠ 0 := fun z => by rw [z, Nat.mul_zero] at e; omega
  have k1 : k ≠ 1 := fun z => by rw [z, Nat.mul_one] at e; omega
  have dv : ∀ a b : Nat, p = a * b → 2 ≤ a → ¬ a * a ≤ p := fun a b eab ha hs => by
    refine hp (a : Int) (by omega) (by rw [← Int.natCast_mul]; omega) ?_
    rw [← Int.natCast_emod, eab, Nat.mul_mod_right]
    rfl
  have g1 : ¬ 2 ≤ g := fun hg => by
    rcases Nat.le_total g k with l | l
    · refine dv g k e hg ?_
      rw [e]
      exact Nat.mul_le_mul_left g l
    · refine dv k g (by rw [e, Nat.mul_comm]) (by omega) ?_
      rw [e]
      exact Nat.mul_le_mul_right k l
  omega
/-- a prime's product of two is nought only where one is -/
theorem Pm.mul0 {p a b : Int} (P : Pm p) (h : (a * b) % p = 0) : a % p = 0 ∨ b % p = 0 := by
  have h2 := P.lo
  by_cases z : a % p = 0
  · exact .inl z
  · right
    have n0 := Int.emod_nonneg a (show p ≠ 0 by omega)
    have n1 := Int.emod_lt_of_pos a (show 0 < p by omega)
    have cp := coprime (p := p.toNat) (r := (a % p).toNat) (by rw [Int.toNat_of_nonneg (by omega)]; exact P.pr) (by omega) (by omega) (by omega)
    have e : Eq p ((a % p) * (b % p)) 0 := (Eq.mul Eq.emod Eq.emod).tr (Eq.of0 h)
    have e := e.to0
    have m0 := Int.emod_nonneg b (show p ≠ 0 by omega)
    have e2 : p.toNat ∣ (a % p).toNat * (b % p).toNat := by
      have : ((a % p).toNat * (b % p).toNat : Nat) % p.toNat = 0 := by
        have q : (((a % p).toNat * (b % p).toNat : Nat) : Int) % (p.toNat : Int) = 0 := by
          rw [Int.natCast_mul, Int.toNat_of_nonneg n0, Int.toNat_of_nonneg m0, Int.toNat_of_nonneg (by omega)]
          exact e
        rw [← Int.natCast_emod] at q
        omega
      exact Nat.dvd_of_mod_eq_zero this
    have e3 := Nat.Coprime.dvd_of_dvd_mul_left (show Nat.Coprime p.toNat (a % p).toNat from cp) e2
    have m1 := Int.emod_lt_of_pos b (show 0 < p by omega)
    by_cases y : (b % p).toNat = 0
    · omega
    · have := Nat.le_of_dvd (by omega) e3
      omega
/-! numbers of a field -/
def OkF : Fd → Prop
  | .fr => True
  | .re p => Pm p
def OkN : Fd → Num → Prop
  | .fr, .fr t b => 0 < b ∧ Nat.gcd t.natAbs b.natAbs = 1
  | .re p, .re v => 0 ≤ v ∧ v < p
  | _, _ => False
/-- a whole number that is not nought in the field -/
def Nz : Fd → Int → Prop
  | .fr, b => b ≠ 0
  | .re p, b => b % p ≠ 0
/-- the number is t over b -/
def Is : Fd → Num → Int → Int → Prop
  | .fr, .fr u v, t, b => u * b = t * v
  | .re p, .re v, t, b => (v * b - t) % p = 0
  | _, _, _, _ => False
/-- below 2 ^ m over below 2 ^ n -/
def Sz (m n : Nat) : Num → Prop
  | .fr u v => u.natAbs < 2 ^ m ∧ v.natAbs < 2 ^ n
  | .re v => v.natAbs < 2 ^ 14
def zN : Fd → Num
  | .fr => .fr 0 1
  | .re _ => .re 0
def oN : Fd → Num
  | .fr => .fr 1 1
  | .re _ => .re 1
theorem Nz.mul {F : Fd} (h : OkF F) {a b : Int} (ha : Nz F a) (hb : Nz F b) : Nz F (a * b) := by
  cases F with
  | fr => exact fun z => (Int.mul_eq_zero.mp z).elim ha hb
  | re p => exact fun z => (Pm.mul0 h z).elim ha hb
theorem Nz.one {F : Fd} (h : OkF F) : Nz F 1 := by
  cases F with
  | fr => exact (by decide : (1 : Int) ≠ 0)
  | re p =>
    have := Pm.lo h
    show (1 : Int) % p ≠ 0
    rw [Int.emod_eq_of_lt (by omega) (by omega)]
    decide
theorem ok_z {F : Fd} (h : OkF F) : OkN F (zN F) := by
  cases F with
  | fr => exact ⟨by decide, by decide⟩
  | re p => have := Pm.lo h; exact ⟨by omega, by omega⟩
theorem ok_o {F : Fd} (h : OkF F) : OkN F (oN F) := by
  cases F with
  | fr => exact ⟨by decide, by decide⟩
  | re p => have := Pm.lo h; exact ⟨by omega, by omega⟩
theorem is_z {F : Fd} (b : Int) : Is F (zN F) 0 b := by
  cases F with
  | fr => show (0 : Int) * b = 0 * 1; omega
  | re p => show ((0 : Int) * b - 0) % p = 0; simp
theorem is_o {F : Fd} : Is F (oN F) 1 1 := by
  cases F with
  | fr => exact rfl
  | re p => show ((1 : Int) * 1 - 1) % p = 0; simp
/-- one number alone is t over b -/
theorem is_uniq {F : Fd} (h : OkF F) {x y : Num} {t b : Int} (hx : OkN F x) (hy : OkN F y) (hb : Nz F b) (ix : Is F x t b) (iy : Is F y t b) : x = y := by
  cases F with
  | fr =>
    cases x with
    | re r => exact hx.elim
    | fr u v =>
      cases y with
      | re r => exact hy.elim
      | fr a c =>
        have e1 : u * b = t * v := ix
        have e2 : a * b = t * c := iy
        have hb : b ≠ 0 := hb
        have hv : 0 < v := hx.1
        have hc : 0 < c := hy.1
        have e : u * c = a * v := by
          refine Int.eq_of_mul_eq_mul_right hb ?_
          have h1 : u * c * b = (u * b) * c := by ac_rfl
          have h2 : a * v * b = (a * b) * v := by ac_rfl
          rw [h1, h2, e1, e2]
          ac_rfl
        have n : u.natAbs * c.natAbs = a.natAbs * v.natAbs := by rw [← Int.natAbs_mul, ← Int.natAbs_mul, e]
        have d1 : v.natAbs ∣ c.natAbs := Nat.Coprime.dvd_of_dvd_mul_left (Nat.Coprime.symm (show Nat.Coprime u.natAbs v.natAbs from hx.2)) ⟨a.natAbs, by rw [n, Nat.mul_comm]⟩
        have d2 : c.natAbs ∣ v.natAbs := Nat.Coprime.dvd_of_dvd_mul_left (Nat.Coprime.symm (show Nat.Coprime a.natAbs c.natAbs from hy.2)) ⟨u.natAbs, by rw [← n, Nat.mul_comm]⟩
        have q := Nat.dvd_antisymm d1 d2
        have vc : v = c := by omega
        subst vc
        have : u = a := Int.eq_of_mul_eq_mul_right (show v ≠ 0 by omega) e
        rw [this]
  | re p =>
    cases x with
    | fr u v => exact hx.elim
    | re r =>
      cases y with
      | fr u v => exact hy.elim
      | re s =>
        have e1 : (r * b - t) % p = 0 := ix
        have e2 : (s * b - t) % p = 0 := iy
        have e : ((r - s) * b) % p = 0 := by
          refine Eq.to0 ?_
          have e3 := (Eq.of0 e1).add (Eq.of0 e2).neg
          have e4 : (r - s) * b = r * b - t + -(s * b - t) := by rw [Int.sub_mul]; omega
          rw [e4]
          exact e3
        rcases Pm.mul0 h e with z | z
        · rw [Eq.uniq (Int.dvd_of_emod_eq_zero z) hx hy]
        · exact (hb z).elim
theorem z_of {F : Fd} (h : OkF F) {x : Num} {t b : Int} (hx : OkN F x) (hb : Nz F b) (ix : Is F x t b) : x = zN F ↔ ¬ Nz F t := by
  constructor
  · intro e
    subst e
    cases F with
    | fr =>
      have e : (0 : Int) * b = t * 1 := ix
      intro z
      have z : t ≠ 0 := z
      omega
    | re p =>
      have e : ((0 : Int) * b - t) % p = 0 := ix
      intro z
      refine (show t % p ≠ 0 from z) ?_
      have e2 := (Eq.of0 e).neg
      have e3 : -(0 * b - t) = t := by omega
      rw [e3] at e2
      exact e2.to0
  · intro z
    refine is_uniq h hx (ok_z h) hb ix ?_
    cases F with
    | fr =>
      have z : ¬ t ≠ 0 := z
      have : t = 0 := by omega
      subst this
      exact is_z b
    | re p =>
      have z : ¬ t % p ≠ 0 := z
      have z : t % p = 0 := by omega
      show ((0 : Int) * b - t) % p = 0
      have e2 := (Eq.of0 z).neg
      have e3 : 0 * b - t = -t := by omega
      rw [e3]
      exact e2.to0
end Ma
set_option maxHeartbeats 4000000
/-! MF1: what the fields' defs tell: common, is_prime, turned_rest, made -/
namespace Ma
open DA PySem PySem.Spec PyProof.Rows L2
theorem gcd_step (m n : Nat) : Nat.gcd n (m % n) = Nat.gcd m n := by
  rw [Nat.gcd_comm n, ← Nat.gcd_rec, Nat.gcd_comm]
theorem common_ok (m n : Nat) : n_common (m : Int) (n : Int) = .ok (Nat.gcd m n : Nat) := by
  unfold n_common
  obtain ⟨z, e, q⟩ := whO_ok (c := fun (z : Int × Int) => (Out.ok (!decide (z.2 = 0)))) (b := fun (z : Int × Int) => (modO z.1 z.2).bind fun rest => Out.ok (z.2, rest)) (fun z => ∃ x y : Nat, z = ((x : Int), (y : Int)) ∧ Nat.gcd x y = Nat.gcd m n) (fun z => z.2.toNat) (fun z => z.1 = ((Nat.gcd m n : Nat) : Int))
    (fun z ⟨x, y, e, g⟩ => by
      subst e
      by_cases h : y = 0
      · subst h
        left
        rw [Nat.gcd_zero_right] at g
        exact ⟨by simp, by rw [g]⟩
      · right
        refine ⟨by simp; omega, ((y : Int), ((x % y : Nat) : Int)), ?_, ⟨y, x % y, rfl, by rw [gcd_step, g]⟩, ?_⟩
        · dsimp only
          rw [modO_pos (by omega), bind_ok]
          rfl
        · have := Nat.mod_lt x (show 0 < y by omega)
          simp
          omega) ((m : Int), (n : Int)) ⟨m, n, rfl, rfl⟩
  rw [e, bind_ok, q]
theorem divO_ex {a b c : Int} (h : b ≠ 0) (h2 : b.natAbs < 2 ^ 9000) (e : a = b * c) : divO a b = .ok c := by
  unfold divO
  rw [if_pos (divC_of h h2), e, Int.mul_fdiv_cancel_left _ h]
theorem made_fr (top bot : Int) (h : bot ≠ 0) (hb : bot.natAbs < 2 ^ 9000) : ∃ t b, n_Fractions_made top bot = .ok (t, b) ∧ Low top bot t b := by
  obtain ⟨k1, k2, e1, e2, cp, g0⟩ := split top bot h
  have cm := common_ok top.natAbs bot.natAbs
  have gb : Nat.gcd top.natAbs bot.natAbs ≤ bot.natAbs := Nat.gcd_le_right _ (by omega)
  unfold n_Fractions_made
  rw [if_neg (by simpa using h), cm, bind_ok]
  generalize Nat.gcd top.natAbs bot.natAbs = g at *
  have n1 : top.natAbs = g * k1.natAbs := by rw [e1, Int.natAbs_mul]; simp
  have n2 : bot.natAbs = g * k2.natAbs := by rw [e2, Int.natAbs_mul]; simp
  by_cases s : bot < 0
  · have s1 : (-(g : Int)).natAbs < 2 ^ 9000 := by
      refine Nat.lt_of_le_of_lt ?_ hb
      rw [Int.natAbs_neg, Int.natAbs_natCast]
      exact gb
    refine ⟨-k1, -k2, ?_, ⟨?_, ?_, ?_, ?_, ?_⟩⟩
    · rw [if_pos (decide_eq_true s)]
      simp only [lt, bind_ok]
      rw [divO_ex (c := -k1) (by omega) s1 (by rw [Int.neg_mul_neg]; exact e1), bind_ok, divO_ex (c := -k2) (by omega) s1 (by rw [Int.neg_mul_neg]; exact e2), bind_ok]
    · have : ¬ 0 ≤ k2 := fun q => by
        have := Int.mul_nonneg (Int.natCast_nonneg g) q
        omega
      omega
    · rw [Int.neg_mul, Int.mul_neg]
      congr 1
      rw [e1, e2]
      ac_rfl
    · rw [Int.natAbs_neg, Int.natAbs_neg]; exact cp
    · rw [Int.natAbs_neg, n1]; exact le_mul' g0
    · rw [Int.natAbs_neg, n2]; exact le_mul' g0
  · have s1 : ((g : Int)).natAbs < 2 ^ 9000 := by
      refine Nat.lt_of_le_of_lt ?_ hb
      rw [Int.natAbs_natCast]
      exact gb
    refine ⟨k1, k2, ?_, ⟨?_, ?_, cp, ?_, ?_⟩⟩
    · rw [if_neg (by simpa using s)]
      simp only [bind_ok]
      rw [divO_ex (c := k1) (by omega) s1 e1, bind_ok, divO_ex (c := k2) (by omega) s1 e2, bind_ok]
    · have : ¬ k2 ≤ 0 := fun q => by
        have := Int.mul_nonpos_of_nonneg_of_nonpos (Int.natCast_nonneg g) q
        omega
      omega
    · rw [e1, e2]
      ac_rfl
    · rw [n1]; exact le_mul' g0
    · rw [n2]; exact le_mul' g0
theorem made_fr0 (top : Int) : n_Fractions_made top 0 = .exc "NoOver" := by
  unfold n_Fractions_made
  rw [if_pos (by simp)]
theorem rgI_nil {i j : Int} (h : j ≤ i) : rgI i j = [] := by
  unfold rgI
  rw [show (j - i).toNat = 0 by omega]
  rfl
theorem rgI_cons {i j : Int} (h : i < j) : rgI i j = i :: rgI (i + 1) j := by
  unfold rgI
  rw [show (j - i).toNat = (j - (i + 1)).toNat + 1 by omega, List.range_succ_eq_map, List.map_cons, List.map_map]
  congr 1
  · omega
  · refine List.map_congr_left fun k _ => ?_
    show i + ((k + 1 : Nat) : Int) = i + 1 + (k : Int)
    omega
theorem rgO_ok {i j : Int} (h : 0 ≤ i) (h2 : i ≤ 1000000) (h3 : 0 ≤ j) (h4 : j ≤ 1000000) : rgO i j = .ok (rgI i j) := by
  unfold rgO
  rw [if_pos ⟨by omega, by omega, by omega, by omega, by omega⟩]
theorem is_prime_ok (n : Int) : ∃ b, n_is_prime n = .ok b ∧ (b = true ↔ Pm n) := by
  unfold n_is_prime
  by_cases h : n < 2
  · exact ⟨false, by rw [if_pos (by simp [h])], by simp; intro P; have := P.lo; omega⟩
  by_cases h2 : 9973 < n
  · exact ⟨false, by rw [if_pos (by simp [h2])], by simp; intro P; have := P.hi; omega⟩
  rw [if_neg (by simp [h, h2]), rgO_ok (by omega) (by omega) (by omega) (by omega), bind_ok]
  have L : ∀ (k : Nat) (d : Int), 2 ≤ d → d ≤ n → (n - d).toNat = k → Up n d → ∃ b, ((forC (fun (z : Unit) (divisor : Int) => (((mulO divisor divisor).bind fun a => Out.ok (decide (n < a))).bind fun b => if b then Out.ok (.rt true) else ((modO n divisor).bind fun a_1 => Out.ok (decide (a_1 = 0))).bind fun b_1 => if b_1 then Out.ok (.rt false) else Out.ok (.nx ()) : Out (Ct (Bool) Unit))) (rgI d n) ()).bind fun c => thenC c fun z_1 => Out.ok true) = .ok b ∧ (b = true ↔ Pq n) := by
    intro k
    induction k with
    | zero =>
      intro d h1 h3 h4 u
      have e : d = n := by omega
      subst e
      rw [rgI_nil (Int.le_refl _)]
      exact ⟨true, rfl, by simp; exact pq_end u⟩
    | succ k ih =>
      intro d h1 h3 h4 u
      rw [rgI_cons (by omega)]
      unfold forC
      rw [mulO_l (by omega), bind_ok, bind_ok]
      by_cases q : n < d * d
      · rw [if_pos (decide_eq_true q)]
        exact ⟨true, rfl, by simp; exact pq_of h1 u q⟩
      · rw [if_neg (by simpa using q), modO_pos (by omega), bind_ok, bind_ok]
        by_cases q2 : n % d = 0
        · rw [if_pos (decide_eq_true q2)]
          exact ⟨false, rfl, by simp; exact fun p => p d h1 (by omega) q2⟩
        · rw [if_neg (by simpa using q2)]
          exact ih (d + 1) (by omega) (by omega) (by omega) (up_step u q2)
  obtain ⟨b, e, i⟩ := L _ 2 (by omega) (by omega) rfl fun e e1 e2 => by omega
  exact ⟨b, e, i.trans ⟨fun p => ⟨by omega, by omega, p⟩, fun P => P.pr⟩⟩
theorem is_prime_yes {p : Int} (P : Pm p) : n_is_prime p = .ok true := by
  obtain ⟨b, e, i⟩ := is_prime_ok p
  rw [e, i.mpr P]
theorem rests_new {p : Int} (P : Pm p) : new_Rests p = .ok (.re p) := by
  unfold new_Rests
  rw [is_prime_yes P]
  rfl
theorem turned_rest_ok (r p : Nat) (h1 : 2 ≤ p) (h2 : p ≤ 9973) (h3 : r ≤ 9973) (hg : Nat.gcd p r = 1) : ∃ v : Int, n_turned_rest r p = .ok v ∧ 0 ≤ v ∧ v < p ∧ Eq p (r * v) 1 := by
  unfold n_turned_rest
  obtain ⟨z, e, q⟩ := whO_ok (c := fun (z : Int × Int × Int × Int) => (Out.ok (!decide (z.2.1 = 0)))) (b := fun (z : Int × Int × Int × Int) => (divO z.1 z.2.1).bind fun many => ((mulO many z.2.1).bind fun b => Out.ok (z.1 - b)).bind fun rest => ((mulO many z.2.2.2).bind fun b_1 => Out.ok (z.2.2.1 - b_1)).bind fun behind => Out.ok (z.2.1, rest, z.2.2.2, behind))
    (fun z => ∃ (o n : Nat) (w m : Int), z = ((o : Int), (n : Int), w, m) ∧ Nat.gcd o n = 1 ∧ o ≤ 9973 ∧ n ≤ 9973 ∧ Eq p (r * w) o ∧ Eq p (r * m) n) (fun z => z.2.1.toNat) (fun z => Eq p (r * z.2.2.1) 1)
    (fun z ⟨o, n, w, m, ez, i1, i2, i3, i4, i5⟩ => by
      subst ez
      by_cases z : n = 0
      · subst z
        left
        rw [Nat.gcd_zero_right] at i1
        subst i1
        exact ⟨by simp, i4⟩
      · right
        have q1 : o / n ≤ 9973 := Nat.le_trans (Nat.div_le_self o n) i2
        have q2 : ((o / n : Nat) : Int).natAbs < 2 ^ 64 := by
          rw [Int.natAbs_natCast]
          exact Nat.lt_of_le_of_lt q1 (by decide +kernel)
        have er : (o : Int) - ((o / n : Nat) : Int) * (n : Int) = ((o % n : Nat) : Int) := by
          have e : o / n * n + o % n = o := Nat.div_add_mod' o n
          rw [← Int.natCast_mul]
          omega
        refine ⟨by simp; omega, ((n : Int), ((o % n : Nat) : Int), m, w - ((o / n : Nat) : Int) * m), ?_, ⟨n, o % n, m, _, rfl, (gcd_step o n).trans i1, i3, Nat.le_trans (Nat.le_of_lt (Nat.mod_lt _ (by omega))) i3, i5, ?_⟩, ?_⟩
        · dsimp only
          rw [divO_pos (by omega) (by rw [Int.natAbs_natCast]; exact Nat.lt_of_le_of_lt i3 (by decide +kernel)), bind_ok, ← Int.natCast_ediv, mulO_l q2, bind_ok, bind_ok, er, mulO_l q2, bind_ok, bind_ok]
        · show Eq p (r * (w - ((o / n : Nat) : Int) * m)) ((o % n : Nat) : Int)
          rw [← er]
          have e1 : (r : Int) * (w - ((o / n : Nat) : Int) * m) = r * w + -(((o / n : Nat) : Int) * (r * m)) := by
            rw [Int.mul_sub, Int.sub_eq_add_neg]
            congr 2
            ac_rfl
          rw [e1, Int.sub_eq_add_neg]
          exact i4.add (Eq.mul Eq.rfl' i5).neg
        · have := Nat.mod_lt o (show 0 < n by omega)
          simp
          omega) ((p : Int), (r : Int), 0, 1) ⟨p, r, 0, 1, rfl, hg, h2, h3, by
      rw [Int.mul_zero]
      exact ⟨-1, by omega⟩, by
      rw [Int.mul_one]
      exact Eq.rfl'⟩
  have pp : (0 : Int) < p := by omega
  rw [e, bind_ok, modO_pos pp]
  exact ⟨_, rfl, Int.emod_nonneg _ (by omega), Int.emod_lt_of_pos _ pp, (Eq.mul Eq.rfl' Eq.emod).tr q⟩
theorem re_turned {p : Int} (P : Pm p) {a : Int} (z : a % p ≠ 0) : ∃ v, n_Rests_turned p a = .ok v ∧ 0 ≤ v ∧ v < p ∧ Eq p (a * v) 1 := by
  have := P.lo
  have := P.hi
  have q0 := Int.emod_nonneg a (show p ≠ 0 by omega)
  have q1 := Int.emod_lt_of_pos a (show 0 < p by omega)
  obtain ⟨pn, ep⟩ : ∃ n : Nat, p = (n : Int) := ⟨p.toNat, by omega⟩
  obtain ⟨rn, er⟩ : ∃ n : Nat, a % p = (n : Int) := ⟨(a % p).toNat, by omega⟩
  have cp := coprime (p := pn) (r := rn) (by rw [← ep]; exact P.pr) (by omega) (by omega) (by omega)
  obtain ⟨v, e, v0, v1, c⟩ := turned_rest_ok rn pn (by omega) (by omega) (by omega) cp
  rw [← ep, ← er] at e
  rw [← ep] at v1 c
  rw [← er] at c
  refine ⟨v, ?_, v0, v1, (Eq.mul (@Eq.emod p a).sym Eq.rfl').tr c⟩
  unfold n_Rests_turned
  rw [modO_pos (by omega), bind_ok, if_neg (by simpa using z)]
  exact e
theorem re_turned0 {p : Int} (P : Pm p) {a : Int} (z : a % p = 0) : n_Rests_turned p a = .exc "NoOver" := by
  have := P.lo
  unfold n_Rests_turned
  rw [modO_pos (by omega), bind_ok, if_pos (by simpa using z)]
theorem re_times {p : Int} (P : Pm p) {a b : Int} (h : a.natAbs < 2 ^ 64) : n_Rests_times p a b = .ok (a * b % p) := by
  have := P.lo
  unfold n_Rests_times
  rw [mulO_l h, bind_ok, modO_pos (by omega)]
theorem re_in {p : Int} (P : Pm p) (x : Int) : 0 ≤ x % p ∧ x % p < p := by
  have := P.lo
  exact ⟨Int.emod_nonneg _ (by omega), Int.emod_lt_of_pos _ (by omega)⟩
theorem re_made {p : Int} (P : Pm p) {t b : Int} (z : b % p ≠ 0) : ∃ v, n_Rests_made p t b = .ok v ∧ 0 ≤ v ∧ v < p ∧ (v * b - t) % p = 0 := by
  have h0 := P.lo
  have h1 := P.hi
  obtain ⟨v, e, v0, v1, c⟩ := re_turned P z
  have ti := re_in P t
  unfold n_Rests_made
  rw [modO_pos (by omega), bind_ok, e, bind_ok, re_times P (by omega)]
  refine ⟨_, rfl, (re_in P _).1, (re_in P _).2, Int.emod_eq_zero_of_dvd ?_⟩
  show Eq p (t % p * v % p * b) t
  refine ((Eq.mul Eq.emod Eq.rfl').tr ((Eq.mul (Eq.mul Eq.emod Eq.rfl') Eq.rfl').tr ?_))
  have e2 : t * v * b = t * (b * v) := by ac_rfl
  rw [e2]
  exact (Eq.mul Eq.rfl' c).tr (Eq.of (Int.mul_one t))
theorem re_made0 {p : Int} (P : Pm p) {t b : Int} (z : b % p = 0) : n_Rests_made p t b = .exc "NoOver" := by
  have h0 := P.lo
  unfold n_Rests_made
  rw [modO_pos (by omega), bind_ok, re_turned0 P z]
  rfl
theorem fr_one (t : Int) : n_Fractions_made t 1 = .ok (t, 1) := by
  obtain ⟨u, v, e, l⟩ := made_fr t 1 (by decide) (by
    show 1 < 2 ^ 9000
    exact Nat.one_lt_two_pow (by decide))
  have hv : v = 1 := by have := l.bl; have := l.pos; simp at *; omega
  have hu : u = t := by have := l.eq; rw [hv] at this; omega
  rw [e, hv, hu]
theorem re_one {p : Int} (P : Pm p) (t : Int) : n_Rests_made p t 1 = .ok (t % p) := by
  have h0 := P.lo
  obtain ⟨v, e, v0, v1, c⟩ := re_made P (t := t) (b := 1) (by rw [Int.emod_eq_of_lt (by omega) (by omega)]; decide)
  rw [e, Eq.uniq (p := p) (x := v) (y := t % p) (((Eq.of (Int.mul_one v).symm).tr (Int.dvd_of_emod_eq_zero c)).tr Eq.emod.sym) ⟨v0, v1⟩ (re_in P t)]
/-- the number of a whole one -/
def iN : Fd → Int → Num
  | .fr, t => .fr t 1
  | .re p, t => .re (t % p)
theorem ok_i {F : Fd} (h : OkF F) (t : Int) : OkN F (iN F t) := by
  cases F with
  | fr => exact ⟨by decide, by simp⟩
  | re p => exact re_in h t
theorem is_i {F : Fd} (t : Int) : Is F (iN F t) t 1 := by
  cases F with
  | fr => rfl
  | re p =>
    show (t % p * 1 - t) % p = 0
    rw [Int.mul_one]
    exact Int.emod_eq_zero_of_dvd Eq.emod
theorem made1_ok {F : Fd} (h : OkF F) (t : Int) : m_made_d1 F t = .ok (iN F t) := by
  cases F with
  | fr =>
    show (n_Fractions_made_d1 t).map _ = _
    unfold n_Fractions_made_d1
    rw [fr_one]
    rfl
  | re p =>
    show (n_Rests_made_d1 p t).map _ = _
    unfold n_Rests_made_d1
    rw [re_one h]
    rfl
theorem iN_0 (F : Fd) : iN F 0 = zN F := by cases F <;> rfl
theorem iN_1 {F : Fd} (h : OkF F) : iN F 1 = oN F := by
  cases F with
  | fr => rfl
  | re p =>
    have := Pm.lo h
    show Num.re (1 % p) = .re 1
    rw [Int.emod_eq_of_lt (by omega) (by omega)]
theorem nought_ok {F : Fd} (h : OkF F) : m_nought F = .ok (zN F) := by
  cases F with
  | fr =>
    show n_Field_nought _ = _
    unfold n_Field_nought
    rw [made1_ok h, iN_0]
  | re p =>
    show n_Field_nought _ = _
    unfold n_Field_nought
    rw [made1_ok h, iN_0]
theorem one_ok {F : Fd} (h : OkF F) : m_one F = .ok (oN F) := by
  cases F with
  | fr =>
    show n_Field_one _ = _
    unfold n_Field_one
    rw [made1_ok h, iN_1 h]
  | re p =>
    show n_Field_one _ = _
    unfold n_Field_one
    rw [made1_ok h, iN_1 h]
end Ma
set_option maxHeartbeats 4000000
/-! MO: the orders' ranks -/
namespace Ma
open DA PySem PySem.Spec PyProof.Rows L2
def OkW (ws : List Int) : Prop := ∀ w ∈ ws, 0 ≤ w ∧ w.natAbs < 2 ^ 200
def OkT (t : List Int) : Prop := t.length ≤ 1000 ∧ ∀ p ∈ t, p.natAbs < 2 ^ 200
def OkO : Od → Prop
  | .wei w => OkW w
  | _ => True
def rk : Od → List Int → List Int
  | .lex, t => t
  | .deg, t => t.sum :: t
  | .tail, t => t.sum :: t.reverse.map fun p => -p
  | .wei w, t => ((t.zip w).map fun p => p.1 * p.2).sum :: t
theorem rk_inj {o : Od} {t s : List Int} (h : rk o t = rk o s) : t = s := by
  cases o with
  | lex => exact h
  | deg =>
    injection h with _ h
  | tail =>
    injection h with _ h
    have h2 := congrArg (List.map fun p : Int => -p) h
    rw [List.map_map, List.map_map] at h2
    have e : ((fun p : Int => -p) ∘ fun p => -p) = id := by
      funext p
      show - -p = p
      omega
    rw [e, List.map_id, List.map_id] at h2
    have h3 := congrArg List.reverse h2
    rwa [List.reverse_reverse, List.reverse_reverse] at h3
  | wei w =>
    injection h with _ h
theorem rank_ok {o : Od} {t : List Int} (ht : OkT t) (ho : OkO o) : m_rank o t = .ok (rk o t) := by
  have l1 := ht.1
  cases o with
  | lex => rfl
  | deg =>
    show catO [t.sum] t = _
    rw [catO_ok (by simp; omega)]
    rfl
  | tail =>
    show catO [t.sum] (t.reverse.map fun p => -p) = _
    rw [catO_ok (by simp; omega)]
    rfl
  | wei w =>
    show n_Weights_rank w t = _
    unfold n_Weights_rank
    rw [bind_ok, mapN_ok (f := fun p : Int × Int => mulO p.1 p.2) (g := fun p => p.1 * p.2) fun p hp => ?_]
    · rw [bind_ok, bind_ok, bind_ok, catO_ok (by simp; omega)]
      rfl
    · have q := List.of_mem_zip (a := p.1) (b := p.2) hp
      exact mulO_ok (mulC_big (m := 200) (n := 200) (ht.2 _ q.1) (ho _ q.2).2 (by decide))
/-- the order of a kind -/
def kd (kind : Int) (ws : List Int) : Od := if kind = 0 then .lex else if kind = 1 then .deg else if kind = 2 then .tail else .wei ws
theorem neww_ok {ws : List Int} (h : OkW ws) : new_Weights ws = .ok (.wei ws) := by
  unfold new_Weights
  rw [if_pos]
  rw [List.all_eq_true]
  exact fun w hw => decide_eq_true (h w hw).1
theorem kd_ok {kind : Int} {ws : List Int} (h : OkW ws) : OkO (kd kind ws) := by
  unfold kd
  split
  · trivial
  · split
    · trivial
    · split
      · trivial
      · exact h
end Ma
set_option maxHeartbeats 4000000
namespace Wk07
open DA PySem PySem.Spec PyProof.Rows L2

def top (i : Nat) : Stmt := PySem.Challenge.pw_idealroom_k07_rings.main.body.getD i (.Pass ⟨0, 0, 0, 0⟩)
abbrev cs : List Str := ["RoomError", "NoPrime", "NoOver", "NoOrder", "NoRing", "Ring", "Field", "Fractions", "Rests", "Order", "Degrees", "Tails", "Weights"]
abbrev s_k07_law_many : Stmt := top 27
abbrev N_k07_law_many : List Str := ["_law_cell_here"]
abbrev D_k07_law_many : He.DefD := ⟨("_law_many", none), "_law_many", "_law_many", defArgs s_k07_law_many, defBody s_k07_law_many, defScope s_k07_law_many, [], []⟩
abbrev s_k07_law_weights : Stmt := top 29
abbrev N_k07_law_weights : List Str := ["_law_cell_here", "_law_many_here", "_law_count", "_law_at"]
abbrev D_k07_law_weights : He.DefD := ⟨("_law_weights", none), "_law_weights", "_law_weights", defArgs s_k07_law_weights, defBody s_k07_law_weights, defScope s_k07_law_weights, [], []⟩
abbrev s_k07_law_cell : Stmt := top 26
abbrev N_k07_law_cell : List Str := ["_law_script", "_law_k"]
abbrev D_k07_law_cell : He.DefD := ⟨("_law_cell", none), "_law_cell", "_law_cell", defArgs s_k07_law_cell, defBody s_k07_law_cell, defScope s_k07_law_cell, [], []⟩
abbrev s_Weights_init : Stmt := inClass (top 24) 0
abbrev N_Weights_init : List Str := ["self", "weights", "weight"]
abbrev D_Weights_init : He.DefD := ⟨("Weights", some "__init__"), "__init__", "Weights.__init__", defArgs s_Weights_init, defBody s_Weights_init, defScope s_Weights_init, [], []⟩
abbrev s_k07_law_order : Stmt := top 28
abbrev N_k07_law_order : List Str := ["_law_kind", "_law_weights_here"]
abbrev D_k07_law_order : He.DefD := ⟨("_law_order", none), "_law_order", "_law_order", defArgs s_k07_law_order, defBody s_k07_law_order, defScope s_k07_law_order, [], []⟩
abbrev s_Field_init : Stmt := inClass (top 15) 0
abbrev N_Field_init : List Str := ["self", "prime"]
abbrev D_Field_init : He.DefD := ⟨("Field", some "__init__"), "__init__", "Field.__init__", defArgs s_Field_init, defBody s_Field_init, defScope s_Field_init, [], []⟩
abbrev s_Fractions_init : Stmt := inClass (top 16) 0
abbrev N_Fractions_init : List Str := ["self"]
abbrev D_Fractions_init : He.DefD := ⟨("Fractions", some "__init__"), "__init__", "Fractions.__init__", defArgs s_Fractions_init, defBody s_Fractions_init, defScope s_Fractions_init, [], []⟩
abbrev s_is_prime : Stmt := top 13
abbrev N_is_prime : List Str := ["number", "divisor"]
abbrev D_is_prime : He.DefD := ⟨("is_prime", none), "is_prime", "is_prime", defArgs s_is_prime, defBody s_is_prime, defScope s_is_prime, [], []⟩
abbrev s_Rests_init : Stmt := inClass (top 17) 0
abbrev N_Rests_init : List Str := ["self", "prime"]
abbrev D_Rests_init : He.DefD := ⟨("Rests", some "__init__"), "__init__", "Rests.__init__", defArgs s_Rests_init, defBody s_Rests_init, defScope s_Rests_init, [], []⟩
abbrev s_Order_rank : Stmt := inClass (top 21) 0
abbrev N_Order_rank : List Str := ["self", "term"]
abbrev D_Order_rank : He.DefD := ⟨("Order", some "rank"), "rank", "Order.rank", defArgs s_Order_rank, defBody s_Order_rank, defScope s_Order_rank, [], []⟩
abbrev s_degree : Stmt := top 19
abbrev N_degree : List Str := ["term"]
abbrev D_degree : He.DefD := ⟨("degree", none), "degree", "degree", defArgs s_degree, defBody s_degree, defScope s_degree, [], []⟩
abbrev s_Degrees_rank : Stmt := inClass (top 22) 0
abbrev N_Degrees_rank : List Str := ["self", "term"]
abbrev D_Degrees_rank : He.DefD := ⟨("Degrees", some "rank"), "rank", "Degrees.rank", defArgs s_Degrees_rank, defBody s_Degrees_rank, defScope s_Degrees_rank, [], []⟩
abbrev s_Tails_rank : Stmt := inClass (top 23) 0
abbrev N_Tails_rank : List Str := ["self", "term", "power"]
abbrev D_Tails_rank : He.DefD := ⟨("Tails", some "rank"), "rank", "Tails.rank", defArgs s_Tails_rank, defBody s_Tails_rank, defScope s_Tails_rank, [], []⟩
abbrev s_Weights_rank : Stmt := inClass (top 24) 1
abbrev N_Weights_rank : List Str := ["self", "term", "a", "w"]
abbrev D_Weights_rank : He.DefD := ⟨("Weights", some "rank"), "rank", "Weights.rank", defArgs s_Weights_rank, defBody s_Weights_rank, defScope s_Weights_rank, [], []⟩
abbrev s_Order_fits : Stmt := inClass (top 21) 5
abbrev N_Order_fits : List Str := ["self", "many"]
abbrev D_Order_fits : He.DefD := ⟨("Order", some "fits"), "fits", "Order.fits", defArgs s_Order_fits, defBody s_Order_fits, defScope s_Order_fits, [], []⟩
abbrev D_Degrees_fits : He.DefD := ⟨("Degrees", some "fits"), "fits", "Order.fits", defArgs s_Order_fits, defBody s_Order_fits, defScope s_Order_fits, [], []⟩
abbrev D_Tails_fits : He.DefD := ⟨("Tails", some "fits"), "fits", "Order.fits", defArgs s_Order_fits, defBody s_Order_fits, defScope s_Order_fits, [], []⟩
abbrev s_Weights_fits : Stmt := inClass (top 24) 3
abbrev N_Weights_fits : List Str := ["self", "many"]
abbrev D_Weights_fits : He.DefD := ⟨("Weights", some "fits"), "fits", "Weights.fits", defArgs s_Weights_fits, defBody s_Weights_fits, defScope s_Weights_fits, [], []⟩
abbrev s_Ring_init : Stmt := inClass (top 9) 0
abbrev N_Ring_init : List Str := ["self", "many", "field", "order"]
abbrev D_Ring_init : He.DefD := ⟨("Ring", some "__init__"), "__init__", "Ring.__init__", defArgs s_Ring_init, defBody s_Ring_init, defScope s_Ring_init, [], []⟩
abbrev s_k07_law_ring : Stmt := top 30
abbrev N_k07_law_ring : List Str := ["_law_many_here", "_law_field", "_law_order_here", "_law_found"]
abbrev D_k07_law_ring : He.DefD := ⟨("_law_ring", none), "_law_ring", "_law_ring", defArgs s_k07_law_ring, defBody s_k07_law_ring, defScope s_k07_law_ring, [], []⟩
abbrev s_Ring_letters : Stmt := inClass (top 9) 1
abbrev N_Ring_letters : List Str := ["self"]
abbrev D_Ring_letters : He.DefD := ⟨("Ring", some "letters"), "letters", "Ring.letters", defArgs s_Ring_letters, defBody s_Ring_letters, defScope s_Ring_letters, [], []⟩
abbrev s_common : Stmt := top 12
abbrev N_common : List Str := ["a", "b", "rest"]
abbrev D_common : He.DefD := ⟨("common", none), "common", "common", defArgs s_common, defBody s_common, defScope s_common, [], []⟩
abbrev s_Fractions_made : Stmt := inClass (top 16) 1
abbrev N_Fractions_made : List Str := ["self", "top", "bottom", "shared"]
abbrev D_Fractions_made : He.DefD := ⟨("Fractions", some "made"), "made", "Fractions.made", defArgs s_Fractions_made, defBody s_Fractions_made, defScope s_Fractions_made, [.int 1], []⟩
abbrev s_Rests_times : Stmt := inClass (top 17) 3
abbrev N_Rests_times : List Str := ["self", "a", "b"]
abbrev D_Rests_times : He.DefD := ⟨("Rests", some "times"), "times", "Rests.times", defArgs s_Rests_times, defBody s_Rests_times, defScope s_Rests_times, [], []⟩
abbrev s_turned_rest : Stmt := top 14
abbrev N_turned_rest : List Str := ["number", "prime", "old", "new", "was", "now", "many", "rest", "behind"]
abbrev D_turned_rest : He.DefD := ⟨("turned_rest", none), "turned_rest", "turned_rest", defArgs s_turned_rest, defBody s_turned_rest, defScope s_turned_rest, [], []⟩
abbrev s_Rests_turned : Stmt := inClass (top 17) 5
abbrev N_Rests_turned : List Str := ["self", "a", "rest"]
abbrev D_Rests_turned : He.DefD := ⟨("Rests", some "turned"), "turned", "Rests.turned", defArgs s_Rests_turned, defBody s_Rests_turned, defScope s_Rests_turned, [], []⟩
abbrev s_Rests_made : Stmt := inClass (top 17) 1
abbrev N_Rests_made : List Str := ["self", "top", "bottom"]
abbrev D_Rests_made : He.DefD := ⟨("Rests", some "made"), "made", "Rests.made", defArgs s_Rests_made, defBody s_Rests_made, defScope s_Rests_made, [.int 1], []⟩
abbrev s_Field_one : Stmt := inClass (top 15) 2
abbrev N_Field_one : List Str := ["self"]
abbrev D_Field_one : He.DefD := ⟨("Field", some "one"), "one", "Field.one", defArgs s_Field_one, defBody s_Field_one, defScope s_Field_one, [], []⟩
abbrev D_Fractions_one : He.DefD := ⟨("Fractions", some "one"), "one", "Field.one", defArgs s_Field_one, defBody s_Field_one, defScope s_Field_one, [], []⟩
abbrev D_Rests_one : He.DefD := ⟨("Rests", some "one"), "one", "Field.one", defArgs s_Field_one, defBody s_Field_one, defScope s_Field_one, [], []⟩
abbrev s_Ring_unknown : Stmt := inClass (top 9) 2
abbrev N_Ring_unknown : List Str := ["self", "at", "term", "k"]
abbrev D_Ring_unknown : He.DefD := ⟨("Ring", some "unknown"), "unknown", "Ring.unknown", defArgs s_Ring_unknown, defBody s_Ring_unknown, defScope s_Ring_unknown, [], []⟩
abbrev s_k07_law_parts : Stmt := top 31
abbrev N_k07_law_parts : List Str := ["_law_found", "_law_term", "_law_number", "_law_one"]
abbrev D_k07_law_parts : He.DefD := ⟨("_law_parts", none), "_law_parts", "_law_parts", defArgs s_k07_law_parts, defBody s_k07_law_parts, defScope s_k07_law_parts, [], []⟩
abbrev s_Field_nought : Stmt := inClass (top 15) 1
abbrev N_Field_nought : List Str := ["self"]
abbrev D_Field_nought : He.DefD := ⟨("Field", some "nought"), "nought", "Field.nought", defArgs s_Field_nought, defBody s_Field_nought, defScope s_Field_nought, [], []⟩
abbrev D_Fractions_nought : He.DefD := ⟨("Fractions", some "nought"), "nought", "Field.nought", defArgs s_Field_nought, defBody s_Field_nought, defScope s_Field_nought, [], []⟩
abbrev D_Rests_nought : He.DefD := ⟨("Rests", some "nought"), "nought", "Field.nought", defArgs s_Field_nought, defBody s_Field_nought, defScope s_Field_nought, [], []⟩
abbrev s_Ring_constant : Stmt := inClass (top 9) 3
abbrev N_Ring_constant : List Str := ["self", "number", "k"]
abbrev D_Ring_constant : He.DefD := ⟨("Ring", some "constant"), "constant", "Ring.constant", defArgs s_Ring_constant, defBody s_Ring_constant, defScope s_Ring_constant, [], []⟩
abbrev s_k07_law_good : Stmt := top 32
abbrev N_k07_law_good : List Str := ["_law_ring_here", "_law_many_here", "_law_field", "_law_order_here", "_law_cell_here", "_law_still", "_law_mark", "_law_at", "_law_term", "_law_told", "_law_number", "_law_nought", "_law_k"]
abbrev D_k07_law_good : He.DefD := ⟨("_law_good", none), "_law_good", "_law_good", defArgs s_k07_law_good, defBody s_k07_law_good, defScope s_k07_law_good, [], []⟩
abbrev s_k07_law : Stmt := top 33
abbrev N_k07_law : List Str := ["_law_script", "_law_k", "_law_cell_here", "_law_many_here", "_law_weights_here", "_law_kind", "_law_order_here", "_law_field", "_law_mark", "_law_before", "_law_ring_here", "_law_right"]
abbrev D_k07_law : He.DefD := ⟨("law", none), "law", "law", defArgs s_k07_law, defBody s_k07_law, defScope s_k07_law, [], []⟩
abbrev fa : List He.Fa := [.free "range", .free "len", .glo "_law_many", .free "max", .free "min", .glo "_law_weights", .glo "_law_cell", .glo "Order", .glo "Degrees", .glo "Tails", .glo "NoOrder", .exc "NoOrder", .free "tuple", .cls "Weights", .noat "Weights" "weights", .cls "Tails", .noat "Tails" "weights", .cls "Degrees", .noat "Degrees" "weights", .cls "Order", .noat "Order" "weights", .cls "Rests", .noat "Rests" "weights", .cls "Fractions", .noat "Fractions" "weights", .cls "Ring", .noat "Ring" "weights", .glo "Weights", .mkr "Weights", .glo "_law_order", .noat "Weights" "prime", .noat "Tails" "prime", .noat "Degrees" "prime", .noat "Order" "prime", .noat "Rests" "prime", .noat "Fractions" "prime", .noat "Ring" "prime", .glo "Field", .glo "Fractions", .mkr "Fractions", .int "GREATEST" 9973, .glo "is_prime", .glo "NoPrime", .exc "NoPrime", .glo "Rests", .mkr "Rests", .meth "Order" "rank", .free "sum", .glo "degree", .meth "Degrees" "rank", .free "reversed", .meth "Tails" "rank", .free "zip", .meth "Weights" "rank", .str "LETTERS" "xyzt", .glo "NoRing", .exc "NoRing", .meth "Order" "fits", .meth "Degrees" "fits", .meth "Tails" "fits", .meth "Weights" "fits", .noat "Weights" "order", .noat "Tails" "order", .noat "Degrees" "order", .noat "Order" "order", .noat "Rests" "order", .noat "Fractions" "order", .noat "Ring" "order", .noat "Weights" "field", .noat "Tails" "field", .noat "Degrees" "field", .noat "Order" "field", .noat "Rests" "field", .noat "Fractions" "field", .noat "Ring" "field", .noat "Weights" "many", .noat "Tails" "many", .noat "Degrees" "many", .noat "Order" "many", .noat "Rests" "many", .noat "Fractions" "many", .noat "Ring" "many", .glo "Ring", .mkr "Ring", .exm "NoRing" "NoRing" true, .exm "NoOrder" "NoRing" false, .exm "NoOver" "NoRing" false, .exm "NoPrime" "NoRing" false, .glo "_law_ring", .meth "Ring" "letters", .free "int", .glo "NoOver", .exc "NoOver", .glo "common", .free "abs", .meth "Fractions" "made", .meth "Rests" "times", .glo "turned_rest", .meth "Rests" "turned", .meth "Rests" "made", .cls "Field", .meth "Field" "one", .meth "Fractions" "one", .meth "Rests" "one", .meth "Ring" "unknown", .free "isinstance", .free "dict", .glo "_law_parts", .meth "Field" "nought", .meth "Fractions" "nought", .meth "Rests" "nought", .meth "Ring" "constant", .glo "_law_good", .glo "law"]
abbrev fn : List He.DefD := [D_k07_law_many,
  D_k07_law_weights,
  D_k07_law_cell,
  D_Weights_init,
  D_k07_law_order,
  D_Field_init,
  D_Fractions_init,
  D_is_prime,
  D_Rests_init,
  D_Order_rank,
  D_degree,
  D_Degrees_rank,
  D_Tails_rank,
  D_Weights_rank,
  D_Order_fits,
  D_Degrees_fits,
  D_Tails_fits,
  D_Weights_fits,
  D_Ring_init,
  D_k07_law_ring,
  D_Ring_letters,
  D_common,
  D_Fractions_made,
  D_Rests_times,
  D_turned_rest,
  D_Rests_turned,
  D_Rests_made,
  D_Field_one,
  D_Fractions_one,
  D_Rests_one,
  D_Ring_unknown,
  D_k07_law_parts,
  D_Field_nought,
  D_Fractions_nought,
  D_Rests_nought,
  D_Ring_constant,
  D_k07_law_good,
  D_k07_law]
abbrev fc : List (Nat × Str) := [(0, "Field"), (1, "Order"), (1, "Degrees"), (1, "Tails")]
abbrev Ls : List Str := ["Ring", "Fractions", "Rests", "Order", "Degrees", "Tails", "Weights"]
section
variable {P : Program} {w : World} {K : PySem.W.Frag} {mg : Str → Option Value} {base : Heap}
theorem sc_k07_law_many : FnScope N_k07_law_many ["_law_cell_here"] (defScope s_k07_law_many) := ⟨rfl, rfl, rfl, by decide +kernel, rfl, by decide +kernel, by decide +kernel⟩
theorem b_k07_law_many (L : LX P w K mg base fa fn fc) (f : Addr) (cdv : Value) (A : Around) (outer : List PySem.Env) (s0 : Shared) (H : Hp) (E : XK) (J : JX (cxOf (L2.CX P w) P w K mg base N_k07_law_many "_law_many" (defScope s_k07_law_many) f cdv A outer s0 H E) (fun c d _ H' => E c d H') 0) :
    SSs (caK cs K) (cxOf (L2.CX P w) P w K mg base N_k07_law_many "_law_many" (defScope s_k07_law_many) f cdv A outer s0 H E) (fun c d _ H' => E c d H') (defBody s_k07_law_many) sd_k07_law_many := by
  unfold sd_k07_law_many
  exact (ss_cons (ss_if (eb_eq J (ed_mod (ed_var 0) ed_int) ed_int) (ss_cons (ss_ret (em_of (ed_sub (ed_mod (ed_var 0) (ed_mul ed_int (ed_pow ed_int ed_int))) (ed_pow ed_int ed_int)))) ss_nil) ss_nil) (ss_cons (ss_ret (em_of (ed_sub (ed_mod (ed_div (ed_var 0) ed_int) ed_int) ed_int))) ss_nil))
theorem o_k07_law_many (L : LX P w K mg base fa fn fc) : Ok1 (caK cs K) P w K mg base "_law_many" 1 d_k07_law_many := ok1 (N := N_k07_law_many) (ps := ["_law_cell_here"]) (d := D_k07_law_many) L 0 2 sc_k07_law_many (b_k07_law_many L) rfl rfl rfl (fun _ _ _ _ _ _ us hl => match us, hl with | [_], _ => rfl)

theorem sc_k07_law_weights : FnScope N_k07_law_weights ["_law_cell_here", "_law_many_here"] (defScope s_k07_law_weights) := ⟨rfl, rfl, rfl, by decide +kernel, rfl, by decide +kernel, by decide +kernel⟩
theorem b_k07_law_weights (L : LX P w K mg base fa fn fc) (f : Addr) (cdv : Value) (A : Around) (outer : List PySem.Env) (s0 : Shared) (H : Hp) (E : XK) (J : JX (cxOf (L2.CX P w) P w K mg base N_k07_law_weights "_law_weights" (defScope s_k07_law_weights) f cdv A outer s0 H E) (fun c d _ H' => E c d H') 0) :
    SSs (caK cs K) (cxOf (L2.CX P w) P w K mg base N_k07_law_weights "_law_weights" (defScope s_k07_law_weights) f cdv A outer s0 H E) (fun c d _ H' => E c d H') (defBody s_k07_law_weights) sd_k07_law_weights := by
  unfold sd_k07_law_weights
  exact (ss_cons (ss_setN 2 J.nd (em_of (ed_max2 J (L.free 3) (ea_cons ed_int (ea_cons (ed_min2 J (L.free 4) (ea_cons (ed_var 1) (ea_cons ed_int ea_nil))) ea_nil))))) (ss_cons (ss_if (eb_eq J (ed_mod (ed_div (ed_var 0) ed_int) ed_int) ed_int) (ss_cons (ss_setN 2 J.nd (em_of (ed_max2 J (L.free 3) (ea_cons ed_int (ea_cons (ed_sub (ed_add (ed_var 2) (ed_mod (ed_div (ed_var 0) ed_int) ed_int)) ed_int) ea_nil))))) ss_nil) ss_nil) (ss_cons (ss_ret (em_lc1 (lc_ok [("_law_at", 3)] J (ei_range1 (L.free 0) (ea_cons (ed_var 2) ea_nil)) (blkOk_by (N := N_k07_law_weights) (sc := defScope s_k07_law_weights) (by decide +kernel)) (fun _ _ _ _ _ J => (tg_name 3 J.nd)) (fun _ _ _ _ _ J => et_nil) (fun _ _ _ _ _ J => (ed_add (ed_mod (ed_div (ed_var 0) ed_int) ed_int) (ed_var 3))) (by decide)))) ss_nil)))
theorem o_k07_law_weights (L : LX P w K mg base fa fn fc) : Ok1 (caK cs K) P w K mg base "_law_weights" 1 d_k07_law_weights := ok1 (N := N_k07_law_weights) (ps := ["_law_cell_here", "_law_many_here"]) (d := D_k07_law_weights) L 1 5 sc_k07_law_weights (b_k07_law_weights L) rfl rfl rfl (fun _ _ _ _ _ _ us hl => match us, hl with | [_, _], _ => rfl)

theorem sc_k07_law_cell : FnScope N_k07_law_cell ["_law_script", "_law_k"] (defScope s_k07_law_cell) := ⟨rfl, rfl, rfl, by decide +kernel, rfl, by decide +kernel, by decide +kernel⟩
theorem b_k07_law_cell (L : LX P w K mg base fa fn fc) (f : Addr) (cdv : Value) (A : Around) (outer : List PySem.Env) (s0 : Shared) (H : Hp) (E : XK) (J : JX (cxOf (L2.CX P w) P w K mg base N_k07_law_cell "_law_cell" (defScope s_k07_law_cell) f cdv A outer s0 H E) (fun c d _ H' => E c d H') 0) :
    SSs (caK cs K) (cxOf (L2.CX P w) P w K mg base N_k07_law_cell "_law_cell" (defScope s_k07_law_cell) f cdv A outer s0 H E) (fun c d _ H' => E c d H') (defBody s_k07_law_cell) sd_k07_law_cell := by
  unfold sd_k07_law_cell
  exact (ss_cons (ss_if (eb_lt (ed_var 1) (ed_len (L.free 1) (ea_cons (ed_var 0) ea_nil))) (ss_cons (ss_ret (em_of (ed_ix (ed_var 0) (ed_var 1)))) ss_nil) ss_nil) (ss_cons (ss_ret (em_of ed_int)) ss_nil))
theorem o_k07_law_cell (L : LX P w K mg base fa fn fc) : Ok1 (caK cs K) P w K mg base "_law_cell" 1 d_k07_law_cell := ok1 (N := N_k07_law_cell) (ps := ["_law_script", "_law_k"]) (d := D_k07_law_cell) L 2 6 sc_k07_law_cell (b_k07_law_cell L) rfl rfl rfl (fun _ _ _ _ _ _ us hl => match us, hl with | [_, _], _ => rfl)

theorem sc_Weights_init : FnScope N_Weights_init ["self", "weights"] (defScope s_Weights_init) := ⟨rfl, rfl, rfl, by decide +kernel, rfl, by decide +kernel, by decide +kernel⟩
theorem b_Weights_init (L : LX P w K mg base fa fn fc) (f : Addr) (cdv : Value) (A : Around) (outer : List PySem.Env) (s0 : Shared) (H : Hp) (E : XK) (J : JX (cxOf (L2.CX P w) P w K mg base N_Weights_init "Weights.__init__" (defScope s_Weights_init) f cdv A outer s0 H E) (fun c d _ H' => E c d H') 0) :
    IM (caK cs K) (cxOf (L2.CX P w) P w K mg base N_Weights_init "Weights.__init__" (defScope s_Weights_init) f cdv A outer s0 H E) (fun c d _ H' => E c d H') Ls (defBody s_Weights_init) si_Weights := by
  unfold si_Weights sl_Weights_init_1
  exact (im_pre (ss_for J (ei_seq (ed_var 1)) (tg_name 2 J.nd) (ss_cons (ss_if (eb_lt (ed_var 2) ed_int) (ss_cons (ss_raise1 J (by decide +kernel) (L.glo 10) (L.fact 11)) ss_nil) ss_nil) ss_nil)) (im_set (fl_cons (fl_in L 25 26) (fl_cons (fl_in L 23 24) (fl_cons (fl_in L 21 22) (fl_cons (fl_in L 19 20) (fl_cons (fl_in L 17 18) (fl_cons (fl_in L 15 16) (fl_cons (fl_in L 13 14) fl_nil))))))) (ed_tuple (L.free 12) (ea_cons (ed_var 1) ea_nil)) (ed_var 0) im_nil))
theorem oi_Weights (L : LX P w K mg base fa fn fc) : OkI (caK cs K) P w K mg base Ls "Weights" 1 i_Weights := okI (N := N_Weights_init) (ps := ["self", "weights"]) (d := D_Weights_init) L 3 sc_Weights_init (by decide) (b_Weights_init L) rfl rfl rfl (fun _ _ _ _ _ _ us hl => match us, hl with | [_, _], _ => rfl)

theorem sc_k07_law_order : FnScope N_k07_law_order ["_law_kind", "_law_weights_here"] (defScope s_k07_law_order) := ⟨rfl, rfl, rfl, by decide +kernel, rfl, by decide +kernel, by decide +kernel⟩
theorem b_k07_law_order (L : LX P w K mg base fa fn fc) (f : Addr) (cdv : Value) (A : Around) (outer : List PySem.Env) (s0 : Shared) (H : Hp) (E : XK) (J : JX (cxOf (L2.CX P w) P w K mg base N_k07_law_order "_law_order" (defScope s_k07_law_order) f cdv A outer s0 H E) (fun c d _ H' => E c d H') 2) :
    SSs (caK cs K) (cxOf (L2.CX P w) P w K mg base N_k07_law_order "_law_order" (defScope s_k07_law_order) f cdv A outer s0 H E) (fun c d _ H' => E c d H') (defBody s_k07_law_order) sd_k07_law_order := by
  unfold sd_k07_law_order
  exact (ss_cons (ss_if (eb_eq J (ed_var 0) ed_int) (ss_cons (ss_ret (em_newO L (L.glo 7))) ss_nil) ss_nil) (ss_cons (ss_if (eb_eq J (ed_var 0) ed_int) (ss_cons (ss_ret (em_newO L (L.glo 8))) ss_nil) ss_nil) (ss_cons (ss_if (eb_eq J (ed_var 0) ed_int) (ss_cons (ss_ret (em_newO L (L.glo 9))) ss_nil) ss_nil) (ss_cons (ss_ret (em_new J (oi_Weights L) (L.fact 28) (L.glo 27) (ea_cons (ed_var 1) ea_nil))) ss_nil))))
theorem o_k07_law_order (L : LX P w K mg base fa fn fc) : Ok1 (caK cs K) P w K mg base "_law_order" 3 d_k07_law_order := ok1 (N := N_k07_law_order) (ps := ["_law_kind", "_law_weights_here"]) (d := D_k07_law_order) L 4 29 sc_k07_law_order (b_k07_law_order L) rfl rfl rfl (fun _ _ _ _ _ _ us hl => match us, hl with | [_, _], _ => rfl)

theorem sc_Field_init : FnScope N_Field_init ["self", "prime"] (defScope s_Field_init) := ⟨rfl, rfl, rfl, by decide +kernel, rfl, by decide +kernel, by decide +kernel⟩
theorem b_Field_init (L : LX P w K mg base fa fn fc) (f : Addr) (cdv : Value) (A : Around) (outer : List PySem.Env) (s0 : Shared) (H : Hp) (E : XK) (J : JX (cxOf (L2.CX P w) P w K mg base N_Field_init "Field.__init__" (defScope s_Field_init) f cdv A outer s0 H E) (fun c d _ H' => E c d H') 0) :
    IM (caK cs K) (cxOf (L2.CX P w) P w K mg base N_Field_init "Field.__init__" (defScope s_Field_init) f cdv A outer s0 H E) (fun c d _ H' => E c d H') Ls (defBody s_Field_init) si_Field := by
  unfold si_Field
  exact (im_set (fl_cons (fl_in L 25 36) (fl_cons (fl_in L 23 35) (fl_cons (fl_in L 21 34) (fl_cons (fl_in L 19 33) (fl_cons (fl_in L 17 32) (fl_cons (fl_in L 15 31) (fl_cons (fl_in L 13 30) fl_nil))))))) (ed_var 1) (ed_var 0) im_nil)
theorem oi_Field (L : LX P w K mg base fa fn fc) : OkI (caK cs K) P w K mg base Ls "Field" 1 i_Field := okI (N := N_Field_init) (ps := ["self", "prime"]) (d := D_Field_init) L 5 sc_Field_init (by decide) (b_Field_init L) rfl rfl rfl (fun _ _ _ _ _ _ us hl => match us, hl with | [_, _], _ => rfl)

theorem sc_Fractions_init : FnScope N_Fractions_init ["self"] (defScope s_Fractions_init) := ⟨rfl, rfl, rfl, by decide +kernel, rfl, by decide +kernel, by decide +kernel⟩
theorem b_Fractions_init (L : LX P w K mg base fa fn fc) (f : Addr) (cdv : Value) (A : Around) (outer : List PySem.Env) (s0 : Shared) (H : Hp) (E : XK) (J : JX (cxOf (L2.CX P w) P w K mg base N_Fractions_init "Fractions.__init__" (defScope s_Fractions_init) f cdv A outer s0 H E) (fun c d _ H' => E c d H') 1) :
    IM (caK cs K) (cxOf (L2.CX P w) P w K mg base N_Fractions_init "Fractions.__init__" (defScope s_Fractions_init) f cdv A outer s0 H E) (fun c d _ H' => E c d H') Ls (defBody s_Fractions_init) si_Fractions := by
  unfold si_Fractions
  exact (im_baseO J L (L.glo 37) (oi_Field L) (ea_cons (ed_var 0) (ea_cons ed_int ea_nil)) im_nil)
theorem oi_Fractions (L : LX P w K mg base fa fn fc) : OkI (caK cs K) P w K mg base Ls "Fractions" 2 i_Fractions := okI (N := N_Fractions_init) (ps := ["self"]) (d := D_Fractions_init) L 6 sc_Fractions_init (by decide) (b_Fractions_init L) rfl rfl rfl (fun _ _ _ _ _ _ us hl => match us, hl with | [_], _ => rfl)

theorem sc_is_prime : FnScope N_is_prime ["number"] (defScope s_is_prime) := ⟨rfl, rfl, rfl, by decide +kernel, rfl, by decide +kernel, by decide +kernel⟩
theorem b_is_prime (L : LX P w K mg base fa fn fc) (f : Addr) (cdv : Value) (A : Around) (outer : List PySem.Env) (s0 : Shared) (H : Hp) (E : XK) (J : JX (cxOf (L2.CX P w) P w K mg base N_is_prime "is_prime" (defScope s_is_prime) f cdv A outer s0 H E) (fun c d _ H' => E c d H') 0) :
    SSs (caK cs K) (cxOf (L2.CX P w) P w K mg base N_is_prime "is_prime" (defScope s_is_prime) f cdv A outer s0 H E) (fun c d _ H' => E c d H') (defBody s_is_prime) sd_is_prime := by
  unfold sd_is_prime sl_is_prime_1
  exact (ss_cons (ss_if (eb_w (ew_or (eb_lt (ed_var 0) ed_int) (ew_or1 (eb_gt (ed_var 0) (ed_gint (He.int_ok L.kin L.glob (L.fact 40))))))) (ss_cons (ss_ret (em_of ed_bl)) ss_nil) ss_nil) (ss_cons (ss_for J (ei_range2 (L.free 0) (ea_cons ed_int (ea_cons (ed_var 0) ea_nil))) (tg_name 1 J.nd) (ss_cons (ss_if (eb_gt (ed_mul (ed_var 1) (ed_var 1)) (ed_var 0)) (ss_cons (ss_ret (em_of ed_bl)) ss_nil) ss_nil) (ss_cons (ss_if (eb_eq J (ed_mod (ed_var 0) (ed_var 1)) ed_int) (ss_cons (ss_ret (em_of ed_bl)) ss_nil) ss_nil) ss_nil))) (ss_cons (ss_ret (em_of ed_bl)) ss_nil)))
theorem o_is_prime (L : LX P w K mg base fa fn fc) : Ok1 (caK cs K) P w K mg base "is_prime" 1 d_is_prime := ok1 (N := N_is_prime) (ps := ["number"]) (d := D_is_prime) L 7 41 sc_is_prime (b_is_prime L) rfl rfl rfl (fun _ _ _ _ _ _ us hl => match us, hl with | [_], _ => rfl)

theorem sc_Rests_init : FnScope N_Rests_init ["self", "prime"] (defScope s_Rests_init) := ⟨rfl, rfl, rfl, by decide +kernel, rfl, by decide +kernel, by decide +kernel⟩
theorem b_Rests_init (L : LX P w K mg base fa fn fc) (f : Addr) (cdv : Value) (A : Around) (outer : List PySem.Env) (s0 : Shared) (H : Hp) (E : XK) (J : JX (cxOf (L2.CX P w) P w K mg base N_Rests_init "Rests.__init__" (defScope s_Rests_init) f cdv A outer s0 H E) (fun c d _ H' => E c d H') 1) :
    IM (caK cs K) (cxOf (L2.CX P w) P w K mg base N_Rests_init "Rests.__init__" (defScope s_Rests_init) f cdv A outer s0 H E) (fun c d _ H' => E c d H') Ls (defBody s_Rests_init) si_Rests := by
  unfold si_Rests
  exact (im_pre (ss_if (eb_not (eb_val (ed_of (em_call1 J (o_is_prime L) (ea_cons (ed_var 1) ea_nil))))) (ss_cons (ss_raise1 J (by decide +kernel) (L.glo 42) (L.fact 43)) ss_nil) ss_nil) (im_baseO J L (L.glo 37) (oi_Field L) (ea_cons (ed_var 0) (ea_cons (ed_var 1) ea_nil)) im_nil))
theorem oi_Rests (L : LX P w K mg base fa fn fc) : OkI (caK cs K) P w K mg base Ls "Rests" 2 i_Rests := okI (N := N_Rests_init) (ps := ["self", "prime"]) (d := D_Rests_init) L 8 sc_Rests_init (by decide) (b_Rests_init L) rfl rfl rfl (fun _ _ _ _ _ _ us hl => match us, hl with | [_, _], _ => rfl)

theorem sc_Order_rank : FnScope N_Order_rank ["self", "term"] (defScope s_Order_rank) := ⟨rfl, rfl, rfl, by decide +kernel, rfl, by decide +kernel, by decide +kernel⟩
theorem b_Order_rank (L : LX P w K mg base fa fn fc) (f : Addr) (cdv : Value) (A : Around) (outer : List PySem.Env) (s0 : Shared) (H : Hp) (E : XK) (J : JX (cxOf (L2.CX P w) P w K mg base N_Order_rank "Order.rank" (defScope s_Order_rank) f cdv A outer s0 H E) (fun c d _ H' => E c d H') 0) :
    SSs (caK cs K) (cxOf (L2.CX P w) P w K mg base N_Order_rank "Order.rank" (defScope s_Order_rank) f cdv A outer s0 H E) (fun c d _ H' => E c d H') (defBody s_Order_rank) sd_Order_rank := by
  unfold sd_Order_rank
  exact (ss_cons (ss_ret (em_of (ed_var 1))) ss_nil)
theorem o_Order_rank (L : LX P w K mg base fa fn fc) : OkM (caK cs K) P w K mg base "rank" "Order" 1 d_Order_rank := okM (N := N_Order_rank) (ps := ["self", "term"]) (d := D_Order_rank) L 9 19 46 sc_Order_rank (b_Order_rank L) rfl rfl rfl (fun _ _ _ _ _ _ us hl => match us, hl with | [_, _], _ => rfl)

theorem sc_degree : FnScope N_degree ["term"] (defScope s_degree) := ⟨rfl, rfl, rfl, by decide +kernel, rfl, by decide +kernel, by decide +kernel⟩
theorem b_degree (L : LX P w K mg base fa fn fc) (f : Addr) (cdv : Value) (A : Around) (outer : List PySem.Env) (s0 : Shared) (H : Hp) (E : XK) (J : JX (cxOf (L2.CX P w) P w K mg base N_degree "degree" (defScope s_degree) f cdv A outer s0 H E) (fun c d _ H' => E c d H') 0) :
    SSs (caK cs K) (cxOf (L2.CX P w) P w K mg base N_degree "degree" (defScope s_degree) f cdv A outer s0 H E) (fun c d _ H' => E c d H') (defBody s_degree) sd_degree := by
  unfold sd_degree
  exact (ss_cons (ss_ret (em_of (ed_sum J (L.free 47) (ea_cons (ed_var 0) ea_nil)))) ss_nil)
theorem o_degree (L : LX P w K mg base fa fn fc) : Ok1 (caK cs K) P w K mg base "degree" 1 d_degree := ok1 (N := N_degree) (ps := ["term"]) (d := D_degree) L 10 48 sc_degree (b_degree L) rfl rfl rfl (fun _ _ _ _ _ _ us hl => match us, hl with | [_], _ => rfl)

theorem sc_Degrees_rank : FnScope N_Degrees_rank ["self", "term"] (defScope s_Degrees_rank) := ⟨rfl, rfl, rfl, by decide +kernel, rfl, by decide +kernel, by decide +kernel⟩
theorem b_Degrees_rank (L : LX P w K mg base fa fn fc) (f : Addr) (cdv : Value) (A : Around) (outer : List PySem.Env) (s0 : Shared) (H : Hp) (E : XK) (J : JX (cxOf (L2.CX P w) P w K mg base N_Degrees_rank "Degrees.rank" (defScope s_Degrees_rank) f cdv A outer s0 H E) (fun c d _ H' => E c d H') 1) :
    SSs (caK cs K) (cxOf (L2.CX P w) P w K mg base N_Degrees_rank "Degrees.rank" (defScope s_Degrees_rank) f cdv A outer s0 H E) (fun c d _ H' => E c d H') (defBody s_Degrees_rank) sd_Degrees_rank := by
  unfold sd_Degrees_rank
  exact (ss_cons (ss_ret (em_of (ed_add (ed_tup (ea_cons (ed_of (em_call1 J (o_degree L) (ea_cons (ed_var 1) ea_nil))) ea_nil)) (ed_var 1)))) ss_nil)
theorem o_Degrees_rank (L : LX P w K mg base fa fn fc) : OkM (caK cs K) P w K mg base "rank" "Degrees" 2 d_Degrees_rank := okM (N := N_Degrees_rank) (ps := ["self", "term"]) (d := D_Degrees_rank) L 11 17 49 sc_Degrees_rank (b_Degrees_rank L) rfl rfl rfl (fun _ _ _ _ _ _ us hl => match us, hl with | [_, _], _ => rfl)

theorem sc_Tails_rank : FnScope N_Tails_rank ["self", "term"] (defScope s_Tails_rank) := ⟨rfl, rfl, rfl, by decide +kernel, rfl, by decide +kernel, by decide +kernel⟩
theorem b_Tails_rank (L : LX P w K mg base fa fn fc) (f : Addr) (cdv : Value) (A : Around) (outer : List PySem.Env) (s0 : Shared) (H : Hp) (E : XK) (J : JX (cxOf (L2.CX P w) P w K mg base N_Tails_rank "Tails.rank" (defScope s_Tails_rank) f cdv A outer s0 H E) (fun c d _ H' => E c d H') 1) :
    SSs (caK cs K) (cxOf (L2.CX P w) P w K mg base N_Tails_rank "Tails.rank" (defScope s_Tails_rank) f cdv A outer s0 H E) (fun c d _ H' => E c d H') (defBody s_Tails_rank) sd_Tails_rank := by
  unfold sd_Tails_rank
  exact (ss_cons (ss_ret (em_of (ed_add (ed_tup (ea_cons (ed_of (em_call1 J (o_degree L) (ea_cons (ed_var 1) ea_nil))) ea_nil)) (ed_tuple (L.free 12) (ea_cons (ed_of (em_lc1 (lc_ok [("power", 2)] J (ei_rev (L.free 50) (ed_var 1)) (blkOk_by (N := N_Tails_rank) (sc := defScope s_Tails_rank) (by decide +kernel)) (fun _ _ _ _ _ J => (tg_name 2 J.nd)) (fun _ _ _ _ _ J => et_nil) (fun _ _ _ _ _ J => (ed_neg (ed_var 2))) (by decide)))) ea_nil))))) ss_nil)
theorem o_Tails_rank (L : LX P w K mg base fa fn fc) : OkM (caK cs K) P w K mg base "rank" "Tails" 2 d_Tails_rank := okM (N := N_Tails_rank) (ps := ["self", "term"]) (d := D_Tails_rank) L 12 15 51 sc_Tails_rank (b_Tails_rank L) rfl rfl rfl (fun _ _ _ _ _ _ us hl => match us, hl with | [_, _], _ => rfl)

theorem sc_Weights_rank : FnScope N_Weights_rank ["self", "term"] (defScope s_Weights_rank) := ⟨rfl, rfl, rfl, by decide +kernel, rfl, by decide +kernel, by decide +kernel⟩
theorem b_Weights_rank (L : LX P w K mg base fa fn fc) (f : Addr) (cdv : Value) (A : Around) (outer : List PySem.Env) (s0 : Shared) (H : Hp) (E : XK) (J : JX (cxOf (L2.CX P w) P w K mg base N_Weights_rank "Weights.rank" (defScope s_Weights_rank) f cdv A outer s0 H E) (fun c d _ H' => E c d H') 0) :
    SSs (caK cs K) (cxOf (L2.CX P w) P w K mg base N_Weights_rank "Weights.rank" (defScope s_Weights_rank) f cdv A outer s0 H E) (fun c d _ H' => E c d H') (defBody s_Weights_rank) sd_Weights_rank := by
  unfold sd_Weights_rank
  exact (ss_cons (ss_ret (em_of (ed_add (ed_tup (ea_cons (ed_sum J (L.free 47) (ea_cons (ed_of (em_lc1 (lc_ok [("a", 2), ("w", 3)] J (ei_zip (L.free 52) (ea_cons (ed_var 1) (ea_cons (ed_fld ["Weights"] (ed_var 0) (fl_cons (fl_in L 13 14) fl_nil)) ea_nil))) (blkOk_by (N := N_Weights_rank) (sc := defScope s_Weights_rank) (by decide +kernel)) (fun _ _ _ _ _ J => (tg_tup J.calm (tgs_cons (tg_name 2 J.nd) (tgs_cons (tg_name 3 J.nd) tgs_nil)))) (fun _ _ _ _ _ J => et_nil) (fun _ _ _ _ _ J => (ed_mul (ed_var 2) (ed_var 3))) (by decide)))) ea_nil)) ea_nil)) (ed_var 1)))) ss_nil)
theorem o_Weights_rank (L : LX P w K mg base fa fn fc) : OkM (caK cs K) P w K mg base "rank" "Weights" 1 d_Weights_rank := okM (N := N_Weights_rank) (ps := ["self", "term"]) (d := D_Weights_rank) L 13 13 53 sc_Weights_rank (b_Weights_rank L) rfl rfl rfl (fun _ _ _ _ _ _ us hl => match us, hl with | [_, _], _ => rfl)

theorem sc_Order_fits : FnScope N_Order_fits ["self", "many"] (defScope s_Order_fits) := ⟨rfl, rfl, rfl, by decide +kernel, rfl, by decide +kernel, by decide +kernel⟩
theorem b_Order_fits (L : LX P w K mg base fa fn fc) (f : Addr) (cdv : Value) (A : Around) (outer : List PySem.Env) (s0 : Shared) (H : Hp) (E : XK) (J : JX (cxOf (L2.CX P w) P w K mg base N_Order_fits "Order.fits" (defScope s_Order_fits) f cdv A outer s0 H E) (fun c d _ H' => E c d H') 0) :
    SSs (caK cs K) (cxOf (L2.CX P w) P w K mg base N_Order_fits "Order.fits" (defScope s_Order_fits) f cdv A outer s0 H E) (fun c d _ H' => E c d H') (defBody s_Order_fits) sd_Order_fits := by
  unfold sd_Order_fits
  exact (ss_cons (ss_ret (em_of ed_bl)) ss_nil)
theorem o_Order_fits (L : LX P w K mg base fa fn fc) : OkM (caK cs K) P w K mg base "fits" "Order" 1 d_Order_fits := okM (N := N_Order_fits) (ps := ["self", "many"]) (d := D_Order_fits) L 14 19 57 sc_Order_fits (b_Order_fits L) rfl rfl rfl (fun _ _ _ _ _ _ us hl => match us, hl with | [_, _], _ => rfl)
theorem o_Degrees_fits (L : LX P w K mg base fa fn fc) : OkM (caK cs K) P w K mg base "fits" "Degrees" 1 d_Order_fits := okM (N := N_Order_fits) (ps := ["self", "many"]) (d := D_Degrees_fits) L 15 17 58 sc_Order_fits (b_Order_fits L) rfl rfl rfl (fun _ _ _ _ _ _ us hl => match us, hl with | [_, _], _ => rfl)
theorem o_Tails_fits (L : LX P w K mg base fa fn fc) : OkM (caK cs K) P w K mg base "fits" "Tails" 1 d_Order_fits := okM (N := N_Order_fits) (ps := ["self", "many"]) (d := D_Tails_fits) L 16 15 59 sc_Order_fits (b_Order_fits L) rfl rfl rfl (fun _ _ _ _ _ _ us hl => match us, hl with | [_, _], _ => rfl)

theorem sc_Weights_fits : FnScope N_Weights_fits ["self", "many"] (defScope s_Weights_fits) := ⟨rfl, rfl, rfl, by decide +kernel, rfl, by decide +kernel, by decide +kernel⟩
theorem b_Weights_fits (L : LX P w K mg base fa fn fc) (f : Addr) (cdv : Value) (A : Around) (outer : List PySem.Env) (s0 : Shared) (H : Hp) (E : XK) (J : JX (cxOf (L2.CX P w) P w K mg base N_Weights_fits "Weights.fits" (defScope s_Weights_fits) f cdv A outer s0 H E) (fun c d _ H' => E c d H') 0) :
    SSs (caK cs K) (cxOf (L2.CX P w) P w K mg base N_Weights_fits "Weights.fits" (defScope s_Weights_fits) f cdv A outer s0 H E) (fun c d _ H' => E c d H') (defBody s_Weights_fits) sd_Weights_fits := by
  unfold sd_Weights_fits
  exact (ss_cons (ss_ret (em_of (ed_eq J (ed_len (L.free 1) (ea_cons (ed_fld ["Weights"] (ed_var 0) (fl_cons (fl_in L 13 14) fl_nil)) ea_nil)) (ed_var 1)))) ss_nil)
theorem o_Weights_fits (L : LX P w K mg base fa fn fc) : OkM (caK cs K) P w K mg base "fits" "Weights" 1 d_Weights_fits := okM (N := N_Weights_fits) (ps := ["self", "many"]) (d := D_Weights_fits) L 17 13 60 sc_Weights_fits (b_Weights_fits L) rfl rfl rfl (fun _ _ _ _ _ _ us hl => match us, hl with | [_, _], _ => rfl)

theorem sc_Ring_init : FnScope N_Ring_init ["self", "many", "field", "order"] (defScope s_Ring_init) := ⟨rfl, rfl, rfl, by decide +kernel, rfl, by decide +kernel, by decide +kernel⟩
theorem b_Ring_init (L : LX P w K mg base fa fn fc) (f : Addr) (cdv : Value) (A : Around) (outer : List PySem.Env) (s0 : Shared) (H : Hp) (E : XK) (J : JX (cxOf (L2.CX P w) P w K mg base N_Ring_init "Ring.__init__" (defScope s_Ring_init) f cdv A outer s0 H E) (fun c d _ H' => E c d H') 1) :
    IM (caK cs K) (cxOf (L2.CX P w) P w K mg base N_Ring_init "Ring.__init__" (defScope s_Ring_init) f cdv A outer s0 H E) (fun c d _ H' => E c d H') Ls (defBody s_Ring_init) si_Ring := by
  unfold si_Ring
  exact (im_pre (ss_if (eb_w (ew_or (eb_lt (ed_var 1) ed_int) (ew_or1 (eb_gt (ed_var 1) (ed_len (L.free 1) (ea_cons (ed_gstr (He.str_ok L.kin L.glob (L.fact 54))) ea_nil)))))) (ss_cons (ss_raise1 J (by decide +kernel) (L.glo 55) (L.fact 56)) ss_nil) ss_nil) (im_pre (ss_if (eb_not (eb_val (ed_of (em_meth J (j := 1) (by decide) (mt_cons (OkM.mt (fun _ h => (caK_eq h).2) (o_Order_fits L) (by decide)) (mt_cons (OkM.mt (fun _ h => (caK_eq h).2) (o_Degrees_fits L) (by decide)) (mt_cons (OkM.mt (fun _ h => (caK_eq h).2) (o_Tails_fits L) (by decide)) (mt_cons (OkM.mt (fun _ h => (caK_eq h).2) (o_Weights_fits L) (by decide)) mt_nil)))) (ed_var 3) (ea_cons (ed_var 1) ea_nil))))) (ss_cons (ss_raise1 J (by decide +kernel) (L.glo 55) (L.fact 56)) ss_nil) ss_nil) (im_set (fl_cons (fl_in L 25 81) (fl_cons (fl_in L 23 80) (fl_cons (fl_in L 21 79) (fl_cons (fl_in L 19 78) (fl_cons (fl_in L 17 77) (fl_cons (fl_in L 15 76) (fl_cons (fl_in L 13 75) fl_nil))))))) (ed_var 1) (ed_var 0) (im_set (fl_cons (fl_in L 25 74) (fl_cons (fl_in L 23 73) (fl_cons (fl_in L 21 72) (fl_cons (fl_in L 19 71) (fl_cons (fl_in L 17 70) (fl_cons (fl_in L 15 69) (fl_cons (fl_in L 13 68) fl_nil))))))) (ed_var 2) (ed_var 0) (im_set (fl_cons (fl_in L 25 67) (fl_cons (fl_in L 23 66) (fl_cons (fl_in L 21 65) (fl_cons (fl_in L 19 64) (fl_cons (fl_in L 17 63) (fl_cons (fl_in L 15 62) (fl_cons (fl_in L 13 61) fl_nil))))))) (ed_var 3) (ed_var 0) im_nil)))))
theorem oi_Ring (L : LX P w K mg base fa fn fc) : OkI (caK cs K) P w K mg base Ls "Ring" 2 i_Ring := okI (N := N_Ring_init) (ps := ["self", "many", "field", "order"]) (d := D_Ring_init) L 18 sc_Ring_init (by decide) (b_Ring_init L) rfl rfl rfl (fun _ _ _ _ _ _ us hl => match us, hl with | [_, _, _, _], _ => rfl)

theorem sc_k07_law_ring : FnScope N_k07_law_ring ["_law_many_here", "_law_field", "_law_order_here"] (defScope s_k07_law_ring) := ⟨rfl, rfl, rfl, by decide +kernel, rfl, by decide +kernel, by decide +kernel⟩
theorem b_k07_law_ring (L : LX P w K mg base fa fn fc) (f : Addr) (cdv : Value) (A : Around) (outer : List PySem.Env) (s0 : Shared) (H : Hp) (E : XK) (J : JX (cxOf (L2.CX P w) P w K mg base N_k07_law_ring "_law_ring" (defScope s_k07_law_ring) f cdv A outer s0 H E) (fun c d _ H' => E c d H') 3) :
    SSs (caK cs K) (cxOf (L2.CX P w) P w K mg base N_k07_law_ring "_law_ring" (defScope s_k07_law_ring) f cdv A outer s0 H E) (fun c d _ H' => E c d H') (defBody s_k07_law_ring) sd_k07_law_ring := by
  unfold sd_k07_law_ring
  exact (ss_cons (ss_setN 3 J.nd (em_of ed_non)) (ss_cons (ss_try J (names_ok (L.glo 55)) (ex_cons (ex_in L 87) (ex_cons (ex_in L 86) (ex_cons ca_no (ex_cons (ex_in L 85) (ex_cons (ex_in L 84) (ex_cons ca_no (ex_cons ca_no (ex_cons ca_no (ex_cons ca_no (ex_cons ca_no (ex_cons ca_no (ex_cons ca_no ex_nil)))))))))))) (fun _ _ _ J => (em_of (ed_new J (oi_Ring L) (L.fact 83) (L.glo 82) (ea_cons (ed_var 0) (ea_cons (ed_var 1) (ea_cons (ed_var 2) ea_nil)))))) (fun _ _ => (ss_cons (ss_setN 3 J.nd (em_of ed_non)) ss_nil))) (ss_cons (ss_ret (em_of (ed_var 3))) ss_nil)))
theorem o_k07_law_ring (L : LX P w K mg base fa fn fc) : Ok1 (caK cs K) P w K mg base "_law_ring" 4 d_k07_law_ring := ok1 (N := N_k07_law_ring) (ps := ["_law_many_here", "_law_field", "_law_order_here"]) (d := D_k07_law_ring) L 19 88 sc_k07_law_ring (b_k07_law_ring L) rfl rfl rfl (fun _ _ _ _ _ _ us hl => match us, hl with | [_, _, _], _ => rfl)

theorem sc_Ring_letters : FnScope N_Ring_letters ["self"] (defScope s_Ring_letters) := ⟨rfl, rfl, rfl, by decide +kernel, rfl, by decide +kernel, by decide +kernel⟩
theorem b_Ring_letters (L : LX P w K mg base fa fn fc) (f : Addr) (cdv : Value) (A : Around) (outer : List PySem.Env) (s0 : Shared) (H : Hp) (E : XK) (J : JX (cxOf (L2.CX P w) P w K mg base N_Ring_letters "Ring.letters" (defScope s_Ring_letters) f cdv A outer s0 H E) (fun c d _ H' => E c d H') 0) :
    SSs (caK cs K) (cxOf (L2.CX P w) P w K mg base N_Ring_letters "Ring.letters" (defScope s_Ring_letters) f cdv A outer s0 H E) (fun c d _ H' => E c d H') (defBody s_Ring_letters) sd_Ring_letters := by
  unfold sd_Ring_letters
  exact (ss_cons (ss_ret (em_of (ed_sliceS (ed_gstr (He.str_ok L.kin L.glob (L.fact 54))) eo_none (eo_some (ed_fld ["Ring"] (ed_var 0) (fl_cons (fl_in L 25 81) fl_nil)))))) ss_nil)
theorem o_Ring_letters (L : LX P w K mg base fa fn fc) : OkM (caK cs K) P w K mg base "letters" "Ring" 1 d_Ring_letters := okM (N := N_Ring_letters) (ps := ["self"]) (d := D_Ring_letters) L 20 25 89 sc_Ring_letters (b_Ring_letters L) rfl rfl rfl (fun _ _ _ _ _ _ us hl => match us, hl with | [_], _ => rfl)

theorem sc_common : FnScope N_common ["a", "b"] (defScope s_common) := ⟨rfl, rfl, rfl, by decide +kernel, rfl, by decide +kernel, by decide +kernel⟩
theorem b_common (L : LX P w K mg base fa fn fc) (f : Addr) (cdv : Value) (A : Around) (outer : List PySem.Env) (s0 : Shared) (H : Hp) (E : XK) (J : JX (cxOf (L2.CX P w) P w K mg base N_common "common" (defScope s_common) f cdv A outer s0 H E) (fun c d _ H' => E c d H') 0) :
    SSs (caK cs K) (cxOf (L2.CX P w) P w K mg base N_common "common" (defScope s_common) f cdv A outer s0 H E) (fun c d _ H' => E c d H') (defBody s_common) sd_common := by
  unfold sd_common sl_common_1
  exact (ss_cons (ss_while J (eb_ne J (ed_var 1) ed_int) (ss_cons (ss_setN 2 J.nd (em_of (ed_mod (ed_var 0) (ed_var 1)))) (ss_cons (ss_setN 0 J.nd (em_of (ed_var 1))) (ss_cons (ss_setN 1 J.nd (em_of (ed_var 2))) ss_nil)))) (ss_cons (ss_ret (em_of (ed_var 0))) ss_nil))
theorem o_common (L : LX P w K mg base fa fn fc) : Ok1 (caK cs K) P w K mg base "common" 1 d_common := ok1 (N := N_common) (ps := ["a", "b"]) (d := D_common) L 21 93 sc_common (b_common L) rfl rfl rfl (fun _ _ _ _ _ _ us hl => match us, hl with | [_, _], _ => rfl)

theorem sc_Fractions_made : FnScope N_Fractions_made ["self", "top", "bottom"] (defScope s_Fractions_made) := ⟨rfl, rfl, rfl, by decide +kernel, rfl, by decide +kernel, by decide +kernel⟩
theorem b_Fractions_made (L : LX P w K mg base fa fn fc) (f : Addr) (cdv : Value) (A : Around) (outer : List PySem.Env) (s0 : Shared) (H : Hp) (E : XK) (J : JX (cxOf (L2.CX P w) P w K mg base N_Fractions_made "Fractions.made" (defScope s_Fractions_made) f cdv A outer s0 H E) (fun c d _ H' => E c d H') 1) :
    SSs (caK cs K) (cxOf (L2.CX P w) P w K mg base N_Fractions_made "Fractions.made" (defScope s_Fractions_made) f cdv A outer s0 H E) (fun c d _ H' => E c d H') (defBody s_Fractions_made) sd_Fractions_made := by
  unfold sd_Fractions_made
  exact (ss_cons (ss_if (eb_eq J (ed_var 2) ed_int) (ss_cons (ss_raise1 J (by decide +kernel) (L.glo 91) (L.fact 92)) ss_nil) ss_nil) (ss_cons (ss_setN 3 J.nd (em_of (ed_of (em_call1 J (o_common L) (ea_cons (ed_abs (L.free 94) (ea_cons (ed_var 1) ea_nil)) (ea_cons (ed_abs (L.free 94) (ea_cons (ed_var 2) ea_nil)) ea_nil)))))) (ss_cons (ss_if (eb_lt (ed_var 2) ed_int) (ss_cons (ss_setN 3 J.nd (em_of (ed_neg (ed_var 3)))) ss_nil) ss_nil) (ss_cons (ss_ret (em_of (ed_tup (ea_cons (ed_div (ed_var 1) (ed_var 3)) (ea_cons (ed_div (ed_var 2) (ed_var 3)) ea_nil))))) ss_nil))))
theorem oo_Fractions_made (L : LX P w K mg base fa fn fc) : OkM (caK cs K) P w K mg base "made" "Fractions" 2 d_Fractions_made ∧ OkM (caK cs K) P w K mg base "made" "Fractions" 2 d_Fractions_made_d1 := okMd (ca := caK cs K) (N := N_Fractions_made) (ps := ["self", "top", "bottom"]) (d := D_Fractions_made) L 22 23 95 (C := "Fractions") (n := 2) (dv := 1) sc_Fractions_made (b_Fractions_made L) rfl rfl rfl rfl (fun _ _ _ _ _ _ _ us its h1 h2 => match us, h1, its, h2 with | [_, _, _], _, [_], _ => ⟨_, rfl, rfl⟩) (fun _ _ _ _ _ _ _ us its h1 h2 => match us, h1, its, h2 with | [_, _], _, [_], _ => ⟨_, rfl, rfl⟩)
theorem o_Fractions_made (L : LX P w K mg base fa fn fc) : OkM (caK cs K) P w K mg base "made" "Fractions" 2 d_Fractions_made := (oo_Fractions_made L).1
theorem o_Fractions_made_d1 (L : LX P w K mg base fa fn fc) : OkM (caK cs K) P w K mg base "made" "Fractions" 2 d_Fractions_made_d1 := (oo_Fractions_made L).2

theorem sc_Rests_times : FnScope N_Rests_times ["self", "a", "b"] (defScope s_Rests_times) := ⟨rfl, rfl, rfl, by decide +kernel, rfl, by decide +kernel, by decide +kernel⟩
theorem b_Rests_times (L : LX P w K mg base fa fn fc) (f : Addr) (cdv : Value) (A : Around) (outer : List PySem.Env) (s0 : Shared) (H : Hp) (E : XK) (J : JX (cxOf (L2.CX P w) P w K mg base N_Rests_times "Rests.times" (defScope s_Rests_times) f cdv A outer s0 H E) (fun c d _ H' => E c d H') 0) :
    SSs (caK cs K) (cxOf (L2.CX P w) P w K mg base N_Rests_times "Rests.times" (defScope s_Rests_times) f cdv A outer s0 H E) (fun c d _ H' => E c d H') (defBody s_Rests_times) sd_Rests_times := by
  unfold sd_Rests_times
  exact (ss_cons (ss_ret (em_of (ed_mod (ed_mul (ed_var 1) (ed_var 2)) (ed_fld ["Fractions", "Rests"] (ed_var 0) (fl_cons (fl_in L 23 35) (fl_cons (fl_in L 21 34) fl_nil)))))) ss_nil)
theorem o_Rests_times (L : LX P w K mg base fa fn fc) : OkM (caK cs K) P w K mg base "times" "Rests" 1 d_Rests_times := okM (N := N_Rests_times) (ps := ["self", "a", "b"]) (d := D_Rests_times) L 23 21 96 sc_Rests_times (b_Rests_times L) rfl rfl rfl (fun _ _ _ _ _ _ us hl => match us, hl with | [_, _, _], _ => rfl)

theorem sc_turned_rest : FnScope N_turned_rest ["number", "prime"] (defScope s_turned_rest) := ⟨rfl, rfl, rfl, by decide +kernel, rfl, by decide +kernel, by decide +kernel⟩
theorem b_turned_rest (L : LX P w K mg base fa fn fc) (f : Addr) (cdv : Value) (A : Around) (outer : List PySem.Env) (s0 : Shared) (H : Hp) (E : XK) (J : JX (cxOf (L2.CX P w) P w K mg base N_turned_rest "turned_rest" (defScope s_turned_rest) f cdv A outer s0 H E) (fun c d _ H' => E c d H') 0) :
    SSs (caK cs K) (cxOf (L2.CX P w) P w K mg base N_turned_rest "turned_rest" (defScope s_turned_rest) f cdv A outer s0 H E) (fun c d _ H' => E c d H') (defBody s_turned_rest) sd_turned_rest := by
  unfold sd_turned_rest sl_turned_rest_1
  exact (ss_cons (ss_setN 2 J.nd (em_of (ed_var 1))) (ss_cons (ss_setN 3 J.nd (em_of (ed_var 0))) (ss_cons (ss_setN 4 J.nd (em_of ed_int)) (ss_cons (ss_setN 5 J.nd (em_of ed_int)) (ss_cons (ss_while J (eb_ne J (ed_var 3) ed_int) (ss_cons (ss_setN 6 J.nd (em_of (ed_div (ed_var 2) (ed_var 3)))) (ss_cons (ss_setN 7 J.nd (em_of (ed_sub (ed_var 2) (ed_mul (ed_var 6) (ed_var 3))))) (ss_cons (ss_setN 2 J.nd (em_of (ed_var 3))) (ss_cons (ss_setN 3 J.nd (em_of (ed_var 7))) (ss_cons (ss_setN 8 J.nd (em_of (ed_sub (ed_var 4) (ed_mul (ed_var 6) (ed_var 5))))) (ss_cons (ss_setN 4 J.nd (em_of (ed_var 5))) (ss_cons (ss_setN 5 J.nd (em_of (ed_var 8))) ss_nil)))))))) (ss_cons (ss_ret (em_of (ed_mod (ed_var 4) (ed_var 1)))) ss_nil))))))
theorem o_turned_rest (L : LX P w K mg base fa fn fc) : Ok1 (caK cs K) P w K mg base "turned_rest" 1 d_turned_rest := ok1 (N := N_turned_rest) (ps := ["number", "prime"]) (d := D_turned_rest) L 24 97 sc_turned_rest (b_turned_rest L) rfl rfl rfl (fun _ _ _ _ _ _ us hl => match us, hl with | [_, _], _ => rfl)

theorem sc_Rests_turned : FnScope N_Rests_turned ["self", "a"] (defScope s_Rests_turned) := ⟨rfl, rfl, rfl, by decide +kernel, rfl, by decide +kernel, by decide +kernel⟩
theorem b_Rests_turned (L : LX P w K mg base fa fn fc) (f : Addr) (cdv : Value) (A : Around) (outer : List PySem.Env) (s0 : Shared) (H : Hp) (E : XK) (J : JX (cxOf (L2.CX P w) P w K mg base N_Rests_turned "Rests.turned" (defScope s_Rests_turned) f cdv A outer s0 H E) (fun c d _ H' => E c d H') 1) :
    SSs (caK cs K) (cxOf (L2.CX P w) P w K mg base N_Rests_turned "Rests.turned" (defScope s_Rests_turned) f cdv A outer s0 H E) (fun c d _ H' => E c d H') (defBody s_Rests_turned) sd_Rests_turned := by
  unfold sd_Rests_turned
  exact (ss_cons (ss_setN 2 J.nd (em_of (ed_mod (ed_var 1) (ed_fld ["Fractions", "Rests"] (ed_var 0) (fl_cons (fl_in L 23 35) (fl_cons (fl_in L 21 34) fl_nil)))))) (ss_cons (ss_if (eb_eq J (ed_var 2) ed_int) (ss_cons (ss_raise1 J (by decide +kernel) (L.glo 91) (L.fact 92)) ss_nil) ss_nil) (ss_cons (ss_ret (em_of (ed_of (em_call1 J (o_turned_rest L) (ea_cons (ed_var 2) (ea_cons (ed_fld ["Fractions", "Rests"] (ed_var 0) (fl_cons (fl_in L 23 35) (fl_cons (fl_in L 21 34) fl_nil))) ea_nil)))))) ss_nil)))
theorem o_Rests_turned (L : LX P w K mg base fa fn fc) : OkM (caK cs K) P w K mg base "turned" "Rests" 2 d_Rests_turned := okM (N := N_Rests_turned) (ps := ["self", "a"]) (d := D_Rests_turned) L 25 21 98 sc_Rests_turned (b_Rests_turned L) rfl rfl rfl (fun _ _ _ _ _ _ us hl => match us, hl with | [_, _], _ => rfl)

theorem sc_Rests_made : FnScope N_Rests_made ["self", "top", "bottom"] (defScope s_Rests_made) := ⟨rfl, rfl, rfl, by decide +kernel, rfl, by decide +kernel, by decide +kernel⟩
theorem b_Rests_made (L : LX P w K mg base fa fn fc) (f : Addr) (cdv : Value) (A : Around) (outer : List PySem.Env) (s0 : Shared) (H : Hp) (E : XK) (J : JX (cxOf (L2.CX P w) P w K mg base N_Rests_made "Rests.made" (defScope s_Rests_made) f cdv A outer s0 H E) (fun c d _ H' => E c d H') 2) :
    SSs (caK cs K) (cxOf (L2.CX P w) P w K mg base N_Rests_made "Rests.made" (defScope s_Rests_made) f cdv A outer s0 H E) (fun c d _ H' => E c d H') (defBody s_Rests_made) sd_Rests_made := by
  unfold sd_Rests_made
  exact (ss_cons (ss_ret (em_of (ed_of (em_meth J (j := 1) (by decide) (mt_cons (OkM.mt (fun _ h => (caK_eq h).2) (o_Rests_times L) (by decide)) mt_nil) (ed_var 0) (ea_cons (ed_mod (ed_var 1) (ed_fld ["Fractions", "Rests"] (ed_var 0) (fl_cons (fl_in L 23 35) (fl_cons (fl_in L 21 34) fl_nil)))) (ea_cons (ed_of (em_meth J (j := 2) (by decide) (mt_cons (OkM.mt (fun _ h => (caK_eq h).2) (o_Rests_turned L) (by decide)) mt_nil) (ed_var 0) (ea_cons (ed_var 2) ea_nil))) ea_nil)))))) ss_nil)
theorem oo_Rests_made (L : LX P w K mg base fa fn fc) : OkM (caK cs K) P w K mg base "made" "Rests" 3 d_Rests_made ∧ OkM (caK cs K) P w K mg base "made" "Rests" 3 d_Rests_made_d1 := okMd (ca := caK cs K) (N := N_Rests_made) (ps := ["self", "top", "bottom"]) (d := D_Rests_made) L 26 21 99 (C := "Rests") (n := 2) (dv := 1) sc_Rests_made (b_Rests_made L) rfl rfl rfl rfl (fun _ _ _ _ _ _ _ us its h1 h2 => match us, h1, its, h2 with | [_, _, _], _, [_], _ => ⟨_, rfl, rfl⟩) (fun _ _ _ _ _ _ _ us its h1 h2 => match us, h1, its, h2 with | [_, _], _, [_], _ => ⟨_, rfl, rfl⟩)
theorem o_Rests_made (L : LX P w K mg base fa fn fc) : OkM (caK cs K) P w K mg base "made" "Rests" 3 d_Rests_made := (oo_Rests_made L).1
theorem o_Rests_made_d1 (L : LX P w K mg base fa fn fc) : OkM (caK cs K) P w K mg base "made" "Rests" 3 d_Rests_made_d1 := (oo_Rests_made L).2

theorem sc_Field_one : FnScope N_Field_one ["self"] (defScope s_Field_one) := ⟨rfl, rfl, rfl, by decide +kernel, rfl, by decide +kernel, by decide +kernel⟩
theorem b_Field_one (L : LX P w K mg base fa fn fc) (f : Addr) (cdv : Value) (A : Around) (outer : List PySem.Env) (s0 : Shared) (H : Hp) (E : XK) (J : JX (cxOf (L2.CX P w) P w K mg base N_Field_one "Field.one" (defScope s_Field_one) f cdv A outer s0 H E) (fun c d _ H' => E c d H') 3) :
    SSs (caK cs K) (cxOf (L2.CX P w) P w K mg base N_Field_one "Field.one" (defScope s_Field_one) f cdv A outer s0 H E) (fun c d _ H' => E c d H') (defBody s_Field_one) sd_Field_one := by
  unfold sd_Field_one
  exact (ss_cons (ss_ret (em_of (ed_of (em_meth J (j := 3) (by decide) (mt_cons (OkM.mt (fun _ h => (caK_eq h).2) (o_Fractions_made_d1 L) (by decide)) (mt_cons (OkM.mt (fun _ h => (caK_eq h).2) (o_Rests_made_d1 L) (by decide)) mt_nil)) (ed_var 0) (ea_cons ed_int ea_nil))))) ss_nil)
theorem o_Field_one (L : LX P w K mg base fa fn fc) : OkM (caK cs K) P w K mg base "one" "Field" 4 d_Field_one := okM (N := N_Field_one) (ps := ["self"]) (d := D_Field_one) L 27 100 101 sc_Field_one (b_Field_one L) rfl rfl rfl (fun _ _ _ _ _ _ us hl => match us, hl with | [_], _ => rfl)
theorem o_Fractions_one (L : LX P w K mg base fa fn fc) : OkM (caK cs K) P w K mg base "one" "Fractions" 4 d_Field_one := okM (N := N_Field_one) (ps := ["self"]) (d := D_Fractions_one) L 28 23 102 sc_Field_one (b_Field_one L) rfl rfl rfl (fun _ _ _ _ _ _ us hl => match us, hl with | [_], _ => rfl)
theorem o_Rests_one (L : LX P w K mg base fa fn fc) : OkM (caK cs K) P w K mg base "one" "Rests" 4 d_Field_one := okM (N := N_Field_one) (ps := ["self"]) (d := D_Rests_one) L 29 21 103 sc_Field_one (b_Field_one L) rfl rfl rfl (fun _ _ _ _ _ _ us hl => match us, hl with | [_], _ => rfl)

theorem sc_Ring_unknown : FnScope N_Ring_unknown ["self", "at"] (defScope s_Ring_unknown) := ⟨rfl, rfl, rfl, by decide +kernel, rfl, by decide +kernel, by decide +kernel⟩
theorem b_Ring_unknown (L : LX P w K mg base fa fn fc) (f : Addr) (cdv : Value) (A : Around) (outer : List PySem.Env) (s0 : Shared) (H : Hp) (E : XK) (J : JX (cxOf (L2.CX P w) P w K mg base N_Ring_unknown "Ring.unknown" (defScope s_Ring_unknown) f cdv A outer s0 H E) (fun c d _ H' => E c d H') 4) :
    SSs (caK cs K) (cxOf (L2.CX P w) P w K mg base N_Ring_unknown "Ring.unknown" (defScope s_Ring_unknown) f cdv A outer s0 H E) (fun c d _ H' => E c d H') (defBody s_Ring_unknown) sd_Ring_unknown := by
  unfold sd_Ring_unknown
  exact (ss_cons (ss_setN 2 J.nd (em_of (ed_tuple (L.free 12) (ea_cons (ed_of (em_lc1 (lc_ok [("k", 3)] J (ei_range1 (L.free 0) (ea_cons (ed_fld ["Ring"] (ed_var 0) (fl_cons (fl_in L 25 81) fl_nil)) ea_nil)) (blkOk_by (N := N_Ring_unknown) (sc := defScope s_Ring_unknown) (by decide +kernel)) (fun _ _ _ _ _ J => (tg_name 3 J.nd)) (fun _ _ _ _ _ J => et_nil) (fun _ _ _ _ _ J => (ed_if (eb_eq J (ed_var 3) (ed_var 1)) ed_int ed_int)) (by decide)))) ea_nil)))) (ss_cons (ss_ret (em_disp1 J (ed_var 2) (ed_of (em_meth0 J (j := 4) (by decide) (mt_cons (OkM.mt (fun _ h => (caK_eq h).2) (o_Fractions_one L) (by decide)) (mt_cons (OkM.mt (fun _ h => (caK_eq h).2) (o_Rests_one L) (by decide)) mt_nil)) (ed_fld ["Ring"] (ed_var 0) (fl_cons (fl_in L 25 74) fl_nil)))))) ss_nil))
theorem o_Ring_unknown (L : LX P w K mg base fa fn fc) : OkM (caK cs K) P w K mg base "unknown" "Ring" 5 d_Ring_unknown := okM (N := N_Ring_unknown) (ps := ["self", "at"]) (d := D_Ring_unknown) L 30 25 104 sc_Ring_unknown (b_Ring_unknown L) rfl rfl rfl (fun _ _ _ _ _ _ us hl => match us, hl with | [_, _], _ => rfl)

theorem sc_k07_law_parts : FnScope N_k07_law_parts ["_law_found", "_law_term", "_law_number"] (defScope s_k07_law_parts) := ⟨rfl, rfl, rfl, by decide +kernel, rfl, by decide +kernel, by decide +kernel⟩
theorem b_k07_law_parts (L : LX P w K mg base fa fn fc) (f : Addr) (cdv : Value) (A : Around) (outer : List PySem.Env) (s0 : Shared) (H : Hp) (E : XK) (J : JX (cxOf (L2.CX P w) P w K mg base N_k07_law_parts "_law_parts" (defScope s_k07_law_parts) f cdv A outer s0 H E) (fun c d _ H' => E c d H') 0) :
    SSs (caK cs K) (cxOf (L2.CX P w) P w K mg base N_k07_law_parts "_law_parts" (defScope s_k07_law_parts) f cdv A outer s0 H E) (fun c d _ H' => E c d H') (defBody s_k07_law_parts) sd_k07_law_parts := by
  unfold sd_k07_law_parts sl_k07_law_parts_1
  exact (ss_cons (ss_if (eb_w (ew_or (eb_not (eb_val (ed_isiTd "dict" (L.free 105) (L.free 106) (ed_var 0) (ed_ty "dict" (L.free 106) (by decide +kernel))))) (ew_or1 (eb_neT J (ed_var 0) (ed_of (em_disp1 J (ed_var 1) (ed_var 2))))))) (ss_cons (ss_ret (em_of ed_bl)) ss_nil) ss_nil) (ss_cons (ss_forKeys J (ed_var 0) (tg_name 3 J.nd) (ss_cons (ss_if (eb_not (eb_val (ed_isi "tuple" (L.free 105) (L.free 12) (ed_var 3) (ed_ty "tuple" (L.free 12) (by decide +kernel))))) (ss_cons (ss_ret (em_of ed_bl)) ss_nil) ss_nil) ss_nil)) (ss_cons (ss_ret (em_of ed_bl)) ss_nil)))
theorem o_k07_law_parts (L : LX P w K mg base fa fn fc) : Ok1 (caK cs K) P w K mg base "_law_parts" 1 d_k07_law_parts := ok1 (N := N_k07_law_parts) (ps := ["_law_found", "_law_term", "_law_number"]) (d := D_k07_law_parts) L 31 107 sc_k07_law_parts (b_k07_law_parts L) rfl rfl rfl (fun _ _ _ _ _ _ us hl => match us, hl with | [_, _, _], _ => rfl)

theorem sc_Field_nought : FnScope N_Field_nought ["self"] (defScope s_Field_nought) := ⟨rfl, rfl, rfl, by decide +kernel, rfl, by decide +kernel, by decide +kernel⟩
theorem b_Field_nought (L : LX P w K mg base fa fn fc) (f : Addr) (cdv : Value) (A : Around) (outer : List PySem.Env) (s0 : Shared) (H : Hp) (E : XK) (J : JX (cxOf (L2.CX P w) P w K mg base N_Field_nought "Field.nought" (defScope s_Field_nought) f cdv A outer s0 H E) (fun c d _ H' => E c d H') 3) :
    SSs (caK cs K) (cxOf (L2.CX P w) P w K mg base N_Field_nought "Field.nought" (defScope s_Field_nought) f cdv A outer s0 H E) (fun c d _ H' => E c d H') (defBody s_Field_nought) sd_Field_nought := by
  unfold sd_Field_nought
  exact (ss_cons (ss_ret (em_of (ed_of (em_meth J (j := 3) (by decide) (mt_cons (OkM.mt (fun _ h => (caK_eq h).2) (o_Fractions_made_d1 L) (by decide)) (mt_cons (OkM.mt (fun _ h => (caK_eq h).2) (o_Rests_made_d1 L) (by decide)) mt_nil)) (ed_var 0) (ea_cons ed_int ea_nil))))) ss_nil)
theorem o_Field_nought (L : LX P w K mg base fa fn fc) : OkM (caK cs K) P w K mg base "nought" "Field" 4 d_Field_nought := okM (N := N_Field_nought) (ps := ["self"]) (d := D_Field_nought) L 32 100 108 sc_Field_nought (b_Field_nought L) rfl rfl rfl (fun _ _ _ _ _ _ us hl => match us, hl with | [_], _ => rfl)
theorem o_Fractions_nought (L : LX P w K mg base fa fn fc) : OkM (caK cs K) P w K mg base "nought" "Fractions" 4 d_Field_nought := okM (N := N_Field_nought) (ps := ["self"]) (d := D_Fractions_nought) L 33 23 109 sc_Field_nought (b_Field_nought L) rfl rfl rfl (fun _ _ _ _ _ _ us hl => match us, hl with | [_], _ => rfl)
theorem o_Rests_nought (L : LX P w K mg base fa fn fc) : OkM (caK cs K) P w K mg base "nought" "Rests" 4 d_Field_nought := okM (N := N_Field_nought) (ps := ["self"]) (d := D_Rests_nought) L 34 21 110 sc_Field_nought (b_Field_nought L) rfl rfl rfl (fun _ _ _ _ _ _ us hl => match us, hl with | [_], _ => rfl)

theorem sc_Ring_constant : FnScope N_Ring_constant ["self", "number"] (defScope s_Ring_constant) := ⟨rfl, rfl, rfl, by decide +kernel, rfl, by decide +kernel, by decide +kernel⟩
theorem b_Ring_constant (L : LX P w K mg base fa fn fc) (f : Addr) (cdv : Value) (A : Around) (outer : List PySem.Env) (s0 : Shared) (H : Hp) (E : XK) (J : JX (cxOf (L2.CX P w) P w K mg base N_Ring_constant "Ring.constant" (defScope s_Ring_constant) f cdv A outer s0 H E) (fun c d _ H' => E c d H') 4) :
    SSs (caK cs K) (cxOf (L2.CX P w) P w K mg base N_Ring_constant "Ring.constant" (defScope s_Ring_constant) f cdv A outer s0 H E) (fun c d _ H' => E c d H') (defBody s_Ring_constant) sd_Ring_constant := by
  unfold sd_Ring_constant
  exact (ss_cons (ss_if (eb_eq J (ed_var 1) (ed_of (em_meth0 J (j := 4) (by decide) (mt_cons (OkM.mt (fun _ h => (caK_eq h).2) (o_Fractions_nought L) (by decide)) (mt_cons (OkM.mt (fun _ h => (caK_eq h).2) (o_Rests_nought L) (by decide)) mt_nil)) (ed_fld ["Ring"] (ed_var 0) (fl_cons (fl_in L 25 74) fl_nil))))) (ss_cons (ss_ret em_dic0) ss_nil) ss_nil) (ss_cons (ss_ret (em_disp1 J (ed_tuple (L.free 12) (ea_cons (ed_of (em_lc1 (lc_ok [("k", 2)] J (ei_range1 (L.free 0) (ea_cons (ed_fld ["Ring"] (ed_var 0) (fl_cons (fl_in L 25 81) fl_nil)) ea_nil)) (blkOk_by (N := N_Ring_constant) (sc := defScope s_Ring_constant) (by decide +kernel)) (fun _ _ _ _ _ J => (tg_name 2 J.nd)) (fun _ _ _ _ _ J => et_nil) (fun _ _ _ _ _ J => ed_int) (by decide)))) ea_nil)) (ed_var 1))) ss_nil))
theorem o_Ring_constant (L : LX P w K mg base fa fn fc) : OkM (caK cs K) P w K mg base "constant" "Ring" 5 d_Ring_constant := okM (N := N_Ring_constant) (ps := ["self", "number"]) (d := D_Ring_constant) L 35 25 111 sc_Ring_constant (b_Ring_constant L) rfl rfl rfl (fun _ _ _ _ _ _ us hl => match us, hl with | [_, _], _ => rfl)

theorem sc_k07_law_good : FnScope N_k07_law_good ["_law_ring_here", "_law_many_here", "_law_field", "_law_order_here", "_law_cell_here"] (defScope s_k07_law_good) := ⟨rfl, rfl, rfl, by decide +kernel, rfl, by decide +kernel, by decide +kernel⟩
theorem b_k07_law_good (L : LX P w K mg base fa fn fc) (f : Addr) (cdv : Value) (A : Around) (outer : List PySem.Env) (s0 : Shared) (H : Hp) (E : XK) (J : JX (cxOf (L2.CX P w) P w K mg base N_k07_law_good "_law_good" (defScope s_k07_law_good) f cdv A outer s0 H E) (fun c d _ H' => E c d H') 5) :
    SSs (caK cs K) (cxOf (L2.CX P w) P w K mg base N_k07_law_good "_law_good" (defScope s_k07_law_good) f cdv A outer s0 H E) (fun c d _ H' => E c d H') (defBody s_k07_law_good) sd_k07_law_good := by
  unfold sd_k07_law_good sl_k07_law_good_1
  exact (ss_cons (ss_if (eb_w (ew_or (eb_ne J (ed_fld ["Ring"] (ed_var 0) (fl_cons (fl_in L 25 81) fl_nil)) (ed_var 1)) (ew_or1 (eb_ne J (ed_fld ["Fractions", "Rests"] (ed_fld ["Ring"] (ed_var 0) (fl_cons (fl_in L 25 74) fl_nil)) (fl_cons (fl_in L 23 35) (fl_cons (fl_in L 21 34) fl_nil))) (ed_fld ["Fractions", "Rests"] (ed_var 2) (fl_cons (fl_in L 23 35) (fl_cons (fl_in L 21 34) fl_nil))))))) (ss_cons (ss_ret (em_of ed_bl)) ss_nil) ss_nil) (ss_cons (ss_setN 5 J.nd (em_of (ed_tuple (L.free 12) (ea_cons (ed_of (em_lc1 (lc_ok [("_law_at", 7)] J (ei_range1 (L.free 0) (ea_cons (ed_var 1) ea_nil)) (blkOk_by (N := N_k07_law_good) (sc := defScope s_k07_law_good) (by decide +kernel)) (fun _ _ _ _ _ J => (tg_name 7 J.nd)) (fun _ _ _ _ _ J => et_nil) (fun _ _ _ _ _ J => ed_int) (by decide)))) ea_nil)))) (ss_cons (ss_setN 6 J.nd (em_of (ed_tuple (L.free 12) (ea_cons (ed_of (em_lc1 (lc_ok [("_law_at", 7)] J (ei_range1 (L.free 0) (ea_cons (ed_var 1) ea_nil)) (blkOk_by (N := N_k07_law_good) (sc := defScope s_k07_law_good) (by decide +kernel)) (fun _ _ _ _ _ J => (tg_name 7 J.nd)) (fun _ _ _ _ _ J => et_nil) (fun _ _ _ _ _ J => (ed_add (ed_mod (ed_div (ed_var 4) ed_int) ed_int) (ed_var 7))) (by decide)))) ea_nil)))) (ss_cons (ss_if (eb_w (ew_or (eb_ne J (ed_of (em_meth J (j := 2) (by decide) (mt_cons (OkM.mt (fun _ h => (caK_eq h).2) (o_Order_rank L) (by decide)) (mt_cons (OkM.mt (fun _ h => (caK_eq h).2) (o_Degrees_rank L) (by decide)) (mt_cons (OkM.mt (fun _ h => (caK_eq h).2) (o_Tails_rank L) (by decide)) (mt_cons (OkM.mt (fun _ h => (caK_eq h).2) (o_Weights_rank L) (by decide)) mt_nil)))) (ed_fld ["Ring"] (ed_var 0) (fl_cons (fl_in L 25 67) fl_nil)) (ea_cons (ed_var 6) ea_nil))) (ed_of (em_meth J (j := 2) (by decide) (mt_cons (OkM.mt (fun _ h => (caK_eq h).2) (o_Order_rank L) (by decide)) (mt_cons (OkM.mt (fun _ h => (caK_eq h).2) (o_Degrees_rank L) (by decide)) (mt_cons (OkM.mt (fun _ h => (caK_eq h).2) (o_Tails_rank L) (by decide)) (mt_cons (OkM.mt (fun _ h => (caK_eq h).2) (o_Weights_rank L) (by decide)) mt_nil)))) (ed_var 3) (ea_cons (ed_var 6) ea_nil)))) (ew_or1 (eb_ne J (ed_of (em_meth0 J (j := 1) (by decide) (mt_cons (OkM.mt (fun _ h => (caK_eq h).2) (o_Ring_letters L) (by decide)) mt_nil) (ed_var 0))) (ed_sliceS ed_str eo_none (eo_some (ed_var 1))))))) (ss_cons (ss_ret (em_of ed_bl)) ss_nil) ss_nil) (ss_cons (ss_for J (ei_range1 (L.free 0) (ea_cons (ed_var 1) ea_nil)) (tg_name 7 J.nd) (ss_cons (ss_setN 8 J.nd (em_of (ed_tuple (L.free 12) (ea_cons (ed_of (em_lc1 (lc_ok [("_law_k", 12)] J (ei_range1 (L.free 0) (ea_cons (ed_var 1) ea_nil)) (blkOk_by (N := N_k07_law_good) (sc := defScope s_k07_law_good) (by decide +kernel)) (fun _ _ _ _ _ J => (tg_name 12 J.nd)) (fun _ _ _ _ _ J => et_nil) (fun _ _ _ _ _ J => (ed_int1 (L.free 90) (ea_cons (ed_eq J (ed_var 12) (ed_var 7)) ea_nil))) (by decide)))) ea_nil)))) (ss_cons (ss_setN 9 J.nd (em_meth J (j := 5) (by decide) (mt_cons (OkM.mt (fun _ h => (caK_eq h).2) (o_Ring_unknown L) (by decide)) mt_nil) (ed_var 0) (ea_cons (ed_var 7) ea_nil))) (ss_cons (ss_if (eb_bor (eb_not (eb_val (ed_of (em_call1 J (o_k07_law_parts L) (ea_cons (ed_var 9) (ea_cons (ed_var 8) (ea_cons (ed_of (em_meth0 J (j := 4) (by decide) (mt_cons (OkM.mt (fun _ h => (caK_eq h).2) (o_Fractions_one L) (by decide)) (mt_cons (OkM.mt (fun _ h => (caK_eq h).2) (o_Rests_one L) (by decide)) mt_nil)) (ed_var 2))) ea_nil)))))))) (ss_cons (ss_ret (em_of ed_bl)) ss_nil) ss_nil) (ss_cons (ss_clear 9) (ss_cons (ss_if (eb_not (eb_val (ed_of (em_call1 J (o_k07_law_parts L) (ea_cons (ed_of (em_meth J (j := 5) (by decide) (mt_cons (OkM.mt (fun _ h => (caK_eq h).2) (o_Ring_unknown L) (by decide)) mt_nil) (ed_var 0) (ea_cons (ed_var 7) ea_nil))) (ea_cons (ed_var 8) (ea_cons (ed_of (em_meth0 J (j := 4) (by decide) (mt_cons (OkM.mt (fun _ h => (caK_eq h).2) (o_Fractions_one L) (by decide)) (mt_cons (OkM.mt (fun _ h => (caK_eq h).2) (o_Rests_one L) (by decide)) mt_nil)) (ed_var 2))) ea_nil))))))) (ss_cons (ss_ret (em_of ed_bl)) ss_nil) ss_nil) ss_nil)))))) (ss_cons (ss_setN 10 J.nd (em_of (ed_of (em_meth J (j := 3) (by decide) (mt_cons (OkM.mt (fun _ h => (caK_eq h).2) (o_Fractions_made_d1 L) (by decide)) (mt_cons (OkM.mt (fun _ h => (caK_eq h).2) (o_Rests_made_d1 L) (by decide)) mt_nil)) (ed_var 2) (ea_cons (ed_add ed_int (ed_mod (ed_div (ed_var 4) ed_int) (ed_pow ed_int ed_int))) ea_nil))))) (ss_cons (ss_if (eb_eq J (ed_var 10) (ed_of (em_meth0 J (j := 4) (by decide) (mt_cons (OkM.mt (fun _ h => (caK_eq h).2) (o_Fractions_nought L) (by decide)) (mt_cons (OkM.mt (fun _ h => (caK_eq h).2) (o_Rests_nought L) (by decide)) mt_nil)) (ed_var 2)))) (ss_cons (ss_setN 10 J.nd (em_of (ed_of (em_meth0 J (j := 4) (by decide) (mt_cons (OkM.mt (fun _ h => (caK_eq h).2) (o_Fractions_one L) (by decide)) (mt_cons (OkM.mt (fun _ h => (caK_eq h).2) (o_Rests_one L) (by decide)) mt_nil)) (ed_var 2))))) ss_nil) ss_nil) (ss_cons (ss_setN 11 J.nd (em_meth J (j := 5) (by decide) (mt_cons (OkM.mt (fun _ h => (caK_eq h).2) (o_Ring_constant L) (by decide)) mt_nil) (ed_var 0) (ea_cons (ed_of (em_meth0 J (j := 4) (by decide) (mt_cons (OkM.mt (fun _ h => (caK_eq h).2) (o_Fractions_nought L) (by decide)) (mt_cons (OkM.mt (fun _ h => (caK_eq h).2) (o_Rests_nought L) (by decide)) mt_nil)) (ed_var 2))) ea_nil))) (ss_cons (ss_if (eb_bor (eb_neT J (ed_var 11) (ed_of em_dic0))) (ss_cons (ss_ret (em_of ed_bl)) ss_nil) ss_nil) (ss_cons (ss_put 11 J (ed_var 5) (ed_var 10)) (ss_cons (ss_setN 9 J.nd (em_meth J (j := 5) (by decide) (mt_cons (OkM.mt (fun _ h => (caK_eq h).2) (o_Ring_constant L) (by decide)) mt_nil) (ed_var 0) (ea_cons (ed_var 10) ea_nil))) (ss_cons (ss_if (eb_bor (eb_w (ew_or (eb_neT J (ed_of (em_meth J (j := 5) (by decide) (mt_cons (OkM.mt (fun _ h => (caK_eq h).2) (o_Ring_constant L) (by decide)) mt_nil) (ed_var 0) (ea_cons (ed_of (em_meth0 J (j := 4) (by decide) (mt_cons (OkM.mt (fun _ h => (caK_eq h).2) (o_Fractions_nought L) (by decide)) (mt_cons (OkM.mt (fun _ h => (caK_eq h).2) (o_Rests_nought L) (by decide)) mt_nil)) (ed_var 2))) ea_nil))) (ed_of em_dic0)) (ew_or1 (eb_not (eb_val (ed_of (em_call1 J (o_k07_law_parts L) (ea_cons (ed_var 9) (ea_cons (ed_var 5) (ea_cons (ed_var 10) ea_nil))))))))))) (ss_cons (ss_ret (em_of ed_bl)) ss_nil) ss_nil) (ss_cons (ss_clear 9) (ss_cons (ss_ret (em_of (ed_of (em_call1 J (o_k07_law_parts L) (ea_cons (ed_of (em_meth J (j := 5) (by decide) (mt_cons (OkM.mt (fun _ h => (caK_eq h).2) (o_Ring_constant L) (by decide)) mt_nil) (ed_var 0) (ea_cons (ed_var 10) ea_nil))) (ea_cons (ed_var 5) (ea_cons (ed_var 10) ea_nil))))))) ss_nil))))))))))))))
theorem o_k07_law_good (L : LX P w K mg base fa fn fc) : Ok1 (caK cs K) P w K mg base "_law_good" 6 d_k07_law_good := ok1 (N := N_k07_law_good) (ps := ["_law_ring_here", "_law_many_here", "_law_field", "_law_order_here", "_law_cell_here"]) (d := D_k07_law_good) L 36 112 sc_k07_law_good (b_k07_law_good L) rfl rfl rfl (fun _ _ _ _ _ _ us hl => match us, hl with | [_, _, _, _, _], _ => rfl)

theorem sc_k07_law : FnScope N_k07_law ["_law_script"] (defScope s_k07_law) := ⟨rfl, rfl, rfl, by decide +kernel, rfl, by decide +kernel, by decide +kernel⟩
theorem b_k07_law (L : LX P w K mg base fa fn fc) (f : Addr) (cdv : Value) (A : Around) (outer : List PySem.Env) (s0 : Shared) (H : Hp) (E : XK) (J : JX (cxOf (L2.CX P w) P w K mg base N_k07_law "law" (defScope s_k07_law) f cdv A outer s0 H E) (fun c d _ H' => E c d H') 6) :
    SSs (caK cs K) (cxOf (L2.CX P w) P w K mg base N_k07_law "law" (defScope s_k07_law) f cdv A outer s0 H E) (fun c d _ H' => E c d H') (defBody s_k07_law) sd_k07_law := by
  unfold sd_k07_law sl_k07_law_1
  exact (ss_cons (ss_for J (ei_range1 (L.free 0) (ea_cons (ed_len (L.free 1) (ea_cons (ed_var 0) ea_nil)) ea_nil)) (tg_name 1 J.nd) (ss_cons (ss_setN 2 J.nd (em_of (ed_ix (ed_var 0) (ed_var 1)))) (ss_cons (ss_setN 3 J.nd (em_of (ed_of (em_call1 J (o_k07_law_many L) (ea_cons (ed_var 2) ea_nil))))) (ss_cons (ss_setN 4 J.nd (em_call1 J (o_k07_law_weights L) (ea_cons (ed_div (ed_var 2) ed_int) (ea_cons (ed_var 3) ea_nil)))) (ss_cons (ss_setN 5 J.nd (em_of (ed_mod (ed_of (em_call1 J (o_k07_law_cell L) (ea_cons (ed_var 0) (ea_cons (ed_add (ed_var 1) ed_int) ea_nil)))) ed_int))) (ss_cons (ss_setN 6 J.nd (em_of (ed_of (em_bor (em_call1 J (o_k07_law_order L) (ea_cons (ed_var 5) (ea_cons (ed_var 4) ea_nil))))))) (ss_cons (ss_setN 7 J.nd (em_of (ed_new0 J (oi_Fractions L) (L.fact 39) (L.glo 38)))) (ss_cons (ss_if (eb_eq J (ed_mod (ed_div (ed_var 2) ed_int) ed_int) ed_int) (ss_cons (ss_setN 7 J.nd (em_of (ed_new J (oi_Rests L) (L.fact 45) (L.glo 44) (ea_cons (ed_ix (ed_of (em_lst (ea_cons ed_int (ea_cons ed_int (ea_cons ed_int (ea_cons ed_int (ea_cons ed_int ea_nil))))))) (ed_mod (ed_div (ed_var 2) ed_int) ed_int)) ea_nil)))) ss_nil) ss_nil) (ss_cons (ss_setN 8 J.nd (em_of (ed_tupRg2 J (L.free 12) (L.free 0) ed_int (ed_add (ed_max2 J (L.free 3) (ea_cons ed_int (ea_cons (ed_min2 J (L.free 4) (ea_cons (ed_var 3) (ea_cons ed_int ea_nil))) ea_nil))) ed_int)))) (ss_cons (ss_setN 9 J.nd (em_of (ed_tup ea_nil))) (ss_cons (ss_if (eb_bor (eb_w (ew_and (eb_eq J (ed_var 5) ed_int) (ew_and (eb_gt (ed_var 3) ed_int) (ew_and1 (eb_eq J (ed_len (L.free 1) (ea_cons (ed_var 4) ea_nil)) (ed_var 3))))))) (ss_cons (ss_setN 9 J.nd (em_of (ed_of (em_meth J (j := 2) (by decide) (mt_cons (OkM.mt (fun _ h => (caK_eq h).2) (o_Order_rank L) (by decide)) (mt_cons (OkM.mt (fun _ h => (caK_eq h).2) (o_Degrees_rank L) (by decide)) (mt_cons (OkM.mt (fun _ h => (caK_eq h).2) (o_Tails_rank L) (by decide)) (mt_cons (OkM.mt (fun _ h => (caK_eq h).2) (o_Weights_rank L) (by decide)) mt_nil)))) (ed_var 6) (ea_cons (ed_var 8) ea_nil))))) ss_nil) ss_nil) (ss_cons (ss_setN 10 J.nd (em_of (ed_of (em_call1 J (o_k07_law_ring L) (ea_cons (ed_var 3) (ea_cons (ed_var 7) (ea_cons (ed_var 6) ea_nil))))))) (ss_cons (ss_setN 11 J.nd (em_of (ed_bor (ed_and (ed_chain op_le op_le (opd_int0 fun _ _ _ => is_bl.mpr rfl) (opd_int0 fun _ _ _ => is_bl.mpr rfl) ed_int (ed_var 3) ed_int) (ed_one (ed_or (ed_ne J (ed_var 5) ed_int) (ed_one (ed_eq J (ed_len (L.free 1) (ea_cons (ed_var 4) ea_nil)) (ed_var 3))))))))) (ss_cons (ss_if (eb_ne J (ed_var 11) (ed_notN (ed_var 10) ed_non)) (ss_cons (ss_ret (em_of ed_bl)) ss_nil) ss_nil) (ss_cons (ss_if (eb_w (ew_and (eb_val (ed_var 11)) (ew_and1 (eb_not (eb_val (ed_of (em_call1 J (o_k07_law_good L) (ea_cons (ed_var 10) (ea_cons (ed_var 3) (ea_cons (ed_var 7) (ea_cons (ed_var 6) (ea_cons (ed_var 2) ea_nil)))))))))))) (ss_cons (ss_ret (em_of ed_bl)) ss_nil) ss_nil) (ss_cons (ss_if (eb_w (ew_and (eb_val (ed_var 11)) (ew_and1 (eb_eq J (ed_var 5) ed_int)))) (ss_cons (ss_putL 4 J ed_int (ed_bor (ed_add (ed_ix (ed_var 4) ed_int) ed_int))) (ss_cons (ss_if (eb_ne J (ed_of (em_meth J (j := 2) (by decide) (mt_cons (OkM.mt (fun _ h => (caK_eq h).2) (o_Order_rank L) (by decide)) (mt_cons (OkM.mt (fun _ h => (caK_eq h).2) (o_Degrees_rank L) (by decide)) (mt_cons (OkM.mt (fun _ h => (caK_eq h).2) (o_Tails_rank L) (by decide)) (mt_cons (OkM.mt (fun _ h => (caK_eq h).2) (o_Weights_rank L) (by decide)) mt_nil)))) (ed_fld ["Ring"] (ed_var 10) (fl_cons (fl_in L 25 67) fl_nil)) (ea_cons (ed_var 8) ea_nil))) (ed_var 9)) (ss_cons (ss_ret (em_of ed_bl)) ss_nil) ss_nil) ss_nil)) ss_nil) ss_nil)))))))))))))))) (ss_cons (ss_ret (em_of ed_bl)) ss_nil))
theorem o_k07_law (L : LX P w K mg base fa fn fc) : Ok1 (caK cs K) P w K mg base "law" 7 d_k07_law := ok1 (N := N_k07_law) (ps := ["_law_script"]) (d := D_k07_law) L 37 113 sc_k07_law (b_k07_law L) rfl rfl rfl (fun _ _ _ _ _ _ us hl => match us, hl with | [_], _ => rfl)

end
end Wk07
set_option maxHeartbeats 4000000
namespace Mk07
open DA PySem PySem.Spec PyProof.Rows L2 Ma
theorem pr_few (c : Int) : ∃ p, ixL ([2, 3, 5, 97, 9973] : List Int) (c % 5) = .ok p ∧ Pm p := by
  obtain ⟨k, ek, hk⟩ : ∃ k : Nat, c % 5 = (k : Int) ∧ k < 5 := ⟨(c % 5).toNat, by omega, by omega⟩
  rw [ek]
  match k, hk with
  | 0, _ => exact ⟨2, ixL_nat rfl, pm_2⟩
  | 1, _ => exact ⟨3, ixL_nat rfl, pm_3⟩
  | 2, _ => exact ⟨5, ixL_nat rfl, pm_5⟩
  | 3, _ => exact ⟨97, ixL_nat rfl, pm_97⟩
  | 4, _ => exact ⟨9973, ixL_nat rfl, pm_9973⟩
theorem order_ok {kind : Int} {ws : List Int} (h : OkW ws) : n_k07_law_order kind ws = .ok (kd kind ws) := by
  unfold n_k07_law_order kd
  by_cases h0 : kind = 0
  · simp [h0]
  · by_cases h1 : kind = 1
    · simp [h1]
    · by_cases h2 : kind = 2
      · simp [h2]
      · simp [h0, h1, h2, neww_ok h]
theorem weights_ok (c m : Int) : ∃ ws, n_k07_law_weights c m = .ok ws ∧ OkW ws ∧ ws.length ≤ 10 := by
  unfold n_k07_law_weights
  simp only [lt]
  obtain ⟨n, en, hn⟩ : ∃ n : Nat, (if decide ((c / 3) % 3 = 2) = true then Out.ok (max 0 (max 0 (min m 8) + (c / 9) % 5 - 2)) else Out.ok (max 0 (min m 8)) : Out Int) = .ok (n : Int) ∧ n ≤ 10 := by
    split
    · refine ⟨(max 0 (max 0 (min m 8) + (c / 9) % 5 - 2)).toNat, ?_, ?_⟩
      · congr 1; omega
      · omega
    · refine ⟨(max 0 (min m 8)).toNat, ?_, ?_⟩
      · congr 1; omega
      · omega
  rw [en, bind_ok, rgO_nat _ (by omega), bind_ok]
  obtain ⟨ws, e, l, q⟩ := mapN_ex (f := fun at_ : Int => Out.ok ((c / 5) % 7 + at_)) (P := fun _ y => 0 ≤ y ∧ y.natAbs < 2 ^ 200) (xs := (List.range n).map fun (k : Nat) => (k : Int)) fun x hx => by
    obtain ⟨k, hk, rfl⟩ := List.mem_map.mp hx
    have hk := List.mem_range.mp hk
    refine ⟨_, rfl, by omega, ?_⟩
    have : ((c / 5) % 7 + (k : Int)).natAbs < 2 ^ 5 := by omega
    exact up this (by decide)
  refine ⟨ws, e, fun w hw => ?_, by rw [l]; simpa using hn⟩
  obtain ⟨_, _, _, h⟩ := q w hw
  exact h
theorem many_ok (c : Int) : ∃ m, n_k07_law_many c = .ok m := by
  unfold n_k07_law_many
  split
  · exact ⟨_, rfl⟩
  · exact ⟨_, rfl⟩
theorem cell_ok (ns : List Int) (k : Nat) : ∃ c, n_k07_law_cell ns (k : Int) = .ok c := by
  unfold n_k07_law_cell
  by_cases h : k < ns.length
  · rw [if_pos (decide_eq_true (by omega))]
    exact ⟨_, ixL_nat (List.getElem?_eq_getElem h)⟩
  · rw [if_neg (by rw [decide_eq_true_eq]; omega)]
    exact ⟨_, rfl⟩
theorem fits_ok (kind : Int) (ws : List Int) (hk : 0 ≤ kind ∧ kind < 4) (m : Int) : m_fits (kd kind ws) m = .ok ((!decide (kind = 3)) || decide ((ws.length : Int) = m)) := by
  unfold kd
  by_cases h0 : kind = 0
  · simp [h0, m_fits, n_Order_fits]
  · by_cases h1 : kind = 1
    · simp [h1, m_fits, n_Order_fits]
    · by_cases h2 : kind = 2
      · simp [h2, m_fits, n_Order_fits]
      · have h3 : kind = 3 := by omega
        simp [h3, m_fits, n_Weights_fits]
def right (kind m : Int) (ws : List Int) : Bool := (decide (1 ≤ m) && decide (m ≤ 4)) && ((!decide (kind = 3)) || (decide ((ws.length : Int) = m)))
theorem ring_ok (kind : Int) (ws : List Int) (hk : 0 ≤ kind ∧ kind < 4) (m : Int) (F : Fd) : n_k07_law_ring m F (kd kind ws) = .ok (if right kind m ws then some ⟨m, F, kd kind ws⟩ else none) := by
  have t1 : tryT "NoRing" ((Out.exc "NoRing" : Out Rng).bind fun v => Out.ok (some v)) (fun (found : Option Rng) => (found : (Option Rng))) (Out.ok none) = .ok none := by
    show tryT "NoRing" (Out.exc "NoRing" : Out (Option Rng)) _ _ = _
    unfold tryT
    dsimp only
    rw [if_pos (by decide +kernel), if_pos (by decide +kernel)]
    rfl
  unfold n_k07_law_ring new_Ring right
  by_cases h1 : m < 1
  · rw [if_pos (by simp [h1]), t1, bind_ok, if_neg (by simp; omega)]
  · by_cases h4 : 4 < m
    · rw [if_pos (by simp [h4]), t1, bind_ok, if_neg (by simp; omega)]
    · rw [if_neg (by simp; omega), fits_ok kind ws hk, bind_ok]
      have a1 : decide (1 ≤ m) = true := by simp; omega
      have a2 : decide (m ≤ 4) = true := by simp; omega
      rw [a1, a2]
      cases ((!decide (kind = 3)) || decide ((ws.length : Int) = m)) with
      | true => rfl
      | false =>
        simp only [Bool.false_eq_true, if_false, Bool.and_false, Bool.true_and]
        rw [t1]
        rfl
theorem eq1 (t : List Int) (x : Num) : eqTd [(t, x)] [(t, x)] = true := by
  unfold eqTd
  simp [lookT]
theorem parts_ok (t : List Int) (x : Num) : n_k07_law_parts [(t, x)] t x = .ok true := by
  unfold n_k07_law_parts
  rw [eq1]
  rfl
theorem still_ok (n : Nat) (hn : n ≤ 4) : (((rgO 0 (n : Int)).bind fun xs => (mapO (fun at_ => ((Out.ok (0 : Int)) : Out Int).nx) xs).nx).bind fun v => Out.ok v) = .ok (List.replicate n 0) := by
  rw [rgO_nat _ (by omega), bind_ok, mapN_ok (f := fun at_ : Int => Out.ok (0 : Int)) (g := fun _ => 0) fun _ _ => rfl, bind_ok, List.map_map]
  congr 1
  refine List.ext_getElem (by simp) fun i h1 h2 => ?_
  simp
theorem constant_ok {R : Rng} (h : OkF R.field) {n : Nat} (hm : R.many = n) (hn : n ≤ 4) (x : Num) : m_constant R x = .ok (if x = zN R.field then [] else [(List.replicate n 0, x)]) := by
  show n_Ring_constant R x = _
  unfold n_Ring_constant
  rw [nought_ok h, bind_ok, bind_ok, hm, still_ok n hn]
  by_cases z : x = zN R.field
  · simp [z]
  · simp [z, bind_ok]
theorem unknown_ok {R : Rng} (h : OkF R.field) {n : Nat} (hm : R.many = n) (hn : n ≤ 4) (at_ : Int) : m_unknown R at_ = .ok [((List.range n).map fun (k : Nat) => if decide ((k : Int) = at_) then 1 else 0, oN R.field)] := by
  show n_Ring_unknown R at_ = _
  unfold n_Ring_unknown
  rw [hm, rgO_nat _ (by omega), bind_ok, mapN_ok (f := fun k : Int => Out.ok (if decide (k = at_) = true then (1 : Int) else 0)) (g := fun k => if decide (k = at_) = true then (1 : Int) else 0) fun _ _ => rfl, bind_ok, bind_ok, bind_ok, one_ok h, bind_ok, List.map_map]
  rfl
theorem letters_ok {n : Nat} (hn : n ≤ 4) : ((slSO ("xyzt" : Str) none (some (n : Int))).bind fun a => (slSO ("xyzt" : Str) none (some (n : Int))).bind fun b => (eqS a b).map (!·)) = .ok false := by
  have e : slSO ("xyzt" : Str) none (some (n : Int)) = .ok (cutS ("xyzt" : Str) none (some (n : Int))) := if_pos (by decide +kernel)
  have k : (PyData.str (cutS ("xyzt" : Str) none (some (n : Int)))).canLay0 = true := by
    match n, hn with
    | 0, _ => decide +kernel
    | 1, _ => decide +kernel
    | 2, _ => decide +kernel
    | 3, _ => decide +kernel
    | 4, _ => decide +kernel
  rw [e, bind_ok, bind_ok]
  unfold eqS
  rw [k]
  simp [map_ok]
theorem good_ok {R : Rng} (hF : OkF R.field) (ho : OkO R.order) {n : Nat} (hm : R.many = n) (hn : n ≤ 4) (c : Int) : n_k07_law_good R (n : Int) R.field R.order c = .ok true := by
  unfold n_k07_law_good
  rw [if_neg (by simp [hm]), still_ok n hn, bind_ok, rgO_nat _ (by omega), bind_ok]
  rw [mapN_ok (f := fun at_ : Int => Out.ok ((c / 3) % 11 + at_)) (g := fun at_ => (c / 3) % 11 + at_) fun _ _ => rfl, bind_ok, bind_ok]
  have ht : OkT (((List.range n).map fun (k : Nat) => (k : Int)).map fun at_ => (c / 3) % 11 + at_) := by
    refine ⟨by simp; omega, fun p hp => ?_⟩
    obtain ⟨x, hx, rfl⟩ := List.mem_map.mp hp
    obtain ⟨k, hk, rfl⟩ := List.mem_map.mp hx
    have hk := List.mem_range.mp hk
    have : ((c / 3) % 11 + (k : Int)).natAbs < 2 ^ 5 := by omega
    exact up this (by decide)
  rw [rank_ok ht ho]
  simp only [bind_ok, decide_true, Bool.not_true, Bool.false_eq_true, if_false]
  show ((m_letters R).bind _).bind _ = _
  unfold m_letters n_Ring_letters
  rw [hm, letters_ok hn, bind_ok, if_neg (by decide)]
  rw [forC_ok fun x hx => ?_, bind_ok]
  · show (m_made_d1 R.field _).bind _ = _
    rw [made1_ok hF, bind_ok, nought_ok hF, bind_ok, bind_ok]
    have num : ∃ x, (if decide (iN R.field (1 + c / 2 % 1000000000000000000000000000000) = zN R.field) = true then (m_one R.field).bind fun number_1 => Out.ok number_1 else Out.ok (iN R.field (1 + c / 2 % 1000000000000000000000000000000))) = .ok x ∧ x ≠ zN R.field := by
      by_cases z : iN R.field (1 + c / 2 % 1000000000000000000000000000000) = zN R.field
      · rw [if_pos (decide_eq_true z), one_ok hF]
        refine ⟨_, rfl, ?_⟩
        cases R.field <;> exact fun z => by cases z
      · rw [if_neg (by simpa using z)]
        exact ⟨_, rfl, z⟩
    obtain ⟨x, ex, xz⟩ := num
    rw [ex, bind_ok, bind_ok, constant_ok hF hm hn, if_pos rfl, bind_ok, if_neg (by decide)]
    have pe : putO ([] : List (List Int × Num)) (List.replicate n 0) x = .ok [(List.replicate n 0, x)] := rfl
    rw [pe, bind_ok, constant_ok hF hm hn, if_neg xz]
    simp only [bind_ok, parts_ok, map_ok]
    rfl
  · obtain ⟨k, hk, rfl⟩ := List.mem_map.mp hx
    have e1 : (mapO (fun k_1 : Int => (Out.ok (bint (decide (k_1 = (k : Int))))).nx) ((List.range n).map fun (k : Nat) => (k : Int))).nx = .ok ((List.range n).map fun (j : Nat) => if decide ((j : Int) = (k : Int)) then 1 else 0) := by
      rw [mapN_ok (f := fun k_1 : Int => Out.ok (bint (decide (k_1 = (k : Int))))) (g := fun k_1 => bint (decide (k_1 = (k : Int)))) fun _ _ => rfl, List.map_map]
      rfl
    rw [e1]
    simp only [bind_ok, unknown_ok hF hm hn, one_ok hF, parts_ok, map_ok]
    rfl
theorem lawT (ns : List Int) (hn : ns.length ≤ 63) : n_k07_law ns = .ok true := by
  unfold n_k07_law
  rw [rgO_nat _ (by omega), bind_ok, forC_ok fun x hx => ?_, bind_ok]
  · rfl
  · obtain ⟨i, hi, rfl⟩ := List.mem_map.mp hx
    have hi := List.mem_range.mp hi
    rw [ixL_nat (List.getElem?_eq_getElem hi), bind_ok]
    generalize ns[i] = c
    obtain ⟨m, em⟩ := many_ok c
    rw [em, bind_ok]
    obtain ⟨ws, ew, hw, lw⟩ := weights_ok (c / 108) m
    rw [ew, bind_ok]
    obtain ⟨d, ed⟩ := cell_ok ns (i + 1)
    rw [show ((i : Int) + 1) = ((i + 1 : Nat) : Int) by omega, ed, bind_ok, bind_ok]
    have hk : 0 ≤ d % 4 ∧ d % 4 < 4 := by omega
    generalize d % 4 = kind at hk
    rw [order_ok hw, bind_ok]
    have ho := kd_ok (kind := kind) hw
    obtain ⟨F, eF, hF⟩ : ∃ F, (if decide ((c / 2) % 2 = 1) then ((ixL ([2, 3, 5, 97, 9973]) ((c / 4) % 5)).bind fun v => new_Rests v).bind fun field => Out.ok field else Out.ok Fd.fr : Out Fd) = .ok F ∧ OkF F := by
      split
      · obtain ⟨p, ep, P⟩ := pr_few (c / 4)
        rw [ep, bind_ok, rests_new P]
        exact ⟨_, rfl, P⟩
      · exact ⟨_, rfl, trivial⟩
    rw [eF, bind_ok]
    rw [rgO_ok (by decide) (by decide) (by omega) (by omega), bind_ok]
    have hmk : OkT (rgI 1 (max 0 (min m 8) + 1)) := by
      unfold rgI
      refine ⟨by simp; omega, fun p hp => ?_⟩
      obtain ⟨k, hk, rfl⟩ := List.mem_map.mp hp
      have hk := List.mem_range.mp hk
      have : (1 + (k : Int)).natAbs < 2 ^ 5 := by omega
      exact up this (by decide)
    generalize rgI 1 (max 0 (min m 8) + 1) = mark at hmk
    simp only [lt]
    rw [rank_ok hmk ho]
    obtain ⟨bf, eb, hb⟩ : ∃ bf, (if (decide (kind = 3) && (decide (0 < m) && decide ((ws.length : Int) = m))) = true then (Out.ok (rk (kd kind ws) mark)).bind fun before_1 => Out.ok before_1 else Out.ok [] : Out (List Int)) = .ok bf ∧ ((decide (kind = 3) && (decide (0 < m) && decide ((ws.length : Int) = m))) = true → bf = rk (kd kind ws) mark) := by
      split
      · exact ⟨_, rfl, fun _ => rfl⟩
      · rename_i z
        exact ⟨_, rfl, fun y => absurd y z⟩
    rw [eb, bind_ok, ring_ok kind ws hk, bind_ok]
    show (if _ then _ else _ : Out (Ct Bool Unit)) = _
    rw [show ((decide (1 ≤ m) && decide (m ≤ 4)) && ((!decide (kind = 3)) || (decide ((ws.length : Int) = m)))) = right kind m ws from rfl]
    by_cases hr : right kind m ws = true
    · rw [hr]
      simp only [if_true, Option.isSome_some, decide_true, Bool.not_true, Bool.false_eq_true, if_false, getO, bind_ok]
      unfold right at hr
      simp only [Bool.and_eq_true, decide_eq_true_eq] at hr
      obtain ⟨⟨m1, m4⟩, hr⟩ := hr
      obtain ⟨n, rfl⟩ : ∃ n : Nat, m = (n : Int) := ⟨m.toNat, by omega⟩
      have g := good_ok (R := ⟨n, F, kd kind ws⟩) hF ho (n := n) rfl (by omega) c
      dsimp only at g
      rw [g]
      simp only [map_ok, Bool.not_true, bind_ok, Bool.false_eq_true, if_false, Bool.true_and]
      by_cases h3 : kind = 3
      · have lw2 : (ws.length : Int) = n := by simpa [h3] using hr
        rw [if_pos (by simpa using h3)]
        have w0 : 0 < ws.length := by omega
        rw [show (0 : Int) = ((0 : Nat) : Int) from rfl, ixL_nat (List.getElem?_eq_getElem w0), bind_ok, bind_ok, setO_nat w0, bind_ok]
        rw [rank_ok hmk ho, bind_ok, hb (by simp [h3, lw2]; omega)]
        simp [bind_ok]
      · rw [if_neg (by simpa using h3)]
    · have hr : right kind m ws = false := by simpa using hr
      rw [hr]
      simp [bind_ok]
theorem law (ns : List Int) (hn : ns.length ≤ 63) : d_k07_law [.lst (IL ns)] = .ok (.dat (.bl true)) := law_of (t_k07_law ns) (lawT ns hn)
end Mk07
set_option maxHeartbeats 0
namespace Wk07
open DA PySem PySem.Spec PyProof.Rows L2
abbrev R : PySem.W.OpenRow := PySem.W.OpenLaw.row PySem.Challenge.rw_idealroom_k07_rings
abbrev hk : PySem.W.Hook := hookC 6 fa fn fc
def ob (s : PySem.W.SharedT) : He.AlD × Bool := obC 6 fa fn fc (HandSHeadRun.getT s)
theorem ob_eq (s : PySem.W.SharedT) : ob s = hk.obs s.abs := obC_eq (HandSHeadRun.getT_eq s)
abbrev lo : List PySem.Str := (["_wall", "__name__", "RoomError", "NoPrime", "NoOver", "NoOrder", "NoRing", "LETTERS", "Ring", "GREATEST", "common", "is_prime", "turned_rest", "Field", "Fractions", "Rests", "degree", "Order", "Degrees", "Tails", "Weights", "_law_cell", "_law_many", "_law_order", "_law_weights", "_law_ring", "_law_parts", "_law_good"] : List PySem.Str)
theorem run (w : World) : HandSHeadRun.RunEq R (PySem.W.view R.prog [33]) hk ob 8000 lo w := by
  intro os
  kernel_rfl
theorem facts {w : World} {K : PySem.W.Frag} {h : Heap} {mg : Str → Option Value} {f : Addr} (X : K.In h) (G : h.Ns mainGlobals mg) (hfa : mg ("law" : Str) = some (.ref f)) (c : He.SaysD fa fn K) (cx : fc.all (facB K) = true) (hm : ∀ ns : List Int, ns.length ≤ 63 → d_k07_law [.lst (ns.map D.int)] = .ok (.dat (.bl true))) :
    ∃ fd : FuncData, (∀ (s : Shared) (v : Value), BindsTo s fd ⟨[v], []⟩ [("_law_script", v)]) ∧ (∀ (H : Hp) (a : Addr) (ns : List Int), ns.length ≤ 63 → Only H → SqL K H a (ns.map V.int) → PF (caK cs K) K d_k07_law [.ref a] H (fun v _ => v = .bl true) fun _ _ _ => False) ∧
      ∀ base : Heap, K.In base → base.Ns mainGlobals mg → FnOk R.prog w K mg base (L2.CX R.prog w) 7 f fd ["_law_script"] (PF (caK cs K) K d_k07_law) := by
  obtain ⟨fd, F⟩ := c.def_ 37 rfl
  have e := hfa.symm.trans (He.glo_ok X G (c.fact 113 (f := .glo "law") rfl))
  cases e
  have b := FunD.bindsA (ps := ["_law_script"]) F fun _ _ _ _ _ _ us hl => match us, hl with | [_], _ => rfl
  exact ⟨fd, fun s v => b s [v] rfl, fun H a ns hn _ hS => law_end hS (hm ns hn), fun base kb gb => fn_okD F sc_k07_law (b_k07_law ⟨kb, gb, c, cx⟩ _)⟩
end Wk07
open PySem PySem.W PySem.Calls PyProof.Rows
theorem Wk07.holds_of (hm : ∀ ns : List Int, ns.length ≤ 63 → DA.d_k07_law [.lst (ns.map DA.D.int)] = .ok (.dat (.bl true))) : PySem.Challenge.rw_idealroom_k07_rings.Holds := by
  w_on; o_law
  refine HandSHeadRun.head_any (r := OpenLaw.row PySem.Challenge.rw_idealroom_k07_rings) (q := view (OpenLaw.row PySem.Challenge.rw_idealroom_k07_rings).prog [33]) (H := Wk07.hk) (ob := Wk07.ob) (M := 8000) (loose := Wk07.lo) (d := HandSHeadRun.topDef (OpenLaw.row PySem.Challenge.rw_idealroom_k07_rings).prog 33) (kwd := []) Wk07.ob_eq
    (by kernel_rfl) (fun s => by kernel_rfl) Wk07.run (by kernel_rfl) (by kernel_rfl) (by kernel_rfl) (by rfl) (by first | assumption | decide +kernel) (by decide +kernel) ⟨rfl, rfl, rfl, rfl, rfl, by decide +kernel⟩ ?hw ?hc
  case hw => w_witness2
  case hc =>
    refine DA.walk_end (l := PySem.Challenge.rw_idealroom_k07_rings) (n := 63) (k := 7) (x := "_law_script") (CX := L2.CX (OpenLaw.row PySem.Challenge.rw_idealroom_k07_rings).prog) rfl (by decide) (by kernel_rfl) ⟨rfl, by decide, by decide⟩ ?F (fun _ _ _ _ _ z => DA.cx_none z)
    intro w mg fa h Y G hmg0
    obtain ⟨K, KX, c, cx⟩ := Y
    have hmg : mg ("law" : PySem.Str) = some (.ref fa) := by
      have e : (HandSHeadRun.topDef (OpenLaw.row PySem.Challenge.rw_idealroom_k07_rings).prog 33).name = ("law" : PySem.Str) := by kernel_rfl
      rw [← e]
      exact hmg0
    obtain ⟨fd, hb, hsp, hF⟩ := Wk07.facts (w := w) KX G hmg c cx hm
    exact ⟨K, fd, _, KX, hb, hsp, hF⟩
open PySem PySem.W PySem.Calls PyProof.Rows
set_option maxHeartbeats 0
theorem PySem.Challenge.cw_idealroom_k07_rings_holds : PySem.Challenge.rw_idealroom_k07_rings.Holds := by
  exact Wk07.holds_of Mk07.law
